import PyProof.Rows.All
import Wide.All
import OpenK.AllK
import Wide.FinOn
import HandS.ForMost
import HandS.Exc
import HandS.ExcOwn
import HandS.ExcIs
import HandS.IsInst
import HandS.Gcd
import HandS.Wide
import HandS.TupMul
import HandS.TupAny
import HandS.Style
import HandS.Zip
import HandS.WordsExc
import HandS.EndBits
import HandS.TryMany
import PySem.Challenge.RW_leastbounds_k06_rows_and_points
set_option Elab.async false
set_option linter.all false
set_option maxRecDepth 100000
set_option autoImplicit false
/-! Pd: pure data over the hand layer. A value is denoted by a tree D; lists and dicts that change stand in slots that own them; a reading is a function on slots. -/
namespace Pd
open PySem L2

inductive D where
  | non | bl (b : Bool) | int (i : Int) | str (x : Str) | tup (ds : List D) | lst (ds : List D) | dct (ks : List Key) (ds : List D) | scr (ns : List Int)

/-- a list of ints that nobody changes: the script -/
def Scr (K : PySem.W.Frag) (H : Hp) (a : Addr) (ns : List Int) : Prop :=
  (∃ o, H a = some (.frz o (.lst (ns.map V.int)))) ∨
    ∃ (o : Obj) (its : Array Value) (n : Nat), K.lookup a = some o ∧ o.cls = .type "list" ∧ o.dict = none ∧ o.data = .seq its n ∧ its.size ≤ sizeLine ∧ L2.Vals (ns.map V.int) its.toList
theorem Scr.seq {K : PySem.W.Frag} {H : Hp} {a : Addr} {ns : List Int} : Scr K H a ns → SqL K H a (ns.map V.int)
  | .inl h => .inl (.inr h)
  | .inr h => .inr h

mutual
def Den (Z : Addr → Prop) (K : PySem.W.Frag) (H : Hp) : D → V → Prop
  | .non, v => v = .non
  | .bl b, v => v = .bl b
  | .int i, v => v = .int i
  | .str x, v => v = .str x
  | .tup ds, v => ∃ a xs, v = .ref a ∧ SqT K H a xs ∧ Dens Z K H ds xs
  | .lst ds, v => ∃ a xs, v = .ref a ∧ ¬ Z a ∧ H a = some (.lst xs) ∧ Dens Z K H ds xs
  | .dct ks ds, v => ∃ a kvs, v = .ref a ∧ ¬ Z a ∧ H a = some (.dK kvs) ∧ kvs.map (·.1) = ks ∧ Dens Z K H ds (kvs.map (·.2))
  | .scr ns, v => ∃ a, v = .ref a ∧ Scr K H a ns
def Dens (Z : Addr → Prop) (K : PySem.W.Frag) (H : Hp) : List D → List V → Prop
  | [], xs => xs = []
  | d :: ds, xs => ∃ v r, xs = v :: r ∧ Den Z K H d v ∧ Dens Z K H ds r
end

/-- from one heap to a later one: all that is not in F stands -/
structure Step (F : Addr → Prop) (H H' : Hp) : Prop where
  keep : ∀ a o, H a = some o → ¬ F a → H' a = some o
  tup : ∀ a xs, H a = some (.tup xs) → H' a = some (.tup xs)
  frz : ∀ a o u, H a = some (.frz o u) → H' a = some (.frz o u)
  dom : ∀ a o, H a = some o → ∃ o', H' a = some o'
theorem Step.refl {F : Addr → Prop} {H : Hp} : Step F H H := ⟨fun _ _ h _ => h, fun _ _ h => h, fun _ _ _ h => h, fun _ o h => ⟨o, h⟩⟩
theorem Step.none_of {F : Addr → Prop} {H H' : Hp} (s : Step F H H') {a : Addr} (h : H' a = none) : H a = none := by
  cases q : H a with
  | none => rfl
  | some o =>
    obtain ⟨o', e⟩ := s.dom a o q
    rw [h] at e
    cases e
theorem Step.trans {F F1 : Addr → Prop} {H H1 H2 : Hp} (s : Step F H H1) (t : Step F1 H1 H2) (hf : ∀ a, F1 a → F a ∨ H a = none) : Step F H H2 where
  keep := fun a o h n => t.keep a o (s.keep a o h n) fun f1 => (hf a f1).elim n fun e => by rw [h] at e; cases e
  tup := fun a xs h => t.tup a xs (s.tup a xs h)
  frz := fun a o u h => t.frz a o u (s.frz a o u h)
  dom := fun a o h => by
    obtain ⟨o', e⟩ := s.dom a o h
    exact t.dom a o' e
theorem Step.of_same {F : Addr → Prop} {H H' : Hp} (s : Same H H') : Step F H H' := ⟨fun a o h _ => s a o h, fun a xs h => s a _ h, fun a o u h => s a _ h, fun a o h => ⟨o, s a o h⟩⟩
theorem Step.wider {F F' : Addr → Prop} {H H' : Hp} (s : Step F H H') (h : ∀ a, F a → F' a) : Step F' H H' := ⟨fun a o e n => s.keep a o e fun f => n (h a f), s.tup, s.frz, s.dom⟩
theorem same_new {H : Hp} {p : Addr} {o : HO} (h : H p = none) : Same H (upd H p o) := fun b u e => by
  rw [upd_ne (ne_of_none e h)]
  exact e

section
variable {Z Z' F : Addr → Prop} {K : PySem.W.Frag} {H H' : Hp}
theorem Step.seqT (s : Step F H H') {a : Addr} {xs : List V} (h : SqT K H a xs) : SqT K H' a xs := by
  rcases h with (h | ⟨o, h⟩) | h
  · exact .inl (.inl (s.tup _ _ h))
  · exact .inl (.inr ⟨o, s.frz _ _ _ h⟩)
  · exact .inr h
mutual
theorem Den.move (s : Step F H H') (hF : ∀ a, F a → Z a) (hz : ∀ a, Z' a → Z a ∨ H a = none) : ∀ (d : D) {v : V}, Den Z K H d v → Den Z' K H' d v
  | .non, _, h => h
  | .bl _, _, h => h
  | .int _, _, h => h
  | .str _, _, h => h
  | .tup ds, _, h => by
    obtain ⟨a, xs, e, q, r⟩ := h
    exact ⟨a, xs, e, s.seqT q, Dens.move s hF hz ds r⟩
  | .lst ds, _, h => by
    obtain ⟨a, xs, e, n, q, r⟩ := h
    refine ⟨a, xs, e, fun z => ?_, s.keep _ _ q fun f => n (hF a f), Dens.move s hF hz ds r⟩
    rcases hz a z with z | z
    · exact n z
    · rw [z] at q; cases q
  | .dct ks ds, _, h => by
    obtain ⟨a, kvs, e, n, q, r, t⟩ := h
    refine ⟨a, kvs, e, fun z => ?_, s.keep _ _ q fun f => n (hF a f), r, Dens.move s hF hz ds t⟩
    rcases hz a z with z | z
    · exact n z
    · rw [z] at q; cases q
  | .scr ns, _, h => by
    obtain ⟨a, e, q⟩ := h
    refine ⟨a, e, ?_⟩
    rcases q with ⟨o, q⟩ | q
    · exact .inl ⟨o, s.frz _ _ _ q⟩
    · exact .inr q
theorem Dens.move (s : Step F H H') (hF : ∀ a, F a → Z a) (hz : ∀ a, Z' a → Z a ∨ H a = none) : ∀ (ds : List D) {xs : List V}, Dens Z K H ds xs → Dens Z' K H' ds xs
  | [], _, h => h
  | d :: ds, _, h => by
    obtain ⟨v, r, e, h1, h2⟩ := h
    exact ⟨v, r, e, Den.move s hF hz d h1, Dens.move s hF hz ds h2⟩
end
theorem Den.less {d : D} {v : V} (h : Den Z K H d v) (hz : ∀ a, Z' a → Z a) : Den Z' K H d v := Den.move (F := fun _ => False) (.of_same (Same.refl H)) (fun _ f => f.elim) (fun a z => .inl (hz a z)) d h
theorem Dens.less {d : List D} {v : List V} (h : Dens Z K H d v) (hz : ∀ a, Z' a → Z a) : Dens Z' K H d v := Dens.move (F := fun _ => False) (.of_same (Same.refl H)) (fun _ f => f.elim) (fun a z => .inl (hz a z)) d h
theorem Den.same {d : D} {v : V} (s : Same H H') (h : Den Z K H d v) : Den Z K H' d v := Den.move (F := fun _ => False) (.of_same s) (fun _ f => f.elim) (fun a z => .inl z) d h
theorem Dens.same {d : List D} {v : List V} (s : Same H H') (h : Dens Z K H d v) : Dens Z K H' d v := Dens.move (F := fun _ => False) (.of_same s) (fun _ f => f.elim) (fun a z => .inl z) d h
theorem Dens.length : ∀ {ds : List D} {xs : List V}, Dens Z K H ds xs → ds.length = xs.length
  | [], _, h => by
    cases h
    rfl
  | d :: ds, _, h => by
    obtain ⟨v, r, rfl, _, h2⟩ := h
    simp [Dens.length h2]
theorem Dens.cons {d : D} {v : V} {ds : List D} {xs : List V} (h : Den Z K H d v) (t : Dens Z K H ds xs) : Dens Z K H (d :: ds) (v :: xs) := ⟨v, xs, rfl, h, t⟩
theorem Dens.nil : Dens Z K H [] [] := rfl
theorem Dens.get : ∀ {ds : List D} {xs : List V} {i : Nat} {d : D}, Dens Z K H ds xs → ds[i]? = some d → ∃ v, xs[i]? = some v ∧ Den Z K H d v
  | [], _, _, _, _, e => by simp at e
  | d :: ds, _, 0, _, h, e => by
    obtain ⟨v, r, rfl, h1, _⟩ := h
    simp at e
    subst e
    exact ⟨v, rfl, h1⟩
  | d :: ds, _, i + 1, _, h, e => by
    obtain ⟨v, r, rfl, _, h2⟩ := h
    obtain ⟨v', e', q⟩ := Dens.get (i := i) h2 (by simpa using e)
    exact ⟨v', by simpa using e', q⟩
theorem Dens.append : ∀ {ds es : List D} {xs ys : List V}, Dens Z K H ds xs → Dens Z K H es ys → Dens Z K H (ds ++ es) (xs ++ ys)
  | [], _, _, _, h, g => by
    cases h
    exact g
  | d :: ds, _, _, _, h, g => by
    obtain ⟨v, r, rfl, h1, h2⟩ := h
    exact .cons h1 (Dens.append h2 g)
theorem Dens.take : ∀ {ds : List D} {xs : List V} (n : Nat), Dens Z K H ds xs → Dens Z K H (ds.take n) (xs.take n)
  | _, _, 0, _ => by
    simp
    exact Dens.nil
  | [], _, n + 1, h => by
    cases h
    exact Dens.nil
  | d :: ds, _, n + 1, h => by
    obtain ⟨v, r, rfl, h1, h2⟩ := h
    exact .cons h1 (Dens.take n h2)
theorem Dens.drop : ∀ {ds : List D} {xs : List V} (n : Nat), Dens Z K H ds xs → Dens Z K H (ds.drop n) (xs.drop n)
  | _, _, 0, h => by simpa using h
  | [], _, n + 1, h => by
    cases h
    exact Dens.nil
  | d :: ds, _, n + 1, h => by
    obtain ⟨v, r, rfl, h1, h2⟩ := h
    simpa using Dens.drop n h2
theorem Dens.set : ∀ {ds : List D} {xs : List V} {d : D} {v : V} (n : Nat), Dens Z K H ds xs → Den Z K H d v → Dens Z K H (ds.set n d) (xs.set n v)
  | [], _, _, _, _, h, _ => by
    cases h
    exact Dens.nil
  | d :: ds, _, _, _, 0, h, g => by
    obtain ⟨v, r, rfl, h1, h2⟩ := h
    exact .cons g h2
  | d :: ds, _, _, _, n + 1, h, g => by
    obtain ⟨v, r, rfl, h1, h2⟩ := h
    exact .cons h1 (Dens.set n h2 g)
theorem Dens.rep {ds : List D} {xs : List V} (h : Dens Z K H ds xs) : ∀ n : Nat, Dens Z K H (List.replicate n ds).flatten (List.replicate n xs).flatten
  | 0 => Dens.nil
  | n + 1 => by
    rw [List.replicate_succ, List.replicate_succ, List.flatten_cons, List.flatten_cons]
    exact h.append (Dens.rep h n)
theorem Dens.reverse : ∀ {ds : List D} {xs : List V}, Dens Z K H ds xs → Dens Z K H ds.reverse xs.reverse
  | [], _, h => by
    cases h
    exact Dens.nil
  | d :: ds, _, h => by
    obtain ⟨v, r, rfl, h1, h2⟩ := h
    rw [List.reverse_cons, List.reverse_cons]
    exact (Dens.reverse h2).append (.cons h1 .nil)
theorem Dens.ints : ∀ {ns : List Int} {xs : List V}, Dens Z K H (ns.map D.int) xs → xs = ns.map V.int
  | [], _, h => h
  | n :: ns, _, h => by
    obtain ⟨v, r, rfl, h1, h2⟩ := h
    have e : v = V.int n := h1
    rw [e, Dens.ints h2]
    rfl
theorem Dens.bls : ∀ {ns : List Bool} {xs : List V}, Dens Z K H (ns.map D.bl) xs → xs = ns.map V.bl
  | [], _, h => h
  | n :: ns, _, h => by
    obtain ⟨v, r, rfl, h1, h2⟩ := h
    have e : v = V.bl n := h1
    rw [e, Dens.bls h2]
    rfl
theorem dens_of_ints : ∀ (ns : List Int), Dens Z K H (ns.map D.int) (ns.map V.int)
  | [] => .nil
  | n :: ns => .cons (d := .int n) (v := .int n) rfl (dens_of_ints ns)
end

/-! ### slots -/
inductive Slot where
  | no | val (d : D) | own (fix : Bool) (d : D)
abbrev Sto := List Slot
def Fo (η : Sto) (σ : St) : Addr → Prop := fun a => ∃ (i : Nat) (b : Bool) (d : D), η[i]? = some (Slot.own b d) ∧ σ[i]? = some (some (V.ref a))
def Zo (G : Addr → Prop) (η : Sto) (σ : St) : Addr → Prop := fun a => G a ∨ Fo η σ a
def Cell (Z : Addr → Prop) (K : PySem.W.Frag) (H : Hp) (p : Addr) : D → Prop
  | .lst ds => ∃ xs, H p = some (.lst xs) ∧ Dens Z K H ds xs
  | .dct ks ds => ∃ kvs, H p = some (.dK kvs) ∧ kvs.map (·.1) = ks ∧ Dens Z K H ds (kvs.map (·.2))
  | _ => False
theorem Cell.there {Z : Addr → Prop} {K : PySem.W.Frag} {H : Hp} {p : Addr} : ∀ {d : D}, Cell Z K H p d → ∃ o, H p = some o
  | .lst _, ⟨_, e, _⟩ => ⟨_, e⟩
  | .dct _ _, ⟨_, e, _⟩ => ⟨_, e⟩
theorem Cell.move {Z Z' F : Addr → Prop} {K : PySem.W.Frag} {H H' : Hp} {p : Addr} (s : Step F H H') (hF : ∀ a, F a → Z a) (hz : ∀ a, Z' a → Z a ∨ H a = none) (hp : ∀ o, H p = some o → H' p = some o) : ∀ {d : D}, Cell Z K H p d → Cell Z' K H' p d
  | .lst ds, ⟨xs, e, h⟩ => ⟨xs, hp _ e, Dens.move s hF hz ds h⟩
  | .dct ks ds, ⟨kvs, e, r, h⟩ => ⟨kvs, hp _ e, r, Dens.move s hF hz ds h⟩

structure Ok (G : Addr → Prop) (K : PySem.W.Frag) (η : Sto) (σ : St) (H : Hp) : Prop where
  len : η.length = σ.length
  val : ∀ (i : Nat) (d : D), η[i]? = some (Slot.val d) → ∃ v, σ[i]? = some (some v) ∧ Den (Zo G η σ) K H d v
  own : ∀ (i : Nat) (b : Bool) (d : D), η[i]? = some (Slot.own b d) → ∃ p, σ[i]? = some (some (.ref p)) ∧ Cell (Zo G η σ) K H p d
  inj : ∀ (i j : Nat) (b b' : Bool) (d d' : D) (p : Addr), η[i]? = some (Slot.own b d) → η[j]? = some (Slot.own b' d') → σ[i]? = some (some (.ref p)) → σ[j]? = some (some (.ref p)) → i = j
  dom : ∀ a, G a → ∃ o, H a = some o
  dis : ∀ a, G a → ¬ Fo η σ a
section
variable {G : Addr → Prop} {K : PySem.W.Frag} {η η' : Sto} {σ : St} {H H' : Hp}
theorem Ok.domZ (ok : Ok G K η σ H) {a : Addr} (z : Zo G η σ a) : ∃ o, H a = some o := by
  rcases z with z | ⟨i, b, d, e, q⟩
  · exact ok.dom a z
  · obtain ⟨p, e', c⟩ := ok.own i b d e
    rw [q] at e'
    cases e'
    exact c.there
/-- nothing owned is changed -/
theorem Ok.same (ok : Ok G K η σ H) (s : Same H H') : Ok G K η σ H' where
  len := ok.len
  val := fun i d e => by
    obtain ⟨v, e', h⟩ := ok.val i d e
    exact ⟨v, e', h.same s⟩
  own := fun i b d e => by
    obtain ⟨p, e', h⟩ := ok.own i b d e
    exact ⟨p, e', Cell.move (F := fun _ => False) (.of_same s) (fun _ f => f.elim) (fun a z => .inl z) (fun o q => s _ _ q) h⟩
  inj := ok.inj
  dom := fun a g => by
    obtain ⟨o, e⟩ := ok.dom a g
    exact ⟨o, s a o e⟩
  dis := ok.dis
end

/-- a new object that no slot speaks of -/
theorem Ok.guard {G : Addr → Prop} {K : PySem.W.Frag} {η : Sto} {σ : St} {H H' : Hp} {p : Addr} {o : HO} (ok : Ok G K η σ H) (hp : H p = none) (s : Same H H') (hp' : H' p = some o) : Ok (fun a => G a ∨ a = p) K η σ H' where
  len := ok.len
  val := fun i d e => by
    obtain ⟨v, e', h⟩ := ok.val i d e
    refine ⟨v, e', Den.move (F := fun _ => False) (.of_same s) (fun _ f => f.elim) (fun a z => ?_) d h⟩
    rcases z with (z | z) | z
    · exact .inl (.inl z)
    · exact .inr (by rw [z]; exact hp)
    · exact .inl (.inr z)
  own := fun i b d e => by
    obtain ⟨q, e', h⟩ := ok.own i b d e
    refine ⟨q, e', Cell.move (F := fun _ => False) (.of_same s) (fun _ f => f.elim) (fun a z => ?_) (fun o q => s _ _ q) h⟩
    rcases z with (z | z) | z
    · exact .inl (.inl z)
    · exact .inr (by rw [z]; exact hp)
    · exact .inl (.inr z)
  inj := ok.inj
  dom := fun a g => by
    rcases g with g | g
    · obtain ⟨o, e⟩ := ok.dom a g
      exact ⟨o, s a o e⟩
    · exact ⟨o, by rw [g]; exact hp'⟩
  dis := fun a g f => by
    rcases g with g | g
    · exact ok.dis a g f
    · obtain ⟨o, e⟩ := ok.domZ (.inr f)
      rw [g, hp] at e
      cases e
/-- an expression leaves the slots, or less of them owned -/
structure Shr (η η' : Sto) : Prop where
  sub : ∀ (i : Nat) (b : Bool) (d : D), η'[i]? = some (Slot.own b d) → ∃ d', η[i]? = some (Slot.own b d')
  fix : ∀ (i : Nat) (d : D), η[i]? = some (Slot.own true d) → ∃ d', η'[i]? = some (Slot.own true d')
  val : ∀ (i : Nat) (d : D), η'[i]? = some (Slot.val d) → η[i]? = some (Slot.val d)
theorem Shr.refl {η : Sto} : Shr η η := ⟨fun _ _ d h => ⟨d, h⟩, fun _ d h => ⟨d, h⟩, fun _ _ h => h⟩
theorem Shr.trans {η η1 η2 : Sto} (a : Shr η η1) (b : Shr η1 η2) : Shr η η2 :=
  ⟨fun i c d h => let ⟨d', h'⟩ := b.sub i c d h; a.sub i c d' h', fun i d h => let ⟨d', h'⟩ := a.fix i d h; b.fix i d' h', fun i d h => a.val i d (b.val i d h)⟩
theorem Shr.fo {η η' : Sto} (s : Shr η η') {σ : St} {a : Addr} : Fo η' σ a → Fo η σ a := fun ⟨i, b, d, e, q⟩ => let ⟨d', e'⟩ := s.sub i b d e; ⟨i, b, d', e', q⟩

inductive Res (α : Type) where
  | ok (a : α) (η : Sto) | exc (c : Str) (η : Sto) | bad
def M (α : Type) := Sto → Res α
def M.bind {α β : Type} (m : M α) (k : α → M β) : M β := fun η => match m η with
  | .ok a η' => k a η'
  | .exc c η' => .exc c η'
  | .bad => .bad
def M.pure {α : Type} (a : α) : M α := fun η => .ok a η
instance : Monad M where
  pure := M.pure
  bind := M.bind
def M.of {α : Type} : Option α → M α
  | some a => M.pure a
  | none => fun _ => .bad

/-- what is asked of a result so that Q holds behind it -/
def Post {α β : Type} (X : Cx) (W : WX) (G : Addr → Prop) (η : Sto) (σ : St) (H : Hp) (R : Sto → Hp → α → β → Prop) (Q : β → Hp → Prop) : Res α → Prop
  | .ok a η' => ∀ b H', Shr η η' → Step (Fo η σ) H H' → Ok G X.K η' σ H' → R η' H' a b → Q b H'
  | .exc c η' => ∀ C H', X.mg c = some (.ref C) → Shr η η' → Step (Fo η σ) H H' → Ok G X.K η' σ H' → W (.ref C) none σ H'
  | .bad => False
section
variable {α β γ δ : Type} {X : Cx} {W : WX} {G : Addr → Prop} {η η1 : Sto} {σ : St} {H H1 : Hp} {R : Sto → Hp → α → β → Prop} {R' : Sto → Hp → γ → δ → Prop} {Q Q' : β → Hp → Prop} {Qd : δ → Hp → Prop}
theorem Post.imp {r : Res α} (h : Post X W G η σ H R Q r) (i : ∀ b H, Q b H → Q' b H) : Post X W G η σ H R Q' r := by
  cases r with
  | ok a η' => exact fun b H' s1 s2 o r => i b H' (h b H' s1 s2 o r)
  | exc c η' => exact h
  | bad => exact h
theorem Post.later {r : Res α} (h : Post X W G η σ H R Q r) (s : Shr η η1) (t : Step (Fo η σ) H H1) : Post X W G η1 σ H1 R Q r := by
  have tr : ∀ {H'}, Step (Fo η1 σ) H1 H' → Step (Fo η σ) H H' := fun u => t.trans u fun a f => .inl (s.fo f)
  cases r with
  | ok a η' => exact fun b H' s1 s2 o r => h b H' (s.trans s1) (tr s2) o r
  | exc c η' => exact fun C H' m s1 s2 o => h C H' m (s.trans s1) (tr s2) o
  | bad => exact h
/-- .. where the wanted relation may be shown for the earlier start -/
theorem Post.rel {R2 : Sto → Hp → α → β → Prop} {r : Res α} (h : Post X W G η σ H R Q r) (i : ∀ η' H' a b, Shr η η' → Step (Fo η σ) H H' → Ok G X.K η' σ H' → R2 η' H' a b → R η' H' a b) : Post X W G η σ H R2 Q r := by
  cases r with
  | ok a η' => exact fun b H' s1 s2 o r => h b H' s1 s2 o (i _ _ _ _ s1 s2 o r)
  | exc c η' => exact h
  | bad => exact h
structure At (X : Cx) (W : WX) (G : Addr → Prop) (η : Sto) (σ : St) (H : Hp) (m : M α) (R : Sto → Hp → α → β → Prop) (R' : Sto → Hp → γ → δ → Prop) (Qd : δ → Hp → Prop) (k : α → M γ) (b : β) (H1 : Hp) (η1 : Sto) (a : α) : Prop where
  eq : m η = .ok a η1
  shr : Shr η η1
  st : Step (Fo η σ) H H1
  ok : Ok G X.K η1 σ H1
  r : R η1 H1 a b
  post : Post X W G η1 σ H1 R' Qd (k a η1)
theorem Post.bind {m : M α} {k : α → M γ} (h : Post X W G η σ H R' Qd ((m >>= k) η)) : Post X W G η σ H R (fun b H1 => ∃ η1 a, At X W G η σ H m R R' Qd k b H1 η1 a) (m η) := by
  have e : (m >>= k) η = M.bind m k η := rfl
  rw [e] at h
  unfold M.bind at h
  cases q : m η with
  | ok a η' =>
    rw [q] at h
    exact fun b H' s1 s2 o r => ⟨η', a, q, s1, s2, o, r, h.later s1 s2⟩
  | exc c η' =>
    rw [q] at h
    exact h
  | bad =>
    rw [q] at h
    exact h
end

/-! ### the judgements -/
def RD (X : Cx) (G : Addr → Prop) (σ : St) : Sto → Hp → D → V → Prop := fun η H d v => Den (Zo G η σ) X.K H d v
def RB : Sto → Hp → Bool → Bool → Prop := fun _ _ a b => a = b
/-- a list that was made behind H0: nothing else speaks of it -/
def RF (X : Cx) (G : Addr → Prop) (σ : St) (H0 : Hp) : Sto → Hp → D → V → Prop := fun η H d v => ∃ p, v = .ref p ∧ H0 p = none ∧ Cell (fun a => Zo G η σ a ∨ a = p) X.K H p d ∧ Ok (fun a => G a ∨ a = p) X.K η σ H
def tE (X : Cx) (W : WX) (m : M D) : TE := fun σ H Q => ∃ G η, Ok G X.K η σ H ∧ Post X W G η σ H (RD X G σ) Q (m η)
def tT (X : Cx) (W : WX) (m : M Bool) : TT := fun σ H Q => ∃ G η, Ok G X.K η σ H ∧ Post X W G η σ H RB Q (m η)
def tF (X : Cx) (W : WX) (m : M D) : TE := fun σ H Q => ∃ G η, Ok G X.K η σ H ∧ Post X W G η σ H (RF X G σ H) Q (m η)
def PEd (X : Cx) (W : WX) (e : Expr) (m : M D) : Prop := PE X e (tE X W m)
def PTd (X : Cx) (W : WX) (e : Expr) (m : M Bool) : Prop := PT X e (tT X W m)
def PFd (X : Cx) (W : WX) (e : Expr) (m : M D) : Prop := PE X e (tF X W m)
theorem PE.weak {X : Cx} {e : Expr} {t u : TE} (h : PE X e t) (i : ∀ σ H Q, u σ H Q → t σ H Q) : PE X e u := ⟨fun pins s σ H Q I q => h.run pins s σ H Q I (i σ H Q q)⟩
theorem PT.weak {X : Cx} {e : Expr} {t u : TT} (h : PT X e t) (i : ∀ σ H Q, u σ H Q → t σ H Q) : PT X e u := ⟨fun pins s σ H Q I q => h.run pins s σ H Q I (i σ H Q q)⟩
theorem PW.weak {X : Cx} {e : Expr} {t u : TT} (h : PW X e t) (i : ∀ σ H Q, u σ H Q → t σ H Q) : PW X e u := ⟨fun wh pins s σ H Q I q => h.run wh pins s σ H Q I (i σ H Q q)⟩
theorem PA.weak {X : Cx} {e : List Expr} {t u : TA} (h : PA X e t) (i : ∀ σ H Q, u σ H Q → t σ H Q) : PA X e u := ⟨fun wh pins s σ H Q I q => h.run wh pins s σ H Q I (i σ H Q q)⟩
theorem PS.weak {X : Cx} {e : Stmt} {t u : TS} (h : PS X e t) (i : ∀ σ H Q, u σ H Q → t σ H Q) : PS X e u := ⟨fun pins s σ H D I q => h.run pins s σ H D I (i D σ H q)⟩
theorem PSs.weak {X : Cx} {e : List Stmt} {t u : TS} (h : PSs X e t) (i : ∀ σ H Q, u σ H Q → t σ H Q) : PSs X e u := ⟨fun pins s σ H D I q => h.run pins s σ H D I (i D σ H q)⟩
end Pd

namespace Pd
open PySem L2
def lenOk (n : Nat) : Bool := decide (n ≤ 1000000)
theorem lenOk_line {n : Nat} (h : lenOk n = true) : n ≤ sizeLine := by
  have := of_decide_eq_true h
  rw [sizeLine_eq]
  omega
theorem lenOk_lt {n : Nat} (h : lenOk n = true) : n < sizeLine := by
  have := of_decide_eq_true h
  rw [sizeLine_eq]
  omega
section
variable {X : Cx} {W : WX} {G : Addr → Prop} {η η1 : Sto} {σ : St} {H H1 : Hp}
theorem Shr.zo {η η' : Sto} (s : Shr η η') {a : Addr} : Zo G η' σ a → Zo G η σ a := fun z => z.elim .inl fun f => .inr (s.fo f)
theorem carry {d : D} {v : V} (s : Shr η η1) (t : Step (Fo η σ) H H1) (h : Den (Zo G η σ) X.K H d v) : Den (Zo G η1 σ) X.K H1 d v :=
  Den.move t (fun _ f => .inr f) (fun _ z => .inl (s.zo z)) d h
theorem carries {d : List D} {v : List V} (s : Shr η η1) (t : Step (Fo η σ) H H1) (h : Dens (Zo G η σ) X.K H d v) : Dens (Zo G η1 σ) X.K H1 d v :=
  Dens.move t (fun _ f => .inr f) (fun _ z => .inl (s.zo z)) d h
theorem Post.of {o : Option D} {Q : VK} (ok : Ok G X.K η σ H) (h : Post X W G η σ H (RD X G σ) Q (M.of o η)) :
    ∃ g, o = some g ∧ ∀ v H', Same H H' → Den (Zo G η σ) X.K H' g v → Q v H' := by
  cases o with
  | none => exact h.elim
  | some g => exact ⟨g, rfl, fun v H' s dn => h v H' .refl (.of_same s) (ok.same s) dn⟩
theorem Post.ofB {o : Option Bool} {Q : Bool → Hp → Prop} (ok : Ok G X.K η σ H) (h : Post X W G η σ H RB Q (M.of o η)) : ∃ k, o = some k ∧ Q k H := by
  cases o with
  | none => exact h.elim
  | some k => exact ⟨k, rfl, h k H .refl .refl ok rfl⟩
end

/-! ### names, constants -/
def getV (i : Nat) : M D := fun η => match η[i]? with
  | some (.val d) => .ok d η
  | _ => .bad
section
variable {X : Cx} {W : WX} {e a b : Expr} {es : List Expr} {pos : Pos}
theorem pd_var (i : Nat) {x : Str} (hN : X.N[i]? = some x := by rfl) (hv : Vis X.env.scope x := by first | exact Or.inl rfl | exact Or.inr (Or.inl rfl) | exact Or.inr (Or.inr rfl))
    (hd : (x == ("__debug__" : Str)) = false := by decide) (hcd : (x == ("__classdict__" : Str)) = false := by decide) : PEd X W (.Name x pos) (getV i) :=
  PE.weak (pe_var hN hv hd hcd) fun σ H Q ⟨G, η, ok, h⟩ => by
    unfold getV at h
    split at h
    · rename_i d e
      obtain ⟨v, e', dn⟩ := ok.val i d e
      exact ⟨v, e', h v H .refl .refl ok dn⟩
    · exact h.elim
theorem pd_c {v : V} {d : D} (h : PE X e (tC v)) (hd : ∀ Z H, Den Z X.K H d v) : PEd X W e (M.pure d) :=
  PE.weak h fun σ H Q ⟨G, η, ok, h⟩ => h v H .refl .refl ok (hd _ _)
theorem pd_int {i : Int} {j : Nat} : PEd X W (.Constant (.int i) j pos) (M.pure (.int i)) := pd_c pe_int fun _ _ => rfl
theorem pd_bl {i : Bool} {j : Nat} : PEd X W (.Constant (.bool i) j pos) (M.pure (.bl i)) := pd_c pe_bl fun _ _ => rfl
theorem pd_non {j : Nat} : PEd X W (.Constant .none j pos) (M.pure .non) := pd_c pe_non fun _ _ => rfl
theorem pd_str {x : Str} {j : Nat} : PEd X W (.Constant (.str x) j pos) (M.pure (.str x)) := pd_c pe_str fun _ _ => rfl
/-- a tuple that the module's top has made -/
theorem pd_glob {x : Str} {a : Addr} {o : Obj} {its : Array Value} {n : Nat} {ds : List D} {xs : List V} (hg : Gl X x) (hm : X.mg x = some (.ref a)) (lk : X.K.lookup a = some o) (hc : o.cls = .type "tuple") (hd : o.data = .seq its n)
    (hz : its.size ≤ sizeLine) (r : L2.Vals xs its.toList) (dn : ∀ Z H, Dens Z X.K H ds xs) (hdb : (x == ("__debug__" : Str)) = false := by decide) : PEd X W (.Name x pos) (M.pure (.tup ds)) :=
  pd_c (pe_glob hg hm (v := .ref a) rfl hdb) fun Z H => ⟨a, xs, rfl, .inr ⟨o, its, n, lk, hc, hd, hz, r⟩, dn Z H⟩

/-! ### arguments, displays -/
def RDs (X : Cx) (G : Addr → Prop) (σ : St) : Sto → Hp → List D → List V → Prop := fun η H d v => Dens (Zo G η σ) X.K H d v
def tA (X : Cx) (W : WX) (m : M (List D)) : TA := fun σ H Q => ∃ G η, Ok G X.K η σ H ∧ Post X W G η σ H (RDs X G σ) Q (m η)
def PAd (X : Cx) (W : WX) (es : List Expr) (m : M (List D)) : Prop := PA X es (tA X W m)
theorem pad_nil : PAd X W [] (M.pure []) := PA.weak pa_nil fun σ H Q ⟨G, η, ok, h⟩ => h [] H .refl .refl ok .nil
theorem pad_cons {m : M D} {ms : M (List D)} (ha : PEd X W e m) (hr : PAd X W es ms) (hs : starEach (e :: es) X.env = (false, eval e X.env) :: starEach es X.env := by rfl) : PAd X W (e :: es) (do let d ← m; let ds ← ms; pure (d :: ds)) :=
  PA.weak (pa_cons ha hr hs) fun σ H Q ⟨G, η, ok, h⟩ => ⟨G, η, ok, (Post.bind (R := RD X G σ) h).imp fun x H1 ⟨η1, d, a1⟩ => ⟨G, η1, a1.ok, (Post.bind (R := RDs X G σ) a1.post).imp fun xs H2 ⟨η2, ds, a2⟩ =>
    a2.post (x :: xs) H2 .refl .refl a2.ok (.cons (carry a2.shr a2.st a1.r) a2.r)⟩⟩
theorem pd_tup {m : M (List D)} {x1 : Nat} (h : PAd X W es m) : PEd X W (.Tuple es x1 pos) (m >>= fun ds => M.of (if lenOk ds.length = true then some (.tup ds) else none)) :=
  PE.weak (pe_tup h) fun σ H Q ⟨G, η, ok, h⟩ => ⟨G, η, ok, (Post.bind (R := RDs X G σ) h).imp fun xs H1 ⟨η1, ds, a1⟩ => by
    obtain ⟨g, e, k⟩ := Post.of a1.ok a1.post
    split at e
    · rename_i hl
      cases e
      have el : ds.length = xs.length := Dens.length a1.r
      refine ⟨by rw [← el]; exact lenOk_line hl, fun p hp => k _ _ (same_new hp) ⟨p, xs, rfl, .of upd_same, Dens.same (same_new hp) a1.r⟩⟩
    · cases e⟩
theorem pf_lst {m : M (List D)} {x1 : Nat} (h : PAd X W es m) : PFd X W (.List es pos) (m >>= fun ds => M.of (if lenOk ds.length = true then some (.lst ds) else none)) :=
  PE.weak (pe_lst h) fun σ H Q ⟨G, η, ok, h⟩ => ⟨G, η, ok, (Post.bind (R := RDs X G σ) h).imp fun xs H1 ⟨η1, ds, a1⟩ => by
    have q := a1.post
    by_cases hl : lenOk ds.length = true
    · rw [if_pos hl] at q
      have el : ds.length = xs.length := Dens.length a1.r
      refine ⟨by rw [← el]; exact lenOk_line hl, fun p hp => q _ _ .refl (.of_same (same_new hp)) (a1.ok.same (same_new hp)) ⟨p, rfl, a1.st.none_of hp, ⟨xs, upd_same, ?_⟩, a1.ok.guard hp (same_new hp) upd_same⟩⟩
      exact Dens.move (F := fun _ => False) (.of_same (same_new hp)) (fun _ f => f.elim) (fun a z => z.imp id fun e => by rw [e]; exact hp) _ a1.r
    · rw [if_neg hl] at q
      exact q.elim⟩
theorem PFd.plain {m : M D} (h : PFd X W e m) : PEd X W e m := PE.weak h fun σ H Q ⟨G, η, ok, h⟩ => ⟨G, η, ok, h.rel fun η' H' d v s1 s2 o ⟨p, ev, hn, c, _⟩ => by
  have np : ¬ Zo G η' σ p := fun z => by
    obtain ⟨o, e⟩ := ok.domZ (s1.zo z)
    rw [hn] at e
    cases e
  cases d with
  | lst ds =>
    obtain ⟨xs, e, q⟩ := c
    exact ⟨p, xs, ev, np, e, q.less fun a z => .inl z⟩
  | dct ks ds =>
    obtain ⟨kvs, e, r, q⟩ := c
    exact ⟨p, kvs, ev, np, e, r, q.less fun a z => .inl z⟩
  | _ => exact False.elim c⟩

/-! ### operators -/
def DenT (Z : Addr → Prop) (K : PySem.W.Frag) (H : Hp) : D → V → Prop
  | .non, v => v = .non
  | .bl b, v => v = .bl b
  | .int i, v => v = .int i
  | .str x, v => v = .str x
  | .tup ds, v => ∃ a xs, v = .ref a ∧ SqT K H a xs ∧ Dens Z K H ds xs
  | .lst ds, v => ∃ a xs, v = .ref a ∧ H a = some (.lst xs) ∧ Dens Z K H ds xs
  | .dct ks ds, v => ∃ a kvs, v = .ref a ∧ H a = some (.dK kvs) ∧ kvs.map (·.1) = ks ∧ Dens Z K H ds (kvs.map (·.2))
  | .scr ns, v => ∃ a, v = .ref a ∧ Scr K H a ns
theorem Den.t {Z : Addr → Prop} {K : PySem.W.Frag} {H : Hp} : ∀ {d : D} {v : V}, Den Z K H d v → DenT Z K H d v
  | .non, _, h => h
  | .bl _, _, h => h
  | .int _, _, h => h
  | .str _, _, h => h
  | .tup _, _, h => h
  | .lst _, _, ⟨a, xs, e, _, q, r⟩ => ⟨a, xs, e, q, r⟩
  | .dct _ _, _, ⟨a, xs, e, _, q, r, t⟩ => ⟨a, xs, e, q, r, t⟩
  | .scr _, _, h => h
def DomOk (Z : Addr → Prop) (H : Hp) : Prop := ∀ a, Z a → ∃ o, H a = some o
theorem Ok.domOk {G : Addr → Prop} {K : PySem.W.Frag} {η : Sto} {σ : St} {H : Hp} (ok : Ok G K η σ H) : DomOk (Zo G η σ) H := fun _ z => ok.domZ z
/-- a list made anew -/
theorem DomOk.fresh {Z : Addr → Prop} {H : Hp} (h : DomOk Z H) {p : Addr} (hp : H p = none) : ¬ Z p := fun z => by
  obtain ⟨o, e⟩ := h p z
  rw [hp] at e
  cases e
theorem den_new {Z : Addr → Prop} {K : PySem.W.Frag} {H : Hp} {p : Addr} {ds : List D} {xs : List V} (hz : DomOk Z H) (hp : H p = none) (h : Dens Z K H ds xs) : Den Z K (upd H p (.lst xs)) (.lst ds) (.ref p) :=
  ⟨p, xs, rfl, hz.fresh hp, upd_same, Dens.same (same_new hp) h⟩
theorem den_newT {Z : Addr → Prop} {K : PySem.W.Frag} {H : Hp} {p : Addr} {ds : List D} {xs : List V} (hp : H p = none) (h : Dens Z K H ds xs) : Den Z K (upd H p (.tup xs)) (.tup ds) (.ref p) :=
  ⟨p, xs, rfl, .of upd_same, Dens.same (same_new hp) h⟩
def OpD (X : Cx) (r : R2) (f : D → D → Option D) : Prop := ∀ (Z : Addr → Prop) (H : Hp) (x y : V) (d e g : D) (Q : VK), DomOk Z H → DenT Z X.K H d x → DenT Z X.K H e y → f d e = some g →
  (∀ v H', Same H H' → Den Z X.K H' g v → Q v H') → r x y H Q
def CmpD (X : Cx) (r : R2) (f : D → D → Option Bool) : Prop := ∀ (Z : Addr → Prop) (H : Hp) (x y : V) (d e : D) (k : Bool) (Q : VK), DomOk Z H → DenT Z X.K H d x → DenT Z X.K H e y → f d e = some k →
  Q (.bl k) H → r x y H Q
def UnD (X : Cx) (r : V → Hp → VK → Prop) (f : D → Option D) : Prop := ∀ (Z : Addr → Prop) (H : Hp) (x : V) (d g : D) (Q : VK), DomOk Z H → DenT Z X.K H d x → f d = some g →
  (∀ v H', Same H H' → Den Z X.K H' g v → Q v H') → r x H Q
/-- two operands, then what a rule asks -/
theorem two_of {r : R2} {f : D → D → Option D} {m1 m2 : M D} (hs : OpD X r f) {σ : St} {H : Hp} {Q : VK} (h : tE X W (do let d ← m1; let e ← m2; M.of (f d e)) σ H Q) : tOp r (tE X W m1) (tE X W m2) σ H Q := by
  obtain ⟨G, η, ok, h⟩ := h
  refine ⟨G, η, ok, (Post.bind (R := RD X G σ) h).imp fun x H1 ⟨η1, d, a1⟩ => ⟨G, η1, a1.ok, (Post.bind (R := RD X G σ) a1.post).imp fun y H2 ⟨η2, e, a2⟩ => ?_⟩⟩
  obtain ⟨g, eg, k⟩ := Post.of a2.ok a2.post
  exact hs _ H2 x y d e g Q a2.ok.domOk (carry a2.shr a2.st a1.r).t (Den.t a2.r) eg k
theorem twoC_of {r : R2} {f : D → D → Option Bool} {m1 m2 : M D} (hs : CmpD X r f) {σ : St} {H : Hp} {Q : VK} (h : tE X W (do let d ← m1; let e ← m2; M.of ((f d e).map D.bl)) σ H Q) : tOp r (tE X W m1) (tE X W m2) σ H Q := by
  obtain ⟨G, η, ok, h⟩ := h
  refine ⟨G, η, ok, (Post.bind (R := RD X G σ) h).imp fun x H1 ⟨η1, d, a1⟩ => ⟨G, η1, a1.ok, (Post.bind (R := RD X G σ) a1.post).imp fun y H2 ⟨η2, e, a2⟩ => ?_⟩⟩
  obtain ⟨g, eg, k⟩ := Post.of a2.ok a2.post
  cases ek : f d e with
  | none => rw [ek] at eg; cases eg
  | some c =>
    rw [ek] at eg
    cases eg
    exact hs _ H2 x y d e c Q a2.ok.domOk (carry a2.shr a2.st a1.r).t (Den.t a2.r) ek (k _ _ (Same.refl _) rfl)
theorem pd_bin {op : Operator} {r : R2} {f : D → D → Option D} {m1 m2 : M D} (hop : OpR X (binaryOp op) r) (hs : OpD X r f) (ha : PEd X W a m1) (hb : PEd X W b m2) : PEd X W (.BinOp a op b pos) (do let d ← m1; let e ← m2; M.of (f d e)) :=
  PE.weak (pe_op hop ha hb) fun σ H Q h => two_of hs h
theorem pd_un {op : UnaryOp} {r : V → Hp → VK → Prop} {f : D → Option D} {m1 : M D} (hop : UnR X (unaryOp op) r) (hs : UnD X r f) (ha : PEd X W a m1) : PEd X W (.UnaryOp op a pos) (do let d ← m1; M.of (f d)) :=
  PE.weak (pe_un hop ha) fun σ H Q ⟨G, η, ok, h⟩ => ⟨G, η, ok, (Post.bind (R := RD X G σ) h).imp fun x H1 ⟨η1, d, a1⟩ => by
    obtain ⟨g, eg, k⟩ := Post.of a1.ok a1.post
    exact hs _ H1 x d g Q a1.ok.domOk (Den.t a1.r) eg k⟩
theorem pd_cmp {op : CmpOp} {r : R2} {f : D → D → Option Bool} {m1 m2 : M D} (hop : OpR X (compareOp op) r) (hs : CmpD X r f) (ha : PEd X W a m1) (hb : PEd X W b m2) (hm : behindInMarks op b = false) :
    PEd X W (.Compare a [op] [b] pos) (do let d ← m1; let e ← m2; M.of ((f d e).map D.bl)) := PE.weak (pe_cmpR hop ha hb hm) fun σ H Q h => twoC_of hs h
theorem ptd_cmp {op : CmpOp} {r : R2} {f : D → D → Option Bool} {m1 m2 : M D} (hop : OpR X (compareOp op) r) (hs : CmpD X r f) (ha : PEd X W a m1) (hb : PEd X W b m2) (hm : behindInMarks op b = false) :
    PTd X W (.Compare a [op] [b] pos) (do let d ← m1; let e ← m2; M.of (f d e)) := PT.weak (pt_cmpR hop ha hb hm) fun σ H Q ⟨G, η, ok, h⟩ => by
  show tOp r (tE X W m1) (tE X W m2) σ H fun x H' => ∃ k, x = .bl k ∧ Q k H'
  refine ⟨G, η, ok, (Post.bind (R := RD X G σ) h).imp fun x H1 ⟨η1, d, a1⟩ => ⟨G, η1, a1.ok, (Post.bind (R := RD X G σ) a1.post).imp fun y H2 ⟨η2, e, a2⟩ => ?_⟩⟩
  obtain ⟨c, ek, k⟩ := Post.ofB a2.ok a2.post
  exact hs _ H2 x y d e c _ a2.ok.domOk (carry a2.shr a2.st a1.r).t (Den.t a2.r) ek ⟨c, rfl, k⟩

/-! ### tests -/
def asB : D → Option Bool
  | .bl b => some b
  | _ => none
theorem asB_some {d : D} {k : Bool} (h : asB d = some k) : d = .bl k := by
  cases d <;> cases h
  rfl
def PWd (X : Cx) (W : WX) (e : Expr) (m : M Bool) : Prop := PW X e (tT X W m)
theorem PWd.pt {m : M Bool} (h : PWd X W e m) : PTd X W e m := PW.pt h
theorem ptd_val {m : M D} (h : PEd X W e m) (he : ∀ whole, isTrue e X.env whole = (do let v ← whole; standAt e.pos; holding [v] (truthy v)) := by intro _; rfl) : PTd X W e (do let d ← m; M.of (asB d)) :=
  PT.weak (pt_val h he) fun σ H Q ⟨G, η, ok, h⟩ => ⟨G, η, ok, (Post.bind (R := RD X G σ) h).imp fun x H1 ⟨η1, d, a1⟩ => by
    obtain ⟨k, ek, q⟩ := Post.ofB a1.ok a1.post
    have e := asB_some ek
    subst e
    exact ⟨k, a1.r, q⟩⟩
theorem pwd_and1 {m : M Bool} (h : PTd X W a m) : PWd X W (.BoolOp .And [a] pos) m := pw_and1 h
theorem pwd_or1 {m : M Bool} (h : PTd X W a m) : PWd X W (.BoolOp .Or [a] pos) m := pw_or1 h
theorem pwd_and {m1 m2 : M Bool} {rest : List Expr} (ha : PTd X W a m1) (hb : PWd X W (.BoolOp .And (b :: rest) pos) m2) : PWd X W (.BoolOp .And (a :: b :: rest) pos) (do let c ← m1; if c = true then m2 else pure false) :=
  PW.weak (pw_and ha hb) fun σ H Q ⟨G, η, ok, h⟩ => ⟨G, η, ok, (Post.bind (R := RB) h).imp fun c H1 ⟨η1, d, a1⟩ => by
    have e : d = c := a1.r
    subst e
    cases d with
    | true => exact iteT ⟨G, η1, a1.ok, a1.post⟩
    | false => exact iteF (a1.post false H1 .refl .refl a1.ok rfl)⟩
theorem pwd_or {m1 m2 : M Bool} {rest : List Expr} (ha : PTd X W a m1) (hb : PWd X W (.BoolOp .Or (b :: rest) pos) m2) : PWd X W (.BoolOp .Or (a :: b :: rest) pos) (do let c ← m1; if c = true then pure true else m2) :=
  PW.weak (pw_or ha hb) fun σ H Q ⟨G, η, ok, h⟩ => ⟨G, η, ok, (Post.bind (R := RB) h).imp fun c H1 ⟨η1, d, a1⟩ => by
    have e : d = c := a1.r
    subst e
    cases d with
    | true => exact iteT (a1.post true H1 .refl .refl a1.ok rfl)
    | false => exact iteF ⟨G, η1, a1.ok, a1.post⟩⟩
theorem ptd_not {m : M Bool} (h : PTd X W a m) : PTd X W (.UnaryOp .Not a pos) (do let c ← m; pure (!c)) :=
  PT.weak (pt_not h) fun σ H Q ⟨G, η, ok, h⟩ => ⟨G, η, ok, (Post.bind (R := RB) h).imp fun c H1 ⟨η1, d, a1⟩ => by
    have e : d = c := a1.r
    subst e
    exact a1.post (!d) H1 .refl .refl a1.ok rfl⟩
theorem pd_not {m : M D} (h : PEd X W a m) : PEd X W (.UnaryOp .Not a pos) (do let d ← m; let c ← M.of (asB d); pure (.bl (!c))) :=
  PE.weak (pe_not h) fun σ H Q ⟨G, η, ok, h⟩ => ⟨G, η, ok, (Post.bind (R := RD X G σ) h).imp fun x H1 ⟨η1, d, a1⟩ => by
    obtain ⟨k, ek, q⟩ := Post.ofB a1.ok (Post.bind (R := RB) a1.post)
    have e := asB_some ek
    subst e
    obtain ⟨η2, c, a2⟩ := q
    have e : c = k := a2.r
    subst e
    exact ⟨c, a1.r, a2.post _ _ .refl .refl a2.ok rfl⟩⟩
theorem pd_one {op : BoolOp} {m : M D} (h : PEd X W a m) : PEd X W (.BoolOp op [a] pos) m := pe_one h
theorem pd_and {m1 m2 : M D} {rest : List Expr} (ha : PEd X W a m1) (hb : PEd X W (.BoolOp .And (b :: rest) pos) m2) :
    PEd X W (.BoolOp .And (a :: b :: rest) pos) (do let d ← m1; let c ← M.of (asB d); if c = true then m2 else pure (.bl false)) :=
  PE.weak (pe_and ha hb) fun σ H Q ⟨G, η, ok, h⟩ => ⟨G, η, ok, (Post.bind (R := RD X G σ) h).imp fun x H1 ⟨η1, d, a1⟩ => by
    obtain ⟨k, ek, q⟩ := Post.ofB a1.ok (Post.bind (R := RB) a1.post)
    have e := asB_some ek
    subst e
    obtain ⟨η2, c, a2⟩ := q
    have e : c = k := a2.r
    subst e
    refine ⟨c, a1.r, ?_⟩
    cases c with
    | true => exact iteT ⟨G, η2, a2.ok, a2.post⟩
    | false => exact iteF (a2.post _ _ .refl .refl a2.ok rfl)⟩
theorem pd_or {m1 m2 : M D} {rest : List Expr} (ha : PEd X W a m1) (hb : PEd X W (.BoolOp .Or (b :: rest) pos) m2) :
    PEd X W (.BoolOp .Or (a :: b :: rest) pos) (do let d ← m1; let c ← M.of (asB d); if c = true then pure (.bl true) else m2) :=
  PE.weak (pe_or ha hb) fun σ H Q ⟨G, η, ok, h⟩ => ⟨G, η, ok, (Post.bind (R := RD X G σ) h).imp fun x H1 ⟨η1, d, a1⟩ => by
    obtain ⟨k, ek, q⟩ := Post.ofB a1.ok (Post.bind (R := RB) a1.post)
    have e := asB_some ek
    subst e
    obtain ⟨η2, c, a2⟩ := q
    have e : c = k := a2.r
    subst e
    refine ⟨c, a1.r, ?_⟩
    cases c with
    | true => exact iteT (a2.post _ _ .refl .refl a2.ok rfl)
    | false => exact iteF ⟨G, η2, a2.ok, a2.post⟩⟩
theorem pd_if {c : Expr} {mc : M Bool} {m1 m2 : M D} (hc : PTd X W c mc) (ha : PEd X W a m1) (hb : PEd X W b m2) : PEd X W (.IfExp c a b pos) (do let k ← mc; if k = true then m1 else m2) :=
  PE.weak (pe_ifExp hc ha hb) fun σ H Q ⟨G, η, ok, h⟩ => ⟨G, η, ok, (Post.bind (R := RB) h).imp fun c H1 ⟨η1, d, a1⟩ => by
    have e : d = c := a1.r
    subst e
    cases d with
    | true => exact iteT ⟨G, η1, a1.ok, a1.post⟩
    | false => exact iteF ⟨G, η1, a1.ok, a1.post⟩⟩
end
end Pd

/-! a tuple times 1, times 0 -/
namespace Pd
open PySem L2
section
open PySem.Spec PyProof.Rows
theorem tup_mul1 (l : Addr) (items : Array Value) (n : Nat) (dd : Option Addr) (sl : Array (Option Value)) (x : Int) (u : Tok) (c0 : (decide (x < -(2 ^ 63)) || decide (x ≥ 2 ^ 63)) = false) (c1 : (items.isEmpty || x == 1) = true) :
    Meets (Builtin.«tuple.__mul__» ⟨[.ref l, .int x u], []⟩) (fun _ R s => s.heap.get? l = some { cls := .type "tuple", dict := dd, data := .seq items n, slots := sl } ∧ R (.ok (.ret (Value.ref l))) s) :=
  .of_wp fun prog w A R s h => by
    obtain ⟨hp, g, d, tk, os⟩ := s
    obtain ⟨hl, h⟩ := h
    have f1 := AutoSeq1.idx_int
    wp_walk using wpAny_loadPart' hl
    repeat (first
      | (refine wpAny_ite_false (decide_eq_false (by rw [c0]; exact Bool.false_ne_true)) ?_; wp_walk using wpAny_loadPart' hl)
      | (refine wpAny_ite_true (decide_eq_true c1) ?_; wp_walk using wpAny_loadPart' hl))
    exact ⟨_, rfl, h⟩
theorem tup_mul0 (l : Addr) (items : Array Value) (n : Nat) (dd : Option Addr) (sl : Array (Option Value)) (x : Int) (u : Tok) (c0 : (decide (x < -(2 ^ 63)) || decide (x ≥ 2 ^ 63)) = false) (c1 : (items.isEmpty || x == 1) = false) (c2 : (decide (x ≤ 0) || items.isEmpty) = true) :
    Meets (Builtin.«tuple.__mul__» ⟨[.ref l, .int x u], []⟩) (fun _ R s => s.heap.get? l = some { cls := .type "tuple", dict := dd, data := .seq items n, slots := sl } ∧
      R (.ok (.ret (Value.ref s.heap.objs.size))) { s with heap := s.heap.push { cls := Value.type "tuple", data := Data.seq #[] }, toks := s.toks }) :=
  .of_wp fun prog w A R s h => by
    obtain ⟨hp, g, d, tk, os⟩ := s
    obtain ⟨hl, h⟩ := h
    have f1 := AutoSeq1.idx_int
    have hz : (#[] : Array Value).size ≤ sizeLine := Nat.zero_le _
    wp_walk using wpAny_loadPart' hl
    repeat (first
      | (refine wpAny_ite_false (decide_eq_false (by rw [c0]; exact Bool.false_ne_true)) ?_; wp_walk using wpAny_loadPart' hl)
      | (refine wpAny_ite_false (decide_eq_false (by rw [c1]; exact Bool.false_ne_true)) ?_; wp_walk using wpAny_loadPart' hl)
      | (refine wpAny_ite_true (decide_eq_true c2) ?_; wp_walk using wpAny_loadPart' hl))
    exact ⟨_, rfl, h⟩
/-- the same tuple, an empty one -/
def rRepS (K : PySem.W.Frag) : R2 := fun x y H Q => ∃ l k xs, x = .ref l ∧ y = .int k ∧ SqT K H l xs ∧ 0 ≤ k ∧ k ≤ 1000 ∧ (((xs = [] ∨ k = 1) ∧ Q (.ref l) H) ∨ (xs ≠ [] ∧ k = 0 ∧ ∀ p, H p = none → Q (.ref p) (upd H p (.tup []))))
variable {X : Cx}
theorem op_repS : OpR X (binaryOp .Mult) (rRepS X.K) := by
  intro pins s σ H x y v u Q I rx ry h
  obtain ⟨l, k, xs, rfl, rfl, hT, h0, h1, q⟩ := h
  cases rx
  obtain ⟨t, rfl⟩ := ry
  obtain ⟨its, r, ⟨⟨cls, dd, data, sl⟩, ho, hc, n, hd⟩, hs⟩ := I.tuple hT
  simp only at hc hd
  subst hc hd
  have hle : its.length = xs.length := r.length.symm
  have c0 : (decide (k < -(2 ^ 63)) || decide (k ≥ 2 ^ 63)) = false := by
    have z1 : ¬ k < -(2 ^ 63) := by omega
    have z2 : ¬ k ≥ 2 ^ 63 := by omega
    rw [decide_eq_false z1, decide_eq_false z2]
    rfl
  rcases q with ⟨he, q⟩ | ⟨hne, hk, q⟩
  · have c1 : (its.toArray.isEmpty || k == 1) = true := by
      rcases he with he | he
      · subst he
        have : its = [] := List.eq_nil_of_length_eq_zero hle
        subst this
        rfl
      · subst he
        simp
    exact wpAny_binaryOp_repeat_ref (T := "tuple") (U := "int") (by decide) ⟨_, ho, rfl⟩ (fun s' => typeIs_int s' k t) noFill_tuple_mul PySem.F.fills_int_mul PySem.F.slot_int_rmul repeat_tuple PySem.F.slot_int_index.lookup
      (call_meets PySem.F.slot_int_rmul (typeIs_int s k t) PySem.F.entry_int_rmul (PySem.F.args_int_rmul_2 _ _) (int_rmul_tuple k t l its.toArray n dd sl)
        ⟨ho, rfl, ⟨_, ho, rfl⟩, call_meets PySem.F.slot_tuple_mul ⟨_, ho, rfl⟩ PySem.F.entry_tuple_mul (PySem.F.args_tuple_mul_2 _ _) (tup_mul1 l its.toArray n dd sl k t c0 c1) ⟨ho, ⟨.ref l, H, I, rfl, q⟩⟩⟩)
  · have hn : its ≠ [] := fun e => hne (by
      rw [e] at hle
      exact List.eq_nil_of_length_eq_zero hle.symm)
    have hi : its.toArray.isEmpty = false := by
      cases its with
      | nil => exact absurd rfl hn
      | cons a b => rfl
    subst hk
    exact wpAny_binaryOp_repeat_ref (T := "tuple") (U := "int") (by decide) ⟨_, ho, rfl⟩ (fun s' => typeIs_int s' 0 t) noFill_tuple_mul PySem.F.fills_int_mul PySem.F.slot_int_rmul repeat_tuple PySem.F.slot_int_index.lookup
      (call_meets PySem.F.slot_int_rmul (typeIs_int s 0 t) PySem.F.entry_int_rmul (PySem.F.args_int_rmul_2 _ _) (int_rmul_tuple 0 t l its.toArray n dd sl)
        ⟨ho, rfl, ⟨_, ho, rfl⟩, call_meets PySem.F.slot_tuple_mul ⟨_, ho, rfl⟩ PySem.F.entry_tuple_mul (PySem.F.args_tuple_mul_2 _ _) (tup_mul0 l its.toArray n dd sl 0 t c0 (by rw [hi]; rfl) (by rfl)) ⟨ho,
          .ref s.heap.objs.size, _, I.laid (t' := s.toks) (o := .tup []) (fun b ob q => Heap.get?_push_of_some _ q) (Nat.le_refl _) ⟨Nat.zero_le _, [], .nil, IsTup.new _ _⟩, rfl, q _ (I.hok.fresh (Nat.le_refl _))⟩⟩)
end
end Pd

namespace Pd
open PySem L2
/-! ### what the operators do on data -/
def mulOk (i j : Int) : Bool := decide (i.natAbs.log2 + j.natAbs.log2 < 100000000)
def divOk (j : Int) : Bool := decide (j ≠ 0) && decide (j.natAbs.log2 < 9000)
def powOk (i j : Int) : Bool := decide (0 ≤ j) && decide (j ≤ 1000000) && decide (i.natAbs < 2 ^ 64)
def addD : D → D → Option D
  | .int i, .int j => some (.int (i + j))
  | .tup a, .tup b => if lenOk (a.length + b.length) = true then some (.tup (a ++ b)) else none
  | .lst a, .lst b => if lenOk (a.length + b.length) = true then some (.lst (a ++ b)) else none
  | .lst a, .scr b => if lenOk (a.length + b.length) = true then some (.lst (a ++ b.map D.int)) else none
  | .str a, .str b => if lenOk (a.length + b.length) = true then some (.str (a ++ b)) else none
  | _, _ => none
def subD : D → D → Option D
  | .int i, .int j => some (.int (i - j))
  | _, _ => none
def repOk (n : Nat) (k : Int) : Bool := decide (0 ≤ k) && decide (k ≤ 1000) && decide (n ≤ 1000)
def mulD : D → D → Option D
  | .int i, .int j => if mulOk i j = true then some (.int (i * j)) else none
  | .lst a, .int k => if repOk a.length k = true then some (.lst (List.replicate k.toNat a).flatten) else none
  | .tup a, .int k => if repOk a.length k = true then some (.tup (List.replicate k.toNat a).flatten) else none
  | _, _ => none
def fdivD : D → D → Option D
  | .int i, .int j => if divOk j = true then some (.int (i.fdiv j)) else none
  | _, _ => none
def modD : D → D → Option D
  | .int i, .int j => if j ≠ 0 then some (.int (i.fmod j)) else none
  | _, _ => none
def powD : D → D → Option D
  | .int i, .int j => if powOk i j = true then some (.int (i ^ j.toNat)) else none
  | _, _ => none
def negD : D → Option D
  | .int i => some (.int (-i))
  | _ => none

section
variable {X : Cx}
theorem op_fdivZ : OpR X (binaryOp .FloorDiv) (rI (fun _ j => j ≠ 0 ∧ j.natAbs.log2 < 9000) fun i j => .int (i.fdiv j)) :=
  opI fun _ _ _ _ _ _ _ hc q => PyProof.Rows.floordiv_int hc.1 q (.inl (PyProof.noPylong_of_log2 hc.2))
/-- list + list, whatever the two objects' slots are -/
theorem list_add_any (l b : Addr) (items items2 : Array Value) (n n2 : Nat) (sl sl2 : Array (Option Value)) (hsz : items.size + items2.size ≤ sizeLine) :
    Meets (Builtin.«list.__add__» ⟨[.ref l, .ref b], []⟩) (fun _ R s => s.heap.get? l = some { cls := .type "list", dict := none, data := .seq items n, slots := sl } ∧ s.heap.get? b = some { cls := .type "list", dict := none, data := .seq items2 n2, slots := sl2 } ∧
      R (.ok (.ret (Value.ref s.heap.objs.size))) { s with heap := s.heap.push { cls := Value.type "list", data := Data.seq (items ++ items2) }, toks := s.toks }) :=
  .of_wp fun prog w A R s h => by
    obtain ⟨hp, g, d, tk, os⟩ := s
    obtain ⟨hl, hb, h⟩ := h
    have f1 := AutoSeq1.sub_list_list
    have f2 := AutoSeq1.idx_int
    wp_walk using wpAny_loadPart' hl, wpAny_loadPart' hb
    exact ⟨_, rfl, h⟩
def rCatR (K : PySem.W.Frag) : R2 := fun x y H Q => ∃ l b xs zs, x = .ref l ∧ y = .ref b ∧ SqL K H l xs ∧ SqL K H b zs ∧ xs.length + zs.length ≤ sizeLine ∧ ∀ p, H p = none → Q (.ref p) (upd H p (.lst (xs ++ zs)))
theorem op_catR : OpR X (binaryOp .Add) (rCatR X.K) := by
  intro pins s σ H x y v u Q I rx ry h
  obtain ⟨l, b, xs, zs, rfl, rfl, hA, hB, hz, q⟩ := h
  cases rx
  cases ry
  obtain ⟨its, r, pa, _⟩ := I.list hA
  obtain ⟨its2, r2, pb, _⟩ := I.list hB
  obtain ⟨⟨c1, d1, t1, s1⟩, n1, e1, ec1, ed1, et1⟩ := pa
  obtain ⟨⟨c2, d2, t2, s2⟩, n2, e2, ec2, ed2, et2⟩ := pb
  simp only at ec1 ed1 et1 ec2 ed2 et2
  subst ec1 ed1 et1 ec2 ed2 et2
  have hl := r.length
  have hl2 := r2.length
  refine concat_meets ⟨_, e1, rfl⟩ ⟨_, e2, rfl⟩ noFill_list_add seq_list_add PySem.F.slot_list_add PySem.F.entry_list_add (PySem.F.args_list_add_2 _ _)
    (list_add_any l b its.toArray its2.toArray n1 n2 s1 s2 (by rw [List.size_toArray, List.size_toArray]; omega)) ⟨e1, e2, ?_⟩
  rw [List.append_toArray]
  exact ⟨.ref _, _, I.lnew (t' := s.toks) (r.append r2) (by rw [List.length_append]; omega), rfl, q _ I.fresh⟩

/-! ### the operators keep what their functions say -/
theorem Scr.dens {Z : Addr → Prop} {K : PySem.W.Frag} {H : Hp} (ns : List Int) : Dens Z K H (ns.map D.int) (ns.map V.int) := dens_of_ints ns
def rAddD (K : PySem.W.Frag) : R2 := fun x y H Q => rI0 (fun i j => .int (i + j)) x y H Q ∨ rCatA K x y H Q ∨ rCatR K x y H Q ∨ (∃ i j, x = .str i ∧ y = .str j ∧ i.length + j.length ≤ sizeLine ∧ Q (.str (i ++ j)) H)
theorem op_addD : OpR X (binaryOp .Add) (rAddD X.K) := OpR.or op_add (OpR.or op_catA (OpR.or op_catR op_add_str))
theorem add_ok : OpD X (rAddD X.K) addD := by
  intro Z H x y d e g Q hz hx hy hf k
  unfold addD at hf
  split at hf
  · cases hf
    exact .inl ⟨_, _, hx, hy, k _ _ (Same.refl _) rfl⟩
  · rename_i a b
    split at hf
    · rename_i hl
      cases hf
      obtain ⟨p, xs, rfl, hp, dp⟩ := hx
      obtain ⟨q, ys, rfl, hq, dq⟩ := hy
      have e1 := dp.length
      have e2 := dq.length
      have hs := lenOk_line hl
      refine .inr (.inl ⟨p, q, xs, ys, rfl, rfl, hp, hq, by omega, fun e => ?_, fun _ e => ?_, fun _ _ r hr => ?_⟩)
      · subst e
        have : a = [] := by cases a with | nil => rfl | cons _ _ => simp at e1
        subst this
        exact k _ _ (Same.refl _) ⟨q, ys, rfl, hq, dq⟩
      · subst e
        have : b = [] := by cases b with | nil => rfl | cons _ _ => simp at e2
        subst this
        rw [List.append_nil] at k
        exact k _ _ (Same.refl _) ⟨p, xs, rfl, hp, dp⟩
      · exact k _ _ (same_new hr) (den_newT hr (dp.append dq))
    · cases hf
  · rename_i a b
    split at hf
    · rename_i hl
      cases hf
      obtain ⟨p, xs, rfl, hp, dp⟩ := hx
      obtain ⟨q, ys, rfl, hq, dq⟩ := hy
      have e1 := dp.length
      have e2 := dq.length
      have hs := lenOk_line hl
      exact .inr (.inr (.inl ⟨p, q, xs, ys, rfl, rfl, .of hp, .of hq, by omega, fun r hr => k _ _ (same_new hr) (den_new hz hr (dp.append dq))⟩))
    · cases hf
  · rename_i a b
    split at hf
    · rename_i hl
      cases hf
      obtain ⟨p, xs, rfl, hp, dp⟩ := hx
      obtain ⟨q, rfl, hq⟩ := hy
      have e1 := dp.length
      have hs := lenOk_line hl
      exact .inr (.inr (.inl ⟨p, q, xs, b.map V.int, rfl, rfl, .of hp, hq.seq, by rw [List.length_map]; omega, fun r hr => k _ _ (same_new hr) (den_new hz hr (dp.append (dens_of_ints b)))⟩))
    · cases hf
  · rename_i a b
    split at hf
    · rename_i hl
      cases hf
      exact .inr (.inr (.inr ⟨a, b, hx, hy, lenOk_line hl, k _ _ (Same.refl _) rfl⟩))
    · cases hf
  · cases hf
theorem sub_ok : OpD X (rI0 fun i j => .int (i - j)) subD := by
  intro Z H x y d e g Q hz hx hy hf k
  unfold subD at hf
  split at hf
  · cases hf
    exact ⟨_, _, hx, hy, k _ _ (Same.refl _) rfl⟩
  · cases hf
theorem mul_fits {i j : Int} (h : i.natAbs.log2 + j.natAbs.log2 < 100000000) : IntMulOk i j := by
  have bits : ∀ x : Int, Builtin.Int.intBits x ≤ x.natAbs.log2 + 1 := fun x => by
    unfold Builtin.Int.intBits
    split <;> omega
  have hi := bits i
  have hj := bits j
  unfold IntMulOk
  intro z
  rw [Bool.and_eq_true] at z
  have z2 := z.2
  unfold Builtin.Int.intTooBig at z2
  have z3 := of_decide_eq_true z2
  have e : bitsLine = 134217728 := by decide
  rw [e] at z3
  omega
theorem op_mulZ : OpR X (binaryOp .Mult) (rI (fun i j => i.natAbs.log2 + j.natAbs.log2 < 100000000) fun i j => .int (i * j)) := opI fun _ _ _ _ _ _ _ hc q => PyProof.Rows.mul_int q (mul_fits hc)
def rMulD (K : PySem.W.Frag) : R2 := fun x y H Q => rI (fun i j => i.natAbs.log2 + j.natAbs.log2 < 100000000) (fun i j => .int (i * j)) x y H Q ∨ rRep x y H Q ∨ rRepT K x y H Q ∨ rRepS K x y H Q
theorem op_mulD : OpR X (binaryOp .Mult) (rMulD X.K) := OpR.or op_mulZ (OpR.or op_rep (OpR.or op_repT op_repS))
theorem mul_ok : OpD X (rMulD X.K) mulD := by
  intro Z H x y d e g Q hz hx hy hf k
  unfold mulD at hf
  split at hf
  · split at hf
    · rename_i hl
      cases hf
      unfold mulOk at hl
      have hl2 := of_decide_eq_true hl
      exact .inl ⟨_, _, hx, hy, hl2, k _ _ (Same.refl _) rfl⟩
    · cases hf
  · rename_i a b
    split at hf
    · rename_i hl
      cases hf
      obtain ⟨p, xs, rfl, hp, dp⟩ := hx
      unfold repOk at hl
      simp only [Bool.and_eq_true, decide_eq_true_eq] at hl
      have e1 := dp.length
      refine .inr (.inl ⟨p, b, xs, rfl, hy, hp, by omega, by omega, ?_, fun r hr => k _ _ (same_new hr) (den_new hz hr (dp.rep b.toNat))⟩)
      rw [sizeLine_eq]
      have : xs.length * b.toNat ≤ 1000 * 1000 := Nat.mul_le_mul (by omega) (by omega)
      omega
    · cases hf
  · rename_i a b
    split at hf
    · rename_i hl
      cases hf
      obtain ⟨p, xs, rfl, hp, dp⟩ := hx
      unfold repOk at hl
      simp only [Bool.and_eq_true, decide_eq_true_eq] at hl
      have e1 := dp.length
      by_cases ha : a = []
      · subst ha
        cases dp
        refine .inr (.inr (.inr ⟨p, b, [], rfl, hy, hp, by omega, by omega, .inl ⟨.inl rfl, k _ _ (Same.refl _) ⟨p, [], rfl, hp, ?_⟩⟩⟩))
        simp
        exact .nil
      · have hx0 : xs ≠ [] := fun e => by
          subst e
          cases a with
          | nil => exact ha rfl
          | cons _ _ => simp at e1
        by_cases h1 : b = 1
        · subst h1
          refine .inr (.inr (.inr ⟨p, 1, xs, rfl, hy, hp, by omega, by omega, .inl ⟨.inr rfl, k _ _ (Same.refl _) ⟨p, xs, rfl, hp, ?_⟩⟩⟩))
          simpa using dp
        · by_cases h0 : b = 0
          · subst h0
            exact .inr (.inr (.inr ⟨p, 0, xs, rfl, hy, hp, by omega, by omega, .inr ⟨hx0, rfl, fun r hr => k _ _ (same_new hr) (den_newT hr .nil)⟩⟩))
          · exact .inr (.inr (.inl ⟨p, b, xs, rfl, hy, hp, hx0, by omega, by omega, by omega, fun r hr => k _ _ (same_new hr) (den_newT hr (dp.rep b.toNat))⟩))
    · cases hf
  · cases hf
theorem fdiv_ok : OpD X (rI (fun _ j => j ≠ 0 ∧ j.natAbs.log2 < 9000) fun i j => .int (i.fdiv j)) fdivD := by
  intro Z H x y d e g Q hz hx hy hf k
  unfold fdivD at hf
  split at hf
  · split at hf
    · rename_i hl
      cases hf
      unfold divOk at hl
      simp only [Bool.and_eq_true, decide_eq_true_eq] at hl
      exact ⟨_, _, hx, hy, hl, k _ _ (Same.refl _) rfl⟩
    · cases hf
  · cases hf
theorem mod_ok : OpD X (rI (fun _ j => j ≠ 0) fun i j => .int (i.fmod j)) modD := by
  intro Z H x y d e g Q hz hx hy hf k
  unfold modD at hf
  split at hf
  · split at hf
    · rename_i hl
      cases hf
      exact ⟨_, _, hx, hy, hl, k _ _ (Same.refl _) rfl⟩
    · cases hf
  · cases hf
theorem pow_ok : OpD X (rI CPow fun i j => .int (i ^ j.toNat)) powD := by
  intro Z H x y d e g Q hz hx hy hf k
  unfold powD at hf
  split at hf
  · split at hf
    · rename_i hl
      cases hf
      unfold powOk at hl
      simp only [Bool.and_eq_true, decide_eq_true_eq] at hl
      exact ⟨_, _, hx, hy, ⟨hl.1.1, hl.1.2, hl.2⟩, k _ _ (Same.refl _) rfl⟩
    · cases hf
  · cases hf
theorem neg_ok : UnD X (rU fun i => .int (-i)) negD := by
  intro Z H x d g Q hz hx hf k
  unfold negD at hf
  split at hf
  · cases hf
    exact ⟨_, hx, k _ _ (Same.refl _) rfl⟩
  · cases hf
section
variable {W : WX} {a b : Expr} {pos : Pos} {m1 m2 : M D}
theorem pd_add (ha : PEd X W a m1) (hb : PEd X W b m2) : PEd X W (.BinOp a .Add b pos) (do let d ← m1; let e ← m2; M.of (addD d e)) := pd_bin op_addD add_ok ha hb
theorem pd_sub (ha : PEd X W a m1) (hb : PEd X W b m2) : PEd X W (.BinOp a .Sub b pos) (do let d ← m1; let e ← m2; M.of (subD d e)) := pd_bin op_sub sub_ok ha hb
theorem pd_mul (ha : PEd X W a m1) (hb : PEd X W b m2) : PEd X W (.BinOp a .Mult b pos) (do let d ← m1; let e ← m2; M.of (mulD d e)) := pd_bin op_mulD mul_ok ha hb
theorem pd_fdiv (ha : PEd X W a m1) (hb : PEd X W b m2) : PEd X W (.BinOp a .FloorDiv b pos) (do let d ← m1; let e ← m2; M.of (fdivD d e)) := pd_bin op_fdivZ fdiv_ok ha hb
theorem pd_mod (ha : PEd X W a m1) (hb : PEd X W b m2) : PEd X W (.BinOp a .Mod b pos) (do let d ← m1; let e ← m2; M.of (modD d e)) := pd_bin op_modN mod_ok ha hb
theorem pd_pow (ha : PEd X W a m1) (hb : PEd X W b m2) : PEd X W (.BinOp a .Pow b pos) (do let d ← m1; let e ← m2; M.of (powD d e)) := pd_bin op_pow pow_ok ha hb
theorem pd_neg (ha : PEd X W a m1) : PEd X W (.UnaryOp .USub a pos) (do let d ← m1; M.of (negD d)) := pd_un un_neg neg_ok ha
end

/-! ### comparisons -/
mutual
def toPy : D → Option PyData
  | .non => some .none
  | .bl b => some (.bool b)
  | .int i => some (.int i)
  | .str x => some (.str x)
  | .tup ds => (toPys ds).map PyData.tuple
  | .lst ds => (toPys ds).map PyData.list
  | .dct _ _ => none
  | .scr _ => none
def toPys : List D → Option (List PyData)
  | [] => some []
  | d :: ds => (toPy d).bind fun p => (toPys ds).map fun ps => p :: ps
end
mutual
theorem dp_of {Z : Addr → Prop} {K : PySem.W.Frag} {H : Hp} : ∀ (d : D) {v : V} {p : PyData}, Den Z K H d v → toPy d = some p → Dp K H v p
  | .non, _, _, h, e => by cases e; cases (show _ = V.non from h); exact .non
  | .bl b, _, _, h, e => by cases e; cases (show _ = V.bl b from h); exact .bl b
  | .int i, _, _, h, e => by cases e; cases (show _ = V.int i from h); exact .int i
  | .str x, _, _, h, e => by cases e; cases (show _ = V.str x from h); exact .str x
  | .tup ds, _, _, h, e => by
    obtain ⟨a, xs, rfl, hs, r⟩ := h
    unfold toPy at e
    cases q : toPys ds with
    | none => rw [q] at e; cases e
    | some ps =>
      rw [q] at e
      cases e
      exact .tup hs (dps_of ds r q)
  | .lst ds, _, _, h, e => by
    obtain ⟨a, xs, rfl, _, hs, r⟩ := h
    unfold toPy at e
    cases q : toPys ds with
    | none => rw [q] at e; cases e
    | some ps =>
      rw [q] at e
      cases e
      exact .lst (.of hs) (dps_of ds r q)
  | .dct _ _, _, _, _, e => by cases e
  | .scr _, _, _, _, e => by cases e
theorem dps_of {Z : Addr → Prop} {K : PySem.W.Frag} {H : Hp} : ∀ (ds : List D) {xs : List V} {ps : List PyData}, Dens Z K H ds xs → toPys ds = some ps → DpAll K H xs ps
  | [], _, _, h, e => by
    cases h
    cases e
    exact .nil
  | d :: ds, _, _, h, e => by
    obtain ⟨v, r, rfl, h1, h2⟩ := h
    unfold toPys at e
    cases q : toPy d with
    | none => rw [q] at e; cases e
    | some p =>
      rw [q] at e
      cases q2 : toPys ds with
      | none => rw [q2] at e; cases e
      | some ps =>
        rw [q2] at e
        cases e
        exact .cons (dp_of d h1 q) (dps_of ds h2 q2)
end
theorem dp_ofT {Z : Addr → Prop} {K : PySem.W.Frag} {H : Hp} : ∀ (d : D) {v : V} {p : PyData}, DenT Z K H d v → toPy d = some p → Dp K H v p
  | .non, _, _, h, e => dp_of (Z := Z) .non h e
  | .bl b, _, _, h, e => dp_of (Z := Z) (.bl b) h e
  | .int i, _, _, h, e => dp_of (Z := Z) (.int i) h e
  | .str x, _, _, h, e => dp_of (Z := Z) (.str x) h e
  | .tup ds, _, _, h, e => dp_of (Z := Z) (.tup ds) h e
  | .lst ds, _, _, h, e => by
    obtain ⟨a, xs, rfl, hs, r⟩ := h
    unfold toPy at e
    cases q : toPys ds with
    | none => rw [q] at e; cases e
    | some ps =>
      rw [q] at e
      cases e
      exact .lst (.of hs) (dps_of ds r q)
  | .dct _ _, _, _, _, e => by cases e
  | .scr _, _, _, _, e => by cases e
/-- one of the two is empty -/
def eqE : D → D → Option Bool
  | .tup ds, .tup [] => some ds.isEmpty
  | .tup [], .tup (_ :: _) => some false
  | .lst ds, .lst [] => some ds.isEmpty
  | .lst [], .lst (_ :: _) => some false
  | _, _ => none
def eqP (d e : D) : Option Bool := match toPy d, toPy e with
  | some p, some q => if SeqAt.shaped p && SeqAt.shaped q then some (PyData.eqv p q) else none
  | _, _ => none
def eqD (d e : D) : Option Bool := match eqE d e with
  | some b => some b
  | none => eqP d e
def neD (d e : D) : Option Bool := (eqD d e).map not
def rEqE (K : PySem.W.Frag) (f : Bool → Bool) : R2 := fun x y H Q => ∃ a b xs ys, x = .ref a ∧ y = .ref b ∧ ((SqT K H a xs ∧ SqT K H b ys) ∨ (SqL K H a xs ∧ SqL K H b ys)) ∧ (xs = [] ∨ ys = []) ∧ Q (.bl (f (xs.isEmpty && ys.isEmpty))) H
theorem empt {α β : Type} {xs : List α} {ys : List β} {n m : Nat} (l1 : xs.length = n) (l2 : ys.length = m) (he : xs = [] ∨ ys = []) : min n m = 0 ∧ (n == m) = (xs.isEmpty && ys.isEmpty) := by
  rcases he with he | he
  · subst he
    cases ys with
    | nil => simp at l1 l2; subst l1 l2; exact ⟨rfl, rfl⟩
    | cons y ys =>
      simp at l1 l2
      subst l1 l2
      exact ⟨by omega, by simp⟩
  · subst he
    cases xs with
    | nil => simp at l1 l2; subst l1 l2; exact ⟨rfl, rfl⟩
    | cons y ys =>
      simp at l1 l2
      subst l1 l2
      exact ⟨by omega, by simp⟩
theorem rcE {pins : List (Addr × Obj)} {σ : L2.St} {H : Hp} {s : Shared} {a b : Addr} {xs ys : List V} (hu : X.A.units + 64 < cLine) (I : Inv X pins σ H s) (h : (SqT X.K H a xs ∧ SqT X.K H b ys) ∨ (SqL X.K H a xs ∧ SqL X.K H b ys)) (he : xs = [] ∨ ys = []) :
    SeqAt.RcAt X.A s (.ref a) (.ref b) (xs.isEmpty && ys.isEmpty) ∧ SeqAt.RcNeAt X.A s (.ref a) (.ref b) (!(xs.isEmpty && ys.isEmpty)) := by
  rcases h with ⟨h1, h2⟩ | ⟨h1, h2⟩
  · obtain ⟨i1, r1, t1, _⟩ := I.tuple h1
    obtain ⟨i2, r2, t2, _⟩ := I.tuple h2
    obtain ⟨z1, z2⟩ := empt (show xs.length = i1.toArray.size by simpa using r1.length) (show ys.length = i2.toArray.size by simpa using r2.length) he
    have e : ((List.range (min i1.toArray.size i2.toArray.size)).all (fun _ => true) && i1.toArray.size == i2.toArray.size) = (xs.isEmpty && ys.isEmpty) := by
      rw [z1, z2]
      rfl
    have q := SeqAt.RcAt.tuples (A := X.A) (e := fun _ => true) (show s.heap.IsTuple a i1.toArray from t1) (show s.heap.IsTuple b i2.toArray from t2) (by omega) (fun j h1 h2 => absurd (Nat.lt_min.mpr ⟨h1, h2⟩) (by omega))
    have q2 := SeqAt.RcNeAt.tuples (A := X.A) (e := fun _ => true) (show s.heap.IsTuple a i1.toArray from t1) (show s.heap.IsTuple b i2.toArray from t2) (by omega) (fun j h1 h2 => absurd (Nat.lt_min.mpr ⟨h1, h2⟩) (by omega))
    rw [e] at q q2
    exact ⟨q, q2⟩
  · obtain ⟨i1, r1, t1, _⟩ := I.list h1
    obtain ⟨i2, r2, t2, _⟩ := I.list h2
    obtain ⟨z1, z2⟩ := empt (show xs.length = i1.toArray.size by simpa using r1.length) (show ys.length = i2.toArray.size by simpa using r2.length) he
    by_cases hz : i1.toArray.size = i2.toArray.size
    · have e : (List.range i1.toArray.size).all (fun _ => true) = (xs.isEmpty && ys.isEmpty) := by
        rw [← z2, hz]
        simp
      have q := SeqAt.RcAt.lists (A := X.A) (e := fun _ => true) t1.isList t2.isList hz (by omega) (fun j h1 h2 => absurd (Nat.lt_min.mpr ⟨h1, h2⟩) (by omega))
      have q2 := SeqAt.RcNeAt.lists (A := X.A) (e := fun _ => true) t1.isList t2.isList hz (by omega) (fun j h1 h2 => absurd (Nat.lt_min.mpr ⟨h1, h2⟩) (by omega))
      rw [e] at q q2
      exact ⟨q, q2⟩
    · have e : (xs.isEmpty && ys.isEmpty) = false := by
        rw [← z2]
        simpa using hz
      rw [e]
      exact ⟨SeqAt.RcAt.lists_lengths (A := X.A) t1.isList t2.isList (by simpa using hz) (by omega), SeqAt.RcNeAt.lists_lengths (A := X.A) t1.isList t2.isList (by simpa using hz) (by omega)⟩
theorem op_eqE (hu : X.A.units + 64 < cLine) : OpR X (compareOp .Eq) (rEqE X.K id) := by
  intro pins s σ H x y v u Q I rx ry ⟨a, b, xs, ys, e1, e2, h, he, q⟩
  subst e1 e2
  cases rx
  cases ry
  exact (rcE hu I h he).1 _ _ _ _ ⟨.bl _, H, I, rfl, q⟩
def rEqX (K : PySem.W.Frag) : R2 := fun x y H Q => rEqE K id x y H Q ∨ rEqD K x y H Q
theorem op_eqX (hu : X.A.units + 64 < cLine) : OpR X (compareOp .Eq) (rEqX X.K) := OpR.or (op_eqE hu) (op_eqD hu)
theorem eqE_ok {Z : Addr → Prop} {H : Hp} {x y : V} {d e : D} {k : Bool} {Q : VK} {f : Bool → Bool} (hx : DenT Z X.K H d x) (hy : DenT Z X.K H e y) (h : eqE d e = some k) (q : Q (.bl (f k)) H) : rEqE X.K f x y H Q := by
  unfold eqE at h
  split at h
  · cases h
    obtain ⟨a, xs, rfl, h1, d1⟩ := hx
    obtain ⟨b, ys, rfl, h2, d2⟩ := hy
    cases d2
    refine ⟨a, b, xs, [], rfl, rfl, .inl ⟨h1, h2⟩, .inr rfl, ?_⟩
    have := d1.length
    rename_i ds
    cases ds with
    | nil => cases d1; exact q
    | cons d ds => obtain ⟨v, r, rfl, _, _⟩ := d1; exact q
  · cases h
    obtain ⟨a, xs, rfl, h1, d1⟩ := hx
    obtain ⟨b, ys, rfl, h2, d2⟩ := hy
    cases d1
    obtain ⟨v, r, rfl, _, _⟩ := d2
    exact ⟨a, b, [], _, rfl, rfl, .inl ⟨h1, h2⟩, .inl rfl, q⟩
  · cases h
    obtain ⟨a, xs, rfl, h1, d1⟩ := hx
    obtain ⟨b, ys, rfl, h2, d2⟩ := hy
    cases d2
    refine ⟨a, b, xs, [], rfl, rfl, .inr ⟨.of h1, .of h2⟩, .inr rfl, ?_⟩
    rename_i ds
    cases ds with
    | nil => cases d1; exact q
    | cons d ds => obtain ⟨v, r, rfl, _, _⟩ := d1; exact q
  · cases h
    obtain ⟨a, xs, rfl, h1, d1⟩ := hx
    obtain ⟨b, ys, rfl, h2, d2⟩ := hy
    cases d1
    obtain ⟨v, r, rfl, _, _⟩ := d2
    exact ⟨a, b, [], _, rfl, rfl, .inr ⟨.of h1, .of h2⟩, .inl rfl, q⟩
  · cases h
theorem eqP_ok {Z : Addr → Prop} {H : Hp} {x y : V} {d e : D} {k : Bool} (hx : DenT Z X.K H d x) (hy : DenT Z X.K H e y) (h : eqP d e = some k) : ∃ p q, Dp X.K H x p ∧ Dp X.K H y q ∧ SeqAt.shaped p = true ∧ SeqAt.shaped q = true ∧ PyData.eqv p q = k := by
  unfold eqP at h
  split at h
  · rename_i p p' e1 e2
    split at h
    · rename_i hs
      cases h
      rw [Bool.and_eq_true] at hs
      exact ⟨p, p', dp_ofT d hx e1, dp_ofT e hy e2, hs.1, hs.2, rfl⟩
    · cases h
  · cases h
theorem eq_ok : CmpD X (rEqX X.K) eqD := by
  intro Z H x y d e k Q hz hx hy hf q
  unfold eqD at hf
  cases h : eqE d e with
  | some b =>
    rw [h] at hf
    cases hf
    exact .inl (eqE_ok hx hy h q)
  | none =>
    rw [h] at hf
    obtain ⟨p, p', h1, h2, h3, h4, h5⟩ := eqP_ok hx hy hf
    exact .inr ⟨p, p', h1, h2, h3, h4, by rw [h5]; exact q⟩
theorem op_neE (hu : X.A.units + 64 < cLine) : OpR X (compareOp .NotEq) (rEqE X.K not) := by
  intro pins s σ H x y v u Q I rx ry ⟨a, b, xs, ys, e1, e2, h, he, q⟩
  subst e1 e2
  cases rx
  cases ry
  exact (rcE hu I h he).2 _ _ _ _ ⟨.bl _, H, I, rfl, q⟩
def rNeX (K : PySem.W.Frag) : R2 := fun x y H Q => rEqE K not x y H Q ∨ rNeD K x y H Q
theorem op_neX (hu : X.A.units + 64 < cLine) : OpR X (compareOp .NotEq) (rNeX X.K) := OpR.or (op_neE hu) (op_neD hu)
theorem ne_ok : CmpD X (rNeX X.K) neD := by
  intro Z H x y d e k Q hz hx hy hf q
  unfold neD eqD at hf
  cases h : eqE d e with
  | some b =>
    rw [h] at hf
    cases hf
    exact .inl (eqE_ok hx hy h q)
  | none =>
    rw [h] at hf
    simp only at hf
    cases h9 : eqP d e with
    | none => rw [h9] at hf; cases hf
    | some b =>
      rw [h9] at hf
      cases hf
      obtain ⟨p, p', h1, h2, h3, h4, h5⟩ := eqP_ok hx hy h9
      exact .inr ⟨p, p', h1, h2, h3, h4, by rw [h5]; exact q⟩
def ltD : D → D → Option Bool
  | .int i, .int j => some (decide (i < j))
  | _, _ => none
def leD : D → D → Option Bool
  | .int i, .int j => some (decide (i ≤ j))
  | _, _ => none
def gtD : D → D → Option Bool
  | .int i, .int j => some (decide (j < i))
  | _, _ => none
def geD : D → D → Option Bool
  | .int i, .int j => some (decide (j ≤ i))
  | _, _ => none
theorem lt_ok : CmpD X (rI0 fun i j => .bl (decide (i < j))) ltD := by
  intro Z H x y d e k Q hz hx hy hf q
  unfold ltD at hf
  split at hf
  · cases hf
    exact ⟨_, _, hx, hy, q⟩
  · cases hf
theorem le_ok : CmpD X (rI0 fun i j => .bl (decide (i ≤ j))) leD := by
  intro Z H x y d e k Q hz hx hy hf q
  unfold leD at hf
  split at hf
  · cases hf
    exact ⟨_, _, hx, hy, q⟩
  · cases hf
theorem gt_ok : CmpD X (rI0 fun i j => .bl (decide (j < i))) gtD := by
  intro Z H x y d e k Q hz hx hy hf q
  unfold gtD at hf
  split at hf
  · cases hf
    exact ⟨_, _, hx, hy, q⟩
  · cases hf
theorem ge_ok : CmpD X (rI0 fun i j => .bl (decide (j ≤ i))) geD := by
  intro Z H x y d e k Q hz hx hy hf q
  unfold geD at hf
  split at hf
  · cases hf
    exact ⟨_, _, hx, hy, q⟩
  · cases hf
def isNon : D → Bool
  | .non => true
  | _ => false
theorem isNon_v {Z : Addr → Prop} {K : PySem.W.Frag} {H : Hp} {d : D} {v : V} (h : DenT Z K H d v) : decide (v = .non) = isNon d := by
  cases d with
  | non => cases (show v = .non from h); rfl
  | bl b => cases (show v = .bl b from h); rfl
  | int b => cases (show v = .int b from h); rfl
  | str b => cases (show v = .str b from h); rfl
  | tup b => obtain ⟨a, _, rfl, _⟩ := h; rfl
  | lst b => obtain ⟨a, _, rfl, _⟩ := h; rfl
  | dct b c => obtain ⟨a, _, rfl, _⟩ := h; rfl
  | scr b => obtain ⟨a, rfl, _⟩ := h; rfl
def isD (d e : D) : Option Bool := if isNon e = true then some (isNon d) else none
def isntD (d e : D) : Option Bool := if isNon e = true then some (!isNon d) else none
theorem is_ok : CmpD X (fun x y H Q => y = .non ∧ Q (.bl (decide (x = .non))) H) isD := by
  intro Z H x y d e k Q hz hx hy hf q
  unfold isD at hf
  split at hf
  · rename_i hn
    cases hf
    have := isNon_v hy
    rw [hn] at this
    exact ⟨of_decide_eq_true this, by rw [isNon_v hx]; exact q⟩
  · cases hf
theorem isnt_ok : CmpD X (fun x y H Q => y = .non ∧ Q (.bl (!decide (x = .non))) H) isntD := by
  intro Z H x y d e k Q hz hx hy hf q
  unfold isntD at hf
  split at hf
  · rename_i hn
    cases hf
    have := isNon_v hy
    rw [hn] at this
    exact ⟨of_decide_eq_true this, by rw [isNon_v hx]; exact q⟩
  · cases hf
end
end Pd

namespace Pd
open PySem L2
/-! ### operands: a value, or a slot that owns its list -/
inductive AV where
  | val (d : D) | bor (i : Nat)
def ownV (i : Nat) : M D := fun η => match η[i]? with
  | some (.own _ d) => .ok d η
  | _ => .bad
def borV (i : Nat) : M AV := fun η => match η[i]? with
  | some (.own _ _) => .ok (.bor i) η
  | _ => .bad
def AV.res : AV → M D
  | .val d => pure d
  | .bor i => ownV i
def RV (X : Cx) (G : Addr → Prop) (σ : St) : Sto → Hp → AV → V → Prop := fun η H a v => match a with
  | .val d => Den (Zo G η σ) X.K H d v
  | .bor i => σ[i]? = some (some v)
def tV (X : Cx) (W : WX) (m : M AV) : TE := fun σ H Q => ∃ G η, Ok G X.K η σ H ∧ Post X W G η σ H (RV X G σ) Q (m η)
def PVd (X : Cx) (W : WX) (e : Expr) (m : M AV) : Prop := PE X e (tV X W m)
theorem Cell.t {Z : Addr → Prop} {K : PySem.W.Frag} {H : Hp} {p : Addr} : ∀ {d : D}, Cell Z K H p d → DenT Z K H d (.ref p)
  | .lst _, ⟨xs, e, q⟩ => ⟨p, xs, rfl, e, q⟩
  | .dct _ _, ⟨xs, e, r, q⟩ => ⟨p, xs, rfl, e, r, q⟩
section
variable {X : Cx} {W : WX} {G : Addr → Prop} {η η1 : Sto} {σ : St} {H H1 : Hp}
theorem carryV {a : AV} {v : V} (s : Shr η η1) (t : Step (Fo η σ) H H1) (h : RV X G σ η H a v) : RV X G σ η1 H1 a v := by
  cases a with
  | val d => exact carry s t h
  | bor i => exact h
theorem ownV_ok {i : Nat} {d : D} {η2 : Sto} (h : ownV i η = .ok d η2) : η2 = η ∧ ∃ b, η[i]? = some (.own b d) := by
  unfold ownV at h
  split at h
  · rename_i b d' e
    cases h
    exact ⟨rfl, b, e⟩
  · cases h
theorem AV.res_ok {a : AV} {v : V} {d : D} {η2 : Sto} (ok : Ok G X.K η σ H) (h : a.res η = .ok d η2) (r : RV X G σ η H a v) : η2 = η ∧ DenT (Zo G η σ) X.K H d v := by
  cases a with
  | val d' =>
    cases h
    exact ⟨rfl, Den.t r⟩
  | bor i =>
    obtain ⟨e, b, eb⟩ := ownV_ok h
    obtain ⟨p, ep, c⟩ := ok.own i b d eb
    have r' : σ[i]? = some (some v) := r
    rw [ep] at r'
    cases r'
    exact ⟨e, c.t⟩
theorem AV.res_noexc {a : AV} {c : Str} {η2 : Sto} (h : a.res η = .exc c η2) : False := by
  cases a with
  | val d' => cases h
  | bor i =>
    unfold AV.res ownV at h
    simp only at h
    split at h <;> cases h
/-- an operand is looked at -/
theorem Post.res {β γ : Type} {a : AV} {v : V} {k : D → M γ} {R : Sto → Hp → γ → β → Prop} {Q : β → Hp → Prop} (ok : Ok G X.K η σ H) (r : RV X G σ η H a v) (h : Post X W G η σ H R Q ((a.res >>= k) η)) :
    ∃ d, DenT (Zo G η σ) X.K H d v ∧ Post X W G η σ H R Q (k d η) := by
  have e : (a.res >>= k) η = M.bind a.res k η := rfl
  rw [e] at h
  unfold M.bind at h
  cases q : a.res η with
  | ok d η2 =>
    rw [q] at h
    obtain ⟨e2, dn⟩ := AV.res_ok ok q r
    subst e2
    exact ⟨d, dn, h⟩
  | exc c η2 => exact (AV.res_noexc q).elim
  | bad =>
    rw [q] at h
    exact h.elim
end
section
variable {X : Cx} {W : WX} {e a b : Expr} {es : List Expr} {pos : Pos}
theorem PEd.v {m : M D} (h : PEd X W e m) : PVd X W e (do let d ← m; pure (.val d)) := PE.weak h fun σ H Q ⟨G, η, ok, h⟩ => ⟨G, η, ok, (Post.bind (R := RD X G σ) h).imp fun x H1 ⟨η1, d, a1⟩ =>
  a1.post x H1 .refl .refl a1.ok a1.r⟩
theorem pv_own (i : Nat) {x : Str} (hN : X.N[i]? = some x := by rfl) (hv : Vis X.env.scope x := by first | exact Or.inl rfl | exact Or.inr (Or.inl rfl) | exact Or.inr (Or.inr rfl))
    (hd : (x == ("__debug__" : Str)) = false := by decide) (hcd : (x == ("__classdict__" : Str)) = false := by decide) : PVd X W (.Name x pos) (borV i) :=
  PE.weak (pe_var hN hv hd hcd) fun σ H Q ⟨G, η, ok, h⟩ => by
    unfold borV at h
    split at h
    · rename_i b d e
      obtain ⟨p, ep, _⟩ := ok.own i b d e
      exact ⟨_, ep, h _ H .refl .refl ok ep⟩
    · exact h.elim
theorem twoV_of {r : R2} {f : D → D → Option D} {m1 m2 : M AV} (hs : OpD X r f) {σ : St} {H : Hp} {Q : VK} (h : tE X W (do let a ← m1; let b ← m2; let d ← a.res; let e ← b.res; M.of (f d e)) σ H Q) : tOp r (tV X W m1) (tV X W m2) σ H Q := by
  obtain ⟨G, η, ok, h⟩ := h
  refine ⟨G, η, ok, (Post.bind (R := RV X G σ) h).imp fun x H1 ⟨η1, d, a1⟩ => ⟨G, η1, a1.ok, (Post.bind (R := RV X G σ) a1.post).imp fun y H2 ⟨η2, e, a2⟩ => ?_⟩⟩
  obtain ⟨d', dn, h2⟩ := Post.res a2.ok (carryV a2.shr a2.st a1.r) a2.post
  obtain ⟨e', en, h3⟩ := Post.res a2.ok a2.r h2
  obtain ⟨g, eg, k⟩ := Post.of a2.ok h3
  exact hs _ H2 x y d' e' g Q a2.ok.domOk dn en eg k
theorem twoCV_of {r : R2} {f : D → D → Option Bool} {m1 m2 : M AV} (hs : CmpD X r f) {σ : St} {H : Hp} {Q : VK} (h : tE X W (do let a ← m1; let b ← m2; let d ← a.res; let e ← b.res; M.of ((f d e).map D.bl)) σ H Q) : tOp r (tV X W m1) (tV X W m2) σ H Q := by
  obtain ⟨G, η, ok, h⟩ := h
  refine ⟨G, η, ok, (Post.bind (R := RV X G σ) h).imp fun x H1 ⟨η1, d, a1⟩ => ⟨G, η1, a1.ok, (Post.bind (R := RV X G σ) a1.post).imp fun y H2 ⟨η2, e, a2⟩ => ?_⟩⟩
  obtain ⟨d', dn, h2⟩ := Post.res a2.ok (carryV a2.shr a2.st a1.r) a2.post
  obtain ⟨e', en, h3⟩ := Post.res a2.ok a2.r h2
  obtain ⟨g, eg, k⟩ := Post.of a2.ok h3
  cases ek : f d' e' with
  | none => rw [ek] at eg; cases eg
  | some c =>
    rw [ek] at eg
    cases eg
    exact hs _ H2 x y d' e' c Q a2.ok.domOk dn en ek (k _ _ (Same.refl _) rfl)
theorem pv_bin {op : Operator} {r : R2} {f : D → D → Option D} {m1 m2 : M AV} (hop : OpR X (binaryOp op) r) (hs : OpD X r f) (ha : PVd X W a m1) (hb : PVd X W b m2) : PEd X W (.BinOp a op b pos) (do let a ← m1; let b ← m2; let d ← a.res; let e ← b.res; M.of (f d e)) :=
  PE.weak (pe_op hop ha hb) fun σ H Q h => twoV_of hs h
theorem pv_cmp {op : CmpOp} {r : R2} {f : D → D → Option Bool} {m1 m2 : M AV} (hop : OpR X (compareOp op) r) (hs : CmpD X r f) (ha : PVd X W a m1) (hb : PVd X W b m2) (hm : behindInMarks op b = false) :
    PEd X W (.Compare a [op] [b] pos) (do let a ← m1; let b ← m2; let d ← a.res; let e ← b.res; M.of ((f d e).map D.bl)) := PE.weak (pe_cmpR hop ha hb hm) fun σ H Q h => twoCV_of hs h
theorem ptv_cmp {op : CmpOp} {r : R2} {f : D → D → Option Bool} {m1 m2 : M AV} (hop : OpR X (compareOp op) r) (hs : CmpD X r f) (ha : PVd X W a m1) (hb : PVd X W b m2) (hm : behindInMarks op b = false) :
    PTd X W (.Compare a [op] [b] pos) (do let a ← m1; let b ← m2; let d ← a.res; let e ← b.res; M.of (f d e)) := PT.weak (pt_cmpR hop ha hb hm) fun σ H Q ⟨G, η, ok, h⟩ => by
  show tOp r (tV X W m1) (tV X W m2) σ H fun x H' => ∃ k, x = .bl k ∧ Q k H'
  refine ⟨G, η, ok, (Post.bind (R := RV X G σ) h).imp fun x H1 ⟨η1, d, a1⟩ => ⟨G, η1, a1.ok, (Post.bind (R := RV X G σ) a1.post).imp fun y H2 ⟨η2, e, a2⟩ => ?_⟩⟩
  obtain ⟨d', dn, h2⟩ := Post.res a2.ok (carryV a2.shr a2.st a1.r) a2.post
  obtain ⟨e', en, h3⟩ := Post.res a2.ok a2.r h2
  obtain ⟨c, ek, k⟩ := Post.ofB a2.ok h3
  exact hs _ H2 x y d' e' c _ a2.ok.domOk dn en ek ⟨c, rfl, k⟩

/-! ### comparisons by name -/
variable {m1 m2 m3 : M D} {c : Expr}
theorem pd_eq (hu : X.A.units + 64 < cLine) (ha : PEd X W a m1) (hb : PEd X W b m2) : PEd X W (.Compare a [.Eq] [b] pos) (do let d ← m1; let e ← m2; M.of ((eqD d e).map D.bl)) := pd_cmp (op_eqX hu) eq_ok ha hb (nomark _)
theorem pd_ne (hu : X.A.units + 64 < cLine) (ha : PEd X W a m1) (hb : PEd X W b m2) : PEd X W (.Compare a [.NotEq] [b] pos) (do let d ← m1; let e ← m2; M.of ((neD d e).map D.bl)) := pd_cmp (op_neX hu) ne_ok ha hb (nomark _)
theorem pd_lt (ha : PEd X W a m1) (hb : PEd X W b m2) : PEd X W (.Compare a [.Lt] [b] pos) (do let d ← m1; let e ← m2; M.of ((ltD d e).map D.bl)) := pd_cmp op_lt lt_ok ha hb (nomark _)
theorem pd_le (ha : PEd X W a m1) (hb : PEd X W b m2) : PEd X W (.Compare a [.LtE] [b] pos) (do let d ← m1; let e ← m2; M.of ((leD d e).map D.bl)) := pd_cmp op_le le_ok ha hb (nomark _)
theorem pd_gt (ha : PEd X W a m1) (hb : PEd X W b m2) : PEd X W (.Compare a [.Gt] [b] pos) (do let d ← m1; let e ← m2; M.of ((gtD d e).map D.bl)) := pd_cmp op_gt gt_ok ha hb (nomark _)
theorem pd_ge (ha : PEd X W a m1) (hb : PEd X W b m2) : PEd X W (.Compare a [.GtE] [b] pos) (do let d ← m1; let e ← m2; M.of ((geD d e).map D.bl)) := pd_cmp op_ge ge_ok ha hb (nomark _)
theorem pd_is (ha : PEd X W a m1) (hb : PEd X W b m2) : PEd X W (.Compare a [.Is] [b] pos) (do let d ← m1; let e ← m2; M.of ((isD d e).map D.bl)) := pd_cmp op_isN is_ok ha hb (nomark _)
theorem pd_isnt (ha : PEd X W a m1) (hb : PEd X W b m2) : PEd X W (.Compare a [.IsNot] [b] pos) (do let d ← m1; let e ← m2; M.of ((isntD d e).map D.bl)) := pd_cmp op_notN isnt_ok ha hb (nomark _)
theorem ptd_eq (hu : X.A.units + 64 < cLine) (ha : PEd X W a m1) (hb : PEd X W b m2) : PTd X W (.Compare a [.Eq] [b] pos) (do let d ← m1; let e ← m2; M.of (eqD d e)) := ptd_cmp (op_eqX hu) eq_ok ha hb (nomark _)
theorem ptd_ne (hu : X.A.units + 64 < cLine) (ha : PEd X W a m1) (hb : PEd X W b m2) : PTd X W (.Compare a [.NotEq] [b] pos) (do let d ← m1; let e ← m2; M.of (neD d e)) := ptd_cmp (op_neX hu) ne_ok ha hb (nomark _)
theorem ptd_lt (ha : PEd X W a m1) (hb : PEd X W b m2) : PTd X W (.Compare a [.Lt] [b] pos) (do let d ← m1; let e ← m2; M.of (ltD d e)) := ptd_cmp op_lt lt_ok ha hb (nomark _)
theorem ptd_le (ha : PEd X W a m1) (hb : PEd X W b m2) : PTd X W (.Compare a [.LtE] [b] pos) (do let d ← m1; let e ← m2; M.of (leD d e)) := ptd_cmp op_le le_ok ha hb (nomark _)
theorem ptd_gt (ha : PEd X W a m1) (hb : PEd X W b m2) : PTd X W (.Compare a [.Gt] [b] pos) (do let d ← m1; let e ← m2; M.of (gtD d e)) := ptd_cmp op_gt gt_ok ha hb (nomark _)
theorem ptd_ge (ha : PEd X W a m1) (hb : PEd X W b m2) : PTd X W (.Compare a [.GtE] [b] pos) (do let d ← m1; let e ← m2; M.of (geD d e)) := ptd_cmp op_ge ge_ok ha hb (nomark _)
theorem ptd_is (ha : PEd X W a m1) (hb : PEd X W b m2) : PTd X W (.Compare a [.Is] [b] pos) (do let d ← m1; let e ← m2; M.of (isD d e)) := ptd_cmp op_isN is_ok ha hb (nomark _)
theorem ptd_isnt (ha : PEd X W a m1) (hb : PEd X W b m2) : PTd X W (.Compare a [.IsNot] [b] pos) (do let d ← m1; let e ← m2; M.of (isntD d e)) := ptd_cmp op_notN isnt_ok ha hb (nomark _)
/-- a op b op' c, as a test -/
theorem ptd_chain {op op' : CmpOp} {r r' : R2} {f f' : D → D → Option Bool} (ho : OpR X (compareOp op) r) (ho' : OpR X (compareOp op') r') (hs : CmpD X r f) (hs' : CmpD X r' f') (ha : PEd X W a m1) (hb : PEd X W b m2) (hc : PEd X W c m3)
    (hm : lastMarks [op, op'] [b, c] = false := by with_unfolding_all rfl) : PTd X W (.Compare a [op, op'] [b, c] pos) (do let d ← m1; let e ← m2; let k ← M.of (f d e); if k = true then (do let g ← m3; M.of (f' e g)) else pure false) :=
  PT.weak (pt_chain ho ho' ha hb hc hm) fun σ H Q ⟨G, η, ok, h⟩ => by
    show tChain r r' (tE X W m1) (tE X W m2) (tE X W m3) σ H fun x H' => ∃ k, x = .bl k ∧ Q k H'
    refine ⟨G, η, ok, (Post.bind (R := RD X G σ) h).imp fun x H1 ⟨η1, d, a1⟩ => ⟨G, η1, a1.ok, (Post.bind (R := RD X G σ) a1.post).imp fun y H2 ⟨η2, e, a2⟩ => ?_⟩⟩
    obtain ⟨k, ek, η3, k', a3⟩ := Post.ofB a2.ok (Post.bind (R := RB) a2.post)
    have e3 : k' = k := a3.r
    subst e3
    refine hs _ H2 x y d e k' _ a2.ok.domOk (carry a2.shr a2.st a1.r).t (Den.t a2.r) ek ⟨k', rfl, ?_⟩
    cases k' with
    | false => exact iteF ⟨false, rfl, a3.post _ _ .refl .refl a3.ok rfl⟩
    | true =>
      refine iteT ⟨G, η3, a3.ok, (Post.bind (R := RD X G σ) a3.post).imp fun z H4 ⟨η4, g, a4⟩ => ?_⟩
      obtain ⟨k2, ek2, q⟩ := Post.ofB a4.ok a4.post
      exact hs' _ H4 y z e g k2 _ a4.ok.domOk (carry (a3.shr.trans a4.shr) (a3.st.trans a4.st fun a f => .inl (a3.shr.fo f)) a2.r).t (Den.t a4.r) ek2 ⟨k2, rfl, q⟩
/-- .. as a value -/
theorem pd_chain {op op' : CmpOp} {r r' : R2} {f f' : D → D → Option Bool} (ho : OpR X (compareOp op) r) (ho' : OpR X (compareOp op') r') (hs : CmpD X r f) (hs' : CmpD X r' f') (ha : PEd X W a m1) (hb : PEd X W b m2) (hc : PEd X W c m3)
    (hm : lastMarks [op, op'] [b, c] = false := by with_unfolding_all rfl) : PEd X W (.Compare a [op, op'] [b, c] pos) (do let d ← m1; let e ← m2; let k ← M.of (f d e); if k = true then (do let g ← m3; M.of ((f' e g).map D.bl)) else pure (.bl false)) :=
  PE.weak (pe_chain ho ho' ha hb hc hm) fun σ H Q ⟨G, η, ok, h⟩ => by
    refine ⟨G, η, ok, (Post.bind (R := RD X G σ) h).imp fun x H1 ⟨η1, d, a1⟩ => ⟨G, η1, a1.ok, (Post.bind (R := RD X G σ) a1.post).imp fun y H2 ⟨η2, e, a2⟩ => ?_⟩⟩
    obtain ⟨k, ek, η3, k', a3⟩ := Post.ofB a2.ok (Post.bind (R := RB) a2.post)
    have e3 : k' = k := a3.r
    subst e3
    refine hs _ H2 x y d e k' _ a2.ok.domOk (carry a2.shr a2.st a1.r).t (Den.t a2.r) ek ⟨k', rfl, ?_⟩
    cases k' with
    | false => exact iteF (a3.post _ _ .refl .refl a3.ok rfl)
    | true =>
      refine iteT ⟨G, η3, a3.ok, (Post.bind (R := RD X G σ) a3.post).imp fun z H4 ⟨η4, g, a4⟩ => ?_⟩
      obtain ⟨g2, ek2, q⟩ := Post.of a4.ok a4.post
      cases ek3 : f' e g with
      | none => rw [ek3] at ek2; cases ek2
      | some k2 =>
        rw [ek3] at ek2
        cases ek2
        exact hs' _ H4 y z e g k2 _ a4.ok.domOk (carry (a3.shr.trans a4.shr) (a3.st.trans a4.st fun a f => .inl (a3.shr.fo f)) a2.r).t (Den.t a4.r) ek3 (q _ _ (Same.refl _) rfl)

/-! ### subscripts -/
def idxD : D → D → Option D
  | .tup ds, .int i => atI ds i
  | .lst ds, .int i => atI ds i
  | .str x, .int i => if lenOk x.length = true then (atI x.cps.toList i).map fun c => .str ⟨#[c]⟩ else none
  | _, _ => none
theorem at_dens {Z : Addr → Prop} {K : PySem.W.Frag} {H : Hp} {ds : List D} {xs : List V} {i : Int} {d : D} (h : Dens Z K H ds xs) (e : atI ds i = some d) : ∃ v, atI xs i = some v ∧ Den Z K H d v := by
  unfold atI at e ⊢
  rw [← h.length]
  cases q : ixN ds.length i with
  | none => rw [q] at e; cases e
  | some j =>
    rw [q] at e
    exact h.get e
theorem idx_ok : OpD X (rIx X.K) idxD := by
  intro Z H x y d e g Q hz hx hy hf k
  unfold idxD at hf
  split at hf
  · obtain ⟨p, xs, rfl, hp, dp⟩ := hx
    obtain ⟨v, ev, dv⟩ := at_dens dp hf
    exact .inr (.inl ⟨p, xs, _, v, rfl, hy, hp, ev, k _ _ (Same.refl _) dv⟩)
  · obtain ⟨p, xs, rfl, hp, dp⟩ := hx
    obtain ⟨v, ev, dv⟩ := at_dens dp hf
    exact .inl ⟨p, xs, _, v, rfl, hy, .of hp, ev, k _ _ (Same.refl _) dv⟩
  · split at hf
    · rename_i x' i hl
      cases q : atI x'.cps.toList i with
      | none => rw [q] at hf; cases hf
      | some c =>
        rw [q] at hf
        cases hf
        exact .inr (.inr ⟨x', i, c, hx, hy, lenOk_line hl, q, k _ _ (Same.refl _) rfl⟩)
    · cases hf
  · cases hf
theorem pd_ix (ha : PEd X W a m1) (hb : PEd X W b m2) (hs : PlainIx b := by exact fun _ _ => rfl) : PEd X W (.Subscript a b pos) (do let d ← m1; let e ← m2; M.of (idxD d e)) :=
  PE.weak (pe_ix ix_seq ha hb hs) fun σ H Q h => two_of idx_ok h
theorem pv_ix {m1 m2 : M AV} (ha : PVd X W a m1) (hb : PVd X W b m2) (hs : PlainIx b := by exact fun _ _ => rfl) : PEd X W (.Subscript a b pos) (do let a ← m1; let b ← m2; let d ← a.res; let e ← b.res; M.of (idxD d e)) :=
  PE.weak (pe_ix ix_seq ha hb hs) fun σ H Q h => twoV_of idx_ok h

/-! ### slices -/
def cutL {α : Type} (xs : List α) (lo hi : Option Int) : List α := (xs.drop (HT.sIx xs.length 0 lo)).take (HT.sIx xs.length xs.length hi - HT.sIx xs.length 0 lo)
theorem cut_dens {Z : Addr → Prop} {K : PySem.W.Frag} {H : Hp} {ds : List D} {xs : List V} {lo hi : Option Int} (h : Dens Z K H ds xs) : Dens Z K H (cutL ds lo hi) (cutV xs lo hi) := by
  unfold cutL cutV
  rw [← h.length]
  exact (h.drop _).take _
def tO (X : Cx) (W : WX) (m : M (Option Int)) : TO := fun σ H Q => ∃ G η, Ok G X.K η σ H ∧ Post X W G η σ H (fun _ _ a b => a = b) Q (m η)
def POd (X : Cx) (W : WX) (e : Option Expr) (m : M (Option Int)) : Prop := PO X e (tO X W m)
def asI : D → Option Int
  | .int i => some i
  | _ => none
theorem asI_some {d : D} {k : Int} (h : asI d = some k) : d = .int k := by
  cases d <;> cases h
  rfl
theorem PO.weak {e : Option Expr} {t u : TO} (h : PO X e t) (i : ∀ σ H Q, u σ H Q → t σ H Q) : PO X e u := ⟨fun pins s σ H Q I q => h.run pins s σ H Q I (i σ H Q q)⟩
theorem pod_none : POd X W none (pure none) := PO.weak po_none fun σ H Q ⟨G, η, ok, h⟩ => h none H .refl .refl ok rfl
theorem pod_some {m : M D} (h : PEd X W e m) : POd X W (some e) (do let d ← m; M.of ((asI d).map some)) := PO.weak (po_some h) fun σ H Q ⟨G, η, ok, h⟩ => ⟨G, η, ok, (Post.bind (R := RD X G σ) h).imp fun x H1 ⟨η1, d, a1⟩ => by
  have q := a1.post
  cases ei : asI d with
  | none => rw [ei] at q; exact q.elim
  | some i =>
    rw [ei] at q
    have e := asI_some ei
    subst e
    exact ⟨i, a1.r, q _ _ .refl .refl a1.ok rfl⟩⟩
def cutD (d : D) (lo hi : Option Int) : Option D := match d with
  | .tup ds => some (.tup (cutL ds lo hi))
  | .lst ds => some (.lst (cutL ds lo hi))
  | _ => none
def rSlD (K : PySem.W.Frag) : V → Option Int → Option Int → Hp → VK → Prop := fun x lo hi H Q => rSlA K x lo hi H Q ∨ rSlL K x lo hi H Q
theorem cutL_all {α : Type} {xs : List α} {lo hi : Option Int} (h : HT.sIx xs.length 0 lo = 0 ∧ HT.sIx xs.length xs.length hi = xs.length) : cutL xs lo hi = xs := by
  unfold cutL
  rw [h.1, h.2]
  simp
theorem cut_ok {Z : Addr → Prop} {H : Hp} {x : V} {d g : D} {lo hi : Option Int} {Q : VK} (hz : DomOk Z H) (hx : DenT Z X.K H d x) (hf : cutD d lo hi = some g) (k : ∀ v H', Same H H' → Den Z X.K H' g v → Q v H') : rSlD X.K x lo hi H Q := by
  unfold cutD at hf
  split at hf
  · cases hf
    rename_i ds
    obtain ⟨p, xs, rfl, hp, dp⟩ := hx
    have el : ds.length = xs.length := dp.length
    refine .inl ⟨p, xs, rfl, hp, fun w => ?_, fun _ r hr => k _ _ (same_new hr) (den_newT hr (cut_dens dp))⟩
    rw [cutL_all (by rw [el]; exact w)] at k
    exact k _ _ (Same.refl _) ⟨p, xs, rfl, hp, dp⟩
  · cases hf
    obtain ⟨p, xs, rfl, hp, dp⟩ := hx
    exact .inr ⟨p, xs, rfl, .of hp, fun r hr => k _ _ (same_new hr) (den_new hz hr (cut_dens dp))⟩
  · cases hf
theorem pd_slice {lo hi : Option Expr} {p2 : Pos} {ml mh : M (Option Int)} (he : PEd X W e m1) (hl : POd X W lo ml) (hh : POd X W hi mh) :
    PEd X W (.Subscript e (.Slice lo hi none p2) pos) (do let d ← m1; let l ← ml; let h ← mh; M.of (cutD d l h)) :=
  PE.weak (pe_slice (SlR.or sl_tupA sl_list) he hl hh) fun σ H Q ⟨G, η, ok, h⟩ => by
    refine ⟨G, η, ok, (Post.bind (R := RD X G σ) h).imp fun x H1 ⟨η1, d, a1⟩ => ⟨G, η1, a1.ok, (Post.bind (R := fun _ _ a b => a = b) a1.post).imp fun l H2 ⟨η2, l', a2⟩ => ⟨G, η2, a2.ok, (Post.bind (R := fun _ _ a b => a = b) a2.post).imp fun u H3 ⟨η3, u', a3⟩ => ?_⟩⟩⟩
    have e1 : l' = l := a2.r
    have e2 : u' = u := a3.r
    subst e1 e2
    obtain ⟨g, eg, k⟩ := Post.of a3.ok a3.post
    exact cut_ok a3.ok.domOk (carry (a2.shr.trans a3.shr) (a2.st.trans a3.st fun a f => .inl (a2.shr.fo f)) a1.r).t eg k
theorem pv_slice {lo hi : Option Expr} {p2 : Pos} {m1 : M AV} {ml mh : M (Option Int)} (he : PVd X W e m1) (hl : POd X W lo ml) (hh : POd X W hi mh) :
    PEd X W (.Subscript e (.Slice lo hi none p2) pos) (do let a ← m1; let l ← ml; let h ← mh; let d ← a.res; M.of (cutD d l h)) :=
  PE.weak (pe_slice (SlR.or sl_tupA sl_list) he hl hh) fun σ H Q ⟨G, η, ok, h⟩ => by
    refine ⟨G, η, ok, (Post.bind (R := RV X G σ) h).imp fun x H1 ⟨η1, d, a1⟩ => ⟨G, η1, a1.ok, (Post.bind (R := fun _ _ a b => a = b) a1.post).imp fun l H2 ⟨η2, l', a2⟩ => ⟨G, η2, a2.ok, (Post.bind (R := fun _ _ a b => a = b) a2.post).imp fun u H3 ⟨η3, u', a3⟩ => ?_⟩⟩⟩
    have e1 : l' = l := a2.r
    have e2 : u' = u := a3.r
    subst e1 e2
    obtain ⟨d', dn, h2⟩ := Post.res a3.ok (carryV (a2.shr.trans a3.shr) (a2.st.trans a3.st fun a f => .inl (a2.shr.fo f)) a1.r) a3.post
    obtain ⟨g, eg, k⟩ := Post.of a3.ok h2
    exact cut_ok a3.ok.domOk dn eg k
end
end Pd

namespace Pd
open PySem L2
/-! ### calls of built-in functions -/
inductive DensT (Z : Addr → Prop) (K : PySem.W.Frag) (H : Hp) : List D → List V → Prop where
  | nil : DensT Z K H [] []
  | cons {d : D} {v : V} {ds : List D} {vs : List V} : DenT Z K H d v → DensT Z K H ds vs → DensT Z K H (d :: ds) (v :: vs)
def RVs (X : Cx) (G : Addr → Prop) (σ : St) : Sto → Hp → List AV → List V → Prop := fun η H a v => Paired (RV X G σ η H) a v
def tVs (X : Cx) (W : WX) (m : M (List AV)) : TA := fun σ H Q => ∃ G η, Ok G X.K η σ H ∧ Post X W G η σ H (RVs X G σ) Q (m η)
def PVAd (X : Cx) (W : WX) (es : List Expr) (m : M (List AV)) : Prop := PA X es (tVs X W m)
def resAll : List AV → M (List D)
  | [] => pure []
  | a :: r => do let d ← a.res; let ds ← resAll r; pure (d :: ds)
section
variable {X : Cx} {W : WX} {e a b : Expr} {es : List Expr} {pos : Pos} {G : Addr → Prop} {η η1 : Sto} {σ : St} {H H1 : Hp}
theorem dens_t {Z : Addr → Prop} {K : PySem.W.Frag} : ∀ {ds : List D} {vs : List V}, Dens Z K H ds vs → DensT Z K H ds vs
  | [], _, h => by cases h; exact .nil
  | d :: ds, _, h => by
    obtain ⟨v, r, rfl, h1, h2⟩ := h
    exact .cons h1.t (dens_t h2)
theorem pva_nil : PVAd X W [] (M.pure []) := PA.weak pa_nil fun σ H Q ⟨G, η, ok, h⟩ => h [] H .refl .refl ok .nil
theorem pva_cons {m : M AV} {ms : M (List AV)} (ha : PVd X W e m) (hr : PVAd X W es ms) (hs : starEach (e :: es) X.env = (false, eval e X.env) :: starEach es X.env := by rfl) : PVAd X W (e :: es) (do let d ← m; let ds ← ms; pure (d :: ds)) :=
  PA.weak (pa_cons ha hr hs) fun σ H Q ⟨G, η, ok, h⟩ => ⟨G, η, ok, (Post.bind (R := RV X G σ) h).imp fun x H1 ⟨η1, d, a1⟩ => ⟨G, η1, a1.ok, (Post.bind (R := RVs X G σ) a1.post).imp fun xs H2 ⟨η2, ds, a2⟩ =>
    a2.post (x :: xs) H2 .refl .refl a2.ok (.cons (carryV a2.shr a2.st a1.r) a2.r)⟩⟩
theorem M.assoc {α β γ : Type} (m : M α) (f : α → M β) (g : β → M γ) : ((m >>= f) >>= g) = (m >>= fun a => f a >>= g) := by
  funext η
  show M.bind (M.bind m f) g η = M.bind m (fun a => M.bind (f a) g) η
  unfold M.bind
  cases m η <;> rfl
theorem Post.resAll {β γ : Type} {R : Sto → Hp → γ → β → Prop} {Q : β → Hp → Prop} (ok : Ok G X.K η σ H) : ∀ {as : List AV} {vs : List V} {k : List D → M γ}, Paired (RV X G σ η H) as vs → Post X W G η σ H R Q ((resAll as >>= k) η) →
    ∃ ds, DensT (Zo G η σ) X.K H ds vs ∧ Post X W G η σ H R Q (k ds η)
  | [], _, k, .nil, h => ⟨[], .nil, h⟩
  | a :: as, _, k, .cons r rs, h => by
    unfold Pd.resAll at h
    rw [M.assoc] at h
    obtain ⟨d, dn, h2⟩ := Post.res ok r h
    rw [M.assoc] at h2
    obtain ⟨ds, dns, h3⟩ := Post.resAll ok rs h2
    exact ⟨d :: ds, .cons dn dns, h3⟩
def CallD (X : Cx) (r : List V → Hp → VK → Prop) (f : List D → Option D) : Prop := ∀ (Z : Addr → Prop) (H : Hp) (xs : List V) (ds : List D) (g : D) (Q : VK), DomOk Z H → DensT Z X.K H ds xs → f ds = some g →
  (∀ v H', Same H H' → Den Z X.K H' g v → Q v H') → r xs H Q
variable {r : List V → Hp → VK → Prop} {f : List D → Option D} {x : Str} {p : Pos} {m : M (List D)}
theorem callT_of (hs : CallD X r f) {Q : VK} (h : tE X W (m >>= fun ds => M.of (f ds)) σ H Q) : tCB r (tA X W m) σ H Q := by
  obtain ⟨G, η, ok, h⟩ := h
  refine ⟨G, η, ok, (Post.bind (R := RDs X G σ) h).imp fun xs H1 ⟨η1, ds, a1⟩ => ?_⟩
  obtain ⟨g, eg, k⟩ := Post.of a1.ok a1.post
  exact hs _ H1 xs ds g Q a1.ok.domOk (dens_t a1.r) eg k
theorem callV_of {m : M (List AV)} (hs : CallD X r f) {Q : VK} (h : tE X W (m >>= fun as => resAll as >>= fun ds => M.of (f ds)) σ H Q) : tCB r (tVs X W m) σ H Q := by
  obtain ⟨G, η, ok, h⟩ := h
  refine ⟨G, η, ok, (Post.bind (R := RVs X G σ) h).imp fun xs H1 ⟨η1, as, a1⟩ => ?_⟩
  obtain ⟨ds, dns, h2⟩ := Post.resAll a1.ok a1.r a1.post
  obtain ⟨g, eg, k⟩ := Post.of a1.ok h2
  exact hs _ H1 xs ds g Q a1.ok.domOk dns eg k
theorem pd_callB {id : String} (hc : CallR X (.builtin id) r) (hs : CallD X r f) (hg : Gl X x) (hm : X.mg x = none) (hv : bootBuiltins x = some (.builtin id)) (ha : PAd X W (e :: es) m) (hn : x ≠ "__name__" := by decide) (hdb : (x == ("__debug__" : Str)) = false := by decide)
    (he : starEach (e :: es) X.env = (false, eval e X.env) :: starEach es X.env := by rfl) (hpl : (backTo pos (starEach es X.env)).any (·.1) = false := by rfl) : PEd X W (.Call (.Name x p) (e :: es) [] pos) (m >>= fun ds => M.of (f ds)) :=
  PE.weak (pe_callB hc hg hm hv ha hn hdb he hpl) fun σ H Q h => callT_of hs h
theorem pd_callTy {T : String} (hc : CallR X (.type T) r) (hs : CallD X r f) (hg : Gl X x) (hm : X.mg x = none) (hv : bootBuiltins x = some (.type T)) (ha : PAd X W (e :: es) m) (hn : x ≠ "__name__" := by decide) (hdb : (x == ("__debug__" : Str)) = false := by decide)
    (he : starEach (e :: es) X.env = (false, eval e X.env) :: starEach es X.env := by rfl) (hpl : (backTo pos (starEach es X.env)).any (·.1) = false := by rfl) : PEd X W (.Call (.Name x p) (e :: es) [] pos) (m >>= fun ds => M.of (f ds)) :=
  PE.weak (pe_callTy hc hg hm hv ha hn hdb he hpl) fun σ H Q h => callT_of hs h
theorem pv_callB {m : M (List AV)} {id : String} (hc : CallR X (.builtin id) r) (hs : CallD X r f) (hg : Gl X x) (hm : X.mg x = none) (hv : bootBuiltins x = some (.builtin id)) (ha : PVAd X W (e :: es) m) (hn : x ≠ "__name__" := by decide) (hdb : (x == ("__debug__" : Str)) = false := by decide)
    (he : starEach (e :: es) X.env = (false, eval e X.env) :: starEach es X.env := by rfl) (hpl : (backTo pos (starEach es X.env)).any (·.1) = false := by rfl) : PEd X W (.Call (.Name x p) (e :: es) [] pos) (m >>= fun as => resAll as >>= fun ds => M.of (f ds)) :=
  PE.weak (pe_callB hc hg hm hv ha hn hdb he hpl) fun σ H Q h => callV_of hs h
theorem pv_callTy {m : M (List AV)} {T : String} (hc : CallR X (.type T) r) (hs : CallD X r f) (hg : Gl X x) (hm : X.mg x = none) (hv : bootBuiltins x = some (.type T)) (ha : PVAd X W (e :: es) m) (hn : x ≠ "__name__" := by decide) (hdb : (x == ("__debug__" : Str)) = false := by decide)
    (he : starEach (e :: es) X.env = (false, eval e X.env) :: starEach es X.env := by rfl) (hpl : (backTo pos (starEach es X.env)).any (·.1) = false := by rfl) : PEd X W (.Call (.Name x p) (e :: es) [] pos) (m >>= fun as => resAll as >>= fun ds => M.of (f ds)) :=
  PE.weak (pe_callTy hc hg hm hv ha hn hdb he hpl) fun σ H Q h => callV_of hs h
/-- f(..), f a module's name for a built-in function -/
theorem pd_callM {id : String} (hc : CallR X (.builtin id) r) (hs : CallD X r f) (hg : Gl X x) (hm : X.mg x = some (.builtin id)) (ha : PAd X W (e :: es) m) (hdb : (x == ("__debug__" : Str)) = false := by decide)
    (he : starEach (e :: es) X.env = (false, eval e X.env) :: starEach es X.env := by rfl) (hpl : (backTo pos (starEach es X.env)).any (·.1) = false := by rfl) : PEd X W (.Call (.Name x p) (e :: es) [] pos) (m >>= fun ds => M.of (f ds)) :=
  PE.weak (pe_callBfun hc hg hm ha hdb he hpl) fun σ H Q h => callT_of hs h

/-! ### which ones, and what they give -/
def lenD : List D → Option D
  | [.tup ds] => some (.int ds.length)
  | [.lst ds] => some (.int ds.length)
  | [.str x] => if lenOk x.length = true then some (.int x.length) else none
  | [.scr ds] => some (.int ds.length)
  | _ => none
theorem len_ok : CallD X (fun xs H Q => ∃ x n, xs = [x] ∧ LenV X.K x H n ∧ Q (.int n) H) lenD := by
  intro Z H xs ds g Q hz h hf k
  unfold lenD at hf
  split at hf
  · cases hf
    cases h with
    | cons h1 h2 =>
      cases h2
      obtain ⟨p, ys, rfl, hp, dp⟩ := h1
      exact ⟨_, _, rfl, .inr ⟨ys, hp, rfl⟩, by rw [← dp.length]; exact k _ _ (Same.refl _) rfl⟩
  · cases hf
    cases h with
    | cons h1 h2 =>
      cases h2
      obtain ⟨p, ys, rfl, hp, dp⟩ := h1
      exact ⟨_, _, rfl, .inl ⟨ys, .of hp, rfl⟩, by rw [← dp.length]; exact k _ _ (Same.refl _) rfl⟩
  · split at hf
    · rename_i hl
      cases hf
      cases h with
      | cons h1 h2 =>
        cases h2
        cases (show _ = V.str _ from h1)
        exact ⟨_, _, rfl, ⟨lenOk_line hl, rfl⟩, k _ _ (Same.refl _) rfl⟩
    · cases hf
  · cases hf
    cases h with
    | cons h1 h2 =>
      cases h2
      obtain ⟨p, rfl, hp⟩ := h1
      exact ⟨_, _, rfl, .inl ⟨_, hp.seq, by rw [List.length_map]⟩, k _ _ (Same.refl _) rfl⟩
  · cases hf
def absD : List D → Option D
  | [.int i] => some (.int (if i < 0 then -i else i))
  | _ => none
theorem abs_ok : CallD X (fun xs H Q => ∃ i, xs = [.int i] ∧ Q (.int (if i < 0 then -i else i)) H) absD := by
  intro Z H xs ds g Q hz h hf k
  unfold absD at hf
  split at hf
  · cases hf
    cases h with
    | cons h1 h2 =>
      cases h2
      cases (show _ = V.int _ from h1)
      exact ⟨_, rfl, k _ _ (Same.refl _) rfl⟩
  · cases hf
def max2D : List D → Option D
  | [.int i, .int j] => some (.int (if j > i then j else i))
  | _ => none
theorem max2_ok : CallD X (fun xs H Q => ∃ i j, xs = [.int i, .int j] ∧ Q (.int (if j > i then j else i)) H) max2D := by
  intro Z H xs ds g Q hz h hf k
  unfold max2D at hf
  split at hf
  · cases hf
    cases h with
    | cons h1 h2 =>
      cases h2 with
      | cons h2 h3 =>
        cases h3
        cases (show _ = V.int _ from h1)
        cases (show _ = V.int _ from h2)
        exact ⟨_, _, rfl, k _ _ (Same.refl _) rfl⟩
  · cases hf
def min2D : List D → Option D
  | [.int i, .int j] => some (.int (if j < i then j else i))
  | _ => none
theorem min2_ok : CallD X (fun xs H Q => ∃ i j, xs = [.int i, .int j] ∧ Q (.int (if j < i then j else i)) H) min2D := by
  intro Z H xs ds g Q hz h hf k
  unfold min2D at hf
  split at hf
  · cases hf
    cases h with
    | cons h1 h2 =>
      cases h2 with
      | cons h2 h3 =>
        cases h3
        cases (show _ = V.int _ from h1)
        cases (show _ = V.int _ from h2)
        exact ⟨_, _, rfl, k _ _ (Same.refl _) rfl⟩
  · cases hf
def intD : List D → Option D
  | [.int i] => some (.int i)
  | [.bl b] => some (.int (if b then 1 else 0))
  | _ => none
theorem int_ok : CallD X (fun xs H Q => (∃ i, xs = [.int i] ∧ Q (.int i) H) ∨ ∃ k, xs = [.bl k] ∧ Q (.int (if k then 1 else 0)) H) intD := by
  intro Z H xs ds g Q hz h hf k
  unfold intD at hf
  split at hf
  · cases hf
    cases h with
    | cons h1 h2 =>
      cases h2
      cases (show _ = V.int _ from h1)
      exact .inl ⟨_, rfl, k _ _ (Same.refl _) rfl⟩
  · cases hf
    cases h with
    | cons h1 h2 =>
      cases h2
      cases (show _ = V.bl _ from h1)
      exact .inr ⟨_, rfl, k _ _ (Same.refl _) rfl⟩
  · cases hf
def gcdD : List D → Option D
  | [.int i, .int j] => some (.int ((Nat.gcd i.natAbs j.natAbs : Nat) : Int))
  | _ => none
theorem gcd_ok : CallD X rGcd gcdD := by
  intro Z H xs ds g Q hz h hf k
  unfold gcdD at hf
  split at hf
  · cases hf
    cases h with
    | cons h1 h2 =>
      cases h2 with
      | cons h2 h3 =>
        cases h3
        cases (show _ = V.int _ from h1)
        cases (show _ = V.int _ from h2)
        exact ⟨_, _, rfl, k _ _ (Same.refl _) rfl⟩
  · cases hf
def listD : List D → Option D
  | [.tup ds] => some (.lst ds)
  | [.lst ds] => some (.lst ds)
  | _ => none
theorem list_ok : CallD X (fun xs H Q => ∃ p ys, xs = [.ref p] ∧ (SqL X.K H p ys ∨ SqT X.K H p ys) ∧ ∀ l, H l = none → Q (.ref l) (upd H l (.lst ys))) listD := by
  intro Z H xs ds g Q hz h hf k
  unfold listD at hf
  split at hf
  · cases hf
    cases h with
    | cons h1 h2 =>
      cases h2
      obtain ⟨p, ys, rfl, hp, dp⟩ := h1
      exact ⟨p, ys, rfl, .inr hp, fun l hl => k _ _ (same_new hl) (den_new hz hl dp)⟩
  · cases hf
    cases h with
    | cons h1 h2 =>
      cases h2
      obtain ⟨p, ys, rfl, hp, dp⟩ := h1
      exact ⟨p, ys, rfl, .inl (.of hp), fun l hl => k _ _ (same_new hl) (den_new hz hl dp)⟩
  · cases hf
def tupleD : List D → Option D
  | [.tup ds] => some (.tup ds)
  | [.lst ds] => some (.tup ds)
  | _ => none
theorem tuple_ok : CallD X (fun xs H Q => ∃ p ys, xs = [.ref p] ∧ ((SqL X.K H p ys ∧ ∀ l, H l = none → Q (.ref l) (upd H l (.tup ys))) ∨ (SqT X.K H p ys ∧ Q (.ref p) H))) tupleD := by
  intro Z H xs ds g Q hz h hf k
  unfold tupleD at hf
  split at hf
  · cases hf
    cases h with
    | cons h1 h2 =>
      cases h2
      obtain ⟨p, ys, rfl, hp, dp⟩ := h1
      exact ⟨p, ys, rfl, .inr ⟨hp, k _ _ (Same.refl _) ⟨p, ys, rfl, hp, dp⟩⟩⟩
  · cases hf
    cases h with
    | cons h1 h2 =>
      cases h2
      obtain ⟨p, ys, rfl, hp, dp⟩ := h1
      exact ⟨p, ys, rfl, .inl ⟨.of hp, fun l hl => k _ _ (same_new hl) (den_newT hl dp)⟩⟩
  · cases hf
def bls : List D → Option (List Bool)
  | [] => some []
  | .bl b :: r => (bls r).map fun bs => b :: bs
  | _ => none
theorem bls_some : ∀ {ds : List D} {bs : List Bool}, bls ds = some bs → ds = bs.map D.bl
  | [], _, h => by cases h; rfl
  | .bl b :: r, bs, h => by
    unfold bls at h
    cases q : bls r with
    | none => rw [q] at h; cases h
    | some cs =>
      rw [q] at h
      cases h
      rw [bls_some q]
      rfl
  | .non :: r, _, h => by cases h
  | .int _ :: r, _, h => by cases h
  | .str _ :: r, _, h => by cases h
  | .tup _ :: r, _, h => by cases h
  | .lst _ :: r, _, h => by cases h
  | .dct _ _ :: r, _, h => by cases h
  | .scr _ :: r, _, h => by cases h
def allD : List D → Option D
  | [.lst ds] => (bls ds).map fun bs => .bl (bs.all id)
  | _ => none
def anyD : List D → Option D
  | [.lst ds] => (bls ds).map fun bs => .bl (bs.any id)
  | _ => none
theorem all_ok : CallD X (rAll X.K) allD := by
  intro Z H xs ds g Q hz h hf k
  unfold allD at hf
  split at hf
  · rename_i ds'
    cases q : bls ds' with
    | none => rw [q] at hf; cases hf
    | some bs =>
      rw [q] at hf
      cases hf
      have e := bls_some q
      subst e
      cases h with
      | cons h1 h2 =>
        cases h2
        obtain ⟨p, ys, rfl, hp, dp⟩ := h1
        have e := dp.bls
        subst e
        exact ⟨p, bs, rfl, .of hp, k _ _ (Same.refl _) rfl⟩
  · cases hf
theorem any_ok : CallD X (rAny X.K) anyD := by
  intro Z H xs ds g Q hz h hf k
  unfold anyD at hf
  split at hf
  · rename_i ds'
    cases q : bls ds' with
    | none => rw [q] at hf; cases hf
    | some bs =>
      rw [q] at hf
      cases hf
      have e := bls_some q
      subst e
      cases h with
      | cons h1 h2 =>
        cases h2
        obtain ⟨p, ys, rfl, hp, dp⟩ := h1
        have e := dp.bls
        subst e
        exact ⟨p, bs, rfl, .of hp, k _ _ (Same.refl _) rfl⟩
  · cases hf
def tyOf : D → String
  | .non => "NoneType"
  | .bl _ => "bool"
  | .int _ => "int"
  | .str _ => "str"
  | .tup _ => "tuple"
  | .lst _ => "list"
  | .dct _ _ => "dict"
  | .scr _ => "list"
theorem ty_of {Z : Addr → Prop} {K : PySem.W.Frag} : ∀ {d : D} {v : V}, DenT Z K H d v → TyX K H v (.type (tyOf d))
  | .non, _, h => by cases (show _ = V.non from h); exact .base .non
  | .bl b, _, h => by cases (show _ = V.bl b from h); exact .base (.bl b)
  | .int b, _, h => by cases (show _ = V.int b from h); exact .base (.int b)
  | .str b, _, h => by cases (show _ = V.str b from h); exact .base (.str b)
  | .tup _, _, ⟨a, xs, e, h, _⟩ => by
    subst e
    rcases h with (h | ⟨o, h⟩) | ⟨o, its, n, h, hc, _⟩
    · exact .base (.tup h)
    · exact .fTuple h
    · exact .kTuple h hc
  | .lst _, _, ⟨a, xs, e, h, _⟩ => by
    subst e
    exact .base (.lst h)
  | .dct _ _, _, ⟨a, xs, e, h, _⟩ => by
    subst e
    exact .base (.dK h)
  | .scr _, _, ⟨a, e, h⟩ => by
    subst e
    rcases h with ⟨o, h⟩ | ⟨o, its, n, h, hc, _⟩
    · exact .base (.frz h)
    · exact .kList h hc
def isiD (T : String) (d : D) : Option D := (kitB (tyOf d) T).map D.bl
/-- isinstance(e, T), T a built-in class -/
theorem pv_isi {T : String} {t : Str} {p1 p2 : Pos} {m : M AV} (ha : PVd X W a m) (hg : Gl X "isinstance") (hm : X.mg "isinstance" = none) (hgT : Gl X t) (hmT : X.mg t = none) (hvT : bootBuiltins t = some (.type T)) (hnT : t ≠ "__name__" := by decide) (hdbT : (t == ("__debug__" : Str)) = false := by decide)
    (he : starEach (a :: [.Name t p1]) X.env = (false, eval a X.env) :: starEach [.Name t p1] X.env := by rfl) (he2 : starEach ([.Name t p1]) X.env = (false, eval (.Name t p1) X.env) :: starEach [] X.env := by rfl) (hpl : (backTo pos (starEach [.Name t p1] X.env)).any (·.1) = false := by rfl) :
    PEd X W (.Call (.Name "isinstance" p2) [a, .Name t p1] [] pos) (do let a ← m; let d ← a.res; M.of (isiD T d)) :=
  PE.weak (pe_callB call_isi hg hm (by decide +kernel) (pa_cons ha (pa_cons (pe_bltn (v := .ty T) hgT hmT hvT rfl hnT hdbT) pa_nil he2) he) (by decide) (by decide) he hpl) fun σ H Q ⟨G, η, ok, h⟩ => by
    refine ⟨G, η, ok, (Post.bind (R := RV X G σ) h).imp fun x H1 ⟨η1, d, a1⟩ => ?_⟩
    obtain ⟨d', dn, h2⟩ := Post.res a1.ok a1.r a1.post
    obtain ⟨g, eg, k⟩ := Post.of a1.ok h2
    unfold isiD at eg
    cases q : kitB (tyOf d') T with
    | none => rw [q] at eg; cases eg
    | some b =>
      rw [q] at eg
      cases eg
      exact ⟨x, .ty T, _, _, b, rfl, .ty T, ty_of dn, kit_ty q, k _ _ (Same.refl _) rfl⟩
theorem pd_isi {T : String} {t : Str} {p1 p2 : Pos} {m : M D} (ha : PEd X W a m) (hg : Gl X "isinstance") (hm : X.mg "isinstance" = none) (hgT : Gl X t) (hmT : X.mg t = none) (hvT : bootBuiltins t = some (.type T)) (hnT : t ≠ "__name__" := by decide) (hdbT : (t == ("__debug__" : Str)) = false := by decide)
    (he : starEach (a :: [.Name t p1]) X.env = (false, eval a X.env) :: starEach [.Name t p1] X.env := by rfl) (he2 : starEach ([.Name t p1]) X.env = (false, eval (.Name t p1) X.env) :: starEach [] X.env := by rfl) (hpl : (backTo pos (starEach [.Name t p1] X.env)).any (·.1) = false := by rfl) :
    PEd X W (.Call (.Name "isinstance" p2) [a, .Name t p1] [] pos) (do let d ← m; M.of (isiD T d)) :=
  PE.weak (pv_isi ha.v hg hm hgT hmT hvT hnT hdbT he he2 hpl) fun σ H Q ⟨G, η, ok, h⟩ => ⟨G, η, ok, by rw [M.assoc]; exact h⟩
end
end Pd

namespace Pd
open PySem L2
/-! ### what a def promises -/
def PostF (K : PySem.W.Frag) (mg : Str → Option Value) (G : Addr → Prop) (as : Sto) (σ : St) (H : Hp) (R : Sto → Hp → D → V → Prop) (Q : VK) (E : XK) : Res D → Prop
  | .ok d as' => ∀ v H', Shr as as' → Step (Fo as σ) H H' → Ok G K as' σ H' → R as' H' d v → Q v H'
  | .exc c as' => ∀ C H', mg c = some (.ref C) → Shr as as' → Step (Fo as σ) H H' → Ok G K as' σ H' → E (.ref C) none H'
  | .bad => False
def spD (K : PySem.W.Frag) (mg : Str → Option Value) (n : Nat) (m : M D) : Sp := fun vs H Q E => ∃ G as, vs.length = n ∧ Ok G K as (vs.map some) H ∧ PostF K mg G as (vs.map some) H (fun η H' d v => Den (Zo G η (vs.map some)) K H' d v) Q E (m as)
def spF (K : PySem.W.Frag) (mg : Str → Option Value) (n : Nat) (m : M D) : Sp := fun vs H Q E => ∃ G as, vs.length = n ∧ Ok G K as (vs.map some) H ∧ PostF K mg G as (vs.map some) H
  (fun η H' d v => ∃ p, v = .ref p ∧ H p = none ∧ Cell (fun a => Zo G η (vs.map some) a ∨ a = p) K H' p d ∧ Ok (fun a => G a ∨ a = p) K η (vs.map some) H') Q E (m as)
theorem PostF.imp {K : PySem.W.Frag} {mg : Str → Option Value} {G : Addr → Prop} {as : Sto} {σ : St} {H : Hp} {R R' : Sto → Hp → D → V → Prop} {Q : VK} {E : XK} {r : Res D} (h : PostF K mg G as σ H R Q E r)
    (i : ∀ as' H' d v, Shr as as' → Step (Fo as σ) H H' → Ok G K as' σ H' → R' as' H' d v → R as' H' d v) : PostF K mg G as σ H R' Q E r := by
  cases r with
  | ok d as' => exact fun v H' a b c q => h v H' a b c (i _ _ _ _ a b c q)
  | exc c as' => exact h
  | bad => exact h
/-- another function that says the same where it says something -/
def Says (m m' : M D) : Prop := ∀ as, m' as = .bad ∨ m as = m' as
theorem spD.says {K : PySem.W.Frag} {mg : Str → Option Value} {n : Nat} {m m' : M D} (h : Says m m') (vs : List V) (H : Hp) (Q : VK) (E : XK) : spD K mg n m' vs H Q E → spD K mg n m vs H Q E := fun ⟨G, as, hn, ok, q⟩ => by
  refine ⟨G, as, hn, ok, ?_⟩
  rcases h as with e | e
  · rw [e] at q
    exact q.elim
  · rw [e]
    exact q
theorem spF.says {K : PySem.W.Frag} {mg : Str → Option Value} {n : Nat} {m m' : M D} (h : Says m m') (vs : List V) (H : Hp) (Q : VK) (E : XK) : spF K mg n m' vs H Q E → spF K mg n m vs H Q E := fun ⟨G, as, hn, ok, q⟩ => by
  refine ⟨G, as, hn, ok, ?_⟩
  rcases h as with e | e
  · rw [e] at q
    exact q.elim
  · rw [e]
    exact q

/-! ### data without lists -/
mutual
def noLst : D → Bool
  | .lst _ => false
  | .dct _ _ => false
  | .tup ds => noLsts ds
  | _ => true
def noLsts : List D → Bool
  | [] => true
  | d :: ds => noLst d && noLsts ds
end
section
variable {Z Z' : Addr → Prop} {K : PySem.W.Frag} {H : Hp}
mutual
theorem Den.free : ∀ {d : D} {v : V}, noLst d = true → Den Z K H d v → Den Z' K H d v
  | .non, _, _, h => h
  | .bl _, _, _, h => h
  | .int _, _, _, h => h
  | .str _, _, _, h => h
  | .scr _, _, _, h => h
  | .tup ds, _, n, h => by
    obtain ⟨a, xs, e, q, r⟩ := h
    unfold noLst at n
    exact ⟨a, xs, e, q, Dens.free n r⟩
  | .lst _, _, n, _ => by unfold noLst at n; cases n
  | .dct _ _, _, n, _ => by unfold noLst at n; cases n
theorem Dens.free : ∀ {ds : List D} {xs : List V}, noLsts ds = true → Dens Z K H ds xs → Dens Z' K H ds xs
  | [], _, _, h => h
  | d :: ds, _, n, h => by
    obtain ⟨v, r, e, h1, h2⟩ := h
    unfold noLsts at n
    rw [Bool.and_eq_true] at n
    exact ⟨v, r, e, Den.free n.1 h1, Dens.free n.2 h2⟩
end
end
/-- .. within a list or dict -/
def noLstIn : D → Bool
  | .lst ds => noLsts ds
  | .dct _ ds => noLsts ds
  | _ => true
theorem Cell.free {Z Z' : Addr → Prop} {K : PySem.W.Frag} {H : Hp} {p : Addr} : ∀ {d : D}, noLstIn d = true → Cell Z K H p d → Cell Z' K H p d
  | .lst ds, n, ⟨xs, e, q⟩ => ⟨xs, e, q.free n⟩
  | .dct _ ds, n, ⟨xs, e, r, q⟩ => ⟨xs, e, r, q.free n⟩
theorem Cell.less {Z Z' : Addr → Prop} {K : PySem.W.Frag} {H : Hp} {p : Addr} (hz : ∀ a, Z' a → Z a) : ∀ {d : D}, Cell Z K H p d → Cell Z' K H p d
  | .lst ds, ⟨xs, e, q⟩ => ⟨xs, e, q.less hz⟩
  | .dct _ ds, ⟨xs, e, r, q⟩ => ⟨xs, e, r, q.less hz⟩

/-! ### a call of a def: its arguments; jo tells which one it may change -/
def mkA (η : Sto) : Option Nat → List AV → Option Sto
  | _, [] => some []
  | some 0, .bor i :: r => match η[i]? with
    | some (.own _ d) => (mkA η none r).map fun as => .own true d :: as
    | _ => none
  | some 0, .val _ :: _ => none
  | some (j + 1), .bor i :: r => match η[i]? with
    | some (.own _ d) => (mkA η (some j) r).map fun as => .val d :: as
    | _ => none
  | none, .bor i :: r => match η[i]? with
    | some (.own _ d) => (mkA η none r).map fun as => .val d :: as
    | _ => none
  | some (j + 1), .val d :: r => (mkA η (some j) r).map fun as => .val d :: as
  | none, .val d :: r => (mkA η none r).map fun as => .val d :: as
/-- the slots that are only read -/
def bors : Option Nat → List AV → List Nat
  | _, [] => []
  | some 0, _ :: r => bors none r
  | some (j + 1), .bor i :: r => i :: bors (some j) r
  | none, .bor i :: r => i :: bors none r
  | some (j + 1), .val _ :: r => bors (some j) r
  | none, .val _ :: r => bors none r
def ioIx (jo : Option Nat) (avs : List AV) : Option Nat := match jo with
  | none => none
  | some j => match avs[j]? with
    | some (.bor i) => some i
    | _ => none
def chk (jo : Option Nat) (avs : List AV) : Bool := match ioIx jo avs with
  | none => true
  | some i => !(bors jo avs).contains i
def ioD (jo : Option Nat) (as : Sto) : D := match jo with
  | none => .non
  | some j => match as[j]? with
    | some (.own _ d) => d
    | _ => .non
def clean (n : D → Bool) (jo : Option Nat) (avs : List AV) (d : D) (as : Sto) : Bool := (bors jo avs).isEmpty || (n d && noLstIn (ioD jo as))
def wb (η : Sto) (jo : Option Nat) (avs : List AV) (as : Sto) : Sto := match ioIx jo avs with
  | none => η
  | some i => match η[i]? with
    | some (.own b _) => η.set i (.own b (ioD jo as))
    | _ => η
def finM (n : D → Bool) (η : Sto) (jo : Option Nat) (avs : List AV) : Res D → Res D
  | .ok d as => if clean n jo avs d as = true then .ok d (wb η jo avs as) else .bad
  | .exc c as => if clean n jo avs .non as = true then .exc c (wb η jo avs as) else .bad
  | .bad => .bad
def callM (n : D → Bool) (f : M D) (jo : Option Nat) (avs : List AV) : M D := fun η => match mkA η jo avs with
  | none => .bad
  | some as => if chk jo avs = true then finM n η jo avs (f as) else .bad
theorem mkA_get {η : Sto} : ∀ {avs : List AV} {jo : Option Nat} {as : Sto}, mkA η jo avs = some as → as.length = avs.length ∧ ∀ (j : Nat) (s : Slot), as[j]? = some s →
    (∃ d, avs[j]? = some (.val d) ∧ s = .val d ∧ jo ≠ some j) ∨ (∃ i b d, avs[j]? = some (.bor i) ∧ η[i]? = some (.own b d) ∧ s = .val d ∧ i ∈ bors jo avs ∧ jo ≠ some j) ∨ (∃ i b d, avs[j]? = some (.bor i) ∧ η[i]? = some (.own b d) ∧ s = .own true d ∧ jo = some j)
  | [], jo, as, h => by
    have e : as = [] := by
      cases jo with
      | none => cases h; rfl
      | some j => cases j <;> (cases h; rfl)
    subst e
    exact ⟨rfl, fun j s e => by simp at e⟩
  | .val d :: r, jo, as, h => by
    have step : ∀ (jo' : Option Nat) (as' : Sto), mkA η jo' r = some as' → as = .val d :: as' → (∀ j, jo = some (j + 1) ↔ jo' = some j) → jo ≠ some 0 → (∀ i, i ∈ bors jo' r → i ∈ bors jo (.val d :: r)) →
        as.length = (AV.val d :: r).length ∧ ∀ (j : Nat) (s : Slot), as[j]? = some s →
          (∃ d', (AV.val d :: r)[j]? = some (.val d') ∧ s = .val d' ∧ jo ≠ some j) ∨ (∃ i b d', (AV.val d :: r)[j]? = some (.bor i) ∧ η[i]? = some (.own b d') ∧ s = .val d' ∧ i ∈ bors jo (.val d :: r) ∧ jo ≠ some j) ∨
            (∃ i b d', (AV.val d :: r)[j]? = some (.bor i) ∧ η[i]? = some (.own b d') ∧ s = .own true d' ∧ jo = some j) := by
      intro jo' as' h1 e h2 h3 h4
      obtain ⟨l, g⟩ := mkA_get h1
      subst e
      refine ⟨by simp [l], fun j s es => ?_⟩
      cases j with
      | zero =>
        simp at es
        subst es
        exact .inl ⟨d, rfl, rfl, h3⟩
      | succ j =>
        rcases g j s (by simpa using es) with ⟨d', q1, q2, q3⟩ | ⟨i, b, d', q1, q2, q3, q4, q5⟩ | ⟨i, b, d', q1, q2, q3, q4⟩
        · exact .inl ⟨d', by simpa using q1, q2, fun z => q3 ((h2 j).mp z)⟩
        · exact .inr (.inl ⟨i, b, d', by simpa using q1, q2, q3, h4 i q4, fun z => q5 ((h2 j).mp z)⟩)
        · exact .inr (.inr ⟨i, b, d', by simpa using q1, q2, q3, (h2 j).mpr q4⟩)
    cases jo with
    | none =>
      unfold mkA at h
      cases q : mkA η none r with
      | none => rw [q] at h; cases h
      | some as' =>
        rw [q] at h
        cases h
        exact step none as' q rfl (by simp) (by simp) (fun i z => z)
    | some n =>
      cases n with
      | zero => cases h
      | succ n =>
        unfold mkA at h
        cases q : mkA η (some n) r with
        | none => rw [q] at h; cases h
        | some as' =>
          rw [q] at h
          cases h
          exact step (some n) as' q rfl (by simp) (by simp) (fun i z => z)
  | .bor i0 :: r, jo, as, h => by
    have step : ∀ (jo' : Option Nat) (as' : Sto) (b : Bool) (d : D) (s0 : Slot), mkA η jo' r = some as' → η[i0]? = some (.own b d) → as = s0 :: as' → (∀ j, jo = some (j + 1) ↔ jo' = some j) →
        ((s0 = .val d ∧ jo ≠ some 0 ∧ i0 ∈ bors jo (.bor i0 :: r)) ∨ (s0 = .own true d ∧ jo = some 0)) → (∀ i, i ∈ bors jo' r → i ∈ bors jo (.bor i0 :: r)) →
        as.length = (AV.bor i0 :: r).length ∧ ∀ (j : Nat) (s : Slot), as[j]? = some s →
          (∃ d', (AV.bor i0 :: r)[j]? = some (.val d') ∧ s = .val d' ∧ jo ≠ some j) ∨ (∃ i b d', (AV.bor i0 :: r)[j]? = some (.bor i) ∧ η[i]? = some (.own b d') ∧ s = .val d' ∧ i ∈ bors jo (.bor i0 :: r) ∧ jo ≠ some j) ∨
            (∃ i b d', (AV.bor i0 :: r)[j]? = some (.bor i) ∧ η[i]? = some (.own b d') ∧ s = .own true d' ∧ jo = some j) := by
      intro jo' as' b d s0 h1 e0 e h2 h3 h4
      obtain ⟨l, g⟩ := mkA_get h1
      subst e
      refine ⟨by simp [l], fun j s es => ?_⟩
      cases j with
      | zero =>
        simp at es
        subst es
        rcases h3 with ⟨z1, z2, z3⟩ | ⟨z1, z2⟩
        · exact .inr (.inl ⟨i0, b, d, rfl, e0, z1, z3, z2⟩)
        · exact .inr (.inr ⟨i0, b, d, rfl, e0, z1, z2⟩)
      | succ j =>
        rcases g j s (by simpa using es) with ⟨d', q1, q2, q3⟩ | ⟨i, b, d', q1, q2, q3, q4, q5⟩ | ⟨i, b, d', q1, q2, q3, q4⟩
        · exact .inl ⟨d', by simpa using q1, q2, fun z => q3 ((h2 j).mp z)⟩
        · exact .inr (.inl ⟨i, b, d', by simpa using q1, q2, q3, h4 i q4, fun z => q5 ((h2 j).mp z)⟩)
        · exact .inr (.inr ⟨i, b, d', by simpa using q1, q2, q3, (h2 j).mpr q4⟩)
    cases jo with
    | none =>
      unfold mkA at h
      split at h
      · rename_i b d e0
        cases q : mkA η none r with
        | none => rw [q] at h; cases h
        | some as' =>
          rw [q] at h
          cases h
          exact step none as' b d _ q e0 rfl (by simp) (.inl ⟨rfl, by simp, by unfold bors; simp⟩) (fun i z => by unfold bors; simp [z])
      · cases h
    | some n =>
      cases n with
      | zero =>
        unfold mkA at h
        split at h
        · rename_i b d e0
          cases q : mkA η none r with
          | none => rw [q] at h; cases h
          | some as' =>
            rw [q] at h
            cases h
            exact step none as' b d _ q e0 rfl (by simp) (.inr ⟨rfl, rfl⟩) (fun i z => by unfold bors; exact z)
        · cases h
      | succ n =>
        unfold mkA at h
        split at h
        · rename_i b d e0
          cases q : mkA η (some n) r with
          | none => rw [q] at h; cases h
          | some as' =>
            rw [q] at h
            cases h
            exact step (some n) as' b d _ q e0 rfl (by simp) (.inl ⟨rfl, by simp, by unfold bors; simp⟩) (fun i z => by unfold bors; simp [z])
        · cases h
theorem paired_get {α β : Type} {R : α → β → Prop} : ∀ {l : List α} {m : List β} {j : Nat} {a : α}, Paired R l m → l[j]? = some a → ∃ b, m[j]? = some b ∧ R a b
  | _, _, _, _, .nil, e => by simp at e
  | _, _, 0, _, .cons r _, e => by simp at e; subst e; exact ⟨_, rfl, r⟩
  | _, _, j + 1, _, .cons _ t, e => by
    obtain ⟨b, h1, h2⟩ := paired_get (j := j) t (by simpa using e)
    exact ⟨b, by simpa using h1, h2⟩
theorem bors_ne {jo : Option Nat} {avs : List AV} {i j : Nat} (h : avs[j]? = some (.bor i)) (hj : jo = some j) (hc : chk jo avs = true) : i ∉ bors jo avs := by
  subst hj
  unfold chk ioIx at hc
  simp only [h] at hc
  simpa using hc
end Pd

namespace Pd
open PySem L2
theorem mapsome {vs : List V} {j : Nat} {v : V} : (vs.map some)[j]? = some (some v) ↔ vs[j]? = some v := by
  rw [List.getElem?_map]
  cases vs[j]? <;> simp
section
variable {X : Cx} {G : Addr → Prop} {η : Sto} {σ : St} {H H' : Hp} {jo : Option Nat} {avs : List AV} {vs : List V} {as as' : Sto}
/-- what the callee must leave alone -/
def Guard (G : Addr → Prop) (η : Sto) (σ : St) (avs : List AV) (vs : List V) : Addr → Prop := fun a => Zo G η σ a ∧ ¬ ∃ (j i : Nat), avs[j]? = some (AV.bor i) ∧ vs[j]? = some (V.ref a)
theorem call_fo (r : Paired (RV X G σ η H) avs vs) (hm : mkA η jo avs = some as) {a : Addr} (f : Fo as (vs.map some) a) :
    Fo η σ a ∧ ∃ j i, avs[j]? = some (AV.bor i) ∧ vs[j]? = some (V.ref a) ∧ jo = some j ∧ σ[i]? = some (some (V.ref a)) := by
  obtain ⟨j, b, d, e, q⟩ := f
  have q' := mapsome.mp q
  rcases (mkA_get hm).2 j _ e with ⟨d', _, z, _⟩ | ⟨i, b', d', _, _, z, _⟩ | ⟨i, b', d', h1, h2, z, hj⟩
  · cases z
  · cases z
  · obtain ⟨v, e1, e2⟩ := paired_get r h1
    rw [q'] at e1
    cases e1
    have e2' : σ[i]? = some (some (V.ref a)) := e2
    exact ⟨⟨i, b', d', h2, e2'⟩, j, i, h1, q', hj, e2'⟩
theorem call_zo (r : Paired (RV X G σ η H) avs vs) (hm : mkA η jo avs = some as) {a : Addr} (z : Zo (Guard G η σ avs vs) as (vs.map some) a) : Zo G η σ a := by
  rcases z with z | z
  · exact z.1
  · exact .inr (call_fo r hm z).1
theorem call_ok (ok : Ok G X.K η σ H) (r : Paired (RV X G σ η H) avs vs) (hm : mkA η jo avs = some as) (hc : chk jo avs = true) : Ok (Guard G η σ avs vs) X.K as (vs.map some) H := by
  have hl := (mkA_get hm).1
  have hp := r.length
  refine ⟨by rw [List.length_map, hl, hp], fun j d e => ?_, fun j b d e => ?_, fun j j' b b' d d' p e e' q q' => ?_, fun a g => ok.domZ g.1, fun a g f => ?_⟩
  · rcases (mkA_get hm).2 j _ e with ⟨d', h1, z, _⟩ | ⟨i, b', d', h1, h2, z, hb, hj⟩ | ⟨i, b', d', _, _, z, _⟩
    · cases z
      obtain ⟨v, e1, e2⟩ := paired_get r h1
      exact ⟨v, mapsome.mpr e1, Den.less e2 fun a z => call_zo r hm z⟩
    · cases z
      obtain ⟨v, e1, e2⟩ := paired_get r h1
      obtain ⟨p, ep, c⟩ := ok.own i b' d h2
      have e2' : σ[i]? = some (some v) := e2
      rw [ep] at e2'
      cases e2'
      have np : ¬ Zo (Guard G η σ avs vs) as (vs.map some) p := fun z => by
        rcases z with z | z
        · exact z.2 ⟨j, i, h1, e1⟩
        · obtain ⟨_, j2, i2, k1, k2, k3, k4⟩ := call_fo r hm z
          obtain ⟨⟨i3, b3, d3, k5, k6⟩, _⟩ := call_fo r hm z
          -- both slots own p
          have own2 : ∃ b2 d2, η[i2]? = some (.own b2 d2) := by
            have hlt : j2 < as.length := by
              rw [hl]
              exact (List.getElem?_eq_some_iff.mp k1).1
            rcases (mkA_get hm).2 j2 _ (List.getElem?_eq_getElem hlt) with ⟨d', h1', _, _⟩ | ⟨i', b'', d', h1', h2', _⟩ | ⟨i', b'', d', h1', h2', _⟩
            · rw [k1] at h1'; cases h1'
            · rw [k1] at h1'; cases h1'; exact ⟨_, _, h2'⟩
            · rw [k1] at h1'; cases h1'; exact ⟨_, _, h2'⟩
          obtain ⟨b2, d2, k7⟩ := own2
          have ei := ok.inj i i2 _ _ _ _ p h2 k7 ep k4
          subst ei
          exact bors_ne k1 k3 hc hb
      refine ⟨.ref p, mapsome.mpr e1, ?_⟩
      cases d with
      | lst ds =>
        obtain ⟨xs, e3, q⟩ := c
        exact ⟨p, xs, rfl, np, e3, q.less fun a z => call_zo r hm z⟩
      | dct ks ds =>
        obtain ⟨kvs, e3, q0, q⟩ := c
        exact ⟨p, kvs, rfl, np, e3, q0, q.less fun a z => call_zo r hm z⟩
      | _ => exact False.elim c
    · cases z
  · rcases (mkA_get hm).2 j _ e with ⟨d', _, z, _⟩ | ⟨i, b', d', _, _, z, _⟩ | ⟨i, b', d', h1, h2, z, hj⟩
    · cases z
    · cases z
    · cases z
      obtain ⟨v, e1, e2⟩ := paired_get r h1
      obtain ⟨p, ep, c⟩ := ok.own i b' d h2
      have e2' : σ[i]? = some (some v) := e2
      rw [ep] at e2'
      cases e2'
      exact ⟨p, mapsome.mpr e1, c.less fun a z => call_zo r hm z⟩
  · rcases (mkA_get hm).2 j _ e with ⟨_, _, z, _⟩ | ⟨_, _, _, _, _, z, _⟩ | ⟨i, _, _, _, _, _, hj⟩
    · cases z
    · cases z
    · rcases (mkA_get hm).2 j' _ e' with ⟨_, _, z, _⟩ | ⟨_, _, _, _, _, z, _⟩ | ⟨i', _, _, _, _, _, hj'⟩
      · cases z
      · cases z
      · rw [hj] at hj'
        cases hj'
        rfl
  · obtain ⟨_, j, i, h1, h2, _⟩ := call_fo r hm f
    exact g.2 ⟨j, i, h1, h2⟩
theorem call_zo2 (r : Paired (RV X G σ η H) avs vs) (hm : mkA η jo avs = some as) (s : Shr as as') (hb : (bors jo avs).isEmpty = true) {a : Addr} (z : Zo G η σ a) : Zo (Guard G η σ avs vs) as' (vs.map some) a := by
  by_cases h : ∃ (j i : Nat), avs[j]? = some (AV.bor i) ∧ vs[j]? = some (V.ref a)
  · obtain ⟨j, i, h1, h2⟩ := h
    have hlt : j < as.length := by
      rw [(mkA_get hm).1]
      exact (List.getElem?_eq_some_iff.mp h1).1
    rcases (mkA_get hm).2 j _ (List.getElem?_eq_getElem hlt) with ⟨d', h1', _, _⟩ | ⟨i', b'', d', h1', h2', _, hb', _⟩ | ⟨i', b'', d', h1', h2', e, _⟩
    · rw [h1] at h1'; cases h1'
    · rw [List.isEmpty_iff.mp hb] at hb'
      cases hb'
    · have e' : as[j]? = some (.own true d') := by rw [List.getElem?_eq_getElem hlt, e]
      obtain ⟨d2, e2⟩ := s.fix j d' e'
      exact .inr ⟨j, true, d2, e2, mapsome.mpr h2⟩
  · exact .inl ⟨z, h⟩
/-- what stands behind the call -/
structure Behind (G : Addr → Prop) (K : PySem.W.Frag) (η η2 : Sto) (σ : St) (H H' : Hp) : Prop where
  ok : Ok G K η2 σ H'
  shr : Shr η η2
  fo : ∀ a, Fo η2 σ a ↔ Fo η σ a
theorem call_behind (P : Addr → Prop) (hP : ∀ a, P a → H a = none ∧ ∃ o, H' a = some o) (ok : Ok G X.K η σ H) (r : Paired (RV X G σ η H) avs vs) (hm : mkA η jo avs = some as) (s : Shr as as') (st : Step (Fo as (vs.map some)) H H')
    (ok' : Ok (fun a => Guard G η σ avs vs a ∨ P a) X.K as' (vs.map some) H') (hcl : (bors jo avs).isEmpty = true ∨ noLstIn (ioD jo as') = true) : Behind (fun a => G a ∨ P a) X.K η (wb η jo avs as') σ H H' := by
  have hFZ : ∀ a, Fo as (vs.map some) a → Zo G η σ a := fun a f => .inr (call_fo r hm f).1
  have dom' : ∀ a, (G a ∨ P a) → ∃ o, H' a = some o := fun a g => by
    rcases g with g | g
    · obtain ⟨o, e⟩ := ok.dom a g
      exact st.dom a o e
    · exact (hP a g).2
  have dis' : ∀ a, (G a ∨ P a) → ¬ Fo η σ a := fun a g f => by
    rcases g with g | g
    · exact ok.dis a g f
    · obtain ⟨o, e⟩ := ok.domZ (.inr f)
      rw [(hP a g).1] at e
      cases e
  have ztr : ∀ a, Zo (fun a => G a ∨ P a) η σ a → Zo G η σ a ∨ H a = none := fun a z => by
    rcases z with (z | z) | z
    · exact .inl (.inl z)
    · exact .inr (hP a z).1
    · exact .inl (.inr z)
  cases hio : ioIx jo avs with
  | none =>
    have ew : wb η jo avs as' = η := by unfold wb; rw [hio]
    rw [ew]
    have nofo : ∀ a, ¬ Fo as (vs.map some) a := fun a f => by
      obtain ⟨_, j, i, h1, _, h3, _⟩ := call_fo r hm f
      subst h3
      unfold ioIx at hio
      simp only [h1] at hio
      cases hio
    refine ⟨⟨ok.len, fun i d e => ?_, fun i b d e => ?_, ok.inj, dom', dis'⟩, .refl, fun a => Iff.rfl⟩
    · obtain ⟨v, e', dn⟩ := ok.val i d e
      exact ⟨v, e', Den.move st hFZ ztr d dn⟩
    · obtain ⟨p, e', c⟩ := ok.own i b d e
      exact ⟨p, e', Cell.move st hFZ ztr (fun o q => st.keep p o q (nofo p)) c⟩
  | some i0 =>
    obtain ⟨j0, hj0, ha0⟩ : ∃ j0, jo = some j0 ∧ avs[j0]? = some (.bor i0) := by
      cases jo with
      | none => cases hio
      | some j0 =>
        refine ⟨j0, rfl, ?_⟩
        unfold ioIx at hio
        simp only at hio
        split at hio
        · rename_i i e
          cases hio
          exact e
        · cases hio
    have hlt : j0 < as.length := by
      rw [(mkA_get hm).1]
      exact (List.getElem?_eq_some_iff.mp ha0).1
    obtain ⟨b0, d0, e0, ea0⟩ : ∃ b0 d0, η[i0]? = some (.own b0 d0) ∧ as[j0]? = some (.own true d0) := by
      rcases (mkA_get hm).2 j0 _ (List.getElem?_eq_getElem hlt) with ⟨d', h1', _, _⟩ | ⟨i', b'', d', h1', h2', _, _, hj⟩ | ⟨i', b'', d', h1', h2', e, _⟩
      · rw [ha0] at h1'; cases h1'
      · exact absurd hj0 hj
      · rw [ha0] at h1'
        cases h1'
        exact ⟨b'', d', h2', by rw [List.getElem?_eq_getElem hlt, e]⟩
    obtain ⟨d1, ea1⟩ := s.fix j0 d0 ea0
    have ed : ioD jo as' = d1 := by
      unfold ioD
      subst hj0
      simp only [ea1]
    have hi0 : i0 < η.length := (List.getElem?_eq_some_iff.mp e0).1
    have ew : wb η jo avs as' = η.set i0 (.own b0 d1) := by
      unfold wb
      rw [hio]
      simp only [e0, ed]
    rw [ew]
    have same : ∀ i, i ≠ i0 → (η.set i0 (Slot.own b0 d1))[i]? = η[i]? := fun i n => List.getElem?_set_ne (Ne.symm n)
    have self : (η.set i0 (Slot.own b0 d1))[i0]? = some (.own b0 d1) := List.getElem?_set_self hi0
    have sh : Shr η (η.set i0 (.own b0 d1)) := ⟨fun i b d e => by
      by_cases n : i = i0
      · subst n
        rw [self] at e
        cases e
        exact ⟨d0, e0⟩
      · rw [same i n] at e
        exact ⟨d, e⟩, fun i d e => by
      by_cases n : i = i0
      · subst n
        rw [e0] at e
        cases e
        exact ⟨d1, self⟩
      · exact ⟨d, by rw [same i n]; exact e⟩, fun i d e => by
      by_cases n : i = i0
      · subst n
        rw [self] at e
        cases e
      · rw [same i n] at e
        exact e⟩
    have fo : ∀ a, Fo (η.set i0 (.own b0 d1)) σ a ↔ Fo η σ a := fun a => ⟨sh.fo, fun ⟨i, b, d, e, q⟩ => by
      by_cases n : i = i0
      · subst n
        rw [e0] at e
        cases e
        exact ⟨i, _, d1, self, q⟩
      · exact ⟨i, b, d, by rw [same i n]; exact e, q⟩⟩
    have zo : ∀ a, Zo (fun a => G a ∨ P a) (η.set i0 (.own b0 d1)) σ a → Zo (fun a => G a ∨ P a) η σ a := fun a z => z.imp id fun f => (fo a).mp f
    have zg : ∀ a, Zo (fun a => G a ∨ P a) η σ a → (bors jo avs).isEmpty = true → Zo (fun a => Guard G η σ avs vs a ∨ P a) as' (vs.map some) a := fun a z hb => by
      rcases z with (z | z) | z
      · exact (call_zo2 r hm s hb (.inl z)).imp .inl id
      · exact .inl (.inr z)
      · exact (call_zo2 r hm s hb (.inr z)).imp .inl id
    obtain ⟨p0, ep0, c0⟩ := ok'.own j0 true d1 ea1
    have evs := mapsome.mp ep0
    have es0 : σ[i0]? = some (some (V.ref p0)) := by
      obtain ⟨v, e1, e2⟩ := paired_get r ha0
      rw [evs] at e1
      cases e1
      exact e2
    refine ⟨⟨by rw [List.length_set]; exact ok.len, fun i d e => ?_, fun i b d e => ?_, fun i j b b' d d' p e e' q q' => ?_, dom', fun a g f => dis' a g ((fo a).mp f)⟩, sh, fo⟩
    · by_cases n : i = i0
      · subst n
        rw [self] at e
        cases e
      · rw [same i n] at e
        obtain ⟨v, e', dn⟩ := ok.val i d e
        exact ⟨v, e', Den.move st hFZ (fun a z => ztr a (zo a z)) d dn⟩
    · by_cases n : i = i0
      · subst n
        rw [self] at e
        cases e
        refine ⟨p0, es0, ?_⟩
        rcases hcl with hb | hn
        · exact c0.less fun a z => zg a (zo a z) hb
        · rw [ed] at hn
          exact c0.free hn
      · rw [same i n] at e
        obtain ⟨p, e', c⟩ := ok.own i b d e
        refine ⟨p, e', Cell.move st hFZ (fun a z => ztr a (zo a z)) (fun o q => st.keep p o q fun f => ?_) c⟩
        obtain ⟨_, j, i2, h1, h2, h3, h4⟩ := call_fo r hm f
        rw [hj0] at h3
        cases h3
        rw [ha0] at h1
        cases h1
        exact n (ok.inj i i0 _ _ _ _ p e e0 e' h4)
    · obtain ⟨d2, k2⟩ := sh.sub i b d e
      obtain ⟨d3, k3⟩ := sh.sub j b' d' e'
      exact ok.inj i j _ _ _ _ p k2 k3 q q'
end
theorem Ok.noP {G : Addr → Prop} {K : PySem.W.Frag} {η : Sto} {σ : St} {H : Hp} (ok : Ok G K η σ H) : Ok (fun a => G a ∨ False) K η σ H := by
  have e : (fun a => G a ∨ False) = G := funext fun a => propext ⟨fun z => z.elim id False.elim, .inl⟩
  rw [e]
  exact ok
theorem Behind.noP {G : Addr → Prop} {K : PySem.W.Frag} {η η2 : Sto} {σ : St} {H H' : Hp} (b : Behind (fun a => G a ∨ False) K η η2 σ H H') : Behind G K η η2 σ H H' := by
  have e : (fun a => G a ∨ False) = G := funext fun a => propext ⟨fun z => z.elim id False.elim, .inl⟩
  rw [e] at b
  exact b
section
variable {X : Cx} {W : WX} {e : Expr} {es : List Expr} {pos p : Pos} {k n : Nat} {f : Addr} {fd : FuncData} {ps : List Str} {x : Str} {fm : M D} {jo : Option Nat} {m : M (List AV)} {σ : St} {H : Hp} {Q : VK}
theorem call_len {G : Addr → Prop} {η : Sto} {avs : List AV} {vs : List V} (r : Paired (RV X G σ η H) avs vs) : avs.length = vs.length := r.length
/-- from the arguments to the promise -/
theorem call_sp {G : Addr → Prop} {η : Sto} {avs : List AV} {vs : List V} (hn : avs.length = n) (ok : Ok G X.K η σ H) (r : Paired (RV X G σ η H) avs vs) (h : Post X W G η σ H (RD X G σ) Q (callM noLst fm jo avs η)) : spD X.K X.mg n fm vs H Q (WE W σ) := by
  unfold callM at h
  cases hm : mkA η jo avs with
  | none => rw [hm] at h; exact h.elim
  | some as =>
    rw [hm] at h
    simp only at h
    by_cases hc : chk jo avs = true
    · rw [if_pos hc] at h
      refine ⟨Guard G η σ avs vs, as, by rw [← r.length]; exact hn, call_ok ok r hm hc, ?_⟩
      cases q : fm as with
      | bad => rw [q] at h; exact h.elim
      | ok d as' =>
        rw [q] at h
        unfold finM at h
        simp only at h
        by_cases hcl : clean noLst jo avs d as' = true
        · rw [if_pos hcl] at h
          intro v H' s st ok' dn
          unfold clean at hcl
          rw [Bool.or_eq_true, Bool.and_eq_true] at hcl
          have B := (call_behind (fun _ => False) (fun _ z => z.elim) ok r hm s st ok'.noP (hcl.imp id (·.2))).noP
          refine h v H' B.shr (st.wider fun a z => (call_fo r hm z).1) B.ok ?_
          rcases hcl with hb | hn
          · exact Den.less dn fun a z => call_zo2 r hm s hb (z.imp id fun f => (B.fo a).mp f)
          · exact Den.free hn.1 dn
        · rw [if_neg hcl] at h
          exact h.elim
      | exc c as' =>
        rw [q] at h
        unfold finM at h
        simp only at h
        by_cases hcl : clean noLst jo avs .non as' = true
        · rw [if_pos hcl] at h
          intro C H' hC s st ok'
          unfold clean at hcl
          rw [Bool.or_eq_true, Bool.and_eq_true] at hcl
          have B := (call_behind (fun _ => False) (fun _ z => z.elim) ok r hm s st ok'.noP (hcl.imp id (·.2))).noP
          exact h C H' hC B.shr (st.wider fun a z => (call_fo r hm z).1) B.ok
        · rw [if_neg hcl] at h
          exact h.elim
    · rw [if_neg hc] at h
      exact h.elim
theorem call_spF {G : Addr → Prop} {η : Sto} {H0 : Hp} {avs : List AV} {vs : List V} (hn : avs.length = n) (ok : Ok G X.K η σ H) (h0 : ∀ p, H p = none → H0 p = none) (r : Paired (RV X G σ η H) avs vs) (h : Post X W G η σ H (RF X G σ H0) Q (callM noLstIn fm jo avs η)) : spF X.K X.mg n fm vs H Q (WE W σ) := by
  unfold callM at h
  cases hm : mkA η jo avs with
  | none => rw [hm] at h; exact h.elim
  | some as =>
    rw [hm] at h
    simp only at h
    by_cases hc : chk jo avs = true
    · rw [if_pos hc] at h
      refine ⟨Guard G η σ avs vs, as, by rw [← r.length]; exact hn, call_ok ok r hm hc, ?_⟩
      cases q : fm as with
      | bad => rw [q] at h; exact h.elim
      | ok d as' =>
        rw [q] at h
        unfold finM at h
        simp only at h
        by_cases hcl : clean noLstIn jo avs d as' = true
        · rw [if_pos hcl] at h
          intro v H' s st ok' ⟨p, ev, hp, c, okp⟩
          unfold clean at hcl
          rw [Bool.or_eq_true, Bool.and_eq_true] at hcl
          have B := (call_behind (fun _ => False) (fun _ z => z.elim) ok r hm s st ok'.noP (hcl.imp id (·.2))).noP
          have B2 := call_behind (fun a => a = p) (fun a z => by subst z; exact ⟨hp, c.there⟩) ok r hm s st okp (hcl.imp id (·.2))
          refine h v H' B.shr (st.wider fun a z => (call_fo r hm z).1) B.ok ⟨p, ev, h0 p hp, ?_, B2.ok⟩
          rcases hcl with hb | hn
          · exact c.less fun a z => z.imp (fun z => call_zo2 r hm s hb (z.imp id fun f => (B.fo a).mp f)) id
          · exact c.free hn.1
        · rw [if_neg hcl] at h
          exact h.elim
      | exc c as' =>
        rw [q] at h
        unfold finM at h
        simp only at h
        by_cases hcl : clean noLstIn jo avs .non as' = true
        · rw [if_pos hcl] at h
          intro C H' hC s st ok'
          unfold clean at hcl
          rw [Bool.or_eq_true, Bool.and_eq_true] at hcl
          have B := (call_behind (fun _ => False) (fun _ z => z.elim) ok r hm s st ok'.noP (hcl.imp id (·.2))).noP
          exact h C H' hC B.shr (st.wider fun a z => (call_fo r hm z).1) B.ok
        · rw [if_neg hcl] at h
          exact h.elim
    · rw [if_neg hc] at h
      exact h.elim
/-- the number of arguments is the number of parameters -/
def lenM (n : Nat) (as : List AV) : M (List AV) := M.of (if as.length = n then some as else none)
theorem Post.ofBind {α β γ : Type} {G : Addr → Prop} {η : Sto} {o : Option α} {c : α → M γ} {R : Sto → Hp → γ → β → Prop} {Q : β → Hp → Prop} (h : Post X W G η σ H R Q ((M.of o >>= c) η)) : ∃ a, o = some a ∧ Post X W G η σ H R Q (c a η) := by
  cases o with
  | none => exact False.elim h
  | some a => exact ⟨a, rfl, h⟩
theorem lenM_post {β γ : Type} {G : Addr → Prop} {η : Sto} {avs : List AV} {c : List AV → M γ} {R : Sto → Hp → γ → β → Prop} {Q : β → Hp → Prop} (h : Post X W G η σ H R Q ((lenM n avs >>= c) η)) : avs.length = n ∧ Post X W G η σ H R Q (c avs η) := by
  obtain ⟨a, e, q⟩ := Post.ofBind h
  split at e
  · rename_i hl
    cases e
    exact ⟨hl, q⟩
  · cases e
theorem pd_call (F : FnOk X.prog X.w X.K X.mg X.base (L2.CX X.prog X.w) k f fd ps (spD X.K X.mg n fm)) (jo : Option Nat) (tk : Takes X W) (hr : Room k X.A) (hg : Gl X x) (hm : X.mg x = some (.ref f)) (hk : PySem.W.keepIn X.K (.ref f) = true) (hb : Binds X.K fd ps [])
    (ha : PVAd X W (e :: es) m) (hdb : (x == ("__debug__" : Str)) = false := by decide) (he : starEach (e :: es) X.env = (false, eval e X.env) :: starEach es X.env := by rfl) (hpl : (backTo pos (starEach es X.env)).any (·.1) = false := by rfl) :
    PEd X W (.Call (.Name x p) (e :: es) [] pos) (do let as ← m; let as ← lenM n as; callM noLst fm jo as) :=
  PE.weak (pe_callS F hr hg hm hk hb (fun σ => passAt tk σ) ha hdb he hpl) fun σ H Q ⟨G, η, ok, h⟩ => ⟨G, η, ok, (Post.bind (R := RVs X G σ) h).imp fun vs H1 ⟨η1, avs, a1⟩ =>
    let q := lenM_post a1.post; call_sp q.1 a1.ok a1.r q.2⟩
theorem pf_call (F : FnOk X.prog X.w X.K X.mg X.base (L2.CX X.prog X.w) k f fd ps (spF X.K X.mg n fm)) (jo : Option Nat) (tk : Takes X W) (hr : Room k X.A) (hg : Gl X x) (hm : X.mg x = some (.ref f)) (hk : PySem.W.keepIn X.K (.ref f) = true) (hb : Binds X.K fd ps [])
    (ha : PVAd X W (e :: es) m) (hdb : (x == ("__debug__" : Str)) = false := by decide) (he : starEach (e :: es) X.env = (false, eval e X.env) :: starEach es X.env := by rfl) (hpl : (backTo pos (starEach es X.env)).any (·.1) = false := by rfl) :
    PFd X W (.Call (.Name x p) (e :: es) [] pos) (do let as ← m; let as ← lenM n as; callM noLstIn fm jo as) :=
  PE.weak (pe_callS F hr hg hm hk hb (fun σ => passAt tk σ) ha hdb he hpl) fun σ H Q ⟨G, η, ok, h⟩ => ⟨G, η, ok, (Post.bind (R := RVs X G σ) h).imp fun vs H1 ⟨η1, avs, a1⟩ =>
    let q := lenM_post a1.post; call_spF q.1 a1.ok (fun p hp => a1.st.none_of hp) a1.r q.2⟩
end
end Pd

namespace Pd
open PySem L2
/-! ### statements -/
inductive SRes where
  | nx (η : Sto) | bk (η : Sto) | ct (η : Sto) | rt (d : D) (η : Sto) | exc (c : Str) (η : Sto) | bad
abbrev MS := Sto → SRes
structure StepS (η : Sto) (σ : St) (H : Hp) (η' : Sto) (σ' : St) (H' : Hp) : Prop where
  st : Step (Fo η σ) H H'
  grow : ∀ a, Fo η' σ' a → Fo η σ a ∨ H a = none
  fix : ∀ (i : Nat) (d : D), η[i]? = some (Slot.own true d) → (∃ d', η'[i]? = some (Slot.own true d')) ∧ σ'[i]? = σ[i]?
theorem StepS.refl {η : Sto} {σ : St} {H : Hp} : StepS η σ H η σ H := ⟨.refl, fun _ f => .inl f, fun _ d e => ⟨⟨d, e⟩, rfl⟩⟩
theorem StepS.trans {η η1 η2 : Sto} {σ σ1 σ2 : St} {H H1 H2 : Hp} (a : StepS η σ H η1 σ1 H1) (b : StepS η1 σ1 H1 η2 σ2 H2) : StepS η σ H η2 σ2 H2 where
  st := a.st.trans b.st a.grow
  grow := fun x f => (b.grow x f).elim (a.grow x) fun e => .inr (a.st.none_of e)
  fix := fun i d e => by
    obtain ⟨⟨d1, e1⟩, q1⟩ := a.fix i d e
    obtain ⟨e2, q2⟩ := b.fix i d1 e1
    exact ⟨e2, q2.trans q1⟩
theorem StepS.of {η η1 : Sto} {σ : St} {H H1 : Hp} (s : Shr η η1) (t : Step (Fo η σ) H H1) : StepS η σ H η1 σ H1 := ⟨t, fun _ f => .inl (s.fo f), fun i d e => ⟨s.fix i d e, rfl⟩⟩
/-- a def's start -/
structure S0 where
  η : Sto
  σ : St
  H : Hp
  top : ∀ (i : Nat) (b : Bool) (d : D), η[i]? = some (Slot.own b d) → b = true
def S0.to (S : S0) (η : Sto) (σ : St) (H : Hp) : Prop := StepS S.η S.σ S.H η σ H
/-- what a return hands on: fr: a list that was made behind the def's start -/
def RT (X : Cx) (S : S0) (fr : Bool) (G : Addr → Prop) (η : Sto) (σ : St) (H : Hp) (d : D) (v : V) : Prop :=
  if fr = true then ∃ p, v = .ref p ∧ S.H p = none ∧ Cell (fun a => Zo G η σ a ∨ a = p) X.K H p d ∧ Ok (fun a => G a ∨ a = p) X.K η σ H else Den (Zo G η σ) X.K H d v
def PostS (X : Cx) (W : WX) (S : S0) (fr : Bool) (G : Addr → Prop) (Dn : Ends) (η : Sto) (σ : St) (H : Hp) : SRes → Prop
  | .nx η' => ∀ σ' H', StepS η σ H η' σ' H' → Ok G X.K η' σ' H' → Dn.nx σ' H'
  | .bk η' => ∀ σ' H', StepS η σ H η' σ' H' → Ok G X.K η' σ' H' → Dn.bk σ' H'
  | .ct η' => ∀ σ' H', StepS η σ H η' σ' H' → Ok G X.K η' σ' H' → Dn.ct σ' H'
  | .rt d η' => ∀ v σ' H', StepS η σ H η' σ' H' → Ok G X.K η' σ' H' → RT X S fr G η' σ' H' d v → Dn.rt v H'
  | .exc c η' => ∀ C σ' H', X.mg c = some (.ref C) → StepS η σ H η' σ' H' → Ok G X.K η' σ' H' → W (.ref C) none σ' H'
  | .bad => False
section
variable {X : Cx} {W : WX} {S : S0} {fr : Bool} {G : Addr → Prop} {Dn : Ends} {η η1 : Sto} {σ σ1 : St} {H H1 : Hp}
theorem PostS.later {r : SRes} (h : PostS X W S fr G Dn η σ H r) (s : StepS η σ H η1 σ1 H1) : PostS X W S fr G Dn η1 σ1 H1 r := by
  cases r with
  | nx η' => exact fun σ' H' t o => h σ' H' (s.trans t) o
  | bk η' => exact fun σ' H' t o => h σ' H' (s.trans t) o
  | ct η' => exact fun σ' H' t o => h σ' H' (s.trans t) o
  | rt d η' => exact fun v σ' H' t o r => h v σ' H' (s.trans t) o r
  | exc c η' => exact fun C σ' H' m t o => h C σ' H' m (s.trans t) o
  | bad => exact h
/-- other ends -/
theorem PostS.ends {Dn' : Ends} {r : SRes} (h : PostS X W S fr G Dn η σ H r) (h1 : ∀ σ H, Dn.nx σ H → Dn'.nx σ H) (h2 : ∀ σ H, Dn.bk σ H → Dn'.bk σ H) (h3 : ∀ σ H, Dn.ct σ H → Dn'.ct σ H) (h4 : ∀ v H, Dn.rt v H → Dn'.rt v H) : PostS X W S fr G Dn' η σ H r := by
  cases r with
  | nx η' => exact fun σ' H' t o => h1 _ _ (h σ' H' t o)
  | bk η' => exact fun σ' H' t o => h2 _ _ (h σ' H' t o)
  | ct η' => exact fun σ' H' t o => h3 _ _ (h σ' H' t o)
  | rt d η' => exact fun v σ' H' t o r => h4 _ _ (h v σ' H' t o r)
  | exc c η' => exact h
  | bad => exact h
end
def tS (X : Cx) (W : WX) (S : S0) (fr : Bool) (mb : MS) : TS := fun Dn σ H => ∃ G η, S.to η σ H ∧ Ok G X.K η σ H ∧ PostS X W S fr G Dn η σ H (mb η)
def PSd (X : Cx) (W : WX) (S : S0) (fr : Bool) (st : Stmt) (mb : MS) : Prop := PS X st (tS X W S fr mb)
def PSsd (X : Cx) (W : WX) (S : S0) (fr : Bool) (st : List Stmt) (mb : MS) : Prop := PSs X st (tS X W S fr mb)
def seqS (a b : MS) : MS := fun η => match a η with
  | .nx η' => b η'
  | r => r
/-- from an expression to what follows -/
def thenS {α : Type} (m : M α) (k : α → MS) : MS := fun η => match m η with
  | .ok a η' => k a η'
  | .exc c η' => .exc c η'
  | .bad => .bad
section
variable {X : Cx} {W : WX} {S : S0} {fr : Bool} {G : Addr → Prop} {Dn : Ends} {η η1 : Sto} {σ σ1 : St} {H H1 : Hp}
structure AtS {α β : Type} (X : Cx) (W : WX) (S : S0) (fr : Bool) (G : Addr → Prop) (Dn : Ends) (η : Sto) (σ : St) (H : Hp) (R : Sto → Hp → α → β → Prop) (k : α → MS) (b : β) (H1 : Hp) (η1 : Sto) (a : α) : Prop where
  shr : Shr η η1
  st : Step (Fo η σ) H H1
  ok : Ok G X.K η1 σ H1
  r : R η1 H1 a b
  post : PostS X W S fr G Dn η1 σ H1 (k a η1)
theorem PostS.bind {α β : Type} {m : M α} {k : α → MS} {R : Sto → Hp → α → β → Prop} (h : PostS X W S fr G Dn η σ H (thenS m k η)) : Post X W G η σ H R (fun b H1 => ∃ η1 a, AtS X W S fr G Dn η σ H R k b H1 η1 a) (m η) := by
  unfold thenS at h
  cases q : m η with
  | ok a η' =>
    rw [q] at h
    exact fun b H' s1 s2 o r => ⟨η', a, s1, s2, o, r, h.later (.of s1 s2)⟩
  | exc c η' =>
    rw [q] at h
    exact fun C H' m s1 s2 o => h C σ H' m (.of s1 s2) o
  | bad =>
    rw [q] at h
    exact h
theorem AtS.to {α β : Type} {R : Sto → Hp → α → β → Prop} {k : α → MS} {b : β} {a : α} (x : AtS X W S fr G Dn η σ H R k b H1 η1 a) (t : S.to η σ H) : S.to η1 σ H1 := StepS.trans t (.of x.shr x.st)
end
section
variable {X : Cx} {W : WX} {S : S0} {fr : Bool} {st : Stmt} {rest body : List Stmt} {e tg : Expr} {pos : Pos} {mb mc : MS} {m : M D}
theorem psd_nil : PSsd X W S fr [] (fun η => .nx η) := PSs.weak pss_nil fun Dn σ H ⟨G, η, t, ok, h⟩ => h σ H .refl ok
theorem psd_cons (h1 : PSd X W S fr st mb) (h2 : PSsd X W S fr rest mc) : PSsd X W S fr (st :: rest) (seqS mb mc) := PSs.weak (pss_cons h1 h2) fun Dn σ H ⟨G, η, t, ok, h⟩ => by
  refine ⟨G, η, t, ok, ?_⟩
  unfold seqS at h
  cases q : mb η with
  | nx η' =>
    rw [q] at h
    exact fun σ' H' s o => ⟨G, η', StepS.trans t s, o, h.later s⟩
  | bk η' => rw [q] at h; exact h
  | ct η' => rw [q] at h; exact h
  | rt d η' => rw [q] at h; exact h
  | exc c η' => rw [q] at h; exact h
  | bad => rw [q] at h; exact h
theorem psd_one (h1 : PSd X W S fr st mb) : PSsd X W S fr [st] mb := pss_one h1
theorem psd_pass : PSd X W S fr (.Pass pos) (fun η => .nx η) := PS.weak ps_pass fun Dn σ H ⟨G, η, t, ok, h⟩ => h σ H .refl ok
theorem psd_break : PSd X W S fr (.Break pos) (fun η => .bk η) := PS.weak ps_break fun Dn σ H ⟨G, η, t, ok, h⟩ => h σ H .refl ok
theorem psd_continue : PSd X W S fr (.Continue pos) (fun η => .ct η) := PS.weak ps_continue fun Dn σ H ⟨G, η, t, ok, h⟩ => h σ H .refl ok
theorem psd_if {c : Expr} {a b : List Stmt} {mt : M Bool} (hc : PTd X W c mt) (ha : PSsd X W S fr a mb) (hb : PSsd X W S fr b mc) : PSd X W S fr (.If c a b pos) (thenS mt fun k => if k = true then mb else mc) :=
  PS.weak (ps_if hc ha hb) fun Dn σ H ⟨G, η, t, ok, h⟩ => ⟨G, η, ok, (PostS.bind (R := RB) h).imp fun k H1 ⟨η1, k', a1⟩ => by
    have e : k' = k := a1.r
    subst e
    have q := a1.post
    cases k' with
    | true => exact iteT ⟨G, η1, a1.to t, a1.ok, q⟩
    | false => exact iteF ⟨G, η1, a1.to t, a1.ok, q⟩⟩
theorem psd_expr (h : PEd X W e m) (hs : swapsWith e none pos.line X.env = pure false := by rfl) : PSd X W S fr (.Expr e pos) (thenS m fun _ η => .nx η) :=
  PS.weak (ps_expr h hs) fun Dn σ H ⟨G, η, t, ok, h⟩ => ⟨G, η, ok, (PostS.bind (R := RD X G σ) h).imp fun x H1 ⟨η1, d, a1⟩ => a1.post σ H1 .refl a1.ok⟩
theorem psd_ret (h : PEd X W e m) : PSd X W S false (.Return (some e) pos) (thenS m fun d η => .rt d η) :=
  PS.weak (ps_ret h) fun Dn σ H ⟨G, η, t, ok, h⟩ => ⟨G, η, ok, (PostS.bind (R := RD X G σ) h).imp fun x H1 ⟨η1, d, a1⟩ => a1.post x σ H1 .refl a1.ok (by unfold RT; rw [if_neg (by decide)]; exact a1.r)⟩
theorem psd_retN : PSd X W S false (.Return none pos) (fun η => .rt .non η) :=
  PS.weak ps_retN fun Dn σ H ⟨G, η, t, ok, h⟩ => h .non σ H .refl ok (by unfold RT; rw [if_neg (by decide)]; exact rfl)
/-- return of what was made in the statement itself -/
theorem psf_ret (h : PFd X W e m) : PSd X W S true (.Return (some e) pos) (thenS m fun d η => .rt d η) :=
  PS.weak (ps_ret h) fun Dn σ H ⟨G, η, t, ok, h⟩ => ⟨G, η, ok, (PostS.bind (R := RF X G σ H) h).imp fun x H1 ⟨η1, d, a1⟩ => a1.post x σ H1 .refl a1.ok (by
    unfold RT
    rw [if_pos rfl]
    obtain ⟨p, ev, hp, c, o⟩ := a1.r
    exact ⟨p, ev, t.st.none_of hp, c, o⟩)⟩
/-! ### targets -/
def canSet (η : Sto) (i : Nat) : Bool := match η[i]? with
  | some (.own true _) => false
  | some _ => true
  | none => false
def setS (i : Nat) (d : D) : MS := fun η => if canSet η i = true then .nx (η.set i (.val d)) else .bad
theorem canSet_lt {η : Sto} {i : Nat} (h : canSet η i = true) : i < η.length := by
  unfold canSet at h
  cases q : η[i]? with
  | none => rw [q] at h; cases h
  | some s => exact (List.getElem?_eq_some_iff.mp q).1
theorem canSet_no {η : Sto} {i : Nat} (h : canSet η i = true) (d : D) : η[i]? ≠ some (.own true d) := fun e => by
  unfold canSet at h
  rw [e] at h
  cases h
theorem set_ok {G : Addr → Prop} {η : Sto} {σ : St} {H : Hp} {i : Nat} {d : D} {v : V} (hc : canSet η i = true) (ok : Ok G X.K η σ H) (dn : Den (Zo G η σ) X.K H d v) :
    Ok G X.K (η.set i (.val d)) (σ.set i (some v)) H ∧ StepS η σ H (η.set i (.val d)) (σ.set i (some v)) H ∧ ∀ a, Fo (η.set i (.val d)) (σ.set i (some v)) a → Fo η σ a := by
  have hi := canSet_lt hc
  have hi' : i < σ.length := by rw [← ok.len]; exact hi
  have fo : ∀ a, Fo (η.set i (.val d)) (σ.set i (some v)) a → Fo η σ a := fun a ⟨j, b, d', e, q⟩ => by
    by_cases hj : j = i
    · subst hj
      rw [List.getElem?_set_self hi] at e
      cases e
    · rw [List.getElem?_set_ne (Ne.symm hj)] at e q
      exact ⟨j, b, d', e, q⟩
  have zo : ∀ a, Zo G (η.set i (.val d)) (σ.set i (some v)) a → Zo G η σ a := fun a z => z.imp id (fo a)
  refine ⟨⟨by rw [List.length_set, List.length_set]; exact ok.len, fun j d' e => ?_, fun j b d' e => ?_, fun j k b b' d' d2 p e e' q q' => ?_, ok.dom, fun a g f => ok.dis a g (fo a f)⟩,
    ⟨.refl, fun a f => .inl (fo a f), fun j d' e => ?_⟩, fo⟩
  · by_cases hj : j = i
    · subst hj
      rw [List.getElem?_set_self hi] at e
      cases e
      exact ⟨v, List.getElem?_set_self hi', dn.less zo⟩
    · rw [List.getElem?_set_ne (Ne.symm hj)] at e
      obtain ⟨w, e', q⟩ := ok.val j d' e
      exact ⟨w, by rw [List.getElem?_set_ne (Ne.symm hj)]; exact e', q.less zo⟩
  · by_cases hj : j = i
    · subst hj
      rw [List.getElem?_set_self hi] at e
      cases e
    · rw [List.getElem?_set_ne (Ne.symm hj)] at e
      obtain ⟨p, e', q⟩ := ok.own j b d' e
      exact ⟨p, by rw [List.getElem?_set_ne (Ne.symm hj)]; exact e', q.less zo⟩
  · have nj : j ≠ i := fun z => by
      subst z
      rw [List.getElem?_set_self hi] at e
      cases e
    have nk : k ≠ i := fun z => by
      subst z
      rw [List.getElem?_set_self hi] at e'
      cases e'
    rw [List.getElem?_set_ne (Ne.symm nj)] at e q
    rw [List.getElem?_set_ne (Ne.symm nk)] at e' q'
    exact ok.inj j k _ _ _ _ p e e' q q'
  · have hj : j ≠ i := fun z => by
      subst z
      exact canSet_no hc d' e
    rw [List.getElem?_set_ne (Ne.symm hj), List.getElem?_set_ne (Ne.symm hj)]
    exact ⟨⟨d', e⟩, rfl⟩
/-- behind a target: ix, the slots that it stores -/
def PostG (X : Cx) (G : Addr → Prop) (ix : List Nat) (Q : St → Hp → Prop) (η : Sto) (σ : St) (H : Hp) : SRes → Prop
  | .nx η' => ∀ σ' H', StepS η σ H η' σ' H' → Ok G X.K η' σ' H' → (σ'.length = σ.length ∧ ∀ j, j ∉ ix → σ'[j]? = σ[j]? ∧ η'[j]? = η[j]?) → Q σ' H'
  | _ => False
def tGt (X : Cx) (ix : List Nat) (g : D → MS) : TG := fun v σ H Q => ∃ G η d, Ok G X.K η σ H ∧ Den (Zo G η σ) X.K H d v ∧ PostG X G ix Q η σ H (g d η)
def tGs (X : Cx) (ix : List Nat) (g : List D → MS) : TGs := fun v σ H Q => ∃ G η d, Ok G X.K η σ H ∧ Dens (Zo G η σ) X.K H d v ∧ PostG X G ix Q η σ H (g d η)
def PGd (X : Cx) (tg : Expr) (ix : List Nat) (g : D → MS) : Prop := PG X tg (tGt X ix g)
def PGsd (X : Cx) (tg : List Expr) (ix : List Nat) (g : List D → MS) : Prop := PGs X tg (tGs X ix g)
theorem PG.weak {X : Cx} {e : Expr} {t u : TG} (h : PG X e t) (i : ∀ v σ H Q, u v σ H Q → t v σ H Q) : PG X e u := ⟨fun pins s σ H v w Q I r q => h.run pins s σ H v w Q I r (i v σ H Q q)⟩
theorem PGs.weak {X : Cx} {e : List Expr} {t u : TGs} (h : PGs X e t) (i : ∀ v σ H Q, u v σ H Q → t v σ H Q) : PGs X e u := ⟨fun pins s σ H v w Q I r q => h.run pins s σ H v w Q I r (i v σ H Q q)⟩
theorem pgd_name (i : Nat) {x : Str} (hN : X.N.Nodup) (hi : X.N[i]? = some x := by rfl) (hx : Loc X.env.scope x := by first | exact Or.inl rfl | exact Or.inr rfl) (hf : X.fn x = true ∨ X.env.scope.names.lookup x = some .local := by first | exact .inl rfl | exact .inr rfl | assumption) : PGd X (.Name x pos) [i] (setS i) :=
  PG.weak (pg_name hN hi hx hf) fun v σ H Q ⟨G, η, d, ok, dn, h⟩ => by
    unfold setS at h
    by_cases hc : canSet η i = true
    · rw [if_pos hc] at h
      obtain ⟨o, s, _⟩ := set_ok hc ok dn
      exact h _ _ s o ⟨List.length_set, fun j hj => ⟨List.getElem?_set_ne (fun e => hj (by simp [e])), List.getElem?_set_ne (fun e => hj (by simp [e]))⟩⟩
    · rw [if_neg hc] at h
      exact h.elim
theorem pgsd_nil : PGsd X [] [] (fun ds η => if ds.isEmpty = true then .nx η else .bad) := PGs.weak pgs_nil fun v σ H Q ⟨G, η, d, ok, dn, h⟩ => by
  cases d with
  | nil =>
    cases dn
    exact ⟨rfl, h σ H .refl ok ⟨rfl, fun _ _ => ⟨rfl, rfl⟩⟩⟩
  | cons d ds => exact False.elim h
theorem pgsd_cons {es : List Expr} {ix ixs : List Nat} {g : D → MS} {gs : List D → MS} (h1 : PGd X e ix g) (h2 : PGsd X es ixs gs) (hs : (assignEach (e :: es) X.env).map (·.2) = assign e X.env :: (assignEach es X.env).map (·.2) := by rfl) :
    PGsd X (e :: es) (ix ++ ixs) (fun ds => match ds with | d :: ds => seqS (g d) (gs ds) | [] => fun _ => .bad) := PGs.weak (pgs_cons h1 h2 hs) fun v σ H Q ⟨G, η, d, ok, dn, h⟩ => by
  cases d with
  | nil => exact False.elim h
  | cons d ds =>
    obtain ⟨w, r, rfl, q1, q2⟩ := dn
    refine ⟨w, r, rfl, G, η, d, ok, q1, ?_⟩
    have h' : PostG X G (ix ++ ixs) Q η σ H (seqS (g d) (gs ds) η) := h
    unfold seqS at h'
    cases q : g d η with
    | nx η' =>
      rw [q] at h'
      intro σ' H' s o u
      refine ⟨G, η', ds, o, Dens.move s.st (fun _ f => .inr f) (fun a z => z.elim (fun g => .inl (.inl g)) fun f => (s.grow a f).imp .inr id) ds q2, ?_⟩
      simp only at h'
      cases q2' : gs ds η' with
      | nx η2 =>
        rw [q2'] at h'
        intro σ2 H2 s2 o2 u2
        exact h' σ2 H2 (s.trans s2) o2 ⟨u2.1.trans u.1, fun j hj => ⟨(u2.2 j fun z => hj (List.mem_append_right _ z)).1.trans (u.2 j fun z => hj (List.mem_append_left _ z)).1, (u2.2 j fun z => hj (List.mem_append_right _ z)).2.trans (u.2 j fun z => hj (List.mem_append_left _ z)).2⟩⟩
      | _ =>
        rw [q2'] at h'
        exact False.elim h'
    | _ => rw [q] at h'; exact False.elim h'
theorem pgd_tup {es : List Expr} {ix : List Nat} {k n : Nat} {gs : List D → MS} (hc : X.calm = true) (h : PGsd X es ix gs) (hn : (assignEach es X.env).length = n := by rfl) (hst : (assignEach es X.env).findIdx? (·.1) = none := by rfl) :
    PGd X (.Tuple es k pos) ix (fun d => match d with | .tup ds => if ds.length = n then gs ds else fun _ => .bad | _ => fun _ => .bad) := PG.weak (pg_tup hc h hn hst) fun v σ H Q ⟨G, η, d, ok, dn, h⟩ => by
  cases d with
  | tup ds =>
    by_cases hl : ds.length = n
    · have h' : PostG X G ix Q η σ H ((if ds.length = n then gs ds else fun _ => .bad) η) := h
      rw [if_pos hl] at h'
      obtain ⟨a, xs, rfl, hs, r⟩ := dn
      exact ⟨a, xs, rfl, hs, by rw [← r.length]; exact hl, G, η, ds, ok, r, h'⟩
    · have h' : PostG X G ix Q η σ H ((if ds.length = n then gs ds else fun _ => .bad) η) := h
      rw [if_neg hl] at h'
      exact False.elim h'
  | _ => exact False.elim h
/-- a target's function only stores -/
def onlyNx (r : SRes) : SRes := match r with
  | .nx η => .nx η
  | _ => .bad
theorem onlyNx_post {G : Addr → Prop} {ix : List Nat} {Dn : Ends} {η : Sto} {σ : St} {H : Hp} {r : SRes} (h : PostS X W S fr G Dn η σ H (onlyNx r)) : PostG X G ix Dn.nx η σ H r := by
  cases r with
  | nx η' => exact fun σ' H' s o _ => h σ' H' s o
  | _ => exact False.elim h
theorem psd_asg {ix : List Nat} {g : D → MS} (he : PEd X W e m) (hg : PGd X tg ix g) (hs : swapsWithSole [tg] e pos.line X.env = pure false := by rfl) (hw : swappedStores [tg] e X.env = pure none := by rfl)
    (h1 : (assignEach [tg] X.env).map (·.2) = [assign tg X.env] := by rfl) : PSd X W S fr (.Assign [tg] e pos) (thenS m fun d η => onlyNx (g d η)) :=
  PS.weak (ps_asg he hg hs hw h1) fun Dn σ H ⟨G, η, t, ok, h⟩ => ⟨G, η, ok, (PostS.bind (R := RD X G σ) h).imp fun x H1 ⟨η1, d, a1⟩ => ⟨G, η1, d, a1.ok, a1.r, onlyNx_post a1.post⟩⟩
theorem psd_set (i : Nat) {x : Str} {pos' : Pos} (hN : X.N.Nodup) (he : PEd X W e m) (hi : X.N[i]? = some x := by rfl) (hx : Loc X.env.scope x := by first | exact Or.inl rfl | exact Or.inr rfl) (hs : swapsWith e (some (.Name x pos')) pos.line X.env = pure false := by rfl)
    (hf : X.fn x = true ∨ X.env.scope.names.lookup x = some .local := by first | exact .inl rfl | exact .inr rfl | assumption) : PSd X W S fr (.Assign [.Name x pos'] e pos) (thenS m fun d => setS i d) :=
  PS.weak (ps_set hN hi hx he hs hf) fun Dn σ H ⟨G, η, t, ok, h⟩ => ⟨G, η, ok, (PostS.bind (R := RD X G σ) h).imp fun x H1 ⟨η1, d, a1⟩ => by
    have q := a1.post
    unfold setS at q
    by_cases hc : canSet η1 i = true
    · rw [if_pos hc] at q
      obtain ⟨o, s, _⟩ := set_ok hc a1.ok a1.r
      exact q _ _ s o
    · rw [if_neg hc] at q
      exact q.elim⟩
/-- a, b = x, y -/
theorem psd_par (i j : Nat) {x y : Str} {a b : Expr} {ms : M (List D)} {px py pt : Pos} {kt k2 : Nat} {pt2 : Pos} (hc : X.calm = true) (hN : X.N.Nodup) (ha : PAd X W [a, b] ms) (hij : i ≠ j := by decide) (hi : X.N[i]? = some x := by rfl) (hj : X.N[j]? = some y := by rfl)
    (hx : X.env.scope.names.lookup x = some .local := by rfl) (hy : X.env.scope.names.lookup y = some .local := by rfl)
    (hw : swappedStores [.Tuple [.Name x px, .Name y py] kt pt] (.Tuple [a, b] k2 pt2) X.env = pure (some [x, y]) := by rfl)
    (hs : swapsWithSole [.Tuple [.Name x px, .Name y py] kt pt] (.Tuple [a, b] k2 pt2) pos.line X.env = pure false := by rfl) :
    PSd X W S fr (.Assign [.Tuple [.Name x px, .Name y py] kt pt] (.Tuple [a, b] k2 pt2) pos) (thenS ms fun ds => match ds with | [d, e] => seqS (setS i d) (setS j e) | _ => fun _ => .bad) :=
  PS.weak (ps_par hc hN hi hj hij hx hy ha hw hs) fun Dn σ H ⟨G, η, t, ok, h⟩ => ⟨G, η, ok, (PostS.bind (R := RDs X G σ) h).imp fun vs H1 ⟨η1, ds, a1⟩ => by
    match ds, a1 with
    | [d, e], a1 =>
      obtain ⟨v, r, rfl, q1, w, r2, rfl, q2, e3⟩ := a1.r
      have e3' : r2 = [] := e3
      subst e3'
      refine ⟨v, w, rfl, ?_⟩
      have q : PostS X W S fr G Dn η1 σ H1 (seqS (setS i d) (setS j e) η1) := a1.post
      unfold seqS setS at q
      by_cases hc : canSet η1 i = true
      · rw [if_pos hc] at q
        simp only at q
        obtain ⟨o1, s1, f1⟩ := set_ok hc a1.ok q1
        by_cases hc2 : canSet (η1.set i (.val d)) j = true
        · rw [if_pos hc2] at q
          obtain ⟨o2, s2, _⟩ := set_ok hc2 o1 (q2.less fun a z => z.imp id (f1 a))
          exact q _ _ (s1.trans s2) o2
        · rw [if_neg hc2] at q
          exact q.elim
      · rw [if_neg hc] at q
        exact q.elim
    | [], a1 => exact False.elim a1.post
    | [_], a1 => exact False.elim a1.post
    | _ :: _ :: _ :: _, a1 => exact False.elim a1.post⟩
end
end Pd

namespace Pd
open PySem L2
section
variable {X : Cx} {W : WX} {S : S0} {fr : Bool} {st : Stmt} {rest body : List Stmt} {e tg iter : Expr} {pos : Pos} {mb mc : MS} {m : M D} {G : Addr → Prop} {Dn : Ends} {η η1 : Sto} {σ σ1 : St} {H H1 : Hp}
/-! ### a slot that owns -/
def isCell : D → Bool
  | .lst _ => true
  | .dct _ _ => true
  | _ => false
def ownS (i : Nat) (d : D) : MS := fun η => if canSet η i = true then .nx (η.set i (.own false d)) else .bad
theorem own_ok {i : Nat} {d : D} {v : V} {η0 : Sto} {H0 : Hp} (ok0 : Ok G X.K η0 σ H0) (shr : Shr η0 η) (st : Step (Fo η0 σ) H0 H) (hc : canSet η i = true) (ok : Ok G X.K η σ H) (r : RF X G σ H0 η H d v) :
    Ok G X.K (η.set i (.own false d)) (σ.set i (some v)) H ∧ StepS η0 σ H0 (η.set i (.own false d)) (σ.set i (some v)) H := by
  obtain ⟨p, rfl, hp, c, okp⟩ := r
  have hi := canSet_lt hc
  have hi' : i < σ.length := by rw [← ok.len]; exact hi
  have fo : ∀ a, Fo (η.set i (.own false d)) (σ.set i (some (V.ref p))) a → Fo η σ a ∨ a = p := fun a ⟨j, b, d', e, q⟩ => by
    by_cases hj : j = i
    · subst hj
      rw [List.getElem?_set_self hi'] at q
      cases q
      exact .inr rfl
    · rw [List.getElem?_set_ne (Ne.symm hj)] at e q
      exact .inl ⟨j, b, d', e, q⟩
  have zo : ∀ a, Zo G (η.set i (.own false d)) (σ.set i (some (V.ref p))) a → Zo (fun a => G a ∨ a = p) η σ a := fun a z => by
    rcases z with z | z
    · exact .inl (.inl z)
    · rcases fo a z with z | z
      · exact .inr z
      · exact .inl (.inr z)
  have zo2 : ∀ a, Zo G (η.set i (.own false d)) (σ.set i (some (V.ref p))) a → (Zo G η σ a ∨ a = p) := fun a z => by
    rcases zo a z with (z | z) | z
    · exact .inl (.inl z)
    · exact .inr z
    · exact .inl (.inr z)
  refine ⟨⟨by rw [List.length_set, List.length_set]; exact ok.len, fun j d' e => ?_, fun j b d' e => ?_, fun j k b b' d' d2 q e e' q1 q2 => ?_, ok.dom, fun a g f => ?_⟩, ⟨st, fun a f => ?_, fun j d' e => ?_⟩⟩
  · have hj : j ≠ i := fun z => by
      subst z
      rw [List.getElem?_set_self hi] at e
      cases e
    rw [List.getElem?_set_ne (Ne.symm hj)] at e
    obtain ⟨w, e', q⟩ := okp.val j d' e
    exact ⟨w, by rw [List.getElem?_set_ne (Ne.symm hj)]; exact e', q.less zo⟩
  · by_cases hj : j = i
    · subst hj
      rw [List.getElem?_set_self hi] at e
      cases e
      exact ⟨p, List.getElem?_set_self hi', c.less zo2⟩
    · rw [List.getElem?_set_ne (Ne.symm hj)] at e
      obtain ⟨q, e', k⟩ := okp.own j b d' e
      exact ⟨q, by rw [List.getElem?_set_ne (Ne.symm hj)]; exact e', k.less zo⟩
  · by_cases hj : j = i
    · by_cases hk : k = i
      · rw [hj, hk]
      · subst hj
        rw [List.getElem?_set_self hi'] at q1
        cases q1
        rw [List.getElem?_set_ne (Ne.symm hk)] at e' q2
        exact absurd ⟨k, b', d2, e', q2⟩ (okp.dis _ (.inr rfl))
    · by_cases hk : k = i
      · subst hk
        rw [List.getElem?_set_self hi'] at q2
        cases q2
        rw [List.getElem?_set_ne (Ne.symm hj)] at e q1
        exact absurd ⟨j, b, d', e, q1⟩ (okp.dis _ (.inr rfl))
      · rw [List.getElem?_set_ne (Ne.symm hj)] at e q1
        rw [List.getElem?_set_ne (Ne.symm hk)] at e' q2
        exact ok.inj j k _ _ _ _ q e e' q1 q2
  · rcases fo a f with z | z
    · exact ok.dis a g z
    · subst z
      obtain ⟨o, e⟩ := ok0.dom a g
      rw [hp] at e
      cases e
  · rcases fo a f with z | z
    · exact .inl (shr.fo z)
    · subst z
      exact .inr hp
  · obtain ⟨d2, e2⟩ := shr.fix j d' e
    have hj : j ≠ i := fun z => by
      subst z
      exact canSet_no hc d2 e2
    rw [List.getElem?_set_ne (Ne.symm hj), List.getElem?_set_ne (Ne.symm hj)]
    exact ⟨⟨d2, e2⟩, rfl⟩
/-- what an own assignment asks of its value -/
theorem own_post {i : Nat} (ok : Ok G X.K η σ H) (h : PostS X W S fr G Dn η σ H (thenS m (fun d => ownS i d) η)) : Post X W G η σ H (RF X G σ H) (fun x H1 => Dn.nx (σ.set i (some x)) H1) (m η) := by
  unfold thenS at h
  cases q : m η with
  | ok d η1 =>
    rw [q] at h
    intro v H1 s1 s2 o r
    have h' : PostS X W S fr G Dn η σ H (ownS i d η1) := h
    unfold ownS at h'
    by_cases hc : canSet η1 i = true
    · rw [if_pos hc] at h'
      obtain ⟨o2, t2⟩ := own_ok ok s1 s2 hc o r
      exact h' _ _ t2 o2
    · rw [if_neg hc] at h'
      exact h'.elim
  | exc c η1 =>
    rw [q] at h
    exact fun C H' m s1 s2 o => h C σ H' m (.of s1 s2) o
  | bad =>
    rw [q] at h
    exact h
theorem psd_own (i : Nat) {x : Str} {pos' : Pos} (hN : X.N.Nodup) (he : PFd X W e m) (hi : X.N[i]? = some x := by rfl) (hx : Loc X.env.scope x := by first | exact Or.inl rfl | exact Or.inr rfl) (hs : swapsWith e (some (.Name x pos')) pos.line X.env = pure false := by rfl)
    (hf : X.fn x = true ∨ X.env.scope.names.lookup x = some .local := by first | exact .inl rfl | exact .inr rfl | assumption) : PSd X W S fr (.Assign [.Name x pos'] e pos) (thenS m fun d => ownS i d) :=
  PS.weak (ps_set hN hi hx he hs hf) fun Dn σ H ⟨G, η, t, ok, h⟩ => ⟨G, η, ok, own_post ok h⟩
/-- an owned list is let go: from here on it stays as it is -/
def relS (i : Nat) (η : Sto) : Sto := match η[i]? with
  | some (.own false d) => η.set i (.val d)
  | _ => η
theorem rel_ok (i : Nat) (ok : Ok G X.K η σ H) : Ok G X.K (relS i η) σ H ∧ StepS η σ H (relS i η) σ H := by
  unfold relS
  split
  · rename_i d e
    have hi : i < η.length := (List.getElem?_eq_some_iff.mp e).1
    have fo : ∀ a, Fo (η.set i (.val d)) σ a → Fo η σ a := fun a ⟨j, b, d', e', q⟩ => by
      by_cases hj : j = i
      · subst hj
        rw [List.getElem?_set_self hi] at e'
        cases e'
      · rw [List.getElem?_set_ne (Ne.symm hj)] at e'
        exact ⟨j, b, d', e', q⟩
    have zo : ∀ a, Zo G (η.set i (.val d)) σ a → Zo G η σ a := fun a z => z.imp id (fo a)
    obtain ⟨p, ep, c⟩ := ok.own i false d e
    have np : ¬ Zo G (η.set i (.val d)) σ p := fun z => by
      rcases z with z | ⟨j, b, d', e', q⟩
      · exact ok.dis p z ⟨i, false, d, e, ep⟩
      · by_cases hj : j = i
        · subst hj
          rw [List.getElem?_set_self hi] at e'
          cases e'
        · rw [List.getElem?_set_ne (Ne.symm hj)] at e'
          exact hj (ok.inj j i _ _ _ _ p e' e q ep)
    refine ⟨⟨by rw [List.length_set]; exact ok.len, fun j d' e' => ?_, fun j b d' e' => ?_, fun j k b b' d' d2 q e1 e2 q1 q2 => ?_, ok.dom, fun a g f => ok.dis a g (fo a f)⟩, ⟨.refl, fun a f => .inl (fo a f), fun j d' e' => ?_⟩⟩
    · by_cases hj : j = i
      · subst hj
        rw [List.getElem?_set_self hi] at e'
        cases e'
        refine ⟨_, ep, ?_⟩
        cases d with
        | lst ds =>
          obtain ⟨xs, e3, q⟩ := c
          exact ⟨p, xs, rfl, np, e3, q.less zo⟩
        | dct ks ds =>
          obtain ⟨kvs, e3, r, q⟩ := c
          exact ⟨p, kvs, rfl, np, e3, r, q.less zo⟩
        | _ => exact False.elim c
      · rw [List.getElem?_set_ne (Ne.symm hj)] at e'
        obtain ⟨v, e2, q⟩ := ok.val j d' e'
        exact ⟨v, e2, q.less zo⟩
    · have hj : j ≠ i := fun z => by
        subst z
        rw [List.getElem?_set_self hi] at e'
        cases e'
      rw [List.getElem?_set_ne (Ne.symm hj)] at e'
      obtain ⟨q, e2, c2⟩ := ok.own j b d' e'
      exact ⟨q, e2, c2.less zo⟩
    · have hj : j ≠ i := fun z => by
        subst z
        rw [List.getElem?_set_self hi] at e1
        cases e1
      have hk : k ≠ i := fun z => by
        subst z
        rw [List.getElem?_set_self hi] at e2
        cases e2
      rw [List.getElem?_set_ne (Ne.symm hj)] at e1
      rw [List.getElem?_set_ne (Ne.symm hk)] at e2
      exact ok.inj j k _ _ _ _ q e1 e2 q1 q2
    · have hj : j ≠ i := fun z => by
        subst z
        rw [e] at e'
        cases e'
      rw [List.getElem?_set_ne (Ne.symm hj)]
      exact ⟨⟨d', e'⟩, rfl⟩
  · exact ⟨ok, .refl⟩
theorem psd_rel (i : Nat) (h : PSd X W S fr st mb) : PSd X W S fr st (fun η => mb (relS i η)) := PS.weak h fun Dn σ H ⟨G, η, t, ok, h⟩ => by
  obtain ⟨o, s⟩ := rel_ok i ok
  exact ⟨G, relS i η, StepS.trans t s, o, h.later s⟩
/-- the return of an owned list from a def that promises a new one -/
theorem psf_retO (i : Nat) {x : Str} {pos' : Pos} (hN : X.N[i]? = some x := by rfl) (hv : Vis X.env.scope x := by first | exact Or.inl rfl | exact Or.inr (Or.inl rfl) | exact Or.inr (Or.inr rfl))
    (hd : (x == ("__debug__" : Str)) = false := by decide) (hcd : (x == ("__classdict__" : Str)) = false := by decide) :
    PSd X W S true (.Return (some (.Name x pos')) pos) (fun η => match η[i]? with | some (.own false d) => .rt d (η.set i .no) | _ => .bad) :=
  PS.weak (ps_ret (pe_var hN hv hd hcd)) fun Dn σ H ⟨G, η, t, ok, h⟩ => by
    simp only at h
    split at h
    · rename_i d e
      have hi : i < η.length := (List.getElem?_eq_some_iff.mp e).1
      obtain ⟨p, ep, c⟩ := ok.own i false d e
      refine ⟨_, ep, ?_⟩
      have ne : ∀ (j : Nat) (s : Slot), (η.set i Slot.no)[j]? = some s → s ≠ .no → j ≠ i ∧ η[j]? = some s := fun j s e' hs => by
        by_cases hj : j = i
        · subst hj
          rw [List.getElem?_set_self hi] at e'
          cases e'
          exact absurd rfl hs
        · rw [List.getElem?_set_ne (Ne.symm hj)] at e'
          exact ⟨hj, e'⟩
      have fo : ∀ a, Fo (η.set i .no) σ a → Fo η σ a ∧ a ≠ p := fun a ⟨j, b, d', e', q⟩ => by
        obtain ⟨hj, e2⟩ := ne j _ e' (by intro z; cases z)
        exact ⟨⟨j, b, d', e2, q⟩, fun z => hj (ok.inj j i _ _ _ _ p e2 e (by rw [← z]; exact q) ep)⟩
      have zo : ∀ a, Zo (fun a => G a ∨ a = p) (η.set i .no) σ a → Zo G η σ a := fun a z => by
        rcases z with (z | z) | z
        · exact .inl z
        · exact .inr ⟨i, false, d, e, by rw [z]; exact ep⟩
        · exact .inr (fo a z).1
      have zo1 : ∀ a, Zo G (η.set i .no) σ a → Zo G η σ a := fun a z => z.imp id fun f => (fo a f).1
      have len : (η.set i Slot.no).length = σ.length := by rw [List.length_set]; exact ok.len
      have nG : ¬ G p := fun g => ok.dis p g ⟨i, false, d, e, ep⟩
      have okp : Ok (fun a => G a ∨ a = p) X.K (η.set i .no) σ H := ⟨len, fun j d' e' => by
          obtain ⟨hj, e2⟩ := ne j _ e' (by intro z; cases z)
          obtain ⟨v, e3, q⟩ := ok.val j d' e2
          exact ⟨v, e3, q.less zo⟩, fun j b d' e' => by
          obtain ⟨hj, e2⟩ := ne j _ e' (by intro z; cases z)
          obtain ⟨v, e3, q⟩ := ok.own j b d' e2
          exact ⟨v, e3, q.less zo⟩, fun j k b b' d' d2 q e1 e2 q1 q2 => ok.inj j k _ _ _ _ q (ne j _ e1 (by intro z; cases z)).2 (ne k _ e2 (by intro z; cases z)).2 q1 q2, fun a g => by
          rcases g with g | g
          · exact ok.dom a g
          · subst g
            exact c.there, fun a g f => by
          rcases g with g | g
          · exact ok.dis a g (fo a f).1
          · exact (fo a f).2 g⟩
      have okn : Ok G X.K (η.set i .no) σ H := ⟨len, fun j d' e' => by
          obtain ⟨v, e3, q⟩ := okp.val j d' e'
          exact ⟨v, e3, q.less fun a z => z.imp .inl id⟩, fun j b d' e' => by
          obtain ⟨v, e3, q⟩ := okp.own j b d' e'
          exact ⟨v, e3, q.less fun a z => z.imp .inl id⟩, okp.inj, ok.dom, fun a g => okp.dis a (.inl g)⟩
      have stp : StepS η σ H (η.set i .no) σ H := ⟨.refl, fun a f => .inl (fo a f).1, fun j d' e' => by
        have hj : j ≠ i := fun z => by
          subst z
          rw [e] at e'
          cases e'
        rw [List.getElem?_set_ne (Ne.symm hj)]
        exact ⟨⟨d', e'⟩, rfl⟩⟩
      refine h (.ref p) σ H stp okn ?_
      unfold RT
      rw [if_pos rfl]
      refine ⟨p, rfl, ?_, c.less fun a z => ?_, okp⟩
      · rcases t.grow p ⟨i, false, d, e, ep⟩ with ⟨j, b, d', e', q⟩ | z
        · have hb := S.top j b d' e'
          subst hb
          obtain ⟨⟨d2, e2⟩, q2⟩ := t.fix j d' e'
          have hj := ok.inj j i _ _ _ _ p e2 e (by rw [q2]; exact q) ep
          subst hj
          rw [e] at e2
          cases e2
        · exact z
      · rcases z with z | z
        · exact zo1 a z
        · exact .inr ⟨i, false, d, e, by rw [z]; exact ep⟩
    · exact h.elim
/-- an owned list or dict is written -/
theorem write_ok {i : Nat} {b : Bool} {c c' : D} {p : Addr} {o : HO} (ok : Ok G X.K η σ H) (e : η[i]? = some (.own b c)) (ep : σ[i]? = some (some (V.ref p))) (ht : ∀ xs, H p ≠ some (.tup xs)) (hf : ∀ o' u, H p ≠ some (.frz o' u))
    (hc : Cell (Zo G η σ) X.K (upd H p o) p c') : Ok G X.K (η.set i (.own b c')) σ (upd H p o) ∧ Shr η (η.set i (.own b c')) ∧ Step (Fo η σ) H (upd H p o) := by
  have hi : i < η.length := (List.getElem?_eq_some_iff.mp e).1
  have fp : Fo η σ p := ⟨i, b, c, e, ep⟩
  have st : Step (Fo η σ) H (upd H p o) := ⟨fun a u h n => by rw [upd_ne (fun z => n (by rw [z]; exact fp))]; exact h, fun a xs h => by rw [upd_ne (fun z => ht xs (by rw [← z]; exact h))]; exact h, fun a u w h => by rw [upd_ne (fun z => hf u w (by rw [← z]; exact h))]; exact h,
    fun a u h => by
      by_cases z : a = p
      · subst z
        exact ⟨o, upd_same⟩
      · exact ⟨u, by rw [upd_ne z]; exact h⟩⟩
  have self : (η.set i (Slot.own b c'))[i]? = some (.own b c') := List.getElem?_set_self hi
  have same : ∀ j, j ≠ i → (η.set i (Slot.own b c'))[j]? = η[j]? := fun j n => List.getElem?_set_ne (Ne.symm n)
  have shr : Shr η (η.set i (.own b c')) := ⟨fun j b' d h => by
      by_cases n : j = i
      · subst n
        rw [self] at h
        cases h
        exact ⟨c, e⟩
      · rw [same j n] at h
        exact ⟨d, h⟩, fun j d h => by
      by_cases n : j = i
      · subst n
        rw [e] at h
        cases h
        exact ⟨c', self⟩
      · exact ⟨d, by rw [same j n]; exact h⟩, fun j d h => by
      by_cases n : j = i
      · subst n
        rw [self] at h
        cases h
      · rw [same j n] at h
        exact h⟩
  have zo : ∀ a, Zo G (η.set i (.own b c')) σ a → Zo G η σ a := fun a z => z.imp id fun f => shr.fo f
  refine ⟨⟨by rw [List.length_set]; exact ok.len, fun j d h => ?_, fun j b' d h => ?_, fun j k b1 b2 d1 d2 q h1 h2 q1 q2 => ?_, fun a g => ?_, fun a g f => ok.dis a g (shr.fo f)⟩, shr, st⟩
  · obtain ⟨v, e', q⟩ := ok.val j d (shr.val j d h)
    exact ⟨v, e', Den.move st (fun _ f => .inr f) (fun a z => .inl (zo a z)) d q⟩
  · by_cases n : j = i
    · subst n
      rw [self] at h
      cases h
      exact ⟨p, ep, hc.less zo⟩
    · rw [same j n] at h
      obtain ⟨q, e', k⟩ := ok.own j b' d h
      refine ⟨q, e', Cell.move st (fun _ f => .inr f) (fun a z => .inl (zo a z)) (fun u hu => ?_) k⟩
      rw [upd_ne (fun z => n (ok.inj j i _ _ _ _ p h e (by rw [← z]; exact e') ep))]
      exact hu
  · obtain ⟨d3, k1⟩ := shr.sub j b1 d1 h1
    obtain ⟨d4, k2⟩ := shr.sub k b2 d2 h2
    exact ok.inj j k _ _ _ _ q k1 k2 q1 q2
  · obtain ⟨u, hu⟩ := ok.dom a g
    exact st.dom a u hu
def putL (c k d : D) : Option D := match c, k with
  | .lst ds, .int i => (ixN ds.length i).map fun j => .lst (ds.set j d)
  | _, _ => none
/-- xs[k] = e, xs owned -/
def storeS (i : Nat) (d k : D) : MS := fun η => match η[i]? with
  | some (.own b c) => (match putL c k d with | some c' => .nx (η.set i (.own b c')) | none => .bad)
  | _ => .bad
theorem psd_store (i : Nat) {x : Str} {ix : Expr} {px p2 : Pos} {mk : M D} (he : PEd X W e m) (hx : PEd X W ix mk) (hN : X.N[i]? = some x := by rfl) (hv : Vis X.env.scope x := by first | exact Or.inl rfl | exact Or.inr (Or.inl rfl) | exact Or.inr (Or.inr rfl))
    (hd : (x == ("__debug__" : Str)) = false := by decide) (hcd : (x == ("__classdict__" : Str)) = false := by decide)
    (ha : ∀ v, assign (.Subscript (.Name x px) ix p2) X.env v = (do
      let ov ← holding [v] (eval (.Name x px) X.env)
      let iv ← holding [v, ov] (eval ix X.env)
      standAt p2
      holding [v, ov, iv] (setItem ov iv v)
      release [v, ov, iv] []) := by intro _; rfl)
    (hs : swapsWithSole [.Subscript (.Name x px) ix p2] e pos.line X.env = pure false := by rfl) (hw : swappedStores [.Subscript (.Name x px) ix p2] e X.env = pure none := by rfl)
    (h1 : (assignEach [.Subscript (.Name x px) ix p2] X.env).map (·.2) = [assign (.Subscript (.Name x px) ix p2) X.env] := by rfl) :
    PSd X W S fr (.Assign [.Subscript (.Name x px) ix p2] e pos) (thenS (do let d ← m; let _ ← ownV i; let k ← mk; pure (d, k)) fun (d, k) => storeS i d k) :=
  PS.weak (ps_asg he (pg_sub (pe_var hN hv hd hcd) hx set_list ha) hs hw h1) fun Dn σ H ⟨G, η, t, ok, h⟩ => by
    have h' : PostS X W S fr G Dn η σ H (thenS m (fun d => thenS (ownV i) fun _ => thenS mk fun k => storeS i d k) η) := by
      have e : thenS (do let d ← m; let _ ← ownV i; let k ← mk; pure (d, k)) (fun (d, k) => storeS i d k) η = thenS m (fun d => thenS (ownV i) fun _ => thenS mk fun k => storeS i d k) η := by
        show thenS (M.bind m fun d => M.bind (ownV i) fun _ => M.bind mk fun k => M.pure (d, k)) _ η = _
        unfold thenS M.bind M.pure
        cases m η with
        | ok d η1 =>
          simp only
          cases ownV i η1 with
          | ok c η2 =>
            simp only
            cases mk η2 <;> rfl
          | _ => rfl
        | _ => rfl
      rw [← e]
      exact h
    refine ⟨G, η, ok, (PostS.bind (R := RD X G σ) h').imp fun v H1 ⟨η1, d, a1⟩ => ?_⟩
    -- the list's name, then the index
    have q1 := a1.post
    unfold thenS at q1
    cases qo : ownV i η1 with
    | ok c η2 =>
      rw [qo] at q1
      simp only at q1
      obtain ⟨e2, b, eb⟩ := ownV_ok qo
      subst e2
      obtain ⟨p, ep, _⟩ := a1.ok.own i b c eb
      refine ⟨_, ep, G, η2, a1.ok, (PostS.bind (R := RD X G σ) q1).imp fun kv H2 ⟨η3, k, a2⟩ => ?_⟩
      have q2 := a2.post
      unfold storeS at q2
      split at q2
      · rename_i b3 c3 e3
        split at q2
        · rename_i c' ec
          obtain ⟨p3, ep3, c3d⟩ := a2.ok.own i b3 c3 e3
          rw [ep] at ep3
          cases ep3
          unfold putL at ec
          split at ec
          · rename_i ds j
            cases ei : ixN ds.length j with
            | none => rw [ei] at ec; cases ec
            | some j' =>
              rw [ei] at ec
              cases ec
              obtain ⟨xs, hxs, dn⟩ := c3d
              have hk : kv = .int j := a2.r
              have dv : Den (Zo G η3 σ) X.K H2 d v := carry a2.shr a2.st a1.r
              refine ⟨p, xs, j, j', rfl, hk, hxs, by rw [← dn.length]; exact ei, ?_⟩
              have new : Same H2 H2 := Same.refl _
              have mv : ∀ {d0 : D} {v0 : V}, Den (Zo G η3 σ) X.K H2 d0 v0 → Den (Zo G η3 σ) X.K (upd H2 p (.lst (xs.set j' v))) d0 v0 := fun {d0 v0} q => by
                refine Den.move (F := fun a => a = p) ⟨fun a u h n => by rw [upd_ne n]; exact h, fun a ys h => by rw [upd_ne (fun z => by rw [z, hxs] at h; cases h)]; exact h, fun a u w h => by rw [upd_ne (fun z => by rw [z, hxs] at h; cases h)]; exact h, fun a u h => ?_⟩
                  (fun a z => by rw [z]; exact .inr ⟨i, b3, _, e3, ep⟩) (fun a z => .inl z) d0 q
                by_cases z : a = p
                · subst z; exact ⟨_, upd_same⟩
                · exact ⟨u, by rw [upd_ne z]; exact h⟩
              have mvs : Dens (Zo G η3 σ) X.K (upd H2 p (.lst (xs.set j' v))) ds xs := by
                refine Dens.move (F := fun a => a = p) ⟨fun a u h n => by rw [upd_ne n]; exact h, fun a ys h => by rw [upd_ne (fun z => by rw [z, hxs] at h; cases h)]; exact h, fun a u w h => by rw [upd_ne (fun z => by rw [z, hxs] at h; cases h)]; exact h, fun a u h => ?_⟩
                  (fun a z => by rw [z]; exact .inr ⟨i, b3, _, e3, ep⟩) (fun a z => .inl z) ds dn
                by_cases z : a = p
                · subst z; exact ⟨_, upd_same⟩
                · exact ⟨u, by rw [upd_ne z]; exact h⟩
              obtain ⟨o3, s3, t3⟩ := write_ok (c' := .lst (ds.set j' d)) a2.ok e3 ep (fun ys z => by rw [hxs] at z; cases z) (fun u w z => by rw [hxs] at z; cases z) ⟨_, upd_same, Dens.set j' mvs (mv dv)⟩
              exact q2 σ _ (.of s3 t3) o3
          · cases ec
        · exact q2.elim
      · exact q2.elim
    | exc c η2 =>
      exfalso
      unfold ownV at qo
      split at qo <;> cases qo
    | bad =>
      rw [qo] at q1
      exact q1.elim
end
end Pd

namespace Pd
open PySem L2
section
variable {X : Cx} {W : WX} {S : S0} {fr : Bool} {st : Stmt} {rest body : List Stmt} {e tg iter : Expr} {pos : Pos} {mb mc : MS} {m : M D} {G : Addr → Prop} {Dn : Ends} {η η1 : Sto} {σ σ1 : St} {H H1 : Hp}
/-- xs.append(e), xs owned -/
def appS (i : Nat) (d : D) : MS := fun η => match η[i]? with
  | some (.own b (.lst ds)) => if lenOk ds.length = true then .nx (η.set i (.own b (.lst (ds ++ [d])))) else .bad
  | _ => .bad
theorem same_but {p : Addr} {xs : List V} {o : HO} (h : H p = some (.lst xs)) : Step (fun a => a = p) H (upd H p o) :=
  ⟨fun a u e n => by rw [upd_ne n]; exact e, fun a ys e => by rw [upd_ne (fun z => by rw [z, h] at e; cases e)]; exact e, fun a u w e => by rw [upd_ne (fun z => by rw [z, h] at e; cases e)]; exact e, fun a u e => by
    by_cases z : a = p
    · subst z; exact ⟨_, upd_same⟩
    · exact ⟨u, by rw [upd_ne z]; exact e⟩⟩
def ownL (i : Nat) : M (List D) := fun η => match η[i]? with
  | some (.own _ (.lst ds)) => .ok ds η
  | _ => .bad
/-- first the slot is looked at -/
theorem PostS.ownL {i : Nat} {k : MS} (ok : Ok G X.K η σ H) (h : PostS X W S fr G Dn η σ H (thenS (ownL i) (fun _ => k) η)) : ∃ p ds xs b, σ[i]? = some (some (V.ref p)) ∧ η[i]? = some (.own b (.lst ds)) ∧ H p = some (.lst xs) ∧ Dens (Zo G η σ) X.K H ds xs ∧ PostS X W S fr G Dn η σ H (k η) := by
  unfold thenS Pd.ownL at h
  cases q : η[i]? with
  | none => rw [q] at h; exact h.elim
  | some s =>
    cases s with
    | own b d =>
      cases d with
      | lst ds =>
        rw [q] at h
        obtain ⟨p, ep, xs, hx, dn⟩ := ok.own i b _ q
        exact ⟨p, ds, xs, b, ep, rfl, hx, dn, h⟩
      | _ => rw [q] at h; exact h.elim
    | _ => rw [q] at h; exact h.elim
theorem psd_append (i : Nat) {x : Str} {px pa : Pos} {pos' : Pos} (he : PEd X W e m) (hN : X.N[i]? = some x := by rfl) (hv : Vis X.env.scope x := by first | exact Or.inl rfl | exact Or.inr (Or.inl rfl) | exact Or.inr (Or.inr rfl))
    (hd : (x == ("__debug__" : Str)) = false := by decide) (hcd : (x == ("__classdict__" : Str)) = false := by decide) (hst : starEach (e :: []) X.env = (false, eval e X.env) :: starEach [] X.env := by rfl)
    (hbase : attributeBase (.Name x px) "append" X.env (eval (.Name x px) X.env) = eval (.Name x px) X.env := by rfl)
    (hfew : ((backTo pos (starEach (e :: []) X.env)).all (fun x => !x.1) && (backToKw pos (keywordEach [] X.env)).all (fun x => x.1.isSome)
      && decide ((e :: []).length + ([] : List Keyword).length + (if ([] : List Keyword).isEmpty then 0 else 1) < 30)) = true := by rfl)
    (hline : (pa.endLine == pos.line) = true := by rfl) (hplain : (backTo pos (starEach [] X.env)).any (·.1) = false := by rfl)
    (hsw : swapsWith (.Call (.Attribute (.Name x px) "append" pa) [e] [] pos) none pos'.line X.env = pure false := by rfl) :
    PSd X W S fr (.Expr (.Call (.Attribute (.Name x px) "append" pa) [e] [] pos) pos') (thenS (ownL i) fun _ => thenS m fun d => appS i d) :=
  PS.weak (ps_expr (pe_bm PySem.F.plainAttrs_list PySem.F.slot_list_append PySem.F.type_list_append mt_append (pe_var hN hv hd hcd) (pa_cons he pa_nil hst) hbase hfew hline hst hplain) hsw) fun Dn σ H ⟨G, η, t, ok, h⟩ => by
    obtain ⟨p, ds, xs, b, ep, eb, hx, dn, h2⟩ := PostS.ownL ok h
    refine ⟨_, ep, .inl ⟨rfl, xs, .of hx⟩, G, η, ok, (PostS.bind (R := RD X G σ) h2).imp fun v H1 ⟨η1, d, a1⟩ => ?_⟩
    have q := a1.post
    unfold appS at q
    split at q
    · rename_i b1 ds1 e1
      obtain ⟨p1, ep1, xs1, hx1, dn1⟩ := a1.ok.own i b1 _ e1
      rw [ep] at ep1
      cases ep1
      split at q
      · rename_i hl
        refine ⟨p, xs1, v, rfl, rfl, hx1, by rw [← dn1.length]; exact lenOk_lt hl, ?_⟩
        have fp : ∀ a, a = p → Zo G η1 σ a := fun a z => by rw [z]; exact .inr ⟨i, b1, _, e1, ep⟩
        have mvs : Dens (Zo G η1 σ) X.K (upd H1 p (.lst (xs1 ++ [v]))) (ds1 ++ [d]) (xs1 ++ [v]) :=
          (Dens.move (same_but hx1) fp (fun a z => .inl z) ds1 dn1).append (.cons (Den.move (same_but hx1) fp (fun a z => .inl z) d a1.r) .nil)
        obtain ⟨o3, s3, t3⟩ := write_ok (c' := .lst (ds1 ++ [d])) a1.ok e1 ep (fun ys z => by rw [hx1] at z; cases z) (fun u w z => by rw [hx1] at z; cases z) ⟨_, upd_same, mvs⟩
        exact q σ _ (.of s3 t3) o3
      · exact q.elim
    · exact q.elim

/-! ### what a loop walks -/
/-- at every later heap J hands out the values of ds, one by one -/
def Feeds (K : PySem.W.Frag) (Z : Addr → Prop) (H : Hp) (ds : List D) (J : It) : Prop := ∀ (F Z1 : Addr → Prop) (H1 : Hp), Step F H H1 → (∀ a, F a → Z a) → (∀ a, Z1 a → Z a ∨ H a = none) →
  ∀ i, (i < ds.length → J.go i H1) ∧ (ds.length ≤ i → J.stop i H1) ∧ ∀ d x H2, ds[i]? = some d → J.yld i H1 x H2 → Same H1 H2 ∧ Den Z1 K H2 d x
def tI (X : Cx) (W : WX) (mi : M (List D)) : TI := fun σ H R => ∃ G η, Ok G X.K η σ H ∧ Post X W G η σ H (fun η' H' ds J => Feeds X.K (Zo G η' σ) H' ds J) R (mi η)
def PId (X : Cx) (W : WX) (tg iter : Expr) (mi : M (List D)) : Prop := PI X tg iter (tI X W mi)
theorem PI.weak {t u : TI} (h : PI X tg e t) (i : ∀ σ H Q, u σ H Q → t σ H Q) : PI X tg e u := ⟨fun pins s σ H Q I q => h.run pins s σ H Q I (i σ H Q q)⟩
def itemsD : D → Option (List D)
  | .tup ds => some ds
  | .lst ds => some ds
  | .scr ns => some (ns.map D.int)
  | _ => none
/-- a list or a tuple -/
theorem pi_seqA {l : Expr} {tl : TE} (hl : PE X l tl) : PI X tg l (fun σ H R => tl σ H fun x H1 => ∃ a, x = .ref a ∧ ((∃ xs, SqL X.K H1 a xs ∧ R (Itl X.K a) H1) ∨ ∃ xs, SqT X.K H1 a xs ∧ R (Itt X.K a) H1)) := by
  refine ⟨fun pins s σ H R I h => thn (hl.run pins s σ H _ I h) fun v s1 ⟨x, H1, I1, r1, a, ex, q1⟩ => ?_⟩
  subst ex
  cases r1
  rcases q1 with ⟨xs, hq, q⟩ | ⟨xs, hq, q⟩
  · obtain ⟨its, rv, pl, hz⟩ := I1.list hq
    refine wpAny_pyIter_list pl.isList ⟨s1.heap.objs.size, [s1.heap.objs.size], _, _, H1, rfl, I1.kept (t' := s1.toks) fun b o e => Heap.get?_push_of_some _ e, turn_list a _, ⟨_, Heap.get?_push_size _ rfl, rfl, rfl⟩, fun b hb => ?_, q⟩
    obtain rfl : b = s1.heap.objs.size := by simpa using hb
    exact I1.fpOk (Nat.le_refl _) (I1.hok.fresh (Nat.le_refl _))
  · obtain ⟨its, rv, pl, hz⟩ := I1.tuple hq
    refine wpAny_pyIter_tuple (show s1.heap.IsTuple a its.toArray from pl) ⟨s1.heap.objs.size, [s1.heap.objs.size], _, _, H1, rfl, I1.kept (t' := s1.toks) fun b o e => Heap.get?_push_of_some _ e, turn_tuple a _, ⟨_, Heap.get?_push_size _ rfl, rfl, rfl⟩, fun b hb => ?_, q⟩
    obtain rfl : b = s1.heap.objs.size := by simpa using hb
    exact I1.fpOk (Nat.le_refl _) (I1.hok.fresh (Nat.le_refl _))
theorem feeds_list {Z : Addr → Prop} {a : Addr} {xs : List V} {ds : List D} (hl : ∀ F H1, Step F H H1 → (∀ a, F a → Z a) → SqL X.K H1 a xs) (dn : Dens Z X.K H ds xs) (inj : ∀ {H1 : Hp} {ys : List V}, SqL X.K H1 a xs → SqL X.K H1 a ys → True) : Feeds X.K Z H ds (Itl X.K a) := by
  intro F Z1 H1 st hF hz i
  have hs := hl F H1 st hF
  refine ⟨fun hi => ⟨xs, xs[i]'(by rw [← dn.length]; exact hi), hs, List.getElem?_eq_getElem _⟩, fun hi => ⟨xs, hs, by rw [← dn.length]; exact hi⟩, fun d x H2 ed hy => ?_⟩
  obtain ⟨e, y⟩ := hy
  subst e
  obtain ⟨v, ev, dv⟩ := dn.get ed
  have e2 := y xs hs
  rw [ev] at e2
  cases e2
  exact ⟨Same.refl _, Den.move st hF hz d dv⟩
theorem feeds_tup {Z : Addr → Prop} {a : Addr} {xs : List V} {ds : List D} (hl : SqT X.K H a xs) (dn : Dens Z X.K H ds xs) : Feeds X.K Z H ds (Itt X.K a) := by
  intro F Z1 H1 st hF hz i
  have hs := st.seqT hl
  refine ⟨fun hi => ⟨xs, xs[i]'(by rw [← dn.length]; exact hi), hs, List.getElem?_eq_getElem _⟩, fun hi => ⟨xs, hs, by rw [← dn.length]; exact hi⟩, fun d x H2 ed hy => ?_⟩
  obtain ⟨e, y⟩ := hy
  subst e
  obtain ⟨v, ev, dv⟩ := dn.get ed
  have e2 := y xs hs
  rw [ev] at e2
  cases e2
  exact ⟨Same.refl _, Den.move st hF hz d dv⟩
theorem Scr.step {F : Addr → Prop} {a : Addr} {ns : List Int} (s : Step F H H1) (h : Scr X.K H a ns) : Scr X.K H1 a ns := by
  rcases h with ⟨o, h⟩ | h
  · exact .inl ⟨o, s.frz _ _ _ h⟩
  · exact .inr h
theorem pid_seq (he : PEd X W iter m) : PId X W tg iter (do let d ← m; M.of (itemsD d)) := PI.weak (pi_seqA he) fun σ H R ⟨G, η, ok, h⟩ => ⟨G, η, ok, (Post.bind (R := RD X G σ) h).imp fun x H1 ⟨η1, d, a1⟩ => by
  have q := a1.post
  cases d with
  | tup ds =>
    obtain ⟨a, xs, rfl, hs, dn⟩ := a1.r
    exact ⟨a, rfl, .inr ⟨xs, hs, q _ _ .refl .refl a1.ok (feeds_tup hs dn)⟩⟩
  | lst ds =>
    obtain ⟨a, xs, rfl, nz, hs, dn⟩ := a1.r
    exact ⟨a, rfl, .inl ⟨xs, .of hs, q _ _ .refl .refl a1.ok (feeds_list (fun F H2 st hF => .of (st.keep _ _ hs fun f => nz (hF a f))) dn fun _ _ => trivial)⟩⟩
  | scr ns =>
    obtain ⟨a, rfl, hs⟩ := a1.r
    exact ⟨a, rfl, .inl ⟨_, hs.seq, q _ _ .refl .refl a1.ok (feeds_list (fun F H2 st hF => (hs.step (X := X) st).seq) (dens_of_ints ns) fun _ _ => trivial)⟩⟩
  | _ => exact False.elim q⟩
def rangeL (lo : Int) (n : Nat) : List D := (List.range n).map fun (i : Nat) => D.int (lo + (i : Int))
theorem rangeL_get {lo : Int} {n i : Nat} {d : D} (h : (rangeL lo n)[i]? = some d) : d = .int (lo + i) := by
  unfold rangeL at h
  rw [List.getElem?_map] at h
  cases q : (List.range n)[i]? with
  | none => rw [q] at h; cases h
  | some j =>
    rw [q] at h
    cases h
    obtain ⟨hlt, e⟩ := List.getElem?_eq_some_iff.mp q
    rw [List.getElem_range] at e
    rw [e]
theorem feeds_range {Z : Addr → Prop} (lo : Int) (n : Nat) : Feeds X.K Z H (rangeL lo n) (Itr lo n) := by
  intro F Z1 H1 st hF hz i
  have hl : (rangeL lo n).length = n := by unfold rangeL; rw [List.length_map, List.length_range]
  refine ⟨fun hi => by rw [hl] at hi; exact hi, fun hi => by rw [hl] at hi; exact hi, fun d x H2 ed hy => ?_⟩
  obtain ⟨e, y⟩ := hy
  subst e
  rw [rangeL_get ed, y]
  exact ⟨Same.refl _, rfl⟩
def range1D : List D → Option (List D)
  | [.int j] => if -(2 ^ 62) ≤ j ∧ j < 2 ^ 62 then some (rangeL 0 j.toNat) else none
  | _ => none
def range2D : List D → Option (List D)
  | [.int i, .int j] => if -(2 ^ 62) ≤ i ∧ i < 2 ^ 62 ∧ -(2 ^ 62) ≤ j ∧ j < 2 ^ 62 then some (rangeL i (j - i).toNat) else none
  | _ => none
theorem pid_range1 {a : Expr} {p : Pos} {ms : M (List D)} (hm : X.mg "range" = none) (ha : PAd X W [a] ms) (hg : Gl X "range" := by rfl) (hs : starEach [a] X.env = [(false, eval a X.env)] := by rfl) : PId X W tg (.Call (.Name "range" p) [a] [] pos) (do let ds ← ms; M.of (range1D ds)) :=
  PI.weak (pi_range1 hg hm ha hs) fun σ H R ⟨G, η, ok, h⟩ => ⟨G, η, ok, (Post.bind (R := RDs X G σ) h).imp fun xs H1 ⟨η1, ds, a1⟩ => by
    have q := a1.post
    unfold range1D at q
    split at q
    · rename_i j
      split at q
      · rename_i hj
        obtain ⟨v, r, rfl, h1, h2⟩ := a1.r
        have e2 : r = [] := h2
        subst e2
        have e1 : v = .int j := h1
        subst e1
        exact ⟨j, rfl, hj.1, hj.2, q _ _ .refl .refl a1.ok (feeds_range 0 j.toNat)⟩
      · exact False.elim q
    · exact False.elim q⟩
theorem pid_range2 {a b : Expr} {p : Pos} {ms : M (List D)} (hm : X.mg "range" = none) (ha : PAd X W [a, b] ms) (hg : Gl X "range" := by rfl) (hs : starEach [a, b] X.env = [(false, eval a X.env), (false, eval b X.env)] := by rfl) (hs2 : starEach [b] X.env = [(false, eval b X.env)] := by rfl) :
    PId X W tg (.Call (.Name "range" p) [a, b] [] pos) (do let ds ← ms; M.of (range2D ds)) :=
  PI.weak (pi_range2 hg hm ha hs hs2) fun σ H R ⟨G, η, ok, h⟩ => ⟨G, η, ok, (Post.bind (R := RDs X G σ) h).imp fun xs H1 ⟨η1, ds, a1⟩ => by
    have q := a1.post
    unfold range2D at q
    split at q
    · rename_i i j
      split at q
      · rename_i hj
        obtain ⟨v, r, rfl, h1, w, r2, rfl, h2, h3⟩ := a1.r
        have e3 : r2 = [] := h3
        subst e3
        have e1 : v = .int i := h1
        have e2 : w = .int j := h2
        subst e1 e2
        exact ⟨i, j, rfl, hj, q _ _ .refl .refl a1.ok (feeds_range i (j - i).toNat)⟩
      · exact False.elim q
    · exact False.elim q⟩

/-! ### loops -/
def forS (f : D → MS) : List D → MS
  | [] => fun η => .nx η
  | d :: r => fun η => match f d η with
    | .nx η' => forS f r η'
    | .ct η' => forS f r η'
    | .bk η' => .nx η'
    | x => x
def turnS (g : D → MS) (mb : MS) (d : D) : MS := seqS (fun η => onlyNx (g d η)) mb
theorem psd_for {ix : List Nat} {g : D → MS} {mi : M (List D)} (hp : PassesOwn (model X.prog X.w) X.A X.env X.xe) (hc : X.calm = true) (hi : PId X W tg iter mi) (hg : PGd X tg ix g) (hb : PSsd X W S fr body mb) (hs : ∀ x, foldedSetIterable iter X.env x = pure x := by intro _; rfl) :
    PSd X W S fr (.For tg iter body [] pos) (thenS mi fun ds => forS (turnS g mb) ds) :=
  PS.weak (ps_for hp hc hi hg hb hs) fun Dn σ H ⟨G, η, t, ok, h⟩ => by
    refine ⟨G, η, ok, (PostS.bind (R := fun η' H' ds J => Feeds X.K (Zo G η' σ) H' ds J) h).imp fun J H1 ⟨η1, ds, a1⟩ => ?_⟩
    have hfeed := a1.r
    refine ⟨fun i m σ' H' => m = ds.length - i ∧ i ≤ ds.length ∧ ∃ η', StepS η1 σ H1 η' σ' H' ∧ Ok G X.K η' σ' H' ∧ PostS X W S fr G Dn η' σ' H' (forS (turnS g mb) (ds.drop i) η'), ⟨ds.length, by simp, Nat.zero_le _, η1, .refl, a1.ok, by rw [List.drop_zero]; exact a1.post⟩, ?_⟩
    rintro i m σ' H' ⟨rfl, hle, η', s', ok', p'⟩
    have hf := hfeed (Fo η1 σ) (Zo G η' σ') H' s'.st (fun a f => .inr f) (fun a z => z.elim (fun g => .inl (.inl g)) fun f => (s'.grow a f).imp .inr id) i
    by_cases hlt : i < ds.length
    · obtain ⟨d, ed⟩ : ∃ d, ds[i]? = some d := ⟨ds[i], List.getElem?_eq_getElem hlt⟩
      have edr : ds.drop i = d :: ds.drop (i + 1) := by
        rw [List.drop_eq_getElem_cons hlt]
        rw [List.getElem?_eq_getElem hlt] at ed
        cases ed
        rfl
      rw [edr] at p'
      refine .inr ⟨hf.1 hlt, fun σ2 H2 => ∃ η2, StepS η1 σ H1 η2 σ2 H2 ∧ Ok G X.K η2 σ2 H2 ∧ PostS X W S fr G Dn η2 σ2 H2 (forS (turnS g mb) (ds.drop (i + 1)) η2), fun σ2 H2 ⟨η2, q⟩ => ⟨ds.length - (i + 1), by omega, rfl, hlt, η2, q⟩, fun x H2 hy => ?_⟩
      obtain ⟨same, dn⟩ := hf.2.2 d x H2 ed hy
      have ok2 := ok'.same same
      have s2 : StepS η' σ' H' η' σ' H2 := .of .refl (.of_same same)
      refine ⟨G, η', d, ok2, dn, ?_⟩
      have p0 : PostS X W S fr G Dn η' σ' H' (match turnS g mb d η' with | .nx η' => forS (turnS g mb) (ds.drop (i + 1)) η' | .ct η' => forS (turnS g mb) (ds.drop (i + 1)) η' | .bk η' => .nx η' | x => x) := p'
      have et : turnS g mb d η' = match onlyNx (g d η') with | .nx η' => mb η' | r => r := rfl
      rw [et] at p0
      cases qg : g d η' with
      | nx η3 =>
        rw [qg] at p0
        intro σ3 H3 s3 o3 _
        have p3 : PostS X W S fr G Dn η' σ' H' (match mb η3 with | .nx η' => forS (turnS g mb) (ds.drop (i + 1)) η' | .ct η' => forS (turnS g mb) (ds.drop (i + 1)) η' | .bk η' => .nx η' | x => x) := p0
        have p4 := p3.later (s2.trans s3)
        have s13 : StepS η1 σ H1 η3 σ3 H3 := s'.trans (s2.trans s3)
        refine ⟨G, η3, StepS.trans (StepS.trans t (.of a1.shr a1.st)) s13, o3, ?_⟩
        cases qb : mb η3 with
        | nx η4 =>
          rw [qb] at p4
          exact fun σ4 H4 s4 o4 => ⟨η4, s13.trans s4, o4, p4.later s4⟩
        | ct η4 =>
          rw [qb] at p4
          exact fun σ4 H4 s4 o4 => ⟨η4, s13.trans s4, o4, p4.later s4⟩
        | bk η4 =>
          rw [qb] at p4
          exact fun σ4 H4 s4 o4 => p4 σ4 H4 s4 o4
        | rt d η4 =>
          rw [qb] at p4
          exact p4
        | exc c η4 =>
          rw [qb] at p4
          exact p4
        | bad =>
          rw [qb] at p4
          exact p4.elim
      | _ =>
        rw [qg] at p0
        exact False.elim p0
    · have e : i = ds.length := by omega
      subst e
      rw [List.drop_length] at p'
      exact .inl ⟨hf.2.1 (Nat.le_refl _), p' σ' H' .refl ok'⟩
def whileS (c : M Bool) (b : MS) : Nat → MS
  | 0 => fun _ => .bad
  | n + 1 => thenS c fun k => if k = true then (fun η => match b η with
    | .nx η' => whileS c b n η'
    | .ct η' => whileS c b n η'
    | .bk η' => .nx η'
    | x => x) else fun η => .nx η
theorem psd_while {c : Expr} {mt : M Bool} (fuel : Sto → Nat) (hp : PassesOwn (model X.prog X.w) X.A X.env X.xe) (hc : PTd X W c mt) (hb : PSsd X W S fr body mb) : PSd X W S fr (.While c body [] pos) (fun η => whileS mt mb (fuel η) η) :=
  PS.weak (ps_while hp hc hb) fun Dn σ H ⟨G, η, t, ok, h⟩ => by
    refine ⟨fun m σ' H' => ∃ η', StepS η σ H η' σ' H' ∧ Ok G X.K η' σ' H' ∧ PostS X W S fr G Dn η' σ' H' (whileS mt mb m η'), ⟨fuel η, η, .refl, ok, h⟩, ?_⟩
    rintro m σ' H' ⟨η', s', ok', p'⟩
    cases m with
    | zero => exact p'.elim
    | succ n =>
      unfold whileS at p'
      refine ⟨G, η', ok', (PostS.bind (R := RB) p').imp fun b H1 ⟨η1, b', a1⟩ => ?_⟩
      have e : b' = b := a1.r
      subst e
      have q := a1.post
      have s1 : StepS η σ H η1 σ' H1 := s'.trans (.of a1.shr a1.st)
      cases b' with
      | false => exact iteF (q σ' H1 .refl a1.ok)
      | true =>
        refine iteT ⟨fun σ2 H2 => ∃ η2, StepS η σ H η2 σ2 H2 ∧ Ok G X.K η2 σ2 H2 ∧ PostS X W S fr G Dn η2 σ2 H2 (whileS mt mb n η2), fun σ2 H2 q => ⟨n, Nat.lt_succ_self n, q⟩, G, η1, StepS.trans t s1, a1.ok, ?_⟩
        have p3 : PostS X W S fr G Dn η1 σ' H1 (match mb η1 with | .nx η' => whileS mt mb n η' | .ct η' => whileS mt mb n η' | .bk η' => .nx η' | x => x) := q
        cases qb : mb η1 with
        | nx η4 =>
          rw [qb] at p3
          exact fun σ4 H4 s4 o4 => ⟨η4, s1.trans s4, o4, p3.later s4⟩
        | ct η4 =>
          rw [qb] at p3
          exact fun σ4 H4 s4 o4 => ⟨η4, s1.trans s4, o4, p3.later s4⟩
        | bk η4 =>
          rw [qb] at p3
          exact fun σ4 H4 s4 o4 => p3 σ4 H4 s4 o4
        | rt d η4 =>
          rw [qb] at p3
          exact p3
        | exc c η4 =>
          rw [qb] at p3
          exact p3
        | bad =>
          rw [qb] at p3
          exact p3.elim

/-! ### exceptions -/
theorem psd_raise {x ms : Str} {C : Addr} {bmB : List Value} {B newId initId : String} {j : Nat} {p p2 : Pos} {pos2 : Pos} (hc : X.calm = true) (tk : Takes X W) (F : ExcBaseFacts B newId initId bmB) (q : PySem.W.excIn X.K C bmB newId = true) (gC : X.mg x = some (.ref C))
    (kC : PySem.W.keepIn X.K (.ref C) = true) (r : Raises X (.ref C)) (hg : Gl X x := by rfl) (hdb : (x == ("__debug__" : Str)) = false := by decide) : PSd X W S fr (.Raise (some (.Call (.Name x p) [.Constant (.str ms) j p2] [] pos)) none pos2) (fun η => .exc x η) :=
  PS.weak (ps_raise hc tk (pmk_own F q gC kC r hg hdb)) fun Dn σ H ⟨G, η, t, ok, h⟩ => h C σ H gC .refl ok
end
end Pd

namespace Pd
open PySem L2
/-! ### defs -/
def back : Sto → Sto → Sto
  | .own true _ :: as, s :: η => s :: back as η
  | a :: as, _ :: η => a :: back as η
  | as, _ => as
theorem back_nil (as : Sto) : back as [] = as := by
  cases as with
  | nil => rfl
  | cons a as => cases a with
    | own b d => cases b <;> rfl
    | _ => rfl
theorem back_get : ∀ {as η : Sto} {i : Nat}, (back as η)[i]? = (match as[i]? with | some (.own true d) => some ((η[i]?).getD (.own true d)) | s => s)
  | [], η, i => by cases η <;> simp [back]
  | a :: as, [], i => by
    rw [back_nil]
    cases (a :: as)[i]? with
    | none => rfl
    | some s => cases s with
      | own b d => cases b <;> simp
      | _ => rfl
  | a :: as, s :: η, 0 => by
    cases a with
    | own b d => cases b <;> rfl
    | _ => rfl
  | a :: as, s :: η, i + 1 => by
    have e := back_get (as := as) (η := η) (i := i)
    cases a with
    | own b d => cases b <;> simpa [back] using e
    | _ => simpa [back] using e
theorem back_len : ∀ {as η : Sto}, (back as η).length = as.length
  | [], η => by cases η <;> rfl
  | a :: as, [] => by rw [back_nil]
  | a :: as, s :: η => by
    cases a with
    | own b d => cases b <;> simp [back, back_len (as := as) (η := η)]
    | _ => simp [back, back_len (as := as) (η := η)]
def allFix (as : Sto) : Bool := as.all fun s => match s with | .own false _ => false | _ => true
theorem allFix_get {as : Sto} (h : allFix as = true) {i : Nat} {b : Bool} {d : D} (e : as[i]? = some (.own b d)) : b = true := by
  have := List.all_eq_true.mp h _ (List.mem_of_getElem? e)
  cases b with
  | true => rfl
  | false => cases this
/-- a def's function from its body's -/
def fnM (n N : Nat) (mb : MS) : M D := fun as => if (decide (as.length = n) && allFix as) = true then (match mb (as ++ List.replicate (N - n) .no) with
    | .nx η => .ok .non (back as η)
    | .rt d η => .ok d (back as η)
    | .exc c η => .exc c (back as η)
    | _ => .bad) else .bad
/-- .. of one that promises a new list -/
def fnF (n N : Nat) (mb : MS) : M D := fun as => if (decide (as.length = n) && allFix as) = true then (match mb (as ++ List.replicate (N - n) .no) with
    | .rt d η => .ok d (back as η)
    | .exc c η => .exc c (back as η)
    | _ => .bad) else .bad
section
variable {G G' : Addr → Prop} {K : PySem.W.Frag} {as η' : Sto} {vs : List V} {H H' : Hp} {N : List Str} {σ' : St}
theorem start_get {i : Nat} (h : i < vs.length) : (L2.start N vs)[i]? = (vs.map some)[i]? := by
  unfold L2.start
  rw [List.getElem?_append_left (by simpa using h)]
theorem grow_get {i n : Nat} (h : i < as.length) : (as ++ List.replicate n Slot.no)[i]? = as[i]? := List.getElem?_append_left h
theorem grow_own {n i : Nat} {s : Slot} (e : (as ++ List.replicate n Slot.no)[i]? = some s) (hs : s ≠ .no) : as[i]? = some s := by
  by_cases h : i < as.length
  · rw [grow_get h] at e
    exact e
  · rw [List.getElem?_append_right (by omega), List.getElem?_replicate] at e
    split at e
    · cases e
      exact absurd rfl hs
    · cases e
theorem start_fo (hl : as.length = vs.length) {n : Nat} {a : Addr} : Fo (as ++ List.replicate n .no) (L2.start N vs) a ↔ Fo as (vs.map some) a := by
  constructor
  · rintro ⟨i, b, d, e, q⟩
    have e' := grow_own e (by intro z; cases z)
    have hi : i < vs.length := by rw [← hl]; exact (List.getElem?_eq_some_iff.mp e').1
    rw [start_get hi] at q
    exact ⟨i, b, d, e', q⟩
  · rintro ⟨i, b, d, e, q⟩
    have hi : i < as.length := (List.getElem?_eq_some_iff.mp e).1
    exact ⟨i, b, d, by rw [grow_get hi]; exact e, by rw [start_get (by rw [← hl]; exact hi)]; exact q⟩
theorem start_ok (ok : Ok G K as (vs.map some) H) (hN : vs.length ≤ N.length) : Ok G K (as ++ List.replicate (N.length - as.length) .no) (L2.start N vs) H := by
  have hl : as.length = vs.length := by rw [ok.len, List.length_map]
  have lt : ∀ {i : Nat} {s : Slot}, as[i]? = some s → i < vs.length := fun e => by rw [← hl]; exact (List.getElem?_eq_some_iff.mp e).1
  have zo : ∀ a, Zo G (as ++ List.replicate (N.length - as.length) .no) (L2.start N vs) a → Zo G as (vs.map some) a := fun a z => z.imp id (start_fo hl).mp
  refine ⟨?_, fun i d e => ?_, fun i b d e => ?_, fun i j b b' d d' p e e' q q' => ?_, ok.dom, fun a g f => ok.dis a g ((start_fo hl).mp f)⟩
  · unfold L2.start
    rw [List.length_append, List.length_append, List.length_map, List.length_replicate, List.length_replicate]
    omega
  · have e' := grow_own e (by intro z; cases z)
    obtain ⟨v, q, r⟩ := ok.val i d e'
    exact ⟨v, by rw [start_get (lt e')]; exact q, r.less zo⟩
  · have e' := grow_own e (by intro z; cases z)
    obtain ⟨v, q, r⟩ := ok.own i b d e'
    exact ⟨v, by rw [start_get (lt e')]; exact q, r.less zo⟩
  · have e1 := grow_own e (by intro z; cases z)
    have e2 := grow_own e' (by intro z; cases z)
    rw [start_get (lt e1)] at q
    rw [start_get (lt e2)] at q'
    exact ok.inj i j _ _ _ _ p e1 e2 q q'
theorem back_ok (ok : Ok G K as (vs.map some) H) (hfx : allFix as = true) (hN : vs.length ≤ N.length) (s : StepS (as ++ List.replicate (N.length - as.length) .no) (L2.start N vs) H η' σ' H') (ok' : Ok G' K η' σ' H') (hG : ∀ a, G' a → G a ∨ H a = none) :
    Ok G' K (back as η') (vs.map some) H' ∧ Shr as (back as η') ∧ (∀ a, Fo (back as η') (vs.map some) a → Fo η' σ' a) ∧ Step (Fo as (vs.map some)) H H' := by
  have hl : as.length = vs.length := by rw [ok.len, List.length_map]
  have lt : ∀ {i : Nat} {s : Slot}, as[i]? = some s → i < vs.length := fun e => by rw [← hl]; exact (List.getElem?_eq_some_iff.mp e).1
  have st : Step (Fo as (vs.map some)) H H' := s.st.wider fun a f => (start_fo hl).mp f
  -- a slot of back: an owned one is η's, at its old address; another one is the argument itself
  have bo : ∀ (i : Nat) (b : Bool) (d : D), (back as η')[i]? = some (.own b d) → (∃ d0, as[i]? = some (.own true d0)) ∧ η'[i]? = some (.own b d) ∧ b = true ∧ σ'[i]? = (vs.map some)[i]? := fun i b d e => by
    rw [back_get] at e
    cases q : as[i]? with
    | none => rw [q] at e; cases e
    | some a =>
      rw [q] at e
      cases a with
      | own b0 d0 =>
        have hb := allFix_get hfx q
        subst hb
        have hi := lt q
        obtain ⟨⟨d1, e1⟩, q1⟩ := s.fix i d0 (by rw [grow_get (by rw [hl]; exact hi)]; exact q)
        simp only [e1, Option.getD_some] at e
        cases e
        exact ⟨⟨d0, rfl⟩, e1, rfl, by rw [q1, start_get hi]⟩
      | val d0 => cases e
      | no => cases e
  have bv : ∀ (i : Nat) (d : D), (back as η')[i]? = some (.val d) → as[i]? = some (.val d) := fun i d e => by
    rw [back_get] at e
    cases q : as[i]? with
    | none => rw [q] at e; cases e
    | some a =>
      rw [q] at e
      cases a with
      | own b0 d0 =>
        have hb := allFix_get hfx q
        subst hb
        obtain ⟨⟨d1, e1⟩, q1⟩ := s.fix i d0 (by rw [grow_get (by rw [hl]; exact lt q)]; exact q)
        simp only [e1, Option.getD_some] at e
        cases e
      | val d0 => exact e
      | no => cases e
  have fo : ∀ a, Fo (back as η') (vs.map some) a → Fo η' σ' a := fun a ⟨i, b, d, e, q⟩ => by
    obtain ⟨_, e1, _, q1⟩ := bo i b d e
    exact ⟨i, b, d, e1, by rw [q1]; exact q⟩
  have fo2 : ∀ a, Fo (back as η') (vs.map some) a → Fo as (vs.map some) a := fun a ⟨i, b, d, e, q⟩ => by
    obtain ⟨⟨d0, e0⟩, _⟩ := bo i b d e
    exact ⟨i, _, d0, e0, q⟩
  have zo : ∀ a, Zo G' (back as η') (vs.map some) a → Zo G as (vs.map some) a ∨ H a = none := fun a z => by
    rcases z with z | z
    · exact (hG a z).imp .inl id
    · exact .inl (.inr (fo2 a z))
  refine ⟨⟨by rw [back_len]; exact ok.len, fun i d e => ?_, fun i b d e => ?_, fun i j b b' d d' p e e' q q' => ?_, ok'.dom, fun a g f => ok'.dis a g (fo a f)⟩, ⟨fun i b d e => ?_, fun i d e => ?_, fun i d e => bv i d e⟩, fo, st⟩
  · obtain ⟨v, e', q⟩ := ok.val i d (bv i d e)
    exact ⟨v, e', Den.move st (fun _ f => .inr f) zo d q⟩
  · obtain ⟨_, e1, _, q1⟩ := bo i b d e
    obtain ⟨p, e', q⟩ := ok'.own i b d e1
    exact ⟨p, by rw [← q1]; exact e', q.less fun a z => z.imp id (fo a)⟩
  · obtain ⟨_, e1, _, q1⟩ := bo i b d e
    obtain ⟨_, e2, _, q2⟩ := bo j b' d' e'
    exact ok'.inj i j _ _ _ _ p e1 e2 (by rw [q1]; exact q) (by rw [q2]; exact q')
  · obtain ⟨⟨d0, e0⟩, _, hb, _⟩ := bo i b d e
    subst hb
    exact ⟨d0, e0⟩
  · have hi := lt e
    obtain ⟨⟨d1, e1⟩, _⟩ := s.fix i d (by rw [grow_get (by rw [hl]; exact hi)]; exact e)
    exact ⟨d1, by rw [back_get, e]; simp only [e1, Option.getD_some]⟩
end
section
open PySem.Calls PySem.W
variable {P : Program} {w : World} {K : PySem.W.Frag} {mg : Str → Option Value} {base : Heap} {x qual : Str} {st : Stmt} {f : Addr} {fd : FuncData} {N ps : List Str} {k : Nat} {mb : MS}
/-- THE RULE for a def -/
theorem fn_ok (F : Fun K x qual st f fd) (Sc : FnScope N ps (defScope st))
    (hbody : ∀ (cdv : Value) (A : Around) (outer : List PySem.Env) (s : Shared) (H : Hp) (E : XK) (S : S0), Room k (cxOf (L2.CX P w) P w K mg base N qual (defScope st) f cdv A outer s H E).A →
      PSsd (cxOf (L2.CX P w) P w K mg base N qual (defScope st) f cdv A outer s H E) (fun cls d _ H' => E cls d H') S false (defBody st) mb) :
    FnOk P w K mg base (L2.CX P w) (k + 1) f fd ps (spD K mg ps.length (fnM ps.length N.length mb)) := by
  refine F.okX Sc (fun vs H Q E h => ?_) (fun cdv A outer s H vs Q E hr h => ?_)
  · obtain ⟨G, as, hn, _⟩ := h
    exact hn
  · obtain ⟨G, as, hn, ok, q⟩ := h
    have hl : as.length = vs.length := by rw [ok.len, List.length_map]
    have hpl : ps.length ≤ N.length := by
      have := congrArg List.length Sc.pre
      rw [List.length_take] at this
      omega
    unfold fnM at q
    by_cases hc : (decide (as.length = ps.length) && allFix as) = true
    · rw [if_pos hc] at q
      rw [Bool.and_eq_true, decide_eq_true_eq] at hc
      have hNv : vs.length ≤ N.length := by omega
      have ok0 := start_ok (N := N) ok hNv
      have ea : N.length - ps.length = N.length - as.length := by rw [hc.1]
      rw [ea] at q
      refine ⟨_, hbody cdv A outer s H E ⟨as ++ List.replicate (N.length - as.length) Slot.no, L2.start N vs, H, fun i b d e => allFix_get hc.2 (grow_own e (by intro z; cases z))⟩ hr, G, as ++ List.replicate (N.length - as.length) Slot.no, .refl, ok0, ?_⟩
      cases qb : mb (as ++ List.replicate (N.length - as.length) .no) with
      | nx η' =>
        rw [qb] at q
        intro σ' H' s1 o1
        obtain ⟨b1, b2, b3, b4⟩ := back_ok ok hc.2 hNv s1 o1 (fun a g => .inl g)
        exact q .non H' b2 b4 b1 rfl
      | rt d η' =>
        rw [qb] at q
        intro v σ' H' s1 o1 r
        obtain ⟨b1, b2, b3, b4⟩ := back_ok ok hc.2 hNv s1 o1 (fun a g => .inl g)
        have r' : Den (Zo G η' σ') K H' d v := by
          unfold RT at r
          rw [if_neg (by decide)] at r
          exact r
        exact q v H' b2 b4 b1 (r'.less fun a z => z.imp id (b3 a))
      | exc c η' =>
        rw [qb] at q
        intro C σ' H' hC s1 o1
        obtain ⟨b1, b2, b3, b4⟩ := back_ok ok hc.2 hNv s1 o1 (fun a g => .inl g)
        exact q C H' hC b2 b4 b1
      | bk η' => rw [qb] at q; exact q.elim
      | ct η' => rw [qb] at q; exact q.elim
      | bad => rw [qb] at q; exact q.elim
    · rw [if_neg hc] at q
      exact q.elim
theorem fnF_ok (F : Fun K x qual st f fd) (Sc : FnScope N ps (defScope st))
    (hbody : ∀ (cdv : Value) (A : Around) (outer : List PySem.Env) (s : Shared) (H : Hp) (E : XK) (S : S0), Room k (cxOf (L2.CX P w) P w K mg base N qual (defScope st) f cdv A outer s H E).A →
      PSsd (cxOf (L2.CX P w) P w K mg base N qual (defScope st) f cdv A outer s H E) (fun cls d _ H' => E cls d H') S true (defBody st) mb) :
    FnOk P w K mg base (L2.CX P w) (k + 1) f fd ps (spF K mg ps.length (fnF ps.length N.length mb)) := by
  refine F.okX Sc (fun vs H Q E h => ?_) (fun cdv A outer s H vs Q E hr h => ?_)
  · obtain ⟨G, as, hn, _⟩ := h
    exact hn
  · obtain ⟨G, as, hn, ok, q⟩ := h
    have hl : as.length = vs.length := by rw [ok.len, List.length_map]
    have hpl : ps.length ≤ N.length := by
      have := congrArg List.length Sc.pre
      rw [List.length_take] at this
      omega
    unfold fnF at q
    by_cases hc : (decide (as.length = ps.length) && allFix as) = true
    · rw [if_pos hc] at q
      rw [Bool.and_eq_true, decide_eq_true_eq] at hc
      have hNv : vs.length ≤ N.length := by omega
      have ok0 := start_ok (N := N) ok hNv
      have ea : N.length - ps.length = N.length - as.length := by rw [hc.1]
      rw [ea] at q
      refine ⟨_, hbody cdv A outer s H E ⟨as ++ List.replicate (N.length - as.length) Slot.no, L2.start N vs, H, fun i b d e => allFix_get hc.2 (grow_own e (by intro z; cases z))⟩ hr, G, as ++ List.replicate (N.length - as.length) Slot.no, .refl, ok0, ?_⟩
      cases qb : mb (as ++ List.replicate (N.length - as.length) .no) with
      | rt d η' =>
        rw [qb] at q
        intro v σ' H' s1 o1 r
        obtain ⟨b1, b2, b3, b4⟩ := back_ok ok hc.2 hNv s1 o1 (fun a g => .inl g)
        unfold RT at r
        rw [if_pos rfl] at r
        obtain ⟨p, ev, hp, c, okp⟩ := r
        obtain ⟨c1, c2, c3, c4⟩ := back_ok ok hc.2 hNv s1 okp (fun a g => g.imp id fun z => by rw [z]; exact hp)
        exact q v H' b2 b4 b1 ⟨p, ev, hp, c.less fun a z => z.imp (fun z => z.imp id (b3 a)) id, c1⟩
      | exc c η' =>
        rw [qb] at q
        intro C σ' H' hC s1 o1
        obtain ⟨b1, b2, b3, b4⟩ := back_ok ok hc.2 hNv s1 o1 (fun a g => .inl g)
        exact q C H' hC b2 b4 b1
      | nx η' => rw [qb] at q; exact q.elim
      | bk η' => rw [qb] at q; exact q.elim
      | ct η' => rw [qb] at q; exact q.elim
      | bad => rw [qb] at q; exact q.elim
    · rw [if_neg hc] at q
      exact q.elim
end
end Pd

namespace Pd
open PySem L2
/-! ### comprehensions -/
def W0 : WX := fun _ _ _ _ => False
def wipeS (η : Sto) : List Nat → Sto
  | [] => η
  | v :: vs => (wipeS η vs).set v .no
def noOwn (η : Sto) (vs : List Nat) : Bool := vs.all fun v => match η[v]? with | some (.own _ _) => false | _ => true
/-- behind a turn the block's own slots are as they were -/
def restS (η ηb : Sto) (vs : List Nat) : Sto := ηb.mapIdx fun i s => if vs.contains i = true then (η[i]?).getD .no else s
def turnC (vs : List Nat) (g : D → MS) (mt : M Bool) (me : M D) (d : D) : M (Option D) := fun η => if noOwn η vs = true then (match g d (wipeS η vs) with
    | .nx η1 => (match mt η1 with
      | .ok true η2 => (match me η2 with
        | .ok y η3 => .ok (some y) (restS η η3 vs)
        | _ => .bad)
      | .ok false η2 => .ok none (restS η η2 vs)
      | _ => .bad)
    | _ => .bad) else .bad
def growC (acc : List D) : Option D → Option (List D)
  | some y => if lenOk acc.length = true then some (acc ++ [y]) else none
  | none => some acc
def compM (f : D → M (Option D)) : List D → List D → M (List D)
  | acc, [] => M.pure acc
  | acc, d :: r => M.bind (f d) fun o => M.bind (M.of (growC acc o)) fun acc' => compM f acc' r
theorem wipeS_get {η : Sto} {i : Nat} : ∀ {vs : List Nat}, (wipeS η vs)[i]? = if i ∈ vs then (η[i]?).map fun _ => Slot.no else η[i]?
  | [] => by simp [wipeS]
  | v :: vs => by
    unfold wipeS
    have ih := wipeS_get (η := η) (i := i) (vs := vs)
    by_cases hv : v = i
    · subst hv
      have el : (wipeS η vs).length = η.length := by
        clear ih
        induction vs with
        | nil => rfl
        | cons a vs ih => unfold wipeS; rw [List.length_set, ih]
      rw [if_pos List.mem_cons_self]
      by_cases hl : v < η.length
      · rw [List.getElem?_set_self (by rw [el]; exact hl), List.getElem?_eq_getElem hl]
        rfl
      · rw [List.getElem?_eq_none (by rw [List.length_set, el]; omega), List.getElem?_eq_none (by omega)]
        rfl
    · rw [List.getElem?_set_ne hv, ih]
      by_cases hm : i ∈ vs
      · rw [if_pos hm, if_pos (List.mem_cons_of_mem _ hm)]
      · rw [if_neg hm, if_neg (by simp only [List.mem_cons, not_or]; exact ⟨fun z => hv z.symm, hm⟩)]
theorem wipeS_len {η : Sto} : ∀ {vs : List Nat}, (wipeS η vs).length = η.length
  | [] => rfl
  | v :: vs => by unfold wipeS; rw [List.length_set, wipeS_len]
theorem wipe_get {σ : St} {i : Nat} : ∀ {vs : List Nat}, i ∉ vs → (wipe σ vs)[i]? = σ[i]?
  | [], _ => rfl
  | v :: vs, h => by
    simp only [List.mem_cons, not_or] at h
    unfold wipe
    rw [List.getElem?_set_ne (Ne.symm h.1), wipe_get h.2]
theorem wipe_eq {σ σ2 : St} : ∀ {vs : List Nat}, σ2.length = σ.length → (∀ j, j ∉ vs → σ2[j]? = (wipe σ vs)[j]?) → wipe σ2 vs = wipe σ vs := by
  intro vs hl h
  apply List.ext_getElem?
  intro i
  by_cases hi : i ∈ vs
  · have z : ∀ (τ : St), (wipe τ vs)[i]? = if i < τ.length then some none else none := by
      intro τ
      clear h
      induction vs with
      | nil => cases hi
      | cons v vs ih =>
        unfold wipe
        by_cases hv : v = i
        · subst hv
          by_cases hlt : v < τ.length
          · rw [List.getElem?_set_self (by rw [wipe_length]; exact hlt), if_pos hlt]
          · rw [List.getElem?_eq_none (by rw [List.length_set, wipe_length]; omega), if_neg hlt]
        · rw [List.getElem?_set_ne hv]
          exact ih ((List.mem_cons.mp hi).resolve_left fun z => hv z.symm)
    rw [z, z, hl]
  · rw [wipe_get hi]
    exact h i hi
theorem restS_get {η ηb : Sto} {vs : List Nat} {i : Nat} : (restS η ηb vs)[i]? = (ηb[i]?).map fun s => if i ∈ vs then (η[i]?).getD .no else s := by
  unfold restS
  rw [List.getElem?_mapIdx]
  cases ηb[i]? with
  | none => rfl
  | some s =>
    by_cases h : i ∈ vs
    · simp [h]
    · simp [h]
theorem noOwn_get {η : Sto} {vs : List Nat} (h : noOwn η vs = true) {i : Nat} {b : Bool} {d : D} (hi : i ∈ vs) : η[i]? ≠ some (.own b d) := fun e => by
  have := List.all_eq_true.mp h i hi
  rw [e] at this
  cases this
section
variable {X : Cx} {W : WX} {G : Addr → Prop} {η η1 : Sto} {σ σ1 : St} {H H1 : Hp} {vs : List Nat}
theorem wipe_fo (hn : noOwn η vs = true) {a : Addr} : Fo (wipeS η vs) (wipe σ vs) a ↔ Fo η σ a := by
  constructor
  · rintro ⟨i, b, d, e, q⟩
    rw [wipeS_get] at e
    by_cases hi : i ∈ vs
    · rw [if_pos hi] at e
      cases hx : η[i]? with
      | none => rw [hx] at e; cases e
      | some s => rw [hx] at e; cases e
    · rw [if_neg hi] at e
      rw [wipe_get hi] at q
      exact ⟨i, b, d, e, q⟩
  · rintro ⟨i, b, d, e, q⟩
    have hi : i ∉ vs := fun hi => noOwn_get hn hi e
    exact ⟨i, b, d, by rw [wipeS_get, if_neg hi]; exact e, by rw [wipe_get hi]; exact q⟩
theorem wipe_ok (hn : noOwn η vs = true) (ok : Ok G X.K η σ H) : Ok G X.K (wipeS η vs) (wipe σ vs) H := by
  have zo : ∀ a, Zo G (wipeS η vs) (wipe σ vs) a → Zo G η σ a := fun a z => z.imp id (wipe_fo hn).mp
  have get : ∀ (i : Nat) (s : Slot), (wipeS η vs)[i]? = some s → s ≠ .no → i ∉ vs ∧ η[i]? = some s := fun i s e hs => by
    rw [wipeS_get] at e
    by_cases hi : i ∈ vs
    · rw [if_pos hi] at e
      cases hx : η[i]? with
      | none => rw [hx] at e; cases e
      | some s' => rw [hx] at e; cases e; exact absurd rfl hs
    · rw [if_neg hi] at e
      exact ⟨hi, e⟩
  refine ⟨by rw [wipeS_len, wipe_length]; exact ok.len, fun i d e => ?_, fun i b d e => ?_, fun i j b b' d d' p e e' q q' => ?_, ok.dom, fun a g f => ok.dis a g ((wipe_fo hn).mp f)⟩
  · obtain ⟨hi, e1⟩ := get i _ e (by intro z; cases z)
    obtain ⟨v, e2, q⟩ := ok.val i d e1
    exact ⟨v, by rw [wipe_get hi]; exact e2, q.less zo⟩
  · obtain ⟨hi, e1⟩ := get i _ e (by intro z; cases z)
    obtain ⟨v, e2, q⟩ := ok.own i b d e1
    exact ⟨v, by rw [wipe_get hi]; exact e2, q.less zo⟩
  · obtain ⟨hi, e1⟩ := get i _ e (by intro z; cases z)
    obtain ⟨hj, e2⟩ := get j _ e' (by intro z; cases z)
    rw [wipe_get hi] at q
    rw [wipe_get hj] at q'
    exact ok.inj i j _ _ _ _ p e1 e2 q q'
/-- a turn's end: the slots outside of the block -/
theorem rest_ok {η2 : Sto} {σ2 : St} {H5 : Hp} (ok : Ok G X.K η σ H) (hn : noOwn η vs = true) (st : Step (Fo η σ) H H5) (ok5 : Ok G X.K η2 σ2 H5) (hσ : ∀ j, j ∉ vs → σ2[j]? = σ[j]?) (hl : σ2.length = σ.length)
    (sub : ∀ (j : Nat) (b : Bool) (d : D), j ∉ vs → η2[j]? = some (.own b d) → ∃ d', η[j]? = some (.own b d')) (fix : ∀ (j : Nat) (d : D), j ∉ vs → η[j]? = some (.own true d) → ∃ d', η2[j]? = some (.own true d'))
    (val : ∀ (j : Nat) (d : D), j ∉ vs → η2[j]? = some (.val d) → η[j]? = some (.val d)) : Ok G X.K (restS η η2 vs) σ H5 ∧ Shr η (restS η η2 vs) ∧ ∀ a, Fo (restS η η2 vs) σ a → Fo η2 σ2 a := by
  have len : η2.length = η.length := by rw [ok5.len, hl, ok.len]
  have gin : ∀ (i : Nat), i ∈ vs → (restS η η2 vs)[i]? = η[i]? := fun i hi => by
    rw [restS_get]
    cases q : η2[i]? with
    | none =>
      have : η.length ≤ i := by rw [← len]; exact List.getElem?_eq_none_iff.mp q
      rw [List.getElem?_eq_none this]
      rfl
    | some s =>
      have hlt : i < η.length := by rw [← len]; exact (List.getElem?_eq_some_iff.mp q).1
      rw [List.getElem?_eq_getElem hlt]
      simp [hi]
  have gout : ∀ (i : Nat), i ∉ vs → (restS η η2 vs)[i]? = η2[i]? := fun i hi => by
    rw [restS_get]
    cases η2[i]? with
    | none => rfl
    | some s => simp [hi]
  have fo : ∀ a, Fo (restS η η2 vs) σ a → Fo η2 σ2 a := fun a ⟨i, b, d, e, q⟩ => by
    by_cases hi : i ∈ vs
    · rw [gin i hi] at e
      exact absurd e (noOwn_get hn hi)
    · rw [gout i hi] at e
      exact ⟨i, b, d, e, by rw [hσ i hi]; exact q⟩
  have shr : Shr η (restS η η2 vs) := ⟨fun i b d e => by
      by_cases hi : i ∈ vs
      · rw [gin i hi] at e
        exact ⟨d, e⟩
      · rw [gout i hi] at e
        exact sub i b d hi e, fun i d e => by
      by_cases hi : i ∈ vs
      · exact ⟨d, by rw [gin i hi]; exact e⟩
      · obtain ⟨d', e'⟩ := fix i d hi e
        exact ⟨d', by rw [gout i hi]; exact e'⟩, fun i d e => by
      by_cases hi : i ∈ vs
      · rw [gin i hi] at e
        exact e
      · rw [gout i hi] at e
        exact val i d hi e⟩
  have zo : ∀ a, Zo G (restS η η2 vs) σ a → Zo G η2 σ2 a := fun a z => z.imp id (fo a)
  refine ⟨⟨by unfold restS; rw [List.length_mapIdx, len]; exact ok.len, fun i d e => ?_, fun i b d e => ?_, fun i j b b' d d' p e e' q q' => ?_, ok5.dom, fun a g f => ok5.dis a g (fo a f)⟩, shr, fo⟩
  · by_cases hi : i ∈ vs
    · rw [gin i hi] at e
      obtain ⟨v, e', q⟩ := ok.val i d e
      exact ⟨v, e', Den.move st (fun _ f => .inr f) (fun a z => .inl (shr.zo z)) d q⟩
    · rw [gout i hi] at e
      obtain ⟨v, e', q⟩ := ok5.val i d e
      exact ⟨v, by rw [← hσ i hi]; exact e', q.less zo⟩
  · by_cases hi : i ∈ vs
    · rw [gin i hi] at e
      exact absurd e (noOwn_get hn hi)
    · rw [gout i hi] at e
      obtain ⟨v, e', q⟩ := ok5.own i b d e
      exact ⟨v, by rw [← hσ i hi]; exact e', q.less zo⟩
  · have hi : i ∉ vs := fun hi => by rw [gin i hi] at e; exact noOwn_get hn hi e
    have hj : j ∉ vs := fun hj => by rw [gin j hj] at e'; exact noOwn_get hn hj e'
    rw [gout i hi] at e
    rw [gout j hj] at e'
    exact ok5.inj i j _ _ _ _ p e e' (by rw [hσ i hi]; exact q) (by rw [hσ j hj]; exact q')
/-- a tracked list that no slot owns and G guards, with one item more -/
theorem push_ok {p : Addr} {xs : List V} {v : V} (ok : Ok G X.K η σ H) (gp : G p) (hp : H p = some (.lst xs)) : Ok G X.K η σ (upd H p (.lst (xs ++ [v]))) ∧ Step (fun a => a = p) H (upd H p (.lst (xs ++ [v]))) := by
  have st : Step (fun a => a = p) H (upd H p (.lst (xs ++ [v]))) := same_but hp
  have fz : ∀ a, a = p → Zo G η σ a := fun a z => by rw [z]; exact .inl gp
  refine ⟨⟨ok.len, fun i d e => ?_, fun i b d e => ?_, ok.inj, fun a g => ?_, ok.dis⟩, st⟩
  · obtain ⟨w, e', q⟩ := ok.val i d e
    exact ⟨w, e', Den.move st fz (fun a z => .inl z) d q⟩
  · obtain ⟨q, e', c⟩ := ok.own i b d e
    refine ⟨q, e', Cell.move st fz (fun a z => .inl z) (fun o h => ?_) c⟩
    rw [upd_ne (fun z => ok.dis p gp ⟨i, b, d, e, by rw [← z]; exact e'⟩)]
    exact h
  · obtain ⟨o, e⟩ := ok.dom a g
    exact st.dom a o e
end
structure PTsd (X : Cx) (ifs : List Expr) (m : M Bool) : Prop where
  run : PTs X ifs (tT X W0 m)
theorem ptsd_nil {X : Cx} : PTsd X [] (M.pure true) := ⟨⟨fun pins s σ H Q I ⟨G, η, ok, h⟩ => pts_nil.run pins s σ H Q I (h true H .refl .refl ok rfl)⟩⟩
theorem ptsd_one {X : Cx} {c : Expr} {m : M Bool} (h : PTd X W0 c m) : PTsd X [c] m := ⟨pts_one h⟩
section
variable {X : Cx} {W : WX} {e tg iter elt : Expr} {ifs : List Expr} {pos : Pos} {g : D → MS} {ix vs : List Nat} {mi : M (List D)} {mt : M Bool} {me : M D} {σ : St} {H : Hp} {Q : VK}
def compL (vs : List Nat) (mi : M (List D)) (g : D → MS) (mt : M Bool) (me : M D) : M D := mi >>= fun ds => compM (turnC vs g mt me) [] ds >>= fun ys => pure (.lst ys)
/-- what a comprehension asks -/
theorem comp_read (hix : ∀ i ∈ ix, i ∈ vs) (h : tF X W (compL vs mi g mt me) σ H Q) : tLc (tI X W mi) (tGt X ix g) (tT X W0 mt) (tE X W0 me) vs σ H Q := by
  obtain ⟨G, η, ok, h⟩ := h
  refine ⟨G, η, ok, (Post.bind (R := fun η' H' ds J => Feeds X.K (Zo G η' σ) H' ds J) h).imp fun J H1 ⟨η1, ds, a1⟩ p hp => ?_⟩
  have hfeed := a1.r
  have hp0 : H p = none := a1.st.none_of hp
  refine ⟨fun i m H' => m = ds.length - i ∧ i ≤ ds.length ∧ ∃ η' acc xs, Shr η1 η' ∧ Step (Fo η1 σ) H1 H' ∧ Ok (fun a => G a ∨ a = p) X.K η' σ H' ∧ H' p = some (.lst xs) ∧ Dens (Zo (fun a => G a ∨ a = p) η' σ) X.K H' acc xs ∧
    Post X W G η1 σ H1 (RF X G σ H) Q ((compM (turnC vs g mt me) acc (ds.drop i) >>= fun ys => pure (.lst ys)) η'), ⟨ds.length, by simp, Nat.zero_le _, η1, [], [], .refl, .of_same (same_new hp), a1.ok.guard hp (same_new hp) upd_same, upd_same, .nil, by rw [List.drop_zero]; exact a1.post⟩, ?_⟩
  rintro i m H' ⟨rfl, hle, η', acc, xs, shr, st, ok', hp', dn, p'⟩
  have okG : Ok G X.K η' σ H' := ⟨ok'.len, fun i d e => by
      obtain ⟨v, e', q⟩ := ok'.val i d e
      exact ⟨v, e', q.less fun a z => z.imp .inl id⟩, fun i b d e => by
      obtain ⟨v, e', q⟩ := ok'.own i b d e
      exact ⟨v, e', q.less fun a z => z.imp .inl id⟩, ok'.inj, fun a g => ok'.dom a (.inl g), fun a g => ok'.dis a (.inl g)⟩
  have hf := hfeed (Fo η1 σ) (Zo (fun a => G a ∨ a = p) η' σ) H' st (fun a f => .inr f) (fun a z => by
    rcases z with (z | z) | z
    · exact .inl (.inl z)
    · exact .inr (by rw [z]; exact hp)
    · exact .inl (.inr (shr.fo z))) i
  by_cases hlt : i < ds.length
  · obtain ⟨d, ed⟩ : ∃ d, ds[i]? = some d := ⟨ds[i], List.getElem?_eq_getElem hlt⟩
    have edr : ds.drop i = d :: ds.drop (i + 1) := by
      rw [List.drop_eq_getElem_cons hlt]
      rw [List.getElem?_eq_getElem hlt] at ed
      cases ed
      rfl
    rw [edr] at p'
    refine .inr ⟨hf.1 hlt, fun H2 => ∃ η2 acc xs, Shr η1 η2 ∧ Step (Fo η1 σ) H1 H2 ∧ Ok (fun a => G a ∨ a = p) X.K η2 σ H2 ∧ H2 p = some (.lst xs) ∧ Dens (Zo (fun a => G a ∨ a = p) η2 σ) X.K H2 acc xs ∧
      Post X W G η1 σ H1 (RF X G σ H) Q ((compM (turnC vs g mt me) acc (ds.drop (i + 1)) >>= fun ys => pure (.lst ys)) η2), fun H2 q => ⟨ds.length - (i + 1), by omega, rfl, hlt, q⟩, fun x H2 hy => ?_⟩
    obtain ⟨same, dx⟩ := hf.2.2 d x H2 ed hy
    have ok2 := ok'.same same
    have dn2 := dn.same same
    have hp2 := same _ _ hp'
    -- the turn's function at η'
    have p0 : Post X W G η1 σ H1 (RF X G σ H) Q (M.bind (M.bind (turnC vs g mt me d) fun o => M.bind (M.of (growC acc o)) fun acc' => compM (turnC vs g mt me) acc' (ds.drop (i + 1))) (fun ys => M.pure (.lst ys)) η') := p'
    have et : turnC vs g mt me d η' = if noOwn η' vs = true then (match g d (wipeS η' vs) with
      | .nx η1 => (match mt η1 with
        | .ok true η2 => (match me η2 with
          | .ok y η3 => .ok (some y) (restS η' η3 vs)
          | _ => .bad)
        | .ok false η2 => .ok none (restS η' η2 vs)
        | _ => .bad)
      | _ => .bad) else .bad := rfl
    have eb : ∀ (r : Res (Option D)), turnC vs g mt me d η' = r → Post X W G η1 σ H1 (RF X G σ H) Q (match r with | .ok o η'' => ((M.of (growC acc o) >>= fun acc' => compM (turnC vs g mt me) acc' (ds.drop (i + 1))) >>= fun ys => pure (.lst ys)) η'' | .exc c η'' => .exc c η'' | .bad => .bad) := fun r e => by
      have q := p0
      unfold M.bind at q
      rw [e] at q
      cases r with
      | ok o η'' => exact q
      | exc c η'' => exact q
      | bad => exact q
    have p0 := eb _ rfl
    rw [et] at p0
    by_cases hn : noOwn η' vs = true
    · rw [if_pos hn] at p0
      have okw := wipe_ok (vs := vs) hn ok2
      refine ⟨fun a => G a ∨ a = p, wipeS η' vs, d, okw, dx.less fun a z => z.imp id (wipe_fo hn).mp, ?_⟩
      cases qg : g d (wipeS η' vs) with
      | nx η2 =>
        rw [qg] at p0
        intro σ2 H3 s3 ok3 u3
        have hσ : ∀ j, j ∉ vs → σ2[j]? = σ[j]? := fun j hj => (u3.2 j fun z => hj (hix j z)).1.trans (wipe_get hj)
        have hη : ∀ j, j ∉ vs → η2[j]? = η'[j]? := fun j hj => by
          rw [(u3.2 j fun z => hj (hix j z)).2, wipeS_get, if_neg hj]
        have hl : σ2.length = σ.length := u3.1.trans (wipe_length σ vs)
        have stw : Step (Fo η' σ) H2 H3 := s3.st.wider fun a f => (wipe_fo hn).mp f
        have fo23 : ∀ a, Fo η2 σ2 a → Fo η' σ a ∨ H2 a = none := fun a f => (s3.grow a f).imp (wipe_fo hn).mp id
        -- behind the test, the element: back to the outer slots
        have fin : ∀ {η4 : Sto} {H5 : Hp}, Shr η2 η4 → Step (Fo η2 σ2) H3 H5 → Ok (fun a => G a ∨ a = p) X.K η4 σ2 H5 →
            Ok (fun a => G a ∨ a = p) X.K (restS η' η4 vs) σ H5 ∧ Shr η' (restS η' η4 vs) ∧ (∀ a, Fo (restS η' η4 vs) σ a → Fo η4 σ2 a) ∧ Step (Fo η' σ) H2 H5 := fun {η4 H5} s4 t4 ok5 => by
          have t5 : Step (Fo η' σ) H2 H5 := stw.trans t4 fo23
          obtain ⟨r1, r2, r3⟩ := rest_ok ok2 hn t5 ok5 hσ hl (fun j b d hj e => by
            obtain ⟨d', e'⟩ := s4.sub j b d e
            rw [hη j hj] at e'
            exact ⟨d', e'⟩) (fun j d hj e => s4.fix j d (by rw [hη j hj]; exact e)) (fun j d hj e => by
            have := s4.val j d e
            rw [hη j hj] at this
            exact this)
          exact ⟨r1, r2, r3, t5⟩
        have stp : ∀ {H5 : Hp}, Step (Fo η' σ) H2 H5 → Step (Fo η1 σ) H1 H5 := fun {H5} t5 => (st.trans (Step.of_same (F := fun _ => False) same) fun a f => f.elim).trans t5 fun a f => .inl (shr.fo f)
        have keepp : ∀ {H5 : Hp}, Step (Fo η' σ) H2 H5 → H5 p = some (.lst xs) := fun {H5} t5 => t5.keep p _ hp2 (ok2.dis p (.inr rfl))
        refine ⟨wipe_eq hl fun j hj => (hσ j hj).trans (wipe_get hj).symm, fun a => G a ∨ a = p, η2, ok3, ?_⟩
        simp only at p0
        cases qt : mt η2 with
        | ok b η3 =>
          rw [qt] at p0
          intro b' H4 s4 t4 ok4 eb
          have eb' : b = b' := eb
          subst eb'
          cases b with
          | false =>
            refine iteF ?_
            obtain ⟨r1, r2, r3, t5⟩ := fin s4 t4 ok4
            have p1 : Post X W G η1 σ H1 (RF X G σ H) Q ((compM (turnC vs g mt me) acc (ds.drop (i + 1)) >>= fun ys => pure (.lst ys)) (restS η' η3 vs)) := p0
            exact ⟨_, acc, xs, shr.trans r2, stp t5, r1, keepp t5, Dens.move t5 (fun _ f => .inr f) (fun a z => .inl (r2.zo z)) acc dn2, p1⟩
          | true =>
            refine iteT ⟨fun a => G a ∨ a = p, η3, ok4, ?_⟩
            simp only at p0
            cases qe : me η3 with
            | ok y η4 =>
              rw [qe] at p0
              intro v H5 s5 t5 ok5 dv
              obtain ⟨r1, r2, r3, t6⟩ := fin (s4.trans s5) (t4.trans t5 fun a f => .inl (s4.fo f)) ok5
              have p1 : Post X W G η1 σ H1 (RF X G σ H) Q (((M.of (growC acc (some y)) >>= fun acc' => compM (turnC vs g mt me) acc' (ds.drop (i + 1))) >>= fun ys => pure (.lst ys)) (restS η' η4 vs)) := p0
              unfold growC at p1
              simp only at p1
              by_cases hlen : lenOk acc.length = true
              · rw [if_pos hlen] at p1
                obtain ⟨k1, k2⟩ := push_ok (v := v) r1 (.inr rfl) (keepp t6)
                have fz : ∀ a, a = p → Zo (fun a => G a ∨ a = p) (restS η' η4 vs) σ a := fun a z => .inl (.inr z)
                refine ⟨xs, keepp t6, by rw [← dn.length]; exact lenOk_lt hlen, restS η' η4 vs, acc ++ [y], xs ++ [v], shr.trans r2, (stp t6).trans k2 fun a z => .inr (by rw [z]; exact hp), k1, upd_same, ?_, p1⟩
                refine Dens.append (Dens.move k2 fz (fun a z => .inl z) acc (Dens.move t6 (fun _ f => .inr f) (fun a z => .inl (r2.zo z)) acc dn2)) (.cons (Den.move k2 fz (fun a z => .inl z) y (dv.less fun a z => z.imp id (r3 a))) .nil)
              · rw [if_neg hlen] at p1
                exact p1.elim
            | exc c η4 => rw [qe] at p0; exact False.elim p0
            | bad => rw [qe] at p0; exact False.elim p0
        | exc c η3 => rw [qt] at p0; exact False.elim p0
        | bad => rw [qt] at p0; exact False.elim p0
      | _ =>
        rw [qg] at p0
        exact False.elim p0
    · rw [if_neg hn] at p0
      exact p0.elim
  · have e : i = ds.length := by omega
    subst e
    rw [List.drop_length] at p'
    refine .inl ⟨hf.2.1 (Nat.le_refl _), ?_⟩
    have p2 : Post X W G η1 σ H1 (RF X G σ H) Q (.ok (.lst acc) η') := p'
    refine p2 (.ref p) H' shr st okG ⟨p, rfl, hp0, ⟨xs, hp', dn.less fun a z => ?_⟩, ok'⟩
    rcases z with z | z
    · exact z.imp .inl id
    · exact .inl (.inr z)
/-- [elt for target in iter if ..] -/
theorem pf_comp {scope : Scope} {own : List (Str × Nat)} (hc : X.calm = true) (hN : X.N.Nodup) (hi : PId X W tg iter mi) (ok : BlkOk X.N X.env.scope scope own)
    (hg : ∀ (s : Shared) (H : Hp) (C : Addr) (cl : List (Str × Addr)) (fp : List Addr), PGd (X.blk s H scope (compEnvC scope cl C X.env) fp) tg ix g)
    (ht : ∀ (s : Shared) (H : Hp) (C : Addr) (cl : List (Str × Addr)) (fp : List Addr), PTsd (X.blk s H scope (compEnvC scope cl C X.env) fp) ifs mt)
    (he : ∀ (s : Shared) (H : Hp) (C : Addr) (cl : List (Str × Addr)) (fp : List Addr), PEd (X.blk s H scope (compEnvC scope cl C X.env) fp) W0 elt me)
    (hix : ∀ i ∈ ix, i ∈ own.map (·.2) := by decide) (hs : ∀ x, foldedSetIterable iter X.env x = pure x := by intro _; rfl) :
    PFd X W (.ListComp elt [⟨tg, iter, ifs, 0⟩] scope pos) (compL (own.map (·.2)) mi g mt me) :=
  PE.weak (pe_lc (g := tGt X ix g) (tt := tT X W0 mt) (te := tE X W0 me) hc hN hi ok hg (fun s H C cl fp => (ht s H C cl fp).run) he hs) fun σ H Q h => comp_read hix h
variable {S : S0} {fr : Bool}
/-- x = [..], x owned from here on -/
theorem psd_ownC (i : Nat) {y : Str} {py : Pos} {scope : Scope} {own : List (Str × Nat)} {spos : Pos} (hc : X.calm = true) (hN : X.N.Nodup)
    (hsw : swapsWith (.ListComp elt [⟨tg, iter, ifs, 0⟩] scope pos) (some (.Name y py)) spos.line X.env = pure true) (hi : PId X W tg iter mi) (ok : BlkOk X.N X.env.scope scope own)
    (hg : ∀ (s : Shared) (H : Hp) (C : Addr) (cl : List (Str × Addr)) (fp : List Addr), PGd (X.blk s H scope (compEnvC scope cl C X.env) fp) tg ix g)
    (ht : ∀ (s : Shared) (H : Hp) (C : Addr) (cl : List (Str × Addr)) (fp : List Addr), PTsd (X.blk s H scope (compEnvC scope cl C X.env) fp) ifs mt)
    (he : ∀ (s : Shared) (H : Hp) (C : Addr) (cl : List (Str × Addr)) (fp : List Addr), PEd (X.blk s H scope (compEnvC scope cl C X.env) fp) W0 elt me)
    (hix : ∀ i ∈ ix, i ∈ own.map (·.2) := by decide) (hy : X.N[i]? = some y := by rfl) (hyl : X.env.scope.names.lookup y = some .local := by rfl) (hs : ∀ x, foldedSetIterable iter X.env x = pure x := by intro _; rfl) :
    PSd X W S fr (.Assign [.Name y py] (.ListComp elt [⟨tg, iter, ifs, 0⟩] scope pos) spos) (thenS (compL (own.map (·.2)) mi g mt me) fun d => ownS i d) :=
  PS.weak (ps_setLc (g := tGt X ix g) (tt := tT X W0 mt) (te := tE X W0 me) hc hN hy hyl hsw hi ok hg (fun s H C cl fp => (ht s H C cl fp).run) he hs) fun Dn σ H ⟨G, η, t, ok, h⟩ => comp_read hix (Q := fun x H1 => gName i x σ H1 Dn.nx) ⟨G, η, ok, own_post ok h⟩
/-- x = [..] -/
theorem psd_setC (i : Nat) {y : Str} {py : Pos} {scope : Scope} {own : List (Str × Nat)} {spos : Pos} (hc : X.calm = true) (hN : X.N.Nodup)
    (hsw : swapsWith (.ListComp elt [⟨tg, iter, ifs, 0⟩] scope pos) (some (.Name y py)) spos.line X.env = pure true) (hi : PId X W tg iter mi) (ok : BlkOk X.N X.env.scope scope own)
    (hg : ∀ (s : Shared) (H : Hp) (C : Addr) (cl : List (Str × Addr)) (fp : List Addr), PGd (X.blk s H scope (compEnvC scope cl C X.env) fp) tg ix g)
    (ht : ∀ (s : Shared) (H : Hp) (C : Addr) (cl : List (Str × Addr)) (fp : List Addr), PTsd (X.blk s H scope (compEnvC scope cl C X.env) fp) ifs mt)
    (he : ∀ (s : Shared) (H : Hp) (C : Addr) (cl : List (Str × Addr)) (fp : List Addr), PEd (X.blk s H scope (compEnvC scope cl C X.env) fp) W0 elt me)
    (hix : ∀ i ∈ ix, i ∈ own.map (·.2) := by decide) (hy : X.N[i]? = some y := by rfl) (hyl : X.env.scope.names.lookup y = some .local := by rfl) (hs : ∀ x, foldedSetIterable iter X.env x = pure x := by intro _; rfl) :
    PSd X W S fr (.Assign [.Name y py] (.ListComp elt [⟨tg, iter, ifs, 0⟩] scope pos) spos) (thenS (compL (own.map (·.2)) mi g mt me) fun d => setS i d) :=
  PS.weak (ps_setLc (g := tGt X ix g) (tt := tT X W0 mt) (te := tE X W0 me) hc hN hy hyl hsw hi ok hg (fun s H C cl fp => (ht s H C cl fp).run) he hs) fun Dn σ H ⟨G, η, t, ok, h⟩ => comp_read hix (Q := fun x H1 => gName i x σ H1 Dn.nx) ⟨G, η, ok, by
    have h2 : Post X W G η σ H (RD X G σ) (fun x H1 => Dn.nx (σ.set i (some x)) H1) (compL (own.map (·.2)) mi g mt me η) := (PostS.bind (R := RD X G σ) h).imp fun x H1 ⟨η1, d, a1⟩ => by
      have q := a1.post
      unfold setS at q
      by_cases hc : canSet η1 i = true
      · rw [if_pos hc] at q
        obtain ⟨o, s, _⟩ := set_ok hc a1.ok a1.r
        exact q _ _ s o
      · rw [if_neg hc] at q
        exact q.elim
    exact h2.rel fun η' H' d v s1 s2 o ⟨p, ev, hn, c, _⟩ => by
      have np : ¬ Zo G η' σ p := fun z => by
        obtain ⟨o, e⟩ := ok.domZ (s1.zo z)
        rw [hn] at e
        cases e
      cases d with
      | lst ds =>
        obtain ⟨xs, e, q⟩ := c
        exact ⟨p, xs, ev, np, e, q.less fun a z => .inl z⟩
      | dct ks ds =>
        obtain ⟨kvs, e, r, q⟩ := c
        exact ⟨p, kvs, ev, np, e, r, q.less fun a z => .inl z⟩
      | _ => exact False.elim c⟩
end
end Pd

namespace Pd
open PySem L2
/-! ### further calls -/
section
variable {X : Cx} {W : WX} {e : Expr} {es : List Expr} {pos p kpos : Pos} {k n n1 : Nat} {f : Addr} {fd : FuncData} {ps ks : List Str} {x : Str} {fm : M D} {jo : Option Nat} {m mk : M (List AV)} {m1 : M AV} {kws : List Keyword} {nm : Option Str}
/-- what may not be raised here -/
def noX {α : Type} (m : M α) : M α := fun η => match m η with
  | .exc _ _ => .bad
  | r => r
theorem noX_post {α β : Type} {G : Addr → Prop} {η : Sto} {σ : St} {H : Hp} {R : Sto → Hp → α → β → Prop} {Q : β → Hp → Prop} {m : M α} (h : Post X W G η σ H R Q (noX m η)) : Post X W0 G η σ H R Q (m η) := by
  unfold noX at h
  cases q : m η with
  | ok a η' => rw [q] at h; exact h
  | exc c η' => rw [q] at h; exact h.elim
  | bad => rw [q] at h; exact h
theorem passN {X : Cx} {σ : St} : Passes (L2.CX X.prog X.w) X (WE W0 σ) := passL
/-- f() -/
theorem pd_call0 (F : FnOk X.prog X.w X.K X.mg X.base (L2.CX X.prog X.w) k f fd ps (spD X.K X.mg 0 fm)) (hr : Room k X.A) (hg : Gl X x) (hm : X.mg x = some (.ref f)) (hk : PySem.W.keepIn X.K (.ref f) = true) (hb : Binds X.K fd ps [])
    (hdb : (x == ("__debug__" : Str)) = false := by decide) : PEd X W (.Call (.Name x p) [] [] pos) (noX (callM noLst fm none [])) :=
  PE.weak (pe_call0 (E := E0) (dvs := []) F hr hg hm hk hb .nil passL hdb) fun σ H Q ⟨G, η, ok, h⟩ => call_sp (W := W0) (σ := σ) rfl ok .nil (noX_post h)
/-- keywords in the parameters' order -/
structure KB (K : PySem.W.Frag) (fd : FuncData) (ps ks : List Str) (n1 : Nat) : Prop where
  to : ∀ (s : Shared) (us ws : List Value), K.In s.heap → us.length = n1 → ws.length = ks.length → BindsTo s fd ⟨us, ks.zip ws⟩ (ps.zip (us ++ ws))
def PVKd (X : Cx) (W : WX) (kws : List Keyword) (m : M (List AV)) : Prop := PK X kws (tVs X W m)
theorem PK.weak {t u : TA} (h : PK X kws t) (i : ∀ σ H Q, u σ H Q → t σ H Q) : PK X kws u := ⟨fun wh pins s σ H Q I q => h.run wh pins s σ H Q I (i σ H Q q)⟩
theorem pvk_nil : PVKd X W [] (M.pure []) := PK.weak pk_nil fun σ H Q ⟨G, η, ok, h⟩ => h [] H .refl .refl ok .nil
theorem pvk_cons {ms : M (List AV)} (ha : PVd X W e m1) (hr : PVKd X W kws ms) : PVKd X W (⟨nm, e, kpos⟩ :: kws) (do let d ← m1; let ds ← ms; pure (d :: ds)) :=
  PK.weak (pk_cons ha hr) fun σ H Q ⟨G, η, ok, h⟩ => ⟨G, η, ok, (Post.bind (R := RV X G σ) h).imp fun x H1 ⟨η1, d, a1⟩ => ⟨G, η1, a1.ok, (Post.bind (R := RVs X G σ) a1.post).imp fun xs H2 ⟨η2, ds, a2⟩ =>
    a2.post (x :: xs) H2 .refl .refl a2.ok (.cons (carryV a2.shr a2.st a1.r) a2.r)⟩⟩
theorem paired_append {α β : Type} {R : α → β → Prop} : ∀ {l l' : List α} {m m' : List β}, Paired R l m → Paired R l' m' → Paired R (l ++ l') (m ++ m')
  | _, _, _, _, .nil, h => h
  | _, _, _, _, .cons r t, h => .cons r (paired_append t h)
theorem paired_map {α β : Type} {R R' : α → β → Prop} (i : ∀ a b, R a b → R' a b) : ∀ {l : List α} {m : List β}, Paired R l m → Paired R' l m
  | _, _, .nil => .nil
  | _, _, .cons r t => .cons (i _ _ r) (paired_map i t)
def tKW (n1 n2 : Nat) (sp : Sp) (E : St → XK) (t tk : TA) : TE := fun σ H Q => t σ H fun vs H1 => tk σ H1 fun zs H2 => vs.length = n1 ∧ zs.length = n2 ∧ sp (vs ++ zs) H2 Q (E σ)
theorem run_kw {pins : List (Addr × Obj)} {σ : St} {H : Hp} {s : Shared} {Q : VK} {us ws : List Value} {vs zs : List V} {sp : Sp} {E : St → XK} (F : FnOk X.prog X.w X.K X.mg X.base (L2.CX X.prog X.w) k f fd ps sp) (hr : Room k X.A) (hb : KB X.K fd ps ks n1) (hx : PassesAt (L2.CX X.prog X.w) X σ (E σ))
    (I : Inv X pins σ H s) (r : L2.Vals vs us) (rz : L2.Vals zs ws) (h1 : vs.length = n1) (h2 : zs.length = ks.length) (h : sp (vs ++ zs) H Q (E σ)) : wpAny (model X.prog X.w) X.A (call (.ref f) us (ks.zip ws)) (EP X pins σ Q) X.xe s := by
  refine wpAny_call (codeAny_mono (F.run X.A X.stack s H ⟨us, ks.zip ws⟩ (us ++ ws) (vs ++ zs) Q (E σ) hr I.env0 (hb.to s us ws I.kIn (r.length.symm.trans h1) (rz.length.symm.trans h2)) (r.append rz) h) fun r s' hq => ?_)
  match r, hq with
  | .error e, hq => exact hx pins H s e s' I hq
  | .ok (.ret u), hq => exact I.after hq
theorem pe_kw {sp : Sp} {E : St → XK} {t tk : TA} (F : FnOk X.prog X.w X.K X.mg X.base (L2.CX X.prog X.w) k f fd ps sp) (hr : Room k X.A) (hg : Gl X x) (hm : X.mg x = some (.ref f)) (hk : PySem.W.keepIn X.K (.ref f) = true) (hb : KB X.K fd ps ks n1) (hx : ∀ σ, PassesAt (L2.CX X.prog X.w) X σ (E σ))
    (ha : PA X (e :: es) t) (hkw : PK X kws tk) (hall : (backToKw pos (keywordEach kws X.env)).all (·.1.isSome) = true := by rfl) (hks : (backToKw pos (keywordEach kws X.env)).filterMap (·.1) = ks := by rfl)
    (hdb : (x == ("__debug__" : Str)) = false := by decide) (he : starEach (e :: es) X.env = (false, eval e X.env) :: starEach es X.env := by rfl)
    (hpl : ((backTo pos (starEach (e :: es) X.env)).any (·.1) || (backToKw pos (keywordEach kws X.env)).any (·.1.isNone)) = false := by rfl) : PE X (.Call (.Name x p) (e :: es) kws pos) (tKW n1 ks.length sp E t tk) := by
  refine ⟨fun pins s σ H Q I h => wpAny_Call_Name_kw (ld_glob I hg hm (PySem.W.callWith_KW (h₀ := X.base) I.ok.mod.kin hk hall (thn (ha.run pos pins s σ H _ I h) fun us s1 ⟨vs, H1, I1, r, q⟩ =>
    thn (hkw.run pos pins s1 σ H1 _ I1 q) fun ws s2 ⟨zs, H2, I2, rz, l1, l2, q2⟩ => ⟨I2.kIn, ?_⟩) hpl he) hdb)⟩
  rw [hks]
  exact run_kw F hr hb (hx σ) I2 r rz l1 l2 q2
theorem pe_kw0 {sp : Sp} {E : St → XK} {tk : TA} (F : FnOk X.prog X.w X.K X.mg X.base (L2.CX X.prog X.w) k f fd ps sp) (hr : Room k X.A) (hg : Gl X x) (hm : X.mg x = some (.ref f)) (hk : PySem.W.keepIn X.K (.ref f) = true) (hb : KB X.K fd ps ks 0) (hx : ∀ σ, PassesAt (L2.CX X.prog X.w) X σ (E σ))
    (hkw : PK X kws tk) (hall : (backToKw pos (keywordEach kws X.env)).all (·.1.isSome) = true := by rfl) (hks : (backToKw pos (keywordEach kws X.env)).filterMap (·.1) = ks := by rfl)
    (hdb : (x == ("__debug__" : Str)) = false := by decide)
    (hpl : ((backTo pos (starEach [] X.env)).any (·.1) || (backToKw pos (keywordEach kws X.env)).any (·.1.isNone)) = false := by rfl) : PE X (.Call (.Name x p) [] kws pos) (tKW 0 ks.length sp E tNil tk) := by
  refine ⟨fun pins s σ H Q I h => wpAny_Call_Name_kw (ld_glob I hg hm (PySem.W.callWith_KW0 (h₀ := X.base) I.ok.mod.kin hk hall (thn (hkw.run pos pins s σ H _ I h) fun ws s2 ⟨zs, H2, I2, rz, l1, l2, q2⟩ => ⟨I2.kIn, ?_⟩) hpl) hdb)⟩
  rw [hks]
  exact run_kw (us := []) F hr hb (hx σ) I2 .nil rz rfl l2 q2
/-- f(e, .., k = v, ..), the keywords in the parameters' order -/
theorem pd_callK (F : FnOk X.prog X.w X.K X.mg X.base (L2.CX X.prog X.w) k f fd ps (spD X.K X.mg n fm)) (jo : Option Nat) (tk : Takes X W) (hr : Room k X.A) (hg : Gl X x) (hm : X.mg x = some (.ref f)) (hk : PySem.W.keepIn X.K (.ref f) = true) (hb : KB X.K fd ps ks n1)
    (ha : PVAd X W (e :: es) m) (hkw : PVKd X W kws mk) (hall : (backToKw pos (keywordEach kws X.env)).all (·.1.isSome) = true := by rfl) (hks : (backToKw pos (keywordEach kws X.env)).filterMap (·.1) = ks := by rfl)
    (hdb : (x == ("__debug__" : Str)) = false := by decide) (he : starEach (e :: es) X.env = (false, eval e X.env) :: starEach es X.env := by rfl)
    (hpl : ((backTo pos (starEach (e :: es) X.env)).any (·.1) || (backToKw pos (keywordEach kws X.env)).any (·.1.isNone)) = false := by rfl) :
    PEd X W (.Call (.Name x p) (e :: es) kws pos) (do let as ← m; let as ← lenM n1 as; let zs ← mk; let zs ← lenM ks.length zs; let as ← lenM n (as ++ zs); callM noLst fm jo as) :=
  PE.weak (pe_kw F hr hg hm hk hb (fun σ => passAt tk σ) ha hkw hall hks hdb he hpl) fun σ H Q ⟨G, η, ok, h⟩ => ⟨G, η, ok, (Post.bind (R := RVs X G σ) h).imp fun vs H1 ⟨η1, avs, a1⟩ =>
    let q := lenM_post a1.post; ⟨G, η1, a1.ok, (Post.bind (R := RVs X G σ) q.2).imp fun zs H2 ⟨η2, azs, a2⟩ => by
      have q2 := lenM_post a2.post
      have q3 := lenM_post q2.2
      have r1 : Paired (RV X G σ η2 H2) avs vs := paired_map (fun a b r => carryV a2.shr a2.st r) a1.r
      exact ⟨by rw [← r1.length]; exact q.1, by rw [← a2.r.length]; exact q2.1, call_sp q3.1 a2.ok (paired_append r1 a2.r) q3.2⟩⟩⟩
theorem pd_callK0 (F : FnOk X.prog X.w X.K X.mg X.base (L2.CX X.prog X.w) k f fd ps (spD X.K X.mg n fm)) (jo : Option Nat) (tk : Takes X W) (hr : Room k X.A) (hg : Gl X x) (hm : X.mg x = some (.ref f)) (hk : PySem.W.keepIn X.K (.ref f) = true) (hb : KB X.K fd ps ks 0)
    (hkw : PVKd X W kws mk) (hall : (backToKw pos (keywordEach kws X.env)).all (·.1.isSome) = true := by rfl) (hks : (backToKw pos (keywordEach kws X.env)).filterMap (·.1) = ks := by rfl)
    (hdb : (x == ("__debug__" : Str)) = false := by decide) (hpl : ((backTo pos (starEach [] X.env)).any (·.1) || (backToKw pos (keywordEach kws X.env)).any (·.1.isNone)) = false := by rfl) :
    PEd X W (.Call (.Name x p) [] kws pos) (do let zs ← mk; let zs ← lenM ks.length zs; let as ← lenM n zs; callM noLst fm jo as) :=
  PE.weak (pe_kw0 F hr hg hm hk hb (fun σ => passAt tk σ) hkw hall hks hdb hpl) fun σ H Q ⟨G, η, ok, h⟩ => ⟨G, η, ok, (Post.bind (R := RVs X G σ) h).imp fun zs H2 ⟨η2, azs, a2⟩ => by
      have q2 := lenM_post a2.post
      have q3 := lenM_post q2.2
      exact ⟨rfl, by rw [← a2.r.length]; exact q2.1, call_sp q3.1 a2.ok a2.r q3.2⟩⟩
/-- {} -/
theorem pf_emp : PFd X W (.Dict [] [] pos) (M.pure (.dct [] [])) := PE.weak pe_dnewK fun σ H Q ⟨G, η, ok, h⟩ => fun d hd => h (.ref d) _ .refl (.of_same (same_new hd)) (ok.same (same_new hd)) ⟨d, rfl, hd, ⟨[], upd_same, rfl, .nil⟩, ok.guard hd (same_new hd) upd_same⟩
end

/-! ### try -/
section
open PySem.W
variable {X : Cx} {W : WX} {S : S0} {fr : Bool} {body suite : List Stmt} {b₀ : Stmt} {np pos pos' : Pos} {mb : MS} {G : Addr → Prop} {Dn : Ends} {η : Sto} {σ : St} {H : Hp}
/-- a slot of no use is changed -/
theorem no_ok {i : Nat} {x : Option V} (ok : Ok G X.K η σ H) (hc : canSet η i = true) : Ok G X.K (η.set i .no) (σ.set i x) H ∧ StepS η σ H (η.set i .no) (σ.set i x) H := by
  have hi := canSet_lt hc
  have get : ∀ (j : Nat) (s : Slot), (η.set i Slot.no)[j]? = some s → s ≠ .no → j ≠ i ∧ η[j]? = some s := fun j s e hs => by
    by_cases hj : j = i
    · subst hj
      rw [List.getElem?_set_self hi] at e
      cases e
      exact absurd rfl hs
    · rw [List.getElem?_set_ne (Ne.symm hj)] at e
      exact ⟨hj, e⟩
  have gs : ∀ j, j ≠ i → (σ.set i x)[j]? = σ[j]? := fun j hj => List.getElem?_set_ne (Ne.symm hj)
  have fo : ∀ a, Fo (η.set i .no) (σ.set i x) a → Fo η σ a := fun a ⟨j, b, d, e, q⟩ => by
    obtain ⟨hj, e'⟩ := get j _ e (by intro z; cases z)
    rw [gs j hj] at q
    exact ⟨j, b, d, e', q⟩
  have zo : ∀ a, Zo G (η.set i .no) (σ.set i x) a → Zo G η σ a := fun a z => z.imp id (fo a)
  refine ⟨⟨by rw [List.length_set, List.length_set]; exact ok.len, fun j d e => ?_, fun j b d e => ?_, fun j k b b' d d' p e e' q q' => ?_, ok.dom, fun a g f => ok.dis a g (fo a f)⟩, ⟨.refl, fun a f => .inl (fo a f), fun j d e => ?_⟩⟩
  · obtain ⟨hj, e'⟩ := get j _ e (by intro z; cases z)
    obtain ⟨v, e2, q⟩ := ok.val j d e'
    exact ⟨v, by rw [gs j hj]; exact e2, q.less zo⟩
  · obtain ⟨hj, e'⟩ := get j _ e (by intro z; cases z)
    obtain ⟨v, e2, q⟩ := ok.own j b d e'
    exact ⟨v, by rw [gs j hj]; exact e2, q.less zo⟩
  · obtain ⟨hj, e1⟩ := get j _ e (by intro z; cases z)
    obtain ⟨hk, e2⟩ := get k _ e' (by intro z; cases z)
    rw [gs j hj] at q
    rw [gs k hk] at q'
    exact ok.inj j k _ _ _ _ p e1 e2 q q'
  · have hj : j ≠ i := fun z => by
      subst z
      exact canSet_no hc d e
    rw [gs j hj, List.getElem?_set_ne (Ne.symm hj)]
    exact ⟨⟨d, e⟩, rfl⟩
/-- what a handler's suite reads: slot i holds the exception at a, of the class called c -/
def tXs (X : Cx) (S : S0) (fr : Bool) (i : Nat) (a : Addr) (mc : MS) : TS := fun Dn σ H => ∃ G η, S.to η σ H ∧ Ok G X.K η σ H ∧ σ[i]? = some (some (V.ref a)) ∧ PostS X W0 S fr G Dn η σ H (mc η)
def sufS (i : Nat) : SRes → SRes
  | .nx η => if canSet η i = true then .nx (η.set i .no) else .bad
  | .rt d η => .rt d η
  | _ => .bad
/-- cl: what the clause does with an exception of a name: none, if the name is not looked at; some b: whether it is taken -/
def tryS (cl : Str → Option Bool) (i : Nat) (mb : MS) (ms : Str → MS) : MS := fun η => match mb η with
  | .exc c η' => (match cl c with
    | some true => if canSet η' i = true then sufS i (ms c (η'.set i .no)) else .bad
    | some false => .exc c η'
    | none => .bad)
  | r => r
theorem psd_try_as (i : Nat) {x n : Str} {C : Addr} (cl : Str → Option Bool) (ms : Str → MS) (hs : X.stack = X.env :: X.outer) (hf : X.env.frame = some X.env.locals) (hN : X.N.Nodup) (tk : Takes X W) (hc : Names X x (.ref C))
    (hcl : ∀ c D b, cl c = some b → X.mg c = some (.ref D) → exmOne X.K (.ref D) (.ref C) = some b)
    (hb : ∀ (W' : WX) (pn : List (Addr × Obj)) (xe : Value → Shared → Prop), Takes (X.tr pn xe) W' → PassesOwn (model X.prog X.w) X.A X.env xe → PSsd (X.tr pn xe) W' S fr body mb)
    (hsu : ∀ (a : Addr) (oe : Obj) (pn : List (Addr × Obj)) (c : Str) (D : Addr), Zc (.ref D) none oe → (∃ vs, oe.data = .fields vs) → X.mg c = some (.ref D) → cl c = some true → PSs (X.suite a ((a, oe) :: pn)) (b₀ :: suite) (tXs X S fr i a (ms c)))
    (hi : X.N[i]? = some n := by rfl) (hln : X.env.kindOf n = some .local := by rfl) :
    PSd X W S fr (.Try body [.ExceptHandler (some (.Name x np)) (some n) (b₀ :: suite) pos'] [] [] pos) (tryS cl i mb ms) := by
  refine PS.weak (ps_try_as (i := i) (tb := fun W' => tS X W' S fr mb) (ts := fun a cls d => fun Dn σ H => ∃ c D, cls = .ref D ∧ d = none ∧ X.mg c = some (.ref D) ∧ cl c = some true ∧ tXs X S fr i a (ms c) Dn σ H) (Wout := W) hs hf hN hi hln hc tk
    (fun W' pn xe t p => hb W' pn xe t p) (fun a oe cls d pn hz hfd => ⟨fun pins s σ H D I ⟨c, D', e1, e2, hm, hcl', q⟩ => ?_⟩)) fun Dn σ H ⟨G, η, t, ok, h⟩ => ?_
  · subst e1 e2
    exact (hsu a oe pn c D' hz hfd hm hcl').run pins s σ H D I q
  · refine ⟨G, η, t, ok, ?_⟩
    unfold tryS at h
    cases qb : mb η with
    | exc c η' =>
      rw [qb] at h
      intro D σ' H' hD s1 o1
      simp only at h
      cases qc : cl c with
      | none => rw [qc] at h; exact h.elim
      | some b =>
        rw [qc] at h
        refine ⟨b, hcl c D b qc hD, fun e a ha => ?_, fun e => ?_⟩
        · subst e
          simp only at h
          by_cases hcs : canSet η' i = true
          · rw [if_pos hcs] at h
            have hi' : i < σ'.length := by rw [← o1.len]; exact canSet_lt hcs
            obtain ⟨o2, s2⟩ := no_ok (x := some (V.ref a)) o1 hcs
            refine ⟨c, D, rfl, rfl, hD, qc, G, η'.set i .no, StepS.trans t (s1.trans s2), o2, List.getElem?_set_self hi', ?_⟩
            have h2 := h.later (s1.trans s2)
            cases qm : ms c (η'.set i .no) with
            | nx η3 =>
              rw [qm] at h2
              intro σ3 H3 s3 o3
              unfold sufS at h2
              simp only at h2
              by_cases hc3 : canSet η3 i = true
              · rw [if_pos hc3] at h2
                obtain ⟨o4, s4⟩ := no_ok (x := none) o3 hc3
                exact h2 _ _ (s3.trans s4) o4
              · rw [if_neg hc3] at h2
                exact h2.elim
            | rt d η3 =>
              rw [qm] at h2
              exact h2
            | bk η3 => rw [qm] at h2; exact False.elim h2
            | ct η3 => rw [qm] at h2; exact False.elim h2
            | exc c3 η3 => rw [qm] at h2; exact False.elim h2
            | bad => rw [qm] at h2; exact False.elim h2
          · rw [if_neg hcs] at h
            exact h.elim
        · subst e
          exact h D σ' H' hD s1 o1
    | nx η' => rw [qb] at h; exact h
    | bk η' => rw [qb] at h; exact h
    | ct η' => rw [qb] at h; exact h
    | rt d η' => rw [qb] at h; exact h
    | bad => rw [qb] at h; exact h
/-! ### within a handler's suite: the caught exception is looked at -/
def tXe (X : Cx) (i : Nat) (a : Addr) (m : M D) : TE := fun σ H Q => σ[i]? = some (some (V.ref a)) ∧ tE X W0 m σ H Q
def PXd (X : Cx) (i : Nat) (a : Addr) (e : Expr) (m : M D) : Prop := PE X e (tXe X i a m)
variable {i : Nat} {a : Addr} {e e1 e2 : Expr} {m m1 m2 : M D}
theorem PEd.x (h : PEd X W0 e m) : PXd X i a e m := PE.weak h fun σ H Q q => q.2
theorem px_isi {oe : Obj} {pn : List (Addr × Obj)} {D : Addr} {t n : Str} {tv : V} {cv : Value} {b : Bool} {p1 p2 p3 : Pos} (C : ExcC X.K D) (hz : Zc (.ref D) none oe) (hf : ∃ vs, oe.data = .fields vs) (hN : X.N[i]? = some n := by rfl) (hv : Vis X.env.scope n := by first | exact Or.inl rfl | exact Or.inr (Or.inl rfl) | exact Or.inr (Or.inr rfl))
    (hm : X.mg "isinstance" = none) (ht : PE (X.suite a ((a, oe) :: pn)) (.Name t p1) (tC tv)) (hrel : ∀ u, RelV tv u → u = cv) (hk : kitOne X.K (.ref D) cv = some b) (hg : Gl X "isinstance" := by rfl)
    (hd : (n == ("__debug__" : Str)) = false := by decide) (hcd : (n == ("__classdict__" : Str)) = false := by decide)
    (he : starEach (.Name n p2 :: [.Name t p1]) X.env = (false, eval (.Name n p2) X.env) :: starEach [.Name t p1] X.env := by rfl) (he2 : starEach ([.Name t p1]) X.env = (false, eval (.Name t p1) X.env) :: starEach [] X.env := by rfl) (hpl : (backTo pos (starEach [.Name t p1] X.env)).any (·.1) = false := by rfl) :
    PXd (X.suite a ((a, oe) :: pn)) i a (.Call (.Name "isinstance" p3) [.Name n p2, .Name t p1] [] pos) (M.pure (.bl b)) :=
  PE.weak (pe_callB (X := X.suite a ((a, oe) :: pn)) (call_isE C hz hf) hg hm (by decide +kernel) (pa_cons (pe_var (i := i) hN hv hd hcd) (pa_cons ht pa_nil he2) he) (by decide) (by decide) he hpl) fun σ H Q ⟨hx, G, η, ok, h⟩ =>
    ⟨_, hx, tv, cv, b, rfl, hrel, hk, h _ _ .refl .refl ok rfl⟩
theorem px_not (h : PXd X i a e m) : PXd X i a (.UnaryOp .Not e pos) (do let d ← m; let c ← M.of (asB d); pure (.bl (!c))) :=
  PE.weak (pe_not h) fun σ H Q ⟨hx, G, η, ok, h⟩ => ⟨hx, G, η, ok, (Post.bind (R := RD X G σ) h).imp fun x H1 ⟨η1, d, a1⟩ => by
    obtain ⟨k, ek, q⟩ := Post.ofBind a1.post
    have e := asB_some ek
    subst e
    exact ⟨k, a1.r, q _ _ .refl .refl a1.ok rfl⟩⟩
theorem px_one {op : BoolOp} (h : PXd X i a e m) : PXd X i a (.BoolOp op [e] pos) m := pe_one h
theorem px_and {rest : List Expr} (h1 : PXd X i a e1 m1) (h2 : PXd X i a (.BoolOp .And (e2 :: rest) pos) m2) : PXd X i a (.BoolOp .And (e1 :: e2 :: rest) pos) (do let d ← m1; let c ← M.of (asB d); if c = true then m2 else pure (.bl false)) :=
  PE.weak (pe_and h1 h2) fun σ H Q ⟨hx, G, η, ok, h⟩ => ⟨hx, G, η, ok, (Post.bind (R := RD X G σ) h).imp fun x H1 ⟨η1, d, a1⟩ => by
    obtain ⟨k, ek, q⟩ := Post.ofBind a1.post
    have e := asB_some ek
    subst e
    refine ⟨k, a1.r, ?_⟩
    cases k with
    | true => exact iteT ⟨hx, G, η1, a1.ok, q⟩
    | false => exact iteF (q _ _ .refl .refl a1.ok rfl)⟩
theorem pxs_set (j : Nat) {y : Str} {py : Pos} {oe : Obj} {pn : List (Addr × Obj)} (hN : X.N.Nodup) (he : PXd (X.suite a ((a, oe) :: pn)) i a e m) (hi : X.N[j]? = some y := by rfl) (hx : Loc X.env.scope y := by first | exact Or.inl rfl | exact Or.inr rfl)
    (hs : swapsWith e (some (.Name y py)) pos.line X.env = pure false := by rfl) (hf : X.fn y = true ∨ X.env.scope.names.lookup y = some .local := by first | exact .inl rfl | exact .inr rfl | assumption) :
    PSs (X.suite a ((a, oe) :: pn)) [.Assign [.Name y py] e pos] (tXs X S fr i a (thenS m fun d => setS j d)) :=
  PSs.weak (pss_one (ps_set (X := X.suite a ((a, oe) :: pn)) (i := j) hN hi hx he hs hf)) fun Dn σ H ⟨G, η, t, ok, hxa, h⟩ => ⟨hxa, G, η, ok, (PostS.bind (R := RD X G σ) h).imp fun x H1 ⟨η1, d, a1⟩ => by
    have q := a1.post
    unfold setS at q
    by_cases hc : canSet η1 j = true
    · rw [if_pos hc] at q
      obtain ⟨o, s, _⟩ := set_ok hc a1.ok a1.r
      exact q _ _ s o
    · rw [if_neg hc] at q
      exact q.elim⟩
end
end Pd

namespace Pd
open PySem L2
/-! ### defs by name -/
theorem _root_.L2.Fun.lk {K : PySem.W.Frag} {x qual : Str} {st : Stmt} {f : Addr} {fd : FuncData} (F : Fun K x qual st f fd) : ∃ oc od osl, K.lookup f = some ⟨oc, od, .func fd, osl⟩ := by
  obtain ⟨oc, od, kV, doc, pm, an, cdv, ct, osl, rfl, l, _⟩ := F.ex
  exact ⟨oc, od, osl, l⟩
/-- the text of a def, as the module has made it -/
structure FunX (K : PySem.W.Frag) (mg : Str → Option Value) (x : Str) (st : Stmt) (ps : List Str) (kn : List Nat) : Prop where
  ex : ∃ f fd, Fun K x x st f fd ∧ mg x = some (.ref f) ∧ Binds K fd ps [] ∧ ∀ n1 ∈ kn, KB K fd ps (ps.drop n1) n1
/-- a def that may be called, and what it promises -/
structure Def (P : Program) (w : World) (K : PySem.W.Frag) (mg : Str → Option Value) (base : Heap) (x : Str) (ps : List Str) (kn : List Nat) (k : Nat) (sp : Sp) : Prop where
  ex : ∃ f fd, mg x = some (.ref f) ∧ PySem.W.keepIn K (.ref f) = true ∧ Binds K fd ps [] ∧ (∀ n1 ∈ kn, KB K fd ps (ps.drop n1) n1) ∧ (∃ oc od osl, K.lookup f = some ⟨oc, od, .func fd, osl⟩) ∧ FnOk P w K mg base (L2.CX P w) k f fd ps sp
/-- a class of exceptions without its own __init__ -/
structure ExcX (K : PySem.W.Frag) (mg : Str → Option Value) (x : Str) : Prop where
  ex : ∃ (C : Addr) (bmB : List Value) (B newId initId : String), mg x = some (.ref C) ∧ ExcBaseFacts B newId initId bmB ∧ PySem.W.excIn K C bmB newId = true ∧ PySem.W.keepIn K (.ref C) = true ∧
    PySem.W.subIn K (.ref C) (.type "BaseException") = some true ∧ PySem.W.typeIn K (.ref C) = some (.type "type")
/-- except t: .. of an exception of the class c -/
structure ExmX (K : PySem.W.Frag) (mg : Str → Option Value) (c t : Str) (b : Bool) : Prop where
  ex : ∃ (D C : Addr), mg c = some (.ref D) ∧ mg t = some (.ref C) ∧ PySem.W.exmOne K (.ref D) (.ref C) = some b
section
variable {P : Program} {w : World} {K : PySem.W.Frag} {mg : Str → Option Value} {base : Heap} {x : Str} {st : Stmt} {N ps : List Str} {kn : List Nat} {k j n : Nat} {mb : MS} {sp sp' : Sp} {fm : M D}
theorem Def.mono (D : Def P w K mg base x ps kn j sp) (h : j ≤ k) : Def P w K mg base x ps kn k sp := by
  obtain ⟨f, fd, a, b, c, d, l, F⟩ := D.ex
  exact ⟨f, fd, a, b, c, d, l, F.mono h⟩
theorem Def.imp (D : Def P w K mg base x ps kn k sp) (h : ∀ vs H Q E, sp' vs H Q E → sp vs H Q E) : Def P w K mg base x ps kn k sp' := by
  obtain ⟨f, fd, a, b, c, d, l, F⟩ := D.ex
  exact ⟨f, fd, a, b, c, d, l, F.imp h⟩
theorem def_ok (T : FunX K mg x st ps kn) (Sc : FnScope N ps (defScope st))
    (hbody : ∀ (f : Addr) (cdv : Value) (A : Around) (outer : List PySem.Env) (s : Shared) (H : Hp) (E : XK) (S : S0), Room k (cxOf (L2.CX P w) P w K mg base N x (defScope st) f cdv A outer s H E).A →
      PSsd (cxOf (L2.CX P w) P w K mg base N x (defScope st) f cdv A outer s H E) (fun cls d _ H' => E cls d H') S false (defBody st) mb) :
    Def P w K mg base x ps kn (k + 1) (spD K mg ps.length (fnM ps.length N.length mb)) := by
  obtain ⟨f, fd, F, hm, hb, hk⟩ := T.ex
  exact ⟨f, fd, hm, F.kp, hb, hk, F.lk, fn_ok F Sc (hbody f)⟩
theorem defF_ok (T : FunX K mg x st ps kn) (Sc : FnScope N ps (defScope st))
    (hbody : ∀ (f : Addr) (cdv : Value) (A : Around) (outer : List PySem.Env) (s : Shared) (H : Hp) (E : XK) (S : S0), Room k (cxOf (L2.CX P w) P w K mg base N x (defScope st) f cdv A outer s H E).A →
      PSsd (cxOf (L2.CX P w) P w K mg base N x (defScope st) f cdv A outer s H E) (fun cls d _ H' => E cls d H') S true (defBody st) mb) :
    Def P w K mg base x ps kn (k + 1) (spF K mg ps.length (fnF ps.length N.length mb)) := by
  obtain ⟨f, fd, F, hm, hb, hk⟩ := T.ex
  exact ⟨f, fd, hm, F.kp, hb, hk, F.lk, fnF_ok F Sc (hbody f)⟩
/-- nothing is promised -/
def badM : M D := fun _ => .bad
theorem def_bad (T : FunX K mg x st ps kn) (k : Nat) : Def P w K mg base x ps kn k (spD K mg ps.length badM) := by
  obtain ⟨f, fd, F, hm, hb, hk⟩ := T.ex
  exact ⟨f, fd, hm, F.kp, hb, hk, F.lk, ⟨fun vs H Q E ⟨_, _, _, _, q⟩ => q.elim, fun A outer s H args us vs Q E _ _ _ _ ⟨_, _, _, _, q⟩ => q.elim⟩⟩
theorem takesN {X : Cx} : Takes X W0 := fun _ _ ⟨_, _, _, _, _, _, _, _, _, _, _, _, _, _, _, _, q⟩ => q.elim
end
section
variable {X : Cx} {W : WX} {S : S0} {fr : Bool} {e : Expr} {es : List Expr} {kws : List Keyword} {x : Str} {ps : List Str} {kn : List Nat} {p pos : Pos} {j k n n1 : Nat} {fm : M D} {m mk : M (List AV)}
def cal (n : Nat) (fm : M D) (jo : Option Nat) (m : M (List AV)) : M D := do let as ← m; let as ← lenM n as; callM noLst fm jo as
def calF (n : Nat) (fm : M D) (jo : Option Nat) (m : M (List AV)) : M D := do let as ← m; let as ← lenM n as; callM noLstIn fm jo as
def calK (n n1 n2 : Nat) (fm : M D) (jo : Option Nat) (m mk : M (List AV)) : M D := do let as ← m; let as ← lenM n1 as; let zs ← mk; let zs ← lenM n2 zs; let as ← lenM n (as ++ zs); callM noLst fm jo as
def calK0 (n n2 : Nat) (fm : M D) (jo : Option Nat) (mk : M (List AV)) : M D := do let zs ← mk; let zs ← lenM n2 zs; let as ← lenM n zs; callM noLst fm jo as
def cal0 (fm : M D) : M D := noX (callM noLst fm none [])
theorem pd_cal (D : Def X.prog X.w X.K X.mg X.base x ps kn j (spD X.K X.mg n fm)) (jo : Option Nat) (tk : Takes X W) (hr : Room k X.A) (hjk : j ≤ k) (hg : Gl X x)
    (ha : PVAd X W (e :: es) m) (hdb : (x == ("__debug__" : Str)) = false := by decide) (he : starEach (e :: es) X.env = (false, eval e X.env) :: starEach es X.env := by rfl) (hpl : (backTo pos (starEach es X.env)).any (·.1) = false := by rfl) :
    PEd X W (.Call (.Name x p) (e :: es) [] pos) (cal n fm jo m) := by
  obtain ⟨f, fd, hm, hk, hb, _, _, F⟩ := D.ex
  exact pd_call F jo tk (hr.mono hjk) hg hm hk hb ha hdb he hpl
theorem pf_cal (D : Def X.prog X.w X.K X.mg X.base x ps kn j (spF X.K X.mg n fm)) (jo : Option Nat) (tk : Takes X W) (hr : Room k X.A) (hjk : j ≤ k) (hg : Gl X x)
    (ha : PVAd X W (e :: es) m) (hdb : (x == ("__debug__" : Str)) = false := by decide) (he : starEach (e :: es) X.env = (false, eval e X.env) :: starEach es X.env := by rfl) (hpl : (backTo pos (starEach es X.env)).any (·.1) = false := by rfl) :
    PFd X W (.Call (.Name x p) (e :: es) [] pos) (calF n fm jo m) := by
  obtain ⟨f, fd, hm, hk, hb, _, _, F⟩ := D.ex
  exact pf_call F jo tk (hr.mono hjk) hg hm hk hb ha hdb he hpl
theorem pd_cal0 (D : Def X.prog X.w X.K X.mg X.base x ps kn j (spD X.K X.mg 0 fm)) (hr : Room k X.A) (hjk : j ≤ k) (hg : Gl X x) (hdb : (x == ("__debug__" : Str)) = false := by decide) :
    PEd X W (.Call (.Name x p) [] [] pos) (cal0 fm) := by
  obtain ⟨f, fd, hm, hk, hb, _, _, F⟩ := D.ex
  exact pd_call0 F (hr.mono hjk) hg hm hk hb hdb
theorem pd_calK (D : Def X.prog X.w X.K X.mg X.base x ps kn j (spD X.K X.mg n fm)) (n1 : Nat) (jo : Option Nat) (tk : Takes X W) (hr : Room k X.A) (hjk : j ≤ k) (hg : Gl X x)
    (ha : PVAd X W (e :: es) m) (hkw : PVKd X W kws mk) (hn : n1 ∈ kn := by decide) (hall : (backToKw pos (keywordEach kws X.env)).all (·.1.isSome) = true := by rfl) (hks : (backToKw pos (keywordEach kws X.env)).filterMap (·.1) = ps.drop n1 := by rfl)
    (hdb : (x == ("__debug__" : Str)) = false := by decide) (he : starEach (e :: es) X.env = (false, eval e X.env) :: starEach es X.env := by rfl)
    (hpl : ((backTo pos (starEach (e :: es) X.env)).any (·.1) || (backToKw pos (keywordEach kws X.env)).any (·.1.isNone)) = false := by rfl) :
    PEd X W (.Call (.Name x p) (e :: es) kws pos) (calK n n1 (ps.drop n1).length fm jo m mk) := by
  obtain ⟨f, fd, hm, hk, hb, hK, _, F⟩ := D.ex
  exact pd_callK F jo tk (hr.mono hjk) hg hm hk (hK n1 hn) ha hkw hall hks hdb he hpl
theorem pd_calK0 (D : Def X.prog X.w X.K X.mg X.base x ps kn j (spD X.K X.mg n fm)) (jo : Option Nat) (tk : Takes X W) (hr : Room k X.A) (hjk : j ≤ k) (hg : Gl X x)
    (hkw : PVKd X W kws mk) (hn : 0 ∈ kn := by decide) (hall : (backToKw pos (keywordEach kws X.env)).all (·.1.isSome) = true := by rfl) (hks : (backToKw pos (keywordEach kws X.env)).filterMap (·.1) = ps.drop 0 := by rfl)
    (hdb : (x == ("__debug__" : Str)) = false := by decide)
    (hpl : ((backTo pos (starEach [] X.env)).any (·.1) || (backToKw pos (keywordEach kws X.env)).any (·.1.isNone)) = false := by rfl) :
    PEd X W (.Call (.Name x p) [] kws pos) (calK0 n (ps.drop 0).length fm jo mk) := by
  obtain ⟨f, fd, hm, hk, hb, hK, _, F⟩ := D.ex
  exact pd_callK0 F jo tk (hr.mono hjk) hg hm hk (hK 0 hn) hkw hall hks hdb hpl
/-- raise X('..') -/
theorem psd_raiseX {ms : Str} {i : Nat} {p2 : Pos} {pos2 : Pos} (T : ExcX X.K X.mg x) (hc : X.calm = true) (tk : Takes X W) (hg : Gl X x := by rfl) (hdb : (x == ("__debug__" : Str)) = false := by decide) :
    PSd X W S fr (.Raise (some (.Call (.Name x p) [.Constant (.str ms) i p2] [] pos)) none pos2) (fun η => .exc x η) := by
  obtain ⟨C, bmB, B, newId, initId, gC, F, q, kC, h1, h2⟩ := T.ex
  exact psd_raise hc tk F q gC kC (raises_own h1 h2) hg hdb
end
end Pd

namespace Pd
open PySem L2
/-! ### handlers by name -/
def NamesC (mg : Str → Option Value) (t : Str) (tv : V) (cv : Value) : Prop :=
  (∃ C : Addr, mg t = some (.ref C) ∧ tv = .ref C ∧ cv = .ref C) ∨ (mg t = none ∧ ∃ T : String, bootBuiltins t = some (.type T) ∧ tv = .ty T ∧ cv = .type T)
/-- isinstance(e, t), e of the class c -/
structure KitX (K : PySem.W.Frag) (mg : Str → Option Value) (c t : Str) (b : Bool) : Prop where
  ex : ∃ (D : Addr) (tv : V) (cv : Value), mg c = some (.ref D) ∧ ExcC K D ∧ NamesC mg t tv cv ∧ PySem.W.kitOne K (.ref D) cv = some b
def kitT (l : List (Str × Bool)) (c : Str) : M D := match l.lookup c with
  | some b => M.pure (.bl b)
  | none => fun _ => .bad
def clOf (l : List (Str × Bool)) (c : Str) : Option Bool := l.lookup c
theorem lookup_mem {α β : Type} [BEq α] [LawfulBEq α] : ∀ {l : List (α × β)} {c : α} {b : β}, l.lookup c = some b → (c, b) ∈ l
  | [], _, _, h => by cases h
  | (a, b') :: r, c, b, h => by
    rw [List.lookup_cons] at h
    split at h
    · rename_i e
      cases h
      rw [beq_iff_eq] at e
      rw [e]
      exact List.mem_cons_self
    · exact List.mem_cons_of_mem _ (lookup_mem h)
section
open PySem.W
variable {X : Cx} {W : WX} {S : S0} {fr : Bool} {body suite : List Stmt} {b₀ : Stmt} {np pos pos' : Pos} {mb : MS} {i : Nat} {a : Addr}
theorem psd_tryX (i : Nat) {x n : Str} (l : List (Str × Bool)) (ms : Str → MS) (hs : X.stack = X.env :: X.outer) (hf : X.env.frame = some X.env.locals) (hN : X.N.Nodup) (tk : Takes X W)
    (hcl : ∀ p ∈ l, ExmX X.K X.mg p.1 x p.2) (hx : ExcX X.K X.mg x)
    (hb : ∀ (W' : WX) (pn : List (Addr × Obj)) (xe : Value → Shared → Prop), Takes (X.tr pn xe) W' → PassesOwn (model X.prog X.w) X.A X.env xe → PSsd (X.tr pn xe) W' S fr body mb)
    (hsu : ∀ (a : Addr) (oe : Obj) (pn : List (Addr × Obj)) (c : Str) (D : Addr), Zc (.ref D) none oe → (∃ vs, oe.data = .fields vs) → X.mg c = some (.ref D) → PSs (X.suite a ((a, oe) :: pn)) (b₀ :: suite) (tXs X S fr i a (ms c)))
    (hg : Gl X x := by rfl) (hdb : (x == ("__debug__" : Str)) = false := by decide)
    (hi : X.N[i]? = some n := by rfl) (hln : X.env.kindOf n = some .local := by rfl) :
    PSd X W S fr (.Try body [.ExceptHandler (some (.Name x np)) (some n) (b₀ :: suite) pos'] [] [] pos) (tryS (clOf l) i mb ms) := by
  obtain ⟨C, bmB, B, newId, initId, gC, F, q, kC, h1, h2⟩ := hx.ex
  refine psd_try_as i (clOf l) ms hs hf hN tk ⟨hg, hdb, .inl gC⟩ (fun c D b h hD => ?_) hb (fun a oe pn c D z hf hm _ => hsu a oe pn c D z hf hm) hi hln
  obtain ⟨D', C', e1, e2, e3⟩ := (hcl (c, b) (lookup_mem h)).ex
  rw [hD] at e1
  rw [gC] at e2
  cases e1
  cases e2
  exact e3
theorem px_kit {oe : Obj} {pn : List (Addr × Obj)} {c t n : Str} {D : Addr} {p1 p2 p3 : Pos} (l : List (Str × Bool)) (hl : ∀ p ∈ l, KitX X.K X.mg p.1 t p.2) (hm : X.mg c = some (.ref D)) (hz : Zc (.ref D) none oe) (hf : ∃ vs, oe.data = .fields vs)
    (hi : X.mg "isinstance" = none) (hgt : Gl X t := by rfl) (hN : X.N[i]? = some n := by rfl) (hv : Vis X.env.scope n := by first | exact Or.inl rfl | exact Or.inr (Or.inl rfl) | exact Or.inr (Or.inr rfl))
    (hg : Gl X "isinstance" := by rfl) (hdt : (t == ("__debug__" : Str)) = false := by decide) (hnt : t ≠ "__name__" := by decide)
    (hd : (n == ("__debug__" : Str)) = false := by decide) (hcd : (n == ("__classdict__" : Str)) = false := by decide)
    (he : starEach (.Name n p2 :: [.Name t p1]) X.env = (false, eval (.Name n p2) X.env) :: starEach [.Name t p1] X.env := by rfl) (he2 : starEach ([.Name t p1]) X.env = (false, eval (.Name t p1) X.env) :: starEach [] X.env := by rfl) (hpl : (backTo pos (starEach [.Name t p1] X.env)).any (·.1) = false := by rfl) :
    PXd (X.suite a ((a, oe) :: pn)) i a (.Call (.Name "isinstance" p3) [.Name n p2, .Name t p1] [] pos) (kitT l c) := by
  unfold kitT
  cases q : l.lookup c with
  | none => exact ⟨fun pins s σ H Q I ⟨_, _, _, _, h⟩ => h.elim⟩
  | some b =>
    obtain ⟨D', tv, cv, e1, ec, nc, kt⟩ := (hl (c, b) (lookup_mem q)).ex
    rw [hm] at e1
    cases e1
    rcases nc with ⟨C, g1, rfl, rfl⟩ | ⟨g1, T, g2, rfl, rfl⟩
    · exact px_isi (tv := .ref C) (cv := .ref C) ec hz hf hN hv hi (pe_glob (X := X.suite a ((a, oe) :: pn)) (u := .ref C) hgt g1 rfl hdt) (fun u r => r) kt hg hd hcd he he2 hpl
    · exact px_isi (tv := .ty T) (cv := .type T) ec hz hf hN hv hi (pe_bltn (X := X.suite a ((a, oe) :: pn)) (u := .type T) hgt g1 g2 rfl hnt hdt) (fun u r => r) kt hg hd hcd he he2 hpl
end
end Pd

namespace Pd
open PySem L2
/-! ### the words in which the functions of the readings are written -/
def opD (f : D → D → Option D) (m1 m2 : M D) : M D := do let d ← m1; let e ← m2; M.of (f d e)
def opV (f : D → D → Option D) (m1 m2 : M AV) : M D := do let a ← m1; let b ← m2; let d ← a.res; let e ← b.res; M.of (f d e)
def cmD (f : D → D → Option Bool) (m1 m2 : M D) : M D := do let d ← m1; let e ← m2; M.of ((f d e).map D.bl)
def cmT (f : D → D → Option Bool) (m1 m2 : M D) : M Bool := do let d ← m1; let e ← m2; M.of (f d e)
def cmVD (f : D → D → Option Bool) (m1 m2 : M AV) : M D := do let a ← m1; let b ← m2; let d ← a.res; let e ← b.res; M.of ((f d e).map D.bl)
def cmVT (f : D → D → Option Bool) (m1 m2 : M AV) : M Bool := do let a ← m1; let b ← m2; let d ← a.res; let e ← b.res; M.of (f d e)
def chT (f f' : D → D → Option Bool) (m1 m2 m3 : M D) : M Bool := do let d ← m1; let e ← m2; let k ← M.of (f d e); if k = true then (do let g ← m3; M.of (f' e g)) else pure false
def chD (f f' : D → D → Option Bool) (m1 m2 m3 : M D) : M D := do let d ← m1; let e ← m2; let k ← M.of (f d e); if k = true then (do let g ← m3; M.of ((f' e g).map D.bl)) else pure (.bl false)
def unD (f : D → Option D) (m1 : M D) : M D := do let d ← m1; M.of (f d)
def tsT (m : M D) : M Bool := do let d ← m; M.of (asB d)
def anT (m1 m2 : M Bool) : M Bool := do let c ← m1; if c = true then m2 else pure false
def orT (m1 m2 : M Bool) : M Bool := do let c ← m1; if c = true then pure true else m2
def ntT (m : M Bool) : M Bool := do let c ← m; pure (!c)
def ntD (m : M D) : M D := do let d ← m; let c ← M.of (asB d); pure (.bl (!c))
def anD (m1 m2 : M D) : M D := do let d ← m1; let c ← M.of (asB d); if c = true then m2 else pure (.bl false)
def orD (m1 m2 : M D) : M D := do let d ← m1; let c ← M.of (asB d); if c = true then pure (.bl true) else m2
def ifD (mc : M Bool) (m1 m2 : M D) : M D := do let k ← mc; if k = true then m1 else m2
def vlV (m : M D) : M AV := do let d ← m; pure (.val d)
def smI (m : M D) : M (Option Int) := do let d ← m; M.of ((asI d).map some)
def noI : M (Option Int) := pure none
def slD (m : M D) (ml mh : M (Option Int)) : M D := do let d ← m; let l ← ml; let h ← mh; M.of (cutD d l h)
def slV (m : M AV) (ml mh : M (Option Int)) : M D := do let a ← m; let l ← ml; let h ← mh; let d ← a.res; M.of (cutD d l h)
def bltD (f : List D → Option D) (m : M (List D)) : M D := m >>= fun ds => M.of (f ds)
def bltV (f : List D → Option D) (m : M (List AV)) : M D := m >>= fun as => resAll as >>= fun ds => M.of (f ds)
def isiM (T : String) (m : M D) : M D := do let d ← m; M.of (isiD T d)
def isiV (T : String) (m : M AV) : M D := do let a ← m; let d ← a.res; M.of (isiD T d)
def nlD : M (List D) := M.pure []
def csD (m : M D) (ms : M (List D)) : M (List D) := do let d ← m; let ds ← ms; pure (d :: ds)
def nlV : M (List AV) := M.pure []
def csV (m : M AV) (ms : M (List AV)) : M (List AV) := do let d ← m; let ds ← ms; pure (d :: ds)
def tpD (m : M (List D)) : M D := m >>= fun ds => M.of (if lenOk ds.length = true then some (.tup ds) else none)
def lsD (m : M (List D)) : M D := m >>= fun ds => M.of (if lenOk ds.length = true then some (.lst ds) else none)
def itD (m : M D) : M (List D) := do let d ← m; M.of (itemsD d)
def rg1 (m : M (List D)) : M (List D) := do let ds ← m; M.of (range1D ds)
def rg2 (m : M (List D)) : M (List D) := do let ds ← m; M.of (range2D ds)
def cD (d : D) : M D := M.pure d
/-! statements -/
def stS (i : Nat) (m : M D) : MS := thenS m fun d => setS i d
def owS (i : Nat) (m : M D) : MS := thenS m fun d => ownS i d
def rtS (m : M D) : MS := thenS m fun d η => .rt d η
def exS (m : M D) : MS := thenS m fun _ η => .nx η
def ifS (mt : M Bool) (a b : MS) : MS := thenS mt fun k => if k = true then a else b
def paS (i j : Nat) (ms : M (List D)) : MS := thenS ms fun ds => match ds with | [d, e] => seqS (setS i d) (setS j e) | _ => fun _ => .bad
def asS (m : M D) (g : D → MS) : MS := thenS m fun d η => onlyNx (g d η)
def soS (i : Nat) (m mk : M D) : MS := thenS (do let d ← m; let _ ← ownV i; let k ← mk; pure (d, k)) fun (d, k) => storeS i d k
def apS (i : Nat) (m : M D) : MS := thenS (ownL i) fun _ => thenS m fun d => appS i d
def foS (mi : M (List D)) (g : D → MS) (mb : MS) : MS := thenS mi fun ds => forS (turnS g mb) ds
def whS (mt : M Bool) (mb : MS) (fuel : Sto → Nat) : MS := fun η => whileS mt mb (fuel η) η
def nxS : MS := fun η => .nx η
def bkS : MS := fun η => .bk η
def ctS : MS := fun η => .ct η
def rnS : MS := fun η => .rt .non η
def raS (x : Str) : MS := fun η => .exc x η
def rlS (i : Nat) (mb : MS) : MS := fun η => mb (relS i η)
def roS (i : Nat) : MS := fun η => match η[i]? with | some (.own false d) => .rt d (η.set i .no) | _ => .bad
def tgN : List D → MS := fun ds η => if ds.isEmpty = true then .nx η else .bad
def tgC (g : D → MS) (gs : List D → MS) : List D → MS := fun ds => match ds with | d :: ds => seqS (g d) (gs ds) | [] => fun _ => .bad
def tgT (n : Nat) (gs : List D → MS) : D → MS := fun d => match d with | .tup ds => if ds.length = n then gs ds else fun _ => .bad | _ => fun _ => .bad
end Pd

namespace Pd
open PySem L2
/-! ### what the module has made: from the written part -/
def BindsAll (x : Str) (st : Stmt) (ps : List Str) : Prop := ∀ (kV doc pm : Value) (an : Option Addr) (cdv ct : Value) (us : List Value), us.length = ps.length → bindArgs (PySem.W.fnOf x x (defArgs st) (defBody st) (defScope st) .none kV doc pm an cdv ct) ⟨us, []⟩ = pure (ps.zip us)
def KBAll (x : Str) (st : Stmt) (ps : List Str) (n1 : Nat) : Prop := ∀ (kV doc pm : Value) (an : Option Addr) (cdv ct : Value) (us ws : List Value), us.length = n1 → ws.length = (ps.drop n1).length → bindArgs (PySem.W.fnOf x x (defArgs st) (defBody st) (defScope st) .none kV doc pm an cdv ct) ⟨us, (ps.drop n1).zip ws⟩ = pure (ps.zip (us ++ ws))
section
variable {K : PySem.W.Frag} {h : Heap} {mg : Str → Option Value} {x c t : Str} {st : Stmt} {ps : List Str} {kn : List Nat} {f C D : Addr}
theorem funX_mk {oc : Value} {od an : Option Addr} {osl : Array (Option Value)} {kV doc pm cdv ct : Value} (X : K.In h) (G : h.Ns mainGlobals mg) (a : PySem.W.nsIn K mainGlobals x = some (some (.ref f)))
    (l : K.lookup f = some ⟨oc, od, .func (PySem.W.fnOf x x (defArgs st) (defBody st) (defScope st) .none kV doc pm an cdv ct), osl⟩) (cc : PySem.W.codeIn K cdv x = true) (k : PySem.W.keepIn K (.ref f) = true)
    (hb : BindsAll x st ps) (hk : ∀ n1 ∈ kn, KBAll x st ps n1) : FunX K mg x st ps kn := by
  have F := fun_mk (st := st) l cc k
  exact ⟨f, _, F, PySem.W.mg_of X G a, F.binds hb, fun n1 hn => ⟨fun s us ws _ h1 h2 => .of_eq (hk n1 hn kV doc pm an cdv ct us ws h1 h2)⟩⟩
theorem excX_mk {bmB : List Value} {B newId initId : String} (X : K.In h) (G : h.Ns mainGlobals mg) (F : ExcBaseFacts B newId initId bmB) (a : PySem.W.nsIn K mainGlobals x = some (some (.ref C))) (q : PySem.W.excIn K C bmB newId = true) (k : PySem.W.keepIn K (.ref C) = true)
    (b : PySem.W.subIn K (.ref C) (.type "BaseException") = some true) (t : PySem.W.typeIn K (.ref C) = some (.type "type")) : ExcX K mg x := ⟨C, bmB, B, newId, initId, PySem.W.mg_of X G a, F, q, k, b, t⟩
theorem exmX_mk {b : Bool} (X : K.In h) (G : h.Ns mainGlobals mg) (ac : PySem.W.nsIn K mainGlobals c = some (some (.ref D))) (at' : PySem.W.nsIn K mainGlobals t = some (some (.ref C)))
    (h1 : PySem.W.subIn K (.ref C) (.type "BaseException") = some true) (h2 : PySem.W.isClsIn K C = true) (h3 : PySem.W.typeIn K (.ref C) = some (.type "type")) (h4 : PySem.W.subIn K (.ref D) (.ref C) = some b) : ExmX K mg c t b := by
  refine ⟨D, C, PySem.W.mg_of X G ac, PySem.W.mg_of X G at', ?_⟩
  have e1 : (PySem.W.subIn K (.ref C) (.type "BaseException") == some true) = true := by rw [h1] <;> rfl
  have e2 : ((PySem.W.clsIn K C).isSome && PySem.W.typeIn K (.ref C) == some (.type "type")) = true := by
    have h2' : (PySem.W.clsIn K C).isSome = true := h2
    rw [h2', h3] <;> rfl
  show (if (PySem.W.subIn K (.ref C) (.type "BaseException") == some true) = true then (if ((PySem.W.clsIn K C).isSome && PySem.W.typeIn K (.ref C) == some (.type "type")) = true then PySem.W.subIn K (.ref D) (.ref C) else none) else none) = some b
  rw [if_pos e1, if_pos e2]
  exact h4
/-- isinstance of a caught exception: the class's own facts -/
theorem kitX_cls {b : Bool} (X : K.In h) (G : h.Ns mainGlobals mg) (ec : ExcC K D) (ac : PySem.W.nsIn K mainGlobals c = some (some (.ref D))) (at' : PySem.W.nsIn K mainGlobals t = some (some (.ref C)))
    (h2 : PySem.W.isClsIn K C = true) (h3 : PySem.W.typeIn K (.ref C) = some (.type "type")) (h4 : PySem.W.subIn K (.ref D) (.ref C) = some b) (hne : (Value.ref D == Value.ref C) = false ∨ b = true) : KitX K mg c t b := by
  refine ⟨D, .ref C, .ref C, PySem.W.mg_of X G ac, ec, .inl ⟨C, PySem.W.mg_of X G at', rfl, rfl⟩, ?_⟩
  have e2 : ((PySem.W.clsIn K C).isSome && PySem.W.typeIn K (.ref C) == some (.type "type")) = true := by
    have h2' : (PySem.W.clsIn K C).isSome = true := h2
    rw [h2', h3] <;> rfl
  show (if (Value.ref D == Value.ref C) = true then some true else (if ((PySem.W.clsIn K C).isSome && PySem.W.typeIn K (.ref C) == some (.type "type")) = true then PySem.W.subIn K (.ref D) (.ref C) else none)) = some b
  rcases hne with q | q
  · rw [q, if_neg (by decide), if_pos e2]
    exact h4
  · subst q
    rw [if_pos e2]
    split
    · rfl
    · exact h4
theorem kitX_ty {T : String} {b : Bool} (X : K.In h) (G : h.Ns mainGlobals mg) (ec : ExcC K D) (ac : PySem.W.nsIn K mainGlobals c = some (some (.ref D))) (at' : PySem.W.nsIn K mainGlobals t = some none) (hT : bootBuiltins t = some (.type T)) (hM : PySem.W.kitMeta T = true)
    (h4 : PySem.W.subIn K (.ref D) (.type T) = some b) : KitX K mg c t b := by
  refine ⟨D, .ty T, .type T, PySem.W.mg_of X G ac, ec, .inr ⟨PySem.W.mg_none_of X G at', T, hT, rfl, rfl⟩, ?_⟩
  show (if (Value.ref D == Value.type T) = true then some true else (if PySem.W.kitMeta T = true then PySem.W.subIn K (.ref D) (.type T) else none)) = some b
  rw [if_neg (fun z => by cases (show (Value.ref D == Value.type T) = false from rfl).symm.trans z), if_pos hM]
  exact h4
abbrev FunXT {K : PySem.W.Frag} {h : Heap} (_ : K.In h) (mg : Str → Option Value) (x : Str) (st : Stmt) (ps : List Str) (kn : List Nat) : Prop := FunX K mg x st ps kn
abbrev ExcXT {K : PySem.W.Frag} {h : Heap} (_ : K.In h) (mg : Str → Option Value) (x : Str) : Prop := ExcX K mg x
abbrev ExmXT {K : PySem.W.Frag} {h : Heap} (_ : K.In h) (mg : Str → Option Value) (c t : Str) (b : Bool) : Prop := ExmX K mg c t b
abbrev KitXT {K : PySem.W.Frag} {h : Heap} (_ : K.In h) (mg : Str → Option Value) (c t : Str) (b : Bool) : Prop := KitX K mg c t b
theorem all_nil {α : Type} {Q : α → Prop} : ∀ p ∈ ([] : List α), Q p := fun _ h => nomatch h
theorem all_cons {α : Type} {Q : α → Prop} {a : α} {l : List α} (h : Q a) (t : ∀ p ∈ l, Q p) : ∀ p ∈ a :: l, Q p := fun p hp => by
  rcases List.mem_cons.mp hp with e | e
  · rw [e]
    exact h
  · exact t p e
end
/-- law's: a list of at most 63 ints, none of them very long, is handed in; True comes out -/
def spLaw (K : PySem.W.Frag) : Sp := fun vs H Q _ => ∃ (a : Addr) (ns : List Int), vs = [.ref a] ∧ Scr K H a ns ∧ ns.length ≤ 63 ∧ (∀ z ∈ ns, Builtin.Int.intBits z ≤ 1048576) ∧ ∀ H', Q (.bl true) H'
theorem scr_of {K : PySem.W.Frag} {H : Hp} {a : Addr} {ns : List Int} (hO : Only H) (h : SqL K H a (ns.map V.int)) : Scr K H a ns := by
  rcases h with (h | ⟨o, h⟩) | h
  · rcases hO a with e | ⟨o, xs, e⟩
    · rw [e] at h
      cases h
    · rw [e] at h
      cases h
  · exact .inl ⟨o, h⟩
  · exact .inr h
theorem law_sp {K : PySem.W.Frag} {mg : Str → Option Value} {m : M D} (hl : ∀ ns : List Int, ns.length ≤ 63 → (∀ z ∈ ns, Builtin.Int.intBits z ≤ 1048576) → ∃ as', m [.val (.scr ns)] = .ok (.bl true) as') :
    ∀ vs H Q E, spLaw K vs H Q E → spD K mg 1 m vs H Q E := by
  rintro vs H Q E ⟨a, ns, rfl, hs, h1, h2, k⟩
  obtain ⟨as', e⟩ := hl ns h1 h2
  have no : ∀ (i : Nat) (b : Bool) (d : D), ([Slot.val (.scr ns)] : Sto)[i]? = some (.own b d) → False := fun i b d q => by
    cases i with
    | zero => cases q
    | succ i => cases q
  refine ⟨fun _ => False, [.val (.scr ns)], rfl, ⟨rfl, fun i d q => ?_, fun i b d q => (no i b d q).elim, fun i j b b' d d' p q => (no i b d q).elim, fun a g => g.elim, fun a g => g.elim⟩, ?_⟩
  · cases i with
    | zero =>
      cases q
      exact ⟨_, rfl, a, rfl, hs⟩
    | succ i => cases q
  · rw [e]
    intro v H' _ _ _ r
    cases (show v = .bl true from r)
    exact k H'
/-- THE HEAD -/
theorem walk {l : PySem.W.OpenLaw} {k : Nat} {q : Program} {loose : List Str} {XP : (Str → Option Value) → Heap → Prop} {YP : World → Heap → Prop} {d : DefRec} {K : Params → PySem.W.Frag} {m : M D} (hn : l.most = some 63) (hdf : d.params.defaults = []) (hr : Room k callerA) (hd : d.name = "law")
    (hY : ∀ (w : World) (h : Heap), YP w h → (K w.params).In h)
    (hl : ∀ ns : List Int, ns.length ≤ 63 → (∀ z ∈ ns, Builtin.Int.intBits z ≤ 1048576) → ∃ as', m [.val (.scr ns)] = .ok (.bl true) as')
    {st : Stmt} {kn : List Nat} (hb : BindsAll "law" st ["script"])
    (F : ∀ (w : World) (mg : Str → Option Value) (h : Heap), (K w.params).In h → h.Ns mainGlobals mg → FunX (K w.params) mg "law" st ["script"] kn ∧ ∀ base : Heap, Def l.prog w (K w.params) mg base "law" ["script"] kn k (spD (K w.params) mg 1 m)) :
    PySem.W.WalkO q loose XP YP l.row.toRowW d [] (fun f vs => PySem.call f vs) :=
  L2.walk_ofB (n := 63) (k := k) (x := "script") (CX := fun w => L2.CX l.prog w) (sp := fun w => spLaw (K w.params)) hn (by decide) hdf hr hY
    (fun w mg fa h KX G hmg => by
      obtain ⟨⟨f, fd, Fn, hm, hB, _⟩, FD⟩ := F w mg h KX G
      rw [hd, hm] at hmg
      cases hmg
      obtain ⟨oc1, od1, osl1, l1⟩ := Fn.lk
      obtain ⟨oc, od, kV, doc, pm, an, cdv, ct, osl, efd, _, _⟩ := Fn.ex
      refine ⟨fd, fun s u => ?_, fun base _ _ => ?_⟩
      · rw [efd]
        exact .of_eq (hb kV doc pm an cdv ct [u] rfl)
      · obtain ⟨f2, fd2, hm2, _, _, _, ⟨oc2, od2, osl2, l2⟩, FO⟩ := (FD base).ex
        rw [hm] at hm2
        cases hm2
        rw [l1] at l2
        cases l2
        exact FO.imp (law_sp hl))
    (fun w H a ns h1 h2 hO hS => ⟨a, ns, rfl, scr_of hO hS, h1, h2, fun _ => rfl⟩)
    (fun w H s e s' ⟨_, _, _, _, _, _, _, _, _, _, _, _, z⟩ => z)
end Pd

namespace Pd
open PySem L2
/-! ### evaluation: what the functions of the readings are, applied -/
section
variable {α β : Type} {η η' : Sto} {a : α} {d e : D} {i : Nat} {c : Str}
def Res.bind (r : Res α) (k : α → M β) : Res β := match r with
  | .ok a η' => k a η'
  | .exc c η' => .exc c η'
  | .bad => .bad
def Res.thn (r : Res α) (k : α → MS) : SRes := match r with
  | .ok a η' => k a η'
  | .exc c η' => .exc c η'
  | .bad => .bad
def SRes.seq (r : SRes) (b : MS) : SRes := match r with
  | .nx η' => b η'
  | r => r
theorem ev_bind (m : M α) (k : α → M β) (η : Sto) : (m >>= k) η = (m η).bind k := rfl
theorem ev_mbind (m : M α) (k : α → M β) (η : Sto) : M.bind m k η = (m η).bind k := rfl
theorem ev_bind_ok (k : α → M β) : (Res.ok a η).bind k = k a η := rfl
theorem ev_bind_exc (k : α → M β) : (Res.exc c η).bind k = .exc c η := rfl
theorem ev_pure : (pure a : M α) η = .ok a η := rfl
theorem ev_mpure : (M.pure a : M α) η = .ok a η := rfl
theorem ev_of : M.of (some a) η = .ok a η := rfl
theorem ev_thenS (m : M α) (k : α → MS) : thenS m k η = (m η).thn k := rfl
theorem ev_thn (k : α → MS) : (Res.ok a η).thn k = k a η := rfl
theorem ev_thn_exc (k : α → MS) : (Res.exc c η).thn k = .exc c η := rfl
theorem ev_seqS (a b : MS) : seqS a b η = (a η).seq b := rfl
theorem ev_seq (b : MS) : (SRes.nx η).seq b = b η := rfl
theorem ev_seq_rt (b : MS) : (SRes.rt d η).seq b = .rt d η := rfl
theorem ev_seq_bk (b : MS) : (SRes.bk η).seq b = .bk η := rfl
theorem ev_seq_ct (b : MS) : (SRes.ct η).seq b = .ct η := rfl
theorem ev_seq_exc (b : MS) : (SRes.exc c η).seq b = .exc c η := rfl
theorem ev_iteM (p : Prop) [Decidable p] (f g : M α) : (if p then f else g) η = if p then f η else g η := by split <;> rfl
theorem ev_iteS (p : Prop) [Decidable p] (f g : MS) : (if p then f else g) η = if p then f η else g η := by split <;> rfl
def getVs : Option Slot → Sto → Res D
  | some (.val d), η => .ok d η
  | _, _ => .bad
theorem ev_getV : getV i η = getVs η[i]? η := by
  unfold getV getVs
  cases η[i]? with
  | none => rfl
  | some s => cases s <;> rfl
theorem ev_getVs : getVs (some (.val d)) η = .ok d η := rfl
def canSets : Option Slot → Bool
  | some (.own true _) => false
  | some _ => true
  | none => false
theorem ev_canSet : canSet η i = canSets η[i]? := by
  unfold canSet canSets
  cases η[i]? with
  | none => rfl
  | some s => cases s with
    | own b d => cases b <;> rfl
    | _ => rfl
theorem ev_canSets_val : canSets (some (.val d)) = true := rfl
theorem ev_canSets_no : canSets (some .no) = true := rfl
theorem ev_canSets_own : canSets (some (.own false d)) = true := rfl
theorem ev_setS : setS i d η = if canSet η i = true then .nx (η.set i (.val d)) else .bad := rfl
theorem ev_ownS : ownS i d η = if canSet η i = true then .nx (η.set i (.own false d)) else .bad := rfl
def ownVs : Option Slot → Sto → Res D
  | some (.own _ d), η => .ok d η
  | _, _ => .bad
theorem ev_ownV : ownV i η = ownVs η[i]? η := by
  unfold ownV ownVs
  cases η[i]? with
  | none => rfl
  | some s => cases s <;> rfl
theorem ev_ownVs {b : Bool} : ownVs (some (.own b d)) η = .ok d η := rfl
def borVs (i : Nat) : Option Slot → Sto → Res AV
  | some (.own _ _), η => .ok (.bor i) η
  | _, _ => .bad
theorem ev_borV : borV i η = borVs i η[i]? η := by
  unfold borV borVs
  cases η[i]? with
  | none => rfl
  | some s => cases s <;> rfl
theorem ev_borVs {b : Bool} : borVs i (some (.own b d)) η = .ok (.bor i) η := rfl
theorem ev_res_val : (AV.val d).res η = .ok d η := rfl
theorem ev_res_bor : (AV.bor i).res η = ownV i η := rfl
theorem ev_onlyNx : onlyNx (.nx η) = .nx η := rfl
/-- a def's end -/
def fnOut (as : Sto) : SRes → Res D
  | .nx η => .ok .non (back as η)
  | .rt d η => .ok d (back as η)
  | .exc c η => .exc c (back as η)
  | _ => .bad
theorem ev_fnM {n N : Nat} {mb : MS} {as : Sto} : fnM n N mb as = if (decide (as.length = n) && allFix as) = true then fnOut as (mb (as ++ List.replicate (N - n) .no)) else .bad := by
  unfold fnM fnOut
  split
  · cases mb (as ++ List.replicate (N - n) .no) <;> rfl
  · rfl
theorem ev_fnOut_rt {as : Sto} : fnOut as (.rt d η) = .ok d (back as η) := rfl
theorem ev_fnOut_nx {as : Sto} : fnOut as (.nx η) = .ok .non (back as η) := rfl
theorem ev_fnOut_exc {as : Sto} : fnOut as (.exc c η) = .exc c (back as η) := rfl
end
/-! ### a def by what it does where a premise holds -/
/-- at enc x, where P x: out x; elsewhere nothing is said -/
noncomputable def specM {α : Type} (P : α → Prop) (enc : α → Sto) (out : α → Res D) : M D := fun as =>
  open Classical in if h : ∃ x, P x ∧ as = enc x then out (Classical.choose h) else .bad
theorem specM_eq {α : Type} {P : α → Prop} {enc : α → Sto} {out : α → Res D} (inj : ∀ x y, enc x = enc y → out x = out y) {x : α} (h : P x) : specM P enc out (enc x) = out x := by
  unfold specM
  have h' : ∃ y, P y ∧ enc x = enc y := ⟨x, h, rfl⟩
  rw [dif_pos h']
  exact inj _ _ (Classical.choose_spec h').2.symm
theorem says_spec {α : Type} {P : α → Prop} {enc : α → Sto} {out : α → Res D} {m : M D} (h : ∀ x, P x → m (enc x) = out x) : Says m (specM P enc out) := fun as => by
  by_cases e : ∃ x, P x ∧ as = enc x
  · right
    unfold specM
    rw [dif_pos e]
    obtain ⟨h1, h2⟩ := Classical.choose_spec e
    rw [show m as = m (enc (Classical.choose e)) from congrArg m h2]
    exact h _ h1
  · left
    unfold specM
    rw [dif_neg e]
end Pd

namespace Pd
open PySem L2
/-! ### what a function of the readings does, by what is asked of its results -/
@[irreducible] def wp {α : Type} (m : M α) (Q : α → Sto → Prop) (E : Str → Sto → Prop) (η : Sto) : Prop := match m η with
  | .ok a η' => Q a η'
  | .exc c η' => E c η'
  | .bad => False
structure Kt where
  nx : Sto → Prop
  bk : Sto → Prop
  ct : Sto → Prop
  rt : D → Sto → Prop
  ex : Str → Sto → Prop
@[irreducible] def wps (m : MS) (K : Kt) (η : Sto) : Prop := match m η with
  | .nx η' => K.nx η'
  | .bk η' => K.bk η'
  | .ct η' => K.ct η'
  | .rt d η' => K.rt d η'
  | .exc c η' => K.ex c η'
  | .bad => False
/-- a way that is not gone -/
def Nv (_ : Sto) : Prop := False
def NvE (_ : Str) (_ : Sto) : Prop := False
/-- two ways -/
def Br (c : Bool) (A B : Prop) : Prop := (c = true → A) ∧ (c = false → B)
theorem Br.t {A B : Prop} (h : A) : Br true A B := ⟨fun _ => h, fun e => nomatch e⟩
theorem Br.f {A B : Prop} (h : B) : Br false A B := ⟨fun e => (nomatch e), fun _ => h⟩
theorem Br.dec {p : Prop} [Decidable p] {A B : Prop} (h : p → A) (g : ¬ p → B) : Br (decide p) A B := ⟨fun e => h (of_decide_eq_true e), fun e => g (of_decide_eq_false e)⟩
theorem Br.decT {p : Prop} [Decidable p] {A B : Prop} (h : p) (g : A) : Br (decide p) A B := ⟨fun _ => g, fun e => absurd h (of_decide_eq_false e)⟩
theorem Br.decF {p : Prop} [Decidable p] {A B : Prop} (h : ¬ p) (g : B) : Br (decide p) A B := ⟨fun e => absurd (of_decide_eq_true e) h, fun _ => g⟩
theorem Br.no {c : Bool} {A B : Prop} (h : Br c B A) : Br (!c) A B := by
  cases c with
  | true => exact .f (h.1 rfl)
  | false => exact .t (h.2 rfl)
theorem Br.both {c : Bool} {A B : Prop} (h : c = true → A) (g : c = false → B) : Br c A B := ⟨h, g⟩
theorem Br.is {c : Bool} {A B : Prop} (e : c = true) (h : A) : Br c A B := by subst e; exact .t h
theorem Br.isnt {c : Bool} {A B : Prop} (e : c = false) (h : B) : Br c A B := by subst e; exact .f h
/-- p, by computing; then q -/
structure Rf (p q : Prop) : Prop where
  a : p
  b : q
/-- p, a fact of sizes; then q -/
structure Sd (p q : Prop) : Prop where
  a : p
  b : q
section
variable {α β : Type} {m : M α} {Q : α → Sto → Prop} {E : Str → Sto → Prop} {η : Sto} {a : α} {d e : D} {i n N : Nat} {K : Kt}
theorem wp_eq {η' : Sto} (h : m η = .ok a η') (q : Q a η') : wp m Q E η := by unfold wp; rw [h]; exact q
theorem wp_imp {Q' : α → Sto → Prop} {E' : Str → Sto → Prop} (h : wp m Q E η) (k : ∀ a η', Q a η' → Q' a η') (l : ∀ c η', E c η' → E' c η') : wp m Q' E' η := by
  unfold wp at h ⊢
  cases q : m η with
  | ok a η' => rw [q] at h; exact k _ _ h
  | exc c η' => rw [q] at h; exact l _ _ h
  | bad => rw [q] at h; exact h
theorem wps_eq {m : MS} {η' : Sto} (e : m η = .nx η') (h : K.nx η') : wps m K η := by unfold wps; rw [e]; exact h
theorem wps_imp {m : MS} {K' : Kt} (h : wps m K η) (h1 : ∀ η, K.nx η → K'.nx η) (h2 : ∀ η, K.bk η → K'.bk η) (h3 : ∀ η, K.ct η → K'.ct η) (h4 : ∀ d η, K.rt d η → K'.rt d η) (h5 : ∀ c η, K.ex c η → K'.ex c η) : wps m K' η := by
  unfold wps at h ⊢
  cases q : m η with
  | nx η' => rw [q] at h; exact h1 _ h
  | bk η' => rw [q] at h; exact h2 _ h
  | ct η' => rw [q] at h; exact h3 _ h
  | rt d η' => rw [q] at h; exact h4 _ _ h
  | exc c η' => rw [q] at h; exact h5 _ _ h
  | bad => rw [q] at h; exact h
theorem wp_ok (h : ∃ as', wp m (fun d _ => d = a) NvE η ∧ as' = η) : ∃ η', m η = .ok a η' := by
  obtain ⟨_, h, _⟩ := h
  unfold wp at h
  cases q : m η with
  | ok b η' => rw [q] at h; cases (show b = a from h); exact ⟨_, rfl⟩
  | exc c η' => rw [q] at h; exact h.elim
  | bad => rw [q] at h; exact h.elim
theorem wp_pure (h : Q a η) : wp (pure a : M α) Q E η := by unfold wp; exact h
theorem wp_mpure (h : Q a η) : wp (M.pure a) Q E η := by unfold wp; exact h
theorem wp_bind {k : α → M β} {Q : β → Sto → Prop} (h : wp m (fun a η' => wp (k a) Q E η') E η) : wp (m >>= k) Q E η := by
  show wp (M.bind m k) Q E η
  unfold wp M.bind
  unfold wp at h
  cases q : m η with
  | ok a η' => rw [q] at h; exact h
  | exc c η' => rw [q] at h; exact h
  | bad => rw [q] at h; exact h
theorem wp_of {o : Option α} (h : ∃ a, o = some a ∧ Q a η) : wp (M.of o) Q E η := by
  obtain ⟨a, rfl, h⟩ := h
  exact wp_eq rfl h
theorem wp_thenS {k : α → MS} (h : wp m (fun a η' => wps (k a) K η') K.ex η) : wps (thenS m k) K η := by
  unfold wp at h
  unfold wps thenS
  cases q : m η with
  | ok a η' => rw [q] at h; unfold wps at h; exact h
  | exc c η' => rw [q] at h; exact h
  | bad => rw [q] at h; exact h
theorem wps_seq {a b : MS} (h : wps a ⟨fun η' => wps b K η', K.bk, K.ct, K.rt, K.ex⟩ η) : wps (seqS a b) K η := by
  unfold wps seqS
  unfold wps at h
  cases q : a η with
  | nx η' => rw [q] at h; exact h
  | bk η' => rw [q] at h; exact h
  | ct η' => rw [q] at h; exact h
  | rt d η' => rw [q] at h; exact h
  | exc c η' => rw [q] at h; exact h
  | bad => rw [q] at h; exact h
end
section
variable {Q : D → Sto → Prop} {QB : Bool → Sto → Prop} {E : Str → Sto → Prop} {η : Sto} {d e : D} {i j n N : Nat} {K : Kt} {m m1 m2 m3 mk : M D} {t t1 t2 : M Bool} {ms : M (List D)} {f f' : D → D → Option Bool} {g : D → D → Option D}
theorem wp_cD (h : Q d η) : wp (cD d) Q E η := wp_eq rfl h
theorem wp_getV (h : η[i]? = some (.val d)) (q : Q d η) : wp (getV i) Q E η := by unfold wp getV; rw [h]; exact q
theorem wp_opD (h : wp m1 (fun d η1 => wp m2 (fun e η2 => ∃ x, g d e = some x ∧ Q x η2) E η1) E η) : wp (opD g m1 m2) Q E η :=
  wp_bind (wp_imp h (fun d η1 h => wp_bind (wp_imp h (fun e η2 h => wp_of h) fun _ _ h => h)) fun _ _ h => h)
theorem wp_cmD (h : wp m1 (fun d η1 => wp m2 (fun e η2 => ∃ x, f d e = some x ∧ Q (.bl x) η2) E η1) E η) : wp (cmD f m1 m2) Q E η :=
  wp_bind (wp_imp h (fun d η1 h => wp_bind (wp_imp h (fun e η2 ⟨x, e1, h⟩ => wp_of ⟨_, by rw [e1]; rfl, h⟩) fun _ _ h => h)) fun _ _ h => h)
theorem wp_cmT (h : wp m1 (fun d η1 => wp m2 (fun e η2 => ∃ x, f d e = some x ∧ QB x η2) E η1) E η) : wp (cmT f m1 m2) QB E η :=
  wp_bind (wp_imp h (fun d η1 h => wp_bind (wp_imp h (fun e η2 h => wp_of h) fun _ _ h => h)) fun _ _ h => h)
theorem wp_iteM {α : Type} {k : Bool} {a b : M α} {Q : α → Sto → Prop} (h : Br k (wp a Q E η) (wp b Q E η)) : wp (if k = true then a else b) Q E η := by
  cases k with
  | true => exact h.1 rfl
  | false => exact h.2 rfl
theorem wp_chT (h : wp m1 (fun d η1 => wp m2 (fun e η2 => ∃ x, f d e = some x ∧ Br x (wp m3 (fun z η3 => ∃ y, f' e z = some y ∧ QB y η3) E η2) (QB false η2)) E η1) E η) : wp (chT f f' m1 m2 m3) QB E η :=
  wp_bind (wp_imp h (fun d η1 h => wp_bind (wp_imp h (fun e η2 ⟨x, e1, h⟩ => wp_bind (wp_of ⟨x, e1, wp_iteM ⟨fun z => wp_bind (wp_imp (h.1 z) (fun _ _ h => wp_of h) fun _ _ h => h), fun z => wp_eq rfl (h.2 z)⟩⟩)) fun _ _ h => h)) fun _ _ h => h)
theorem wp_chD (h : wp m1 (fun d η1 => wp m2 (fun e η2 => ∃ x, f d e = some x ∧ Br x (wp m3 (fun z η3 => ∃ y, f' e z = some y ∧ Q (.bl y) η3) E η2) (Q (.bl false) η2)) E η1) E η) : wp (chD f f' m1 m2 m3) Q E η :=
  wp_bind (wp_imp h (fun d η1 h => wp_bind (wp_imp h (fun e η2 ⟨x, e1, h⟩ => wp_bind (wp_of ⟨x, e1, wp_iteM ⟨fun z => wp_bind (wp_imp (h.1 z) (fun _ _ ⟨y, e2, h⟩ => wp_of ⟨_, by rw [e2]; rfl, h⟩) fun _ _ h => h), fun z => wp_eq rfl (h.2 z)⟩⟩)) fun _ _ h => h)) fun _ _ h => h)
theorem wp_unD {u : D → Option D} (h : wp m (fun d η1 => ∃ x, u d = some x ∧ Q x η1) E η) : wp (unD u m) Q E η := wp_bind (wp_imp h (fun d η1 h => wp_of h) fun _ _ h => h)
theorem wp_tsT (h : wp m (fun d η1 => ∃ x, asB d = some x ∧ QB x η1) E η) : wp (tsT m) QB E η := wp_bind (wp_imp h (fun d η1 h => wp_of h) fun _ _ h => h)
theorem wp_anT (h : wp t1 (fun c η1 => Br c (wp t2 QB E η1) (QB false η1)) E η) : wp (anT t1 t2) QB E η := wp_bind (wp_imp h (fun d η1 h => wp_iteM ⟨h.1, fun z => wp_eq rfl (h.2 z)⟩) fun _ _ h => h)
theorem wp_orT (h : wp t1 (fun c η1 => Br c (QB true η1) (wp t2 QB E η1)) E η) : wp (orT t1 t2) QB E η := wp_bind (wp_imp h (fun d η1 h => wp_iteM ⟨fun z => wp_eq rfl (h.1 z), h.2⟩) fun _ _ h => h)
theorem wp_ntT (h : wp t (fun c η1 => QB (!c) η1) E η) : wp (ntT t) QB E η := wp_bind (wp_imp h (fun _ _ h => wp_eq rfl h) fun _ _ h => h)
theorem wp_ntD (h : wp m (fun d η1 => ∃ x, asB d = some x ∧ Q (.bl (!x)) η1) E η) : wp (ntD m) Q E η := wp_bind (wp_imp h (fun d η1 ⟨x, e, h⟩ => wp_bind (wp_of ⟨x, e, wp_eq rfl h⟩)) fun _ _ h => h)
theorem wp_anD (h : wp m1 (fun d η1 => ∃ c, asB d = some c ∧ Br c (wp m2 Q E η1) (Q (.bl false) η1)) E η) : wp (anD m1 m2) Q E η := wp_bind (wp_imp h (fun d η1 ⟨x, e, h⟩ => wp_bind (wp_of ⟨x, e, wp_iteM ⟨h.1, fun z => wp_eq rfl (h.2 z)⟩⟩)) fun _ _ h => h)
theorem wp_orD (h : wp m1 (fun d η1 => ∃ c, asB d = some c ∧ Br c (Q (.bl true) η1) (wp m2 Q E η1)) E η) : wp (orD m1 m2) Q E η := wp_bind (wp_imp h (fun d η1 ⟨x, e, h⟩ => wp_bind (wp_of ⟨x, e, wp_iteM ⟨fun z => wp_eq rfl (h.1 z), h.2⟩⟩)) fun _ _ h => h)
theorem wp_ifD (h : wp t (fun c η1 => Br c (wp m1 Q E η1) (wp m2 Q E η1)) E η) : wp (ifD t m1 m2) Q E η := wp_bind (wp_imp h (fun d η1 h => wp_iteM h) fun _ _ h => h)
theorem wp_vlV {QV : AV → Sto → Prop} (h : wp m (fun d η1 => QV (.val d) η1) E η) : wp (vlV m) QV E η := wp_bind (wp_imp h (fun _ _ h => wp_eq rfl h) fun _ _ h => h)
theorem wp_borV {QV : AV → Sto → Prop} {b : Bool} (h : η[i]? = some (.own b d)) (q : QV (.bor i) η) : wp (borV i) QV E η := by unfold wp borV; rw [h]; exact q
theorem wp_resv (q : Q d η) : wp (AV.val d).res Q E η := wp_eq rfl q
theorem wp_resb {b : Bool} (h : η[i]? = some (.own b d)) (q : Q d η) : wp (AV.bor i).res Q E η := by
  show wp (ownV i) Q E η
  unfold wp ownV
  rw [h]
  exact q
theorem wp_opV {a b : M AV} (h : wp a (fun x η1 => wp b (fun y η2 => wp x.res (fun d η3 => wp y.res (fun e η4 => ∃ z, g d e = some z ∧ Q z η4) E η3) E η2) E η1) E η) : wp (opV g a b) Q E η :=
  wp_bind (wp_imp h (fun _ _ h => wp_bind (wp_imp h (fun _ _ h => wp_bind (wp_imp h (fun _ _ h => wp_bind (wp_imp h (fun _ _ h => wp_of h) fun _ _ h => h)) fun _ _ h => h)) fun _ _ h => h)) fun _ _ h => h)
theorem wp_cmVT {a b : M AV} (h : wp a (fun x η1 => wp b (fun y η2 => wp x.res (fun d η3 => wp y.res (fun e η4 => ∃ z, f d e = some z ∧ QB z η4) E η3) E η2) E η1) E η) : wp (cmVT f a b) QB E η :=
  wp_bind (wp_imp h (fun _ _ h => wp_bind (wp_imp h (fun _ _ h => wp_bind (wp_imp h (fun _ _ h => wp_bind (wp_imp h (fun _ _ h => wp_of h) fun _ _ h => h)) fun _ _ h => h)) fun _ _ h => h)) fun _ _ h => h)
theorem wp_cmVD {a b : M AV} (h : wp a (fun x η1 => wp b (fun y η2 => wp x.res (fun d η3 => wp y.res (fun e η4 => ∃ z, f d e = some z ∧ Q (.bl z) η4) E η3) E η2) E η1) E η) : wp (cmVD f a b) Q E η :=
  wp_bind (wp_imp h (fun _ _ h => wp_bind (wp_imp h (fun _ _ h => wp_bind (wp_imp h (fun _ _ h => wp_bind (wp_imp h (fun _ _ ⟨z, e1, h⟩ => wp_of ⟨_, by rw [e1]; rfl, h⟩) fun _ _ h => h)) fun _ _ h => h)) fun _ _ h => h)) fun _ _ h => h)
theorem wp_noI {QI : Option Int → Sto → Prop} (h : QI none η) : wp noI QI E η := wp_eq rfl h
theorem wp_smI {QI : Option Int → Sto → Prop} (h : wp m (fun d η1 => ∃ k, asI d = some k ∧ QI (some k) η1) E η) : wp (smI m) QI E η := wp_bind (wp_imp h (fun _ _ ⟨k, e, h⟩ => wp_of ⟨_, by rw [e]; rfl, h⟩) fun _ _ h => h)
theorem wp_slD {l h' : M (Option Int)} (h : wp m (fun d η1 => wp l (fun lo η2 => wp h' (fun hi η3 => ∃ x, cutD d lo hi = some x ∧ Q x η3) E η2) E η1) E η) : wp (slD m l h') Q E η :=
  wp_bind (wp_imp h (fun _ _ h => wp_bind (wp_imp h (fun _ _ h => wp_bind (wp_imp h (fun _ _ h => wp_of h) fun _ _ h => h)) fun _ _ h => h)) fun _ _ h => h)
theorem wp_slV {a : M AV} {l h' : M (Option Int)} (h : wp a (fun x η1 => wp l (fun lo η2 => wp h' (fun hi η3 => wp x.res (fun d η4 => ∃ x, cutD d lo hi = some x ∧ Q x η4) E η3) E η2) E η1) E η) : wp (slV a l h') Q E η :=
  wp_bind (wp_imp h (fun _ _ h => wp_bind (wp_imp h (fun _ _ h => wp_bind (wp_imp h (fun _ _ h => wp_bind (wp_imp h (fun _ _ h => wp_of h) fun _ _ h => h)) fun _ _ h => h)) fun _ _ h => h)) fun _ _ h => h)
theorem wp_bltD {b : List D → Option D} (h : wp ms (fun ds η1 => ∃ x, b ds = some x ∧ Q x η1) E η) : wp (bltD b ms) Q E η := wp_bind (wp_imp h (fun _ _ h => wp_of h) fun _ _ h => h)
theorem wp_bltV {b : List D → Option D} {as : M (List AV)} (h : wp as (fun vs η1 => wp (resAll vs) (fun ds η2 => ∃ x, b ds = some x ∧ Q x η2) E η1) E η) : wp (bltV b as) Q E η :=
  wp_bind (wp_imp h (fun _ _ h => wp_bind (wp_imp h (fun _ _ h => wp_of h) fun _ _ h => h)) fun _ _ h => h)
theorem wp_resN {QL : List D → Sto → Prop} (h : QL [] η) : wp (resAll []) QL E η := wp_eq rfl h
theorem wp_resC {QL : List D → Sto → Prop} {a : AV} {as : List AV} (h : wp a.res (fun d η1 => wp (resAll as) (fun ds η2 => QL (d :: ds) η2) E η1) E η) : wp (resAll (a :: as)) QL E η :=
  wp_bind (wp_imp h (fun _ _ h => wp_bind (wp_imp h (fun _ _ h => wp_eq rfl h) fun _ _ h => h)) fun _ _ h => h)
theorem wp_isiM {T : String} (h : wp m (fun d η1 => ∃ x, isiD T d = some x ∧ Q x η1) E η) : wp (isiM T m) Q E η := wp_bind (wp_imp h (fun _ _ h => wp_of h) fun _ _ h => h)
theorem wp_nlD {QL : List D → Sto → Prop} (h : QL [] η) : wp nlD QL E η := wp_eq rfl h
theorem wp_csD {QL : List D → Sto → Prop} (h : wp m (fun d η1 => wp ms (fun ds η2 => QL (d :: ds) η2) E η1) E η) : wp (csD m ms) QL E η := wp_bind (wp_imp h (fun _ _ h => wp_bind (wp_imp h (fun _ _ h => wp_eq rfl h) fun _ _ h => h)) fun _ _ h => h)
theorem wp_nlV {QL : List AV → Sto → Prop} (h : QL [] η) : wp nlV QL E η := wp_eq rfl h
theorem wp_csV {QL : List AV → Sto → Prop} {a : M AV} {as : M (List AV)} (h : wp a (fun d η1 => wp as (fun ds η2 => QL (d :: ds) η2) E η1) E η) : wp (csV a as) QL E η := wp_bind (wp_imp h (fun _ _ h => wp_bind (wp_imp h (fun _ _ h => wp_eq rfl h) fun _ _ h => h)) fun _ _ h => h)
theorem wp_tpD (h : wp ms (fun ds η1 => Rf (lenOk ds.length = true) (Q (.tup ds) η1)) E η) : wp (tpD ms) Q E η := wp_bind (wp_imp h (fun _ _ ⟨e, h⟩ => wp_of ⟨_, if_pos e, h⟩) fun _ _ h => h)
theorem wp_lsD (h : wp ms (fun ds η1 => Rf (lenOk ds.length = true) (Q (.lst ds) η1)) E η) : wp (lsD ms) Q E η := wp_bind (wp_imp h (fun _ _ ⟨e, h⟩ => wp_of ⟨_, if_pos e, h⟩) fun _ _ h => h)
theorem wp_itD {QL : List D → Sto → Prop} (h : wp m (fun d η1 => ∃ ds, itemsD d = some ds ∧ QL ds η1) E η) : wp (itD m) QL E η := wp_bind (wp_imp h (fun _ _ h => wp_of h) fun _ _ h => h)
theorem wp_rg1 {QL : List D → Sto → Prop} (h : wp ms (fun d η1 => ∃ ds, range1D d = some ds ∧ QL ds η1) E η) : wp (rg1 ms) QL E η := wp_bind (wp_imp h (fun _ _ h => wp_of h) fun _ _ h => h)
theorem wp_rg2 {QL : List D → Sto → Prop} (h : wp ms (fun d η1 => ∃ ds, range2D d = some ds ∧ QL ds η1) E η) : wp (rg2 ms) QL E η := wp_bind (wp_imp h (fun _ _ h => wp_of h) fun _ _ h => h)
/-! statements -/
theorem wps_stS (h : wp m (fun d η1 => Rf (canSet η1 i = true) (K.nx (η1.set i (.val d)))) K.ex η) : wps (stS i m) K η := wp_thenS (wp_imp h (fun d η1 ⟨e, h⟩ => by unfold wps setS; rw [if_pos e]; exact h) fun _ _ h => h)
theorem wps_owS (h : wp m (fun d η1 => Rf (canSet η1 i = true) (K.nx (η1.set i (.own false d)))) K.ex η) : wps (owS i m) K η := wp_thenS (wp_imp h (fun d η1 ⟨e, h⟩ => by unfold wps ownS; rw [if_pos e]; exact h) fun _ _ h => h)
theorem wps_rtS (h : wp m K.rt K.ex η) : wps (rtS m) K η := wp_thenS (wp_imp h (fun _ _ h => by unfold wps; exact h) fun _ _ h => h)
theorem wps_exS (h : wp m (fun _ η1 => K.nx η1) K.ex η) : wps (exS m) K η := wp_thenS (wp_imp h (fun _ _ h => by unfold wps; exact h) fun _ _ h => h)
theorem wps_ite {k : Bool} {a b : MS} (h : Br k (wps a K η) (wps b K η)) : wps (if k = true then a else b) K η := by
  cases k with
  | true => exact h.1 rfl
  | false => exact h.2 rfl
theorem wps_ifS {a b : MS} (h : wp t (fun c η1 => Br c (wps a K η1) (wps b K η1)) K.ex η) : wps (ifS t a b) K η := wp_thenS (wp_imp h (fun _ _ h => wps_ite h) fun _ _ h => h)
theorem wps_setS (e : canSet η i = true) (h : K.nx (η.set i (.val d))) : wps (setS i d) K η := by unfold wps setS; rw [if_pos e]; exact h
theorem wps_paS (h : wp ms (fun ds η1 => ∃ d e, ds = [d, e] ∧ canSet η1 i = true ∧ canSet (η1.set i (.val d)) j = true ∧ K.nx ((η1.set i (.val d)).set j (.val e))) K.ex η) : wps (paS i j ms) K η :=
  wp_thenS (wp_imp h (fun ds η1 ⟨d, e, e1, h1, h2, h⟩ => by subst e1; exact wps_seq (wps_setS h1 (wps_setS h2 h))) fun _ _ h => h)
/-- a target -/
def wpg (g : MS) (Q : Sto → Prop) (η : Sto) : Prop := ∃ η', g η = .nx η' ∧ Q η'
theorem wpg_set {Q : Sto → Prop} (e : canSet η i = true) (h : Q (η.set i (.val d))) : wpg (setS i d) Q η := ⟨_, by unfold setS; rw [if_pos e], h⟩
theorem wpg_seq {a b : MS} {Q : Sto → Prop} (h : wpg a (wpg b Q) η) : wpg (seqS a b) Q η := by
  obtain ⟨η1, e1, η2, e2, h⟩ := h
  exact ⟨η2, by unfold seqS; rw [e1]; exact e2, h⟩
theorem wpg_N {Q : Sto → Prop} (h : Q η) : wpg (tgN []) Q η := ⟨η, rfl, h⟩
theorem wpg_C {Q : Sto → Prop} {g : D → MS} {gs : List D → MS} {ds : List D} (h : wpg (g d) (wpg (gs ds) Q) η) : wpg (tgC g gs (d :: ds)) Q η := wpg_seq h
theorem wpg_T {Q : Sto → Prop} {gs : List D → MS} {ds : List D} (e : ds.length = n) (h : wpg (gs ds) Q η) : wpg (tgT n gs (.tup ds)) Q η := by
  obtain ⟨η', e1, h⟩ := h
  exact ⟨η', by unfold tgT; simp only [if_pos e]; exact e1, h⟩
theorem wps_asS {g : D → MS} (h : wp m (fun d η1 => wpg (g d) K.nx η1) K.ex η) : wps (asS m g) K η := wp_thenS (wp_imp h (fun d η1 ⟨η', e, h⟩ => by unfold wps; simp only [e, onlyNx]; exact h) fun _ _ h => h)
theorem wps_soS (h : wp m (fun d η1 => wp (ownV i) (fun _ η2 => wp mk (fun k η3 => ∃ b c c', η3[i]? = some (.own b c) ∧ putL c k d = some c' ∧ K.nx (η3.set i (.own b c'))) K.ex η2) K.ex η1) K.ex η) : wps (soS i m mk) K η :=
  wp_thenS (wp_bind (wp_imp h (fun d η1 h => wp_bind (wp_imp h (fun _ η2 h => wp_bind (wp_imp h (fun k η3 ⟨b, c, c', e1, e2, h⟩ => by
    refine wp_eq rfl ?_
    show wps (storeS i d k) K η3
    unfold wps storeS
    rw [e1]
    simp only
    rw [e2]
    exact h) fun _ _ h => h)) fun _ _ h => h)) fun _ _ h => h))
theorem wp_ownV {b : Bool} (h : η[i]? = some (.own b d)) (q : Q d η) : wp (ownV i) Q E η := wp_resb h q
theorem wps_apS (h : ∃ b ds, η[i]? = some (.own b (.lst ds)) ∧ wp m (fun d η1 => ∃ b ds, η1[i]? = some (.own b (.lst ds)) ∧ lenOk ds.length = true ∧ K.nx (η1.set i (.own b (.lst (ds ++ [d]))))) K.ex η) : wps (apS i m) K η := by
  obtain ⟨b, ds, e, h⟩ := h
  refine wp_thenS ?_
  unfold wp ownL
  rw [e]
  refine wp_thenS (wp_imp h (fun d η1 ⟨b, ds, e1, e2, h⟩ => ?_) fun _ _ h => h)
  unfold wps appS
  rw [e1]
  simp only
  rw [if_pos e2]
  exact h
theorem wps_nxS (h : K.nx η) : wps nxS K η := by unfold wps; exact h
theorem wps_bkS (h : K.bk η) : wps bkS K η := by unfold wps; exact h
theorem wps_ctS (h : K.ct η) : wps ctS K η := by unfold wps; exact h
theorem wps_rnS (h : K.rt .non η) : wps rnS K η := by unfold wps; exact h
theorem wps_raS {x : Str} (h : K.ex x η) : wps (raS x) K η := by unfold wps; exact h
theorem wps_rlS {mb : MS} (h : wps mb K (relS i η)) : wps (rlS i mb) K η := by unfold wps at h ⊢; exact h
theorem wps_roS (e : η[i]? = some (.own false d)) (h : K.rt d (η.set i .no)) : wps (roS i) K η := by
  unfold wps roS
  rw [e]
  exact h
theorem wps_turn {g : D → MS} {mb : MS} (h : wpg (g d) (wps mb K) η) : wps (turnS g mb d) K η := by
  obtain ⟨η', e, h⟩ := h
  exact wps_seq (wps_eq (by show onlyNx (g d η) = _; rw [e]; rfl) h)
theorem wps_forL {fb : D → MS} (I : Nat → Sto → Prop) : ∀ {ds : List D} {η : Sto} (k : Nat), (∀ i d η', ds[i]? = some d → I (k + i) η' → wps (fb d) ⟨I (k + i + 1), K.nx, I (k + i + 1), K.rt, K.ex⟩ η') → I k η → (∀ η', I (k + ds.length) η' → K.nx η') → wps (forS fb ds) K η
  | [], η, k, _, h0, h1 => by unfold wps; exact h1 η h0
  | d :: ds, η, k, hs, h0, h1 => by
    have h := hs 0 d η rfl h0
    have ih : ∀ η', I (k + 1) η' → wps (forS fb ds) K η' := fun η' hi => wps_forL I (k + 1) (fun i d' η2 e h2 => by
      have e2 : k + 1 + i = k + (i + 1) := by omega
      rw [e2] at h2 ⊢
      exact hs (i + 1) d' η2 (by simpa using e) h2) hi (fun η2 h2 => h1 η2 (by rw [List.length_cons, show k + (ds.length + 1) = k + 1 + ds.length by omega]; exact h2))
    unfold wps at h ⊢
    unfold forS
    cases q : fb d η with
    | nx η' => rw [q] at h; have g := ih η' h; unfold wps at g; exact g
    | bk η' => rw [q] at h; exact h
    | ct η' => rw [q] at h; have g := ih η' h; unfold wps at g; exact g
    | rt d η' => rw [q] at h; exact h
    | exc c η' => rw [q] at h; exact h
    | bad => rw [q] at h; exact h
theorem wps_foS {mi : M (List D)} {g : D → MS} {mb : MS} (h : wp mi (fun ds η1 => wps (forS (turnS g mb) ds) K η1) K.ex η) : wps (foS mi g mb) K η := wp_thenS h
/-- a loop by what holds ahead of each turn -/
theorem wps_for {fb : D → MS} {ds : List D} (I : Nat → Sto → Prop) (h0 : I 0 η) (hs : ∀ i d η', ds[i]? = some d → I i η' → wps (fb d) ⟨I (i + 1), K.nx, I (i + 1), K.rt, K.ex⟩ η') (h1 : ∀ η', I ds.length η' → K.nx η') : wps (forS fb ds) K η :=
  wps_forL I 0 (fun i d η' e h => by rw [Nat.zero_add] at h ⊢; exact hs i d η' e h) h0 (fun η' h => h1 η' (by rw [Nat.zero_add] at h; exact h))
theorem wps_for0 {fb : D → MS} (h : K.nx η) : wps (forS fb []) K η := by unfold wps; exact h
theorem wps_for1 {fb : D → MS} {ds : List D} (h : wps (fb d) ⟨fun η' => wps (forS fb ds) K η', K.nx, fun η' => wps (forS fb ds) K η', K.rt, K.ex⟩ η) : wps (forS fb (d :: ds)) K η := by
  unfold wps at h ⊢
  unfold forS
  cases q : fb d η with
  | nx η' => rw [q] at h; exact h
  | bk η' => rw [q] at h; exact h
  | ct η' => rw [q] at h; exact h
  | rt d η' => rw [q] at h; exact h
  | exc c η' => rw [q] at h; exact h
  | bad => rw [q] at h; exact h
theorem wps_whS {mb : MS} {fuel : Sto → Nat} (h : wps (whileS t mb (fuel η)) K η) : wps (whS t mb fuel) K η := by unfold wps at h ⊢; exact h
theorem wps_while {mb : MS} (I : Nat → Sto → Prop) (hs : ∀ n η', I n η' → wp t (fun c η1 => Br c (wps mb ⟨fun η2 => ∃ k, k < n ∧ I k η2, K.nx, fun η2 => ∃ k, k < n ∧ I k η2, K.rt, K.ex⟩ η1) (K.nx η1)) K.ex η') : ∀ (n : Nat) {f : Nat} {η : Sto}, n < f → I n η → wps (whileS t mb f) K η
  | n, 0, η, hf, _ => absurd hf (Nat.not_lt_zero _)
  | n, f + 1, η, hf, h0 => by
    refine wp_thenS (wp_imp (hs n η h0) (fun c η1 h => ?_) fun _ _ h => h)
    refine wps_ite ⟨fun e => ?_, fun e => wps_eq rfl (h.2 e)⟩
    have h := h.1 e
    have ih : ∀ η', (∃ k, k < n ∧ I k η') → wps (whileS t mb f) K η' := fun η' ⟨k, hk, hi⟩ => wps_while I hs k (by omega) hi
    unfold wps at h ⊢
    cases q : mb η1 with
    | nx η' => rw [q] at h; simp only [q]; have g := ih η' h; unfold wps at g; exact g
    | bk η' => rw [q] at h; simp only [q]; exact h
    | ct η' => rw [q] at h; simp only [q]; have g := ih η' h; unfold wps at g; exact g
    | rt d η' => rw [q] at h; simp only [q]; exact h
    | exc c η' => rw [q] at h; simp only [q]; exact h
    | bad => rw [q] at h; exact False.elim h
theorem wps_try {cl : Str → Option Bool} {mb : MS} {ms : Str → MS} (h : wps mb ⟨K.nx, K.bk, K.ct, K.rt, fun c η' => ∃ b, cl c = some b ∧ Br b (Rf (canSet η' i = true) (wps (ms c) ⟨fun η'' => Rf (canSet η'' i = true) (K.nx (η''.set i .no)), Nv, Nv, K.rt, NvE⟩ (η'.set i .no))) (K.ex c η')⟩ η) : wps (tryS cl i mb ms) K η := by
  unfold wps at h ⊢
  unfold tryS
  cases q : mb η with
  | nx η' => rw [q] at h; exact h
  | bk η' => rw [q] at h; exact h
  | ct η' => rw [q] at h; exact h
  | rt d η' => rw [q] at h; exact h
  | bad => rw [q] at h; exact h
  | exc c η' =>
    rw [q] at h
    obtain ⟨b, e, h⟩ := h
    simp only
    rw [e]
    cases b with
    | false => exact h.2 rfl
    | true =>
      obtain ⟨e1, h⟩ := h.1 rfl
      simp only
      rw [if_pos e1]
      cases q2 : ms c (η'.set i .no) with
      | nx η3 =>
        rw [q2] at h
        obtain ⟨e3, h⟩ := h
        unfold sufS
        simp only
        rw [if_pos e3]
        exact h
      | rt d η3 => rw [q2] at h; exact h
      | bk η3 => rw [q2] at h; exact h.elim
      | ct η3 => rw [q2] at h; exact h.elim
      | exc c3 η3 => rw [q2] at h; exact h.elim
      | bad => rw [q2] at h; exact h.elim
/-! defs -/
theorem wp_fnM {mb : MS} {as : Sto} (h1 : as.length = n) (h2 : allFix as = true) (h : wps mb ⟨fun η => Q .non (back as η), Nv, Nv, fun d η => Q d (back as η), fun c η => E c (back as η)⟩ (as ++ List.replicate (N - n) .no)) : wp (fnM n N mb) Q E as := by
  unfold wps at h
  unfold wp fnM
  rw [if_pos (by rw [h2, decide_eq_true h1]; rfl)]
  cases q : mb (as ++ List.replicate (N - n) .no) with
  | nx η' => rw [q] at h; exact h
  | bk η' => rw [q] at h; exact h
  | ct η' => rw [q] at h; exact h
  | rt d η' => rw [q] at h; exact h
  | exc c η' => rw [q] at h; exact h
  | bad => rw [q] at h; exact h
theorem wp_fnF {mb : MS} {as : Sto} (h1 : as.length = n) (h2 : allFix as = true) (h : wps mb ⟨Nv, Nv, Nv, fun d η => Q d (back as η), fun c η => E c (back as η)⟩ (as ++ List.replicate (N - n) .no)) : wp (fnF n N mb) Q E as := by
  unfold wps at h
  unfold wp fnF
  rw [if_pos (by rw [h2, decide_eq_true h1]; rfl)]
  cases q : mb (as ++ List.replicate (N - n) .no) with
  | nx η' => rw [q] at h; exact h.elim
  | bk η' => rw [q] at h; exact h
  | ct η' => rw [q] at h; exact h
  | rt d η' => rw [q] at h; exact h
  | exc c η' => rw [q] at h; exact h
  | bad => rw [q] at h; exact h
/-! calls -/
variable {fm : M D} {jo : Option Nat} {ma mz : M (List AV)} {avs : List AV} {nl : D → Bool}
theorem wp_lenM {QL : List AV → Sto → Prop} (e : avs.length = n) (h : QL avs η) : wp (lenM n avs) QL E η := wp_of ⟨avs, if_pos e, h⟩
theorem wp_cal (h : wp ma (fun as η1 => Rf (as.length = n) (wp (callM noLst fm jo as) Q E η1)) E η) : wp (cal n fm jo ma) Q E η := wp_bind (wp_imp h (fun as η1 ⟨e, h⟩ => wp_bind (wp_lenM e h)) fun _ _ h => h)
theorem wp_calF (h : wp ma (fun as η1 => Rf (as.length = n) (wp (callM noLstIn fm jo as) Q E η1)) E η) : wp (calF n fm jo ma) Q E η := wp_bind (wp_imp h (fun as η1 ⟨e, h⟩ => wp_bind (wp_lenM e h)) fun _ _ h => h)
theorem wp_cal0 (h : wp (callM noLst fm none []) Q NvE η) : wp (cal0 fm) Q E η := by
  unfold wp cal0 noX
  unfold wp at h
  cases q : callM noLst fm none [] η with
  | ok a η' => rw [q] at h; exact h
  | exc c η' => rw [q] at h; exact h.elim
  | bad => rw [q] at h; exact h
theorem wp_calK {n1 n2 : Nat} (h : wp ma (fun as η1 => Rf (as.length = n1) (wp mz (fun zs η2 => Rf (zs.length = n2) (Rf ((as ++ zs).length = n) (wp (callM noLst fm jo (as ++ zs)) Q E η2))) E η1)) E η) : wp (calK n n1 n2 fm jo ma mz) Q E η :=
  wp_bind (wp_imp h (fun as η1 ⟨e, h⟩ => wp_bind (wp_lenM e (wp_bind (wp_imp h (fun zs η2 ⟨e1, ⟨e2, h⟩⟩ => wp_bind (wp_lenM e1 (wp_bind (wp_lenM e2 h)))) fun _ _ h => h)))) fun _ _ h => h)
theorem wp_calK0 {n2 : Nat} (h : wp mz (fun zs η2 => Rf (zs.length = n2) (Rf (zs.length = n) (wp (callM noLst fm jo zs) Q E η2))) E η) : wp (calK0 n n2 fm jo mz) Q E η :=
  wp_bind (wp_imp h (fun zs η2 ⟨e1, ⟨e2, h⟩⟩ => wp_bind (wp_lenM e1 (wp_bind (wp_lenM e2 h)))) fun _ _ h => h)
def avVal : AV → Option D
  | .val d => some d
  | .bor _ => none
def avVals : List AV → Option (List D)
  | [] => some []
  | .val d :: r => (avVals r).map (d :: ·)
  | .bor _ :: _ => none
theorem mkA_vals : ∀ {avs : List AV} {ds : List D}, avVals avs = some ds → mkA η none avs = some (ds.map Slot.val) ∧ bors none avs = []
  | [], ds, h => by cases h; exact ⟨rfl, rfl⟩
  | .val d :: r, ds, h => by
    unfold avVals at h
    cases q : avVals r with
    | none => rw [q] at h; cases h
    | some es =>
      rw [q] at h
      cases h
      obtain ⟨h1, h2⟩ := mkA_vals q
      refine ⟨?_, by unfold bors; exact h2⟩
      simp only [mkA, h1, Option.map_some, List.map_cons]
  | .bor i :: r, ds, h => by cases h
/-- a call with values alone -/
theorem wp_vals {ds : List D} (e : avVals avs = some ds) (h : wp fm (fun d _ => Q d η) (fun c _ => E c η) (ds.map Slot.val)) : wp (callM nl fm none avs) Q E η := by
  obtain ⟨e1, e2⟩ := mkA_vals (η := η) e
  unfold wp at h ⊢
  unfold callM
  rw [e1]
  simp only
  rw [if_pos (by rfl)]
  cases q : fm (ds.map Slot.val) with
  | ok d as =>
    rw [q] at h
    unfold finM clean
    rw [e2]
    exact h
  | exc c as =>
    rw [q] at h
    unfold finM clean
    rw [e2]
    exact h
  | bad => rw [q] at h; exact h
/-- a call whose first argument is changed -/
theorem wp_io {ds : List D} {b : Bool} {c0 : D} (e : avVals avs = some ds) (e0 : η[i]? = some (.own b c0))
    (h : wp fm (fun d as => ∃ c r, as = .own true c :: r ∧ Q d (η.set i (.own b c))) (fun x as => ∃ c r, as = .own true c :: r ∧ E x (η.set i (.own b c))) (.own true c0 :: ds.map Slot.val)) : wp (callM nl fm (some 0) (.bor i :: avs)) Q E η := by
  obtain ⟨e1, e2⟩ := mkA_vals (η := η) e
  have em : mkA η (some 0) (.bor i :: avs) = some (.own true c0 :: ds.map Slot.val) := by
    simp only [mkA, e0, e1, Option.map_some]
  have eb : bors (some 0) (.bor i :: avs) = [] := by unfold bors; exact e2
  have ei : ioIx (some 0) (.bor i :: avs) = some i := rfl
  unfold wp at h ⊢
  unfold callM
  rw [em]
  simp only
  rw [if_pos (by unfold chk; rw [ei, eb]; rfl)]
  have ew : ∀ c r, wb η (some 0) (.bor i :: avs) (.own true c :: r) = η.set i (.own b c) := fun c r => by
    unfold wb
    rw [ei]
    simp only
    rw [e0]
    rfl
  cases q : fm (.own true c0 :: ds.map Slot.val) with
  | ok d as =>
    rw [q] at h
    obtain ⟨c, r, rfl, h⟩ := h
    unfold finM clean
    simp only [eb, ew, List.isEmpty_nil, Bool.true_or, if_true]
    exact h
  | exc x as =>
    rw [q] at h
    obtain ⟨c, r, rfl, h⟩ := h
    unfold finM clean
    simp only [eb, ew, List.isEmpty_nil, Bool.true_or, if_true]
    exact h
  | bad => rw [q] at h; exact h
theorem wp_kitT {l : List (Str × Bool)} {c : Str} {b : Bool} (e : l.lookup c = some b) (h : Q (.bl b) η) : wp (kitT l c) Q E η := by
  unfold kitT
  rw [e]
  exact wp_eq rfl h
/-! comprehensions -/
variable {vs : List Nat} {mi : M (List D)} {gt : D → MS} {mt : M Bool} {me : M D}
theorem wp_turnC {QO : Option D → Sto → Prop} (hn : noOwn η vs = true) (h : wpg (gt d) (fun η1 => wp mt (fun c η2 => Br c (wp me (fun y η3 => QO (some y) (restS η η3 vs)) NvE η2) (QO none (restS η η2 vs))) NvE η1) (wipeS η vs)) : wp (turnC vs gt mt me d) QO E η := by
  obtain ⟨η1, e1, h⟩ := h
  unfold wp at h ⊢
  unfold turnC
  rw [if_pos hn, e1]
  simp only
  cases q : mt η1 with
  | ok c η2 =>
    rw [q] at h
    cases c with
    | true =>
      have h := h.1 rfl
      simp only
      unfold wp at h
      cases q2 : me η2 with
      | ok y η3 => rw [q2] at h; exact h
      | exc c3 η3 => rw [q2] at h; exact h.elim
      | bad => rw [q2] at h; exact h.elim
    | false => exact h.2 rfl
  | exc c2 η2 => rw [q] at h; exact h.elim
  | bad => rw [q] at h; exact h.elim
theorem wp_compM {ft : D → M (Option D)} (I : Nat → List D → Sto → Prop) {QL : List D → Sto → Prop} : ∀ {ds acc : List D} {η : Sto} (k : Nat),
    (∀ i d acc η', ds[i]? = some d → I (k + i) acc η' → wp (ft d) (fun o η2 => ∃ acc', growC acc o = some acc' ∧ I (k + i + 1) acc' η2) E η') → I k acc η → (∀ acc η', I (k + ds.length) acc η' → QL acc η') → wp (compM ft acc ds) QL E η
  | [], acc, η, k, _, h0, h1 => wp_eq rfl (h1 acc η h0)
  | d :: ds, acc, η, k, hs, h0, h1 => by
    refine wp_bind (m := ft d) (wp_imp (hs 0 d acc η rfl h0) (fun o η2 ⟨acc', e, h⟩ => ?_) fun _ _ h => h)
    refine wp_bind (m := M.of (growC acc o)) (wp_of ⟨acc', e, ?_⟩)
    refine wp_compM I (k + 1) (fun i d' acc2 η3 e h2 => ?_) h (fun acc2 η3 h2 => h1 acc2 η3 (by rw [List.length_cons, show k + (ds.length + 1) = k + 1 + ds.length by omega]; exact h2))
    have e2 : k + 1 + i = k + (i + 1) := by omega
    rw [e2] at h2 ⊢
    exact hs (i + 1) d' acc2 η3 (by simpa using e) h2
theorem wp_compL (h : wp mi (fun ds η1 => wp (compM (turnC vs gt mt me) [] ds) (fun ys η2 => Q (.lst ys) η2) E η1) E η) : wp (compL vs mi gt mt me) Q E η := wp_bind (wp_imp h (fun _ _ h => wp_bind (wp_imp h (fun _ _ h => wp_eq rfl h) fun _ _ h => h)) fun _ _ h => h)
/-- a comprehension that leaves the slots as they are, item by item -/
theorem wp_compF {ds : List D} (F : Nat → D → Option D) (hl : lenOk ds.length = true) (hs : ∀ i d, ds[i]? = some d → wp (turnC vs gt mt me d) (fun o η2 => o = F i d ∧ η2 = η) NvE η) {QL : List D → Sto → Prop}
    (h1 : QL ((ds.mapIdx F).filterMap id) η) : wp (compM (turnC vs gt mt me) [] ds) QL E η := by
  have hle : ∀ l : List (Option D), (l.filterMap id).length ≤ l.length := fun l => List.length_filterMap_le _ _
  refine wp_compM (fun k acc η' => η' = η ∧ acc = ((ds.mapIdx F).take k).filterMap id) 0 (fun i d acc η' e ⟨e1, e2⟩ => ?_) ⟨rfl, by simp⟩ (fun acc η' ⟨e1, e2⟩ => ?_)
  · rw [e1]
    refine wp_imp (hs i d e) (fun o η2 ⟨ho, h2⟩ => ?_) fun _ _ h => h.elim
    have ht : (ds.mapIdx F).take (i + 1) = (ds.mapIdx F).take i ++ [F i d] := by
      rw [List.take_add_one, List.getElem?_mapIdx, e]
      rfl
    rw [Nat.zero_add] at e2 ⊢
    rw [ho]
    cases q : F i d with
    | none => exact ⟨acc, rfl, h2, by rw [ht, List.filterMap_append, q, e2]; simp⟩
    | some y =>
      refine ⟨acc ++ [y], ?_, h2, by rw [ht, List.filterMap_append, q, e2]; simp⟩
      unfold growC
      simp only
      rw [if_pos]
      unfold lenOk at hl ⊢
      have hl2 := of_decide_eq_true hl
      refine decide_eq_true (Nat.le_trans ?_ hl2)
      rw [e2]
      refine Nat.le_trans (hle _) ?_
      rw [List.length_take, List.length_mapIdx]
      omega
  · rw [e1, e2, Nat.zero_add, List.take_of_length_le (by simp)]
    exact h1
end
end Pd

namespace Pd
open PySem L2
/-! ### sizes -/
def Sm (k : Nat) (x : Int) : Prop := x.natAbs < 2 ^ k
theorem Sm.mono {k l : Nat} {x : Int} (h : Sm k x) (e : k ≤ l) : Sm l x := Nat.lt_of_lt_of_le h (Nat.pow_le_pow_right (by decide) e)
theorem Sm.mul {k l : Nat} {x y : Int} (h : Sm k x) (g : Sm l y) : Sm (k + l) (x * y) := by
  unfold Sm at *
  rw [Int.natAbs_mul, Nat.pow_add]
  exact Nat.mul_lt_mul'' h g
theorem Sm.neg {k : Nat} {x : Int} (h : Sm k x) : Sm k (-x) := by
  unfold Sm at *
  rw [Int.natAbs_neg]
  exact h
theorem Sm.add {k l : Nat} {x y : Int} (h : Sm k x) (g : Sm l y) : Sm (k + l + 1) (x + y) := by
  unfold Sm at *
  have h1 : 2 ^ k ≤ 2 ^ (k + l) := Nat.pow_le_pow_right (by decide) (by omega)
  have h2 : 2 ^ l ≤ 2 ^ (k + l) := Nat.pow_le_pow_right (by decide) (by omega)
  have h3 : 2 ^ (k + l + 1) = 2 ^ (k + l) * 2 := Nat.pow_succ _ _
  have := Int.natAbs_add_le x y
  omega
theorem Sm.sub {k l : Nat} {x y : Int} (h : Sm k x) (g : Sm l y) : Sm (k + l + 1) (x - y) := by
  rw [Int.sub_eq_add_neg]
  exact h.add g.neg
theorem Sm.log {k : Nat} {x : Int} (h : Sm k x) : x.natAbs.log2 ≤ k := by
  unfold Sm at h
  by_cases e : x.natAbs = 0
  · rw [e]
    exact Nat.zero_le _
  · have := (Nat.log2_lt e).mpr h
    omega
theorem Sm.of_le {k : Nat} {x y : Int} (h : Sm k y) (e : x.natAbs ≤ y.natAbs) : Sm k x := Nat.lt_of_le_of_lt e h
theorem Sm.rng {k : Nat} {x y : Int} (h : Sm k y) (h0 : 0 ≤ x) (h1 : x ≤ y) : Sm k x := h.of_le (by omega)
theorem Sm.bits {k : Nat} {x : Int} (h : Builtin.Int.intBits x ≤ k) : Sm (k + 1) x := by
  unfold Builtin.Int.intBits at h
  unfold Sm
  by_cases e : x.natAbs = 0
  · rw [e]
    exact Nat.pow_pos (by decide)
  · have e' : x ≠ 0 := fun z => e (by rw [z]; rfl)
    refine (Nat.log2_lt e).mp ?_
    split at h
    · rename_i z
      simp at z
      exact absurd z e'
    · omega
theorem mulOk_sm {k l : Nat} {x y : Int} (h : Sm k x) (g : Sm l y) (e : k + l < 100000000) : mulOk x y = true := by
  have h1 := h.log
  have h2 := g.log
  exact decide_eq_true (by omega)
theorem divOk_sm {k : Nat} {y : Int} (g : Sm k y) (e : k < 9000) (h0 : y ≠ 0) : divOk y = true := by
  have h2 := g.log
  unfold divOk
  rw [decide_eq_true h0, decide_eq_true (show y.natAbs.log2 < 9000 by omega)]
  rfl
/-! ### leaves -/
def isTup : D → Bool
  | .tup _ => true
  | _ => false
def isLst : D → Bool
  | .lst _ => true
  | .scr _ => true
  | _ => false
def isBl : D → Bool
  | .bl _ => true
  | _ => false
def isInt : D → Bool
  | .int _ => true
  | .bl _ => true
  | _ => false
def isStr : D → Bool
  | .str _ => true
  | _ => false
def isDct : D → Bool
  | .dct _ _ => true
  | _ => false
section
variable {Q : D → Prop} {QB : Bool → Prop} {d e : D} {i j n N : Nat} {a b : Int}
theorem add_i (h : Q (.int (a + b))) : ∃ x, addD (.int a) (.int b) = some x ∧ Q x := ⟨_, rfl, h⟩
theorem sub_i (h : Q (.int (a - b))) : ∃ x, subD (.int a) (.int b) = some x ∧ Q x := ⟨_, rfl, h⟩
theorem mul_i (e : mulOk a b = true) (h : Q (.int (a * b))) : ∃ x, mulD (.int a) (.int b) = some x ∧ Q x := ⟨_, if_pos e, h⟩
theorem div_i (e : divOk b = true) (h : Q (.int (a.fdiv b))) : ∃ x, fdivD (.int a) (.int b) = some x ∧ Q x := ⟨_, if_pos e, h⟩
theorem mod_i (e : decide (b ≠ 0) = true) (h : Q (.int (a.fmod b))) : ∃ x, modD (.int a) (.int b) = some x ∧ Q x := ⟨_, by unfold modD; simpa using e, h⟩
theorem pow_i {c : Int} (e : powOk a b = true) (ec : a ^ b.toNat = c) (h : Q (.int c)) : ∃ x, powD (.int a) (.int b) = some x ∧ Q x := ⟨_, if_pos e, by rw [ec]; exact h⟩
theorem neg_i (h : Q (.int (-a))) : ∃ x, negD (.int a) = some x ∧ Q x := ⟨_, rfl, h⟩
theorem eq_i (h : QB (decide (a = b))) : ∃ x, eqD (.int a) (.int b) = some x ∧ QB x := ⟨_, by
  show some (PyData.eqv (.int a) (.int b)) = _
  congr 1, h⟩
theorem ne_i (h : QB (!decide (a = b))) : ∃ x, neD (.int a) (.int b) = some x ∧ QB x := by
  obtain ⟨x, e, h⟩ := eq_i (QB := fun x => QB (!x)) h
  exact ⟨_, by unfold neD; rw [e]; rfl, h⟩
theorem isi_ {T : String} {b : Bool} (e : kitB (tyOf d) T = some b) (h : Q (.bl b)) : ∃ x, isiD T d = some x ∧ Q x := ⟨_, by unfold isiD; rw [e]; rfl, h⟩
theorem isi_tuple (h : Q (.bl (isTup d))) : ∃ x, isiD "tuple" d = some x ∧ Q x := isi_ (by cases d <;> (simp only [tyOf, isTup, isLst, isBl, isInt, isStr, isDct]; decide +kernel)) h
theorem isi_list (h : Q (.bl (isLst d))) : ∃ x, isiD "list" d = some x ∧ Q x := isi_ (by cases d <;> (simp only [tyOf, isTup, isLst, isBl, isInt, isStr, isDct]; decide +kernel)) h
theorem isi_bool (h : Q (.bl (isBl d))) : ∃ x, isiD "bool" d = some x ∧ Q x := isi_ (by cases d <;> (simp only [tyOf, isTup, isLst, isBl, isInt, isStr, isDct]; decide +kernel)) h
theorem isi_int (h : Q (.bl (isInt d))) : ∃ x, isiD "int" d = some x ∧ Q x := isi_ (by cases d <;> (simp only [tyOf, isTup, isLst, isBl, isInt, isStr, isDct]; decide +kernel)) h
theorem isi_str (h : Q (.bl (isStr d))) : ∃ x, isiD "str" d = some x ∧ Q x := isi_ (by cases d <;> (simp only [tyOf, isTup, isLst, isBl, isInt, isStr, isDct]; decide +kernel)) h
theorem isi_dict (h : Q (.bl (isDct d))) : ∃ x, isiD "dict" d = some x ∧ Q x := isi_ (by cases d <;> (simp only [tyOf, isTup, isLst, isBl, isInt, isStr, isDct]; decide +kernel)) h
theorem asB_b {c : Bool} (h : QB c) : ∃ x, asB (.bl c) = some x ∧ QB x := ⟨_, rfl, h⟩
theorem asI_i {QI : Option Int → Prop} (h : QI (some a)) : ∃ x, asI (.int a) = some x ∧ QI (some x) := ⟨_, rfl, h⟩
theorem lt_i (h : QB (decide (a < b))) : ∃ x, ltD (.int a) (.int b) = some x ∧ QB x := ⟨_, rfl, h⟩
theorem le_i (h : QB (decide (a ≤ b))) : ∃ x, leD (.int a) (.int b) = some x ∧ QB x := ⟨_, rfl, h⟩
theorem gt_i (h : QB (decide (b < a))) : ∃ x, gtD (.int a) (.int b) = some x ∧ QB x := ⟨_, rfl, h⟩
theorem ge_i (h : QB (decide (b ≤ a))) : ∃ x, geD (.int a) (.int b) = some x ∧ QB x := ⟨_, rfl, h⟩
theorem lt_d (h : Q (.bl (decide (a < b)))) : ∃ x, ltD (.int a) (.int b) = some x ∧ Q (.bl x) := ⟨_, rfl, h⟩
theorem is_n (h : QB (isNon d)) : ∃ x, isD d .non = some x ∧ QB x := ⟨_, rfl, h⟩
theorem len_t {ds : List D} (h : Q (.int ds.length)) : ∃ x, lenD [.tup ds] = some x ∧ Q x := ⟨_, rfl, h⟩
theorem len_l {ds : List D} (h : Q (.int ds.length)) : ∃ x, lenD [.lst ds] = some x ∧ Q x := ⟨_, rfl, h⟩
theorem int_i (h : Q (.int a)) : ∃ x, intD [.int a] = some x ∧ Q x := ⟨_, rfl, h⟩
theorem gcd_i (h : Q (.int ((Nat.gcd a.natAbs b.natAbs : Nat) : Int))) : ∃ x, gcdD [.int a, .int b] = some x ∧ Q x := ⟨_, rfl, h⟩
theorem abs_i (h : Q (.int (if a < 0 then -a else a))) : ∃ x, absD [.int a] = some x ∧ Q x := ⟨_, rfl, h⟩
theorem max_i (h : Q (.int (if b > a then b else a))) : ∃ x, max2D [.int a, .int b] = some x ∧ Q x := ⟨_, rfl, h⟩
theorem min_i (h : Q (.int (if b < a then b else a))) : ∃ x, min2D [.int a, .int b] = some x ∧ Q x := ⟨_, rfl, h⟩
/-- an index, given -/
theorem ix_t {ds : List D} {k : Nat} (e0 : ixN ds.length a = some k) (e : ds[k]? = some d) (h : Q d) : ∃ x, idxD (.tup ds) (.int a) = some x ∧ Q x := ⟨_, by show (ixN ds.length a).bind _ = _; rw [e0]; exact e, h⟩
theorem ix_l {ds : List D} {k : Nat} (e0 : ixN ds.length a = some k) (e : ds[k]? = some d) (h : Q d) : ∃ x, idxD (.lst ds) (.int a) = some x ∧ Q x := ⟨_, by show (ixN ds.length a).bind _ = _; rw [e0]; exact e, h⟩
theorem ixN_nat {n : Nat} {a : Int} (h0 : 0 ≤ a) (h1 : a < n) : ixN n a = some a.toNat := by unfold ixN; rw [if_pos h0, if_pos h1]
theorem and_i {A B : Prop} (a : A) (b : B) : A ∧ B := ⟨a, b⟩
end
end Pd

namespace Pd
open PySem L2
/-! ### steps by instances: B is asked in place of A -/
class PR (A : Prop) (B : outParam Prop) : Prop where
  imp : B → A
theorem pr {A B : Prop} [i : PR A B] (h : B) : A := i.imp h
/-- o is there, and Q of it -/
def Som {α : Type} (o : Option α) (Q : α → Prop) : Prop := ∃ x, o = some x ∧ Q x
theorem som_i {α : Type} {o : Option α} {Q : α → Prop} {x : α} (e : o = some x) (h : Q x) : Som o Q := ⟨x, e, h⟩
theorem som_id {α : Type} {o : Option α} {Q : α → Prop} (h : Som o Q) : Som o Q := h
theorem rf_i {p q : Prop} (a : p) (b : q) : Rf p q := ⟨a, b⟩
theorem sd_i {p q : Prop} (a : p) (b : q) : Sd p q := ⟨a, b⟩
theorem canSet_of {η : Sto} {i : Nat} {s : Slot} (e : η[i]? = some s) (h : canSets (some s) = true) : canSet η i = true := by
  rw [ev_canSet, e]
  exact h
def vals : Option Slot → Option D
  | some (.val d) => some d
  | _ => none
def owns : Option Slot → Option D
  | some (.own _ d) => some d
  | _ => none
theorem vals_some {s : Option Slot} {d : D} (h : vals s = some d) : s = some (.val d) := by
  unfold vals at h
  split at h
  · cases h; rfl
  · cases h
theorem owns_some {s : Option Slot} {d : D} (h : owns s = some d) : ∃ b, s = some (.own b d) := by
  unfold owns at h
  split at h
  · cases h; exact ⟨_, rfl⟩
  · cases h
def Kt.sq (b : MS) (K : Kt) : Kt := ⟨fun η' => wps b K η', K.bk, K.ct, K.rt, K.ex⟩
section
variable {α : Type} {Q : D → Sto → Prop} {QB : Bool → Sto → Prop} {QL : List D → Sto → Prop} {QV : AV → Sto → Prop} {QA : List AV → Sto → Prop} {QI : Option Int → Sto → Prop} {E : Str → Sto → Prop} {η : Sto} {d e : D} {i j n N : Nat} {K : Kt} {m m1 m2 m3 mk : M D} {t t1 t2 : M Bool} {ms : M (List D)} {f f' : D → D → Option Bool} {g : D → D → Option D} {A B : Prop} {c : Bool} {x y : AV} {a b : M AV} {as : M (List AV)}
-- the ways on
instance {b' : MS} : PR ((Kt.sq b' K).nx η) (wps b' K η) := ⟨fun h => h⟩
instance {b' : MS} : PR ((Kt.sq b' K).bk η) (K.bk η) := ⟨fun h => h⟩
instance {b' : MS} : PR ((Kt.sq b' K).ct η) (K.ct η) := ⟨fun h => h⟩
instance {b' : MS} : PR ((Kt.sq b' K).rt d η) (K.rt d η) := ⟨fun h => h⟩
instance {b' : MS} {x : Str} : PR ((Kt.sq b' K).ex x η) (K.ex x η) := ⟨fun h => h⟩
def BrD (p : Prop) (A B : Prop) : Prop := (p → A) ∧ (¬ p → B)
theorem BrD.id {p A B : Prop} (h : BrD p A B) : BrD p A B := h
theorem Br.id {c : Bool} {A B : Prop} (h : Br c A B) : Br c A B := h
theorem BrD.dec {p A B : Prop} (h : p → A) (g : ¬ p → B) : BrD p A B := ⟨h, g⟩
theorem BrD.yes {p A B : Prop} (h : p) (g : A) : BrD p A B := ⟨fun _ => g, fun e => absurd h e⟩
theorem BrD.no {p A B : Prop} (h : ¬ p) (g : B) : BrD p A B := ⟨fun e => absurd e h, fun _ => g⟩
instance {p : Prop} [Decidable p] : PR (Br (decide p) A B) (BrD p A B) := ⟨fun h => Br.dec h.1 h.2⟩
instance : PR (Br true A B) A := ⟨Br.t⟩
instance : PR (Br false A B) B := ⟨Br.f⟩
instance : PR (Br (!c) A B) (Br c B A) := ⟨Br.no⟩
-- expressions
instance : PR (wp (cD d) Q E η) (Q d η) := ⟨fun h => wp_eq rfl h⟩
instance : PR (wp (pure d : M D) Q E η) (Q d η) := ⟨fun h => wp_eq rfl h⟩
instance : PR (wp (M.pure true) QB E η) (QB true η) := ⟨fun h => wp_eq rfl h⟩
instance : PR (wp (getV i) Q E η) (Som (vals η[i]?) fun d => Q d η) := ⟨fun ⟨d, e, h⟩ => wp_getV (vals_some e) h⟩
instance : PR (wp (opD g m1 m2) Q E η) (wp m1 (fun d η1 => wp m2 (fun e η2 => Som (g d e) fun x => Q x η2) E η1) E η) := ⟨fun h => wp_opD h⟩
instance : PR (wp (cmD f m1 m2) Q E η) (wp m1 (fun d η1 => wp m2 (fun e η2 => Som (f d e) fun x => Q (.bl x) η2) E η1) E η) := ⟨fun h => wp_cmD h⟩
instance : PR (wp (cmT f m1 m2) QB E η) (wp m1 (fun d η1 => wp m2 (fun e η2 => Som (f d e) fun x => QB x η2) E η1) E η) := ⟨fun h => wp_cmT h⟩
instance : PR (wp (chT f f' m1 m2 m3) QB E η) (wp m1 (fun d η1 => wp m2 (fun e η2 => Som (f d e) fun x => Br x (wp m3 (fun z η3 => Som (f' e z) fun y => QB y η3) E η2) (QB false η2)) E η1) E η) := ⟨fun h => wp_chT h⟩
instance : PR (wp (chD f f' m1 m2 m3) Q E η) (wp m1 (fun d η1 => wp m2 (fun e η2 => Som (f d e) fun x => Br x (wp m3 (fun z η3 => Som (f' e z) fun y => Q (.bl y) η3) E η2) (Q (.bl false) η2)) E η1) E η) := ⟨fun h => wp_chD h⟩
instance {u : D → Option D} : PR (wp (unD u m) Q E η) (wp m (fun d η1 => Som (u d) fun x => Q x η1) E η) := ⟨fun h => wp_unD h⟩
instance : PR (wp (tsT m) QB E η) (wp m (fun d η1 => Som (asB d) fun x => QB x η1) E η) := ⟨fun h => wp_tsT h⟩
instance : PR (wp (anT t1 t2) QB E η) (wp t1 (fun c η1 => Br c (wp t2 QB E η1) (QB false η1)) E η) := ⟨fun h => wp_anT h⟩
instance : PR (wp (orT t1 t2) QB E η) (wp t1 (fun c η1 => Br c (QB true η1) (wp t2 QB E η1)) E η) := ⟨fun h => wp_orT h⟩
instance : PR (wp (ntT t) QB E η) (wp t (fun c η1 => QB (!c) η1) E η) := ⟨fun h => wp_ntT h⟩
instance : PR (wp (ntD m) Q E η) (wp m (fun d η1 => Som (asB d) fun x => Q (.bl (!x)) η1) E η) := ⟨fun h => wp_ntD h⟩
instance : PR (wp (anD m1 m2) Q E η) (wp m1 (fun d η1 => Som (asB d) fun c => Br c (wp m2 Q E η1) (Q (.bl false) η1)) E η) := ⟨fun h => wp_anD h⟩
instance : PR (wp (orD m1 m2) Q E η) (wp m1 (fun d η1 => Som (asB d) fun c => Br c (Q (.bl true) η1) (wp m2 Q E η1)) E η) := ⟨fun h => wp_orD h⟩
instance : PR (wp (ifD t m1 m2) Q E η) (wp t (fun c η1 => Br c (wp m1 Q E η1) (wp m2 Q E η1)) E η) := ⟨fun h => wp_ifD h⟩
instance : PR (wp (vlV m) QV E η) (wp m (fun d η1 => QV (.val d) η1) E η) := ⟨fun h => wp_vlV h⟩
instance : PR (wp (borV i) QV E η) (Som (owns η[i]?) fun _ => QV (.bor i) η) := ⟨fun ⟨d, e, h⟩ => let ⟨_, e⟩ := owns_some e; wp_borV e h⟩
instance : PR (wp (AV.val d).res Q E η) (Q d η) := ⟨fun h => wp_eq rfl h⟩
instance : PR (wp (AV.bor i).res Q E η) (Som (owns η[i]?) fun d => Q d η) := ⟨fun ⟨d, e, h⟩ => let ⟨_, e⟩ := owns_some e; wp_resb e h⟩
instance : PR (wp (ownV i) Q E η) (Som (owns η[i]?) fun d => Q d η) := ⟨fun ⟨d, e, h⟩ => let ⟨_, e⟩ := owns_some e; wp_resb e h⟩
instance : PR (wp (opV g a b) Q E η) (wp a (fun x η1 => wp b (fun y η2 => wp x.res (fun d η3 => wp y.res (fun e η4 => Som (g d e) fun z => Q z η4) E η3) E η2) E η1) E η) := ⟨fun h => wp_opV h⟩
instance : PR (wp (cmVT f a b) QB E η) (wp a (fun x η1 => wp b (fun y η2 => wp x.res (fun d η3 => wp y.res (fun e η4 => Som (f d e) fun z => QB z η4) E η3) E η2) E η1) E η) := ⟨fun h => wp_cmVT h⟩
instance : PR (wp (cmVD f a b) Q E η) (wp a (fun x η1 => wp b (fun y η2 => wp x.res (fun d η3 => wp y.res (fun e η4 => Som (f d e) fun z => Q (.bl z) η4) E η3) E η2) E η1) E η) := ⟨fun h => wp_cmVD h⟩
instance : PR (wp noI QI E η) (QI none η) := ⟨fun h => wp_eq rfl h⟩
instance : PR (wp (smI m) QI E η) (wp m (fun d η1 => Som (asI d) fun k => QI (some k) η1) E η) := ⟨fun h => wp_smI h⟩
instance {l h' : M (Option Int)} : PR (wp (slD m l h') Q E η) (wp m (fun d η1 => wp l (fun lo η2 => wp h' (fun hi η3 => Som (cutD d lo hi) fun x => Q x η3) E η2) E η1) E η) := ⟨fun h => wp_slD h⟩
instance {l h' : M (Option Int)} : PR (wp (slV a l h') Q E η) (wp a (fun x η1 => wp l (fun lo η2 => wp h' (fun hi η3 => wp x.res (fun d η4 => Som (cutD d lo hi) fun x => Q x η4) E η3) E η2) E η1) E η) := ⟨fun h => wp_slV h⟩
instance {b : List D → Option D} : PR (wp (bltD b ms) Q E η) (wp ms (fun ds η1 => Som (b ds) fun x => Q x η1) E η) := ⟨fun h => wp_bltD h⟩
instance {b : List D → Option D} : PR (wp (bltV b as) Q E η) (wp as (fun vs η1 => wp (resAll vs) (fun ds η2 => Som (b ds) fun x => Q x η2) E η1) E η) := ⟨fun h => wp_bltV h⟩
instance : PR (wp (resAll []) QL E η) (QL [] η) := ⟨fun h => wp_eq rfl h⟩
instance {v : AV} {vs : List AV} : PR (wp (resAll (v :: vs)) QL E η) (wp v.res (fun d η1 => wp (resAll vs) (fun ds η2 => QL (d :: ds) η2) E η1) E η) := ⟨fun h => wp_resC h⟩
instance {T : String} : PR (wp (isiM T m) Q E η) (wp m (fun d η1 => Som (isiD T d) fun x => Q x η1) E η) := ⟨fun h => wp_isiM h⟩
instance : PR (wp nlD QL E η) (QL [] η) := ⟨fun h => wp_eq rfl h⟩
instance : PR (wp (csD m ms) QL E η) (wp m (fun d η1 => wp ms (fun ds η2 => QL (d :: ds) η2) E η1) E η) := ⟨fun h => wp_csD h⟩
instance : PR (wp nlV QA E η) (QA [] η) := ⟨fun h => wp_eq rfl h⟩
instance : PR (wp (csV a as) QA E η) (wp a (fun d η1 => wp as (fun ds η2 => QA (d :: ds) η2) E η1) E η) := ⟨fun h => wp_csV h⟩
instance : PR (wp (tpD ms) Q E η) (wp ms (fun ds η1 => Rf (lenOk ds.length = true) (Q (.tup ds) η1)) E η) := ⟨fun h => wp_tpD h⟩
instance : PR (wp (lsD ms) Q E η) (wp ms (fun ds η1 => Rf (lenOk ds.length = true) (Q (.lst ds) η1)) E η) := ⟨fun h => wp_lsD h⟩
instance : PR (wp (itD m) QL E η) (wp m (fun d η1 => Som (itemsD d) fun ds => QL ds η1) E η) := ⟨fun h => wp_itD h⟩
instance : PR (wp (rg1 ms) QL E η) (wp ms (fun d η1 => Som (range1D d) fun ds => QL ds η1) E η) := ⟨fun h => wp_rg1 h⟩
instance : PR (wp (rg2 ms) QL E η) (wp ms (fun d η1 => Som (range2D d) fun ds => QL ds η1) E η) := ⟨fun h => wp_rg2 h⟩
instance {vs : List Nat} {mi : M (List D)} {gt : D → MS} {mt : M Bool} {me : M D} : PR (wp (compL vs mi gt mt me) Q E η) (wp mi (fun ds η1 => wp (compM (turnC vs gt mt me) [] ds) (fun ys η2 => Q (.lst ys) η2) E η1) E η) := ⟨fun h => wp_compL h⟩
instance {vs : List Nat} {gt : D → MS} {mt : M Bool} {me : M D} {QO : Option D → Sto → Prop} : PR (wp (turnC vs gt mt me d) QO E η) (Rf (noOwn η vs = true) (wpg (gt d) (fun η1 => wp mt (fun c η2 => Br c (wp me (fun y η3 => QO (some y) (restS η η3 vs)) NvE η2) (QO none (restS η η2 vs))) NvE η1) (wipeS η vs))) := ⟨fun h => wp_turnC h.1 h.2⟩
instance {l : List (Str × Bool)} {c : Str} : PR (wp (kitT l c) Q E η) (Som (l.lookup c) fun b => Q (.bl b) η) := ⟨fun ⟨_, e, h⟩ => wp_kitT e h⟩
-- calls
variable {fm : M D} {jo : Option Nat} {ma mz : M (List AV)} {avs : List AV} {nl : D → Bool}
instance : PR (wp (cal n fm jo ma) Q E η) (wp ma (fun as η1 => Rf (as.length = n) (wp (callM noLst fm jo as) Q E η1)) E η) := ⟨fun h => wp_cal h⟩
instance : PR (wp (calF n fm jo ma) Q E η) (wp ma (fun as η1 => Rf (as.length = n) (wp (callM noLstIn fm jo as) Q E η1)) E η) := ⟨fun h => wp_calF h⟩
instance : PR (wp (cal0 fm) Q E η) (wp (callM noLst fm none []) Q NvE η) := ⟨fun h => wp_cal0 h⟩
instance {n1 n2 : Nat} : PR (wp (calK n n1 n2 fm jo ma mz) Q E η) (wp ma (fun as η1 => Rf (as.length = n1) (wp mz (fun zs η2 => Rf (zs.length = n2) (Rf ((as ++ zs).length = n) (wp (callM noLst fm jo (as ++ zs)) Q E η2))) E η1)) E η) := ⟨fun h => wp_calK h⟩
instance {n2 : Nat} : PR (wp (calK0 n n2 fm jo mz) Q E η) (wp mz (fun zs η2 => Rf (zs.length = n2) (Rf (zs.length = n) (wp (callM noLst fm jo zs) Q E η2))) E η) := ⟨fun h => wp_calK0 h⟩
instance : PR (wp (callM nl fm none avs) Q E η) (Som (avVals avs) fun ds => wp fm (fun d _ => Q d η) (fun c _ => E c η) (ds.map Slot.val)) := ⟨fun ⟨_, e, h⟩ => wp_vals e h⟩
-- statements
variable {b1 b2 : MS}
instance : PR (wps (seqS b1 b2) K η) (wps b1 (Kt.sq b2 K) η) := ⟨fun h => wps_seq h⟩
instance : PR (wps (stS i m) K η) (wp m (fun d η1 => Rf (canSet η1 i = true) (K.nx (η1.set i (.val d)))) K.ex η) := ⟨fun h => wps_stS h⟩
instance : PR (wps (owS i m) K η) (wp m (fun d η1 => Rf (canSet η1 i = true) (K.nx (η1.set i (.own false d)))) K.ex η) := ⟨fun h => wps_owS h⟩
instance : PR (wps (rtS m) K η) (wp m (fun d η1 => K.rt d η1) K.ex η) := ⟨fun h => wps_rtS h⟩
instance : PR (wps (exS m) K η) (wp m (fun _ η1 => K.nx η1) K.ex η) := ⟨fun h => wps_exS h⟩
instance : PR (wps (ifS t b1 b2) K η) (wp t (fun c η1 => Br c (wps b1 K η1) (wps b2 K η1)) K.ex η) := ⟨fun h => wps_ifS h⟩
theorem wps_paS' (h : wp ms (fun ds η1 => match ds with | [d, e] => Rf (canSet η1 i = true) (Rf (canSet (η1.set i (.val d)) j = true) (K.nx ((η1.set i (.val d)).set j (.val e)))) | _ => False) K.ex η) : wps (paS i j ms) K η :=
  wps_paS (wp_imp h (fun ds η1 h => match ds, h with | [d, e], ⟨h1, h2, h3⟩ => ⟨d, e, rfl, h1, h2, h3⟩) fun _ _ h => h)
instance {m1 m2 : M D} : PR (wps (paS i j (csD m1 (csD m2 nlD))) K η) (wp m1 (fun d η1 => wp m2 (fun e η2 => Rf (canSet η2 i = true) (Rf (canSet (η2.set i (.val d)) j = true) (K.nx ((η2.set i (.val d)).set j (.val e))))) K.ex η1) K.ex η) :=
  ⟨fun h => wps_paS' (wp_csD (wp_imp h (fun _ _ h => wp_csD (wp_imp h (fun _ _ h => wp_eq rfl h) fun _ _ h => h)) fun _ _ h => h))⟩
instance {gt : D → MS} : PR (wps (asS m gt) K η) (wp m (fun d η1 => wpg (gt d) K.nx η1) K.ex η) := ⟨fun h => wps_asS h⟩
variable {QS : Sto → Prop} {gt : D → MS} {gs : List D → MS} {ds : List D}
instance : PR (wpg (setS i d) QS η) (Rf (canSet η i = true) (QS (η.set i (.val d)))) := ⟨fun h => wpg_set h.1 h.2⟩
instance : PR (wpg (tgN []) QS η) (QS η) := ⟨fun h => wpg_N h⟩
instance : PR (wpg (tgC gt gs (d :: ds)) QS η) (wpg (gt d) (wpg (gs ds) QS) η) := ⟨fun h => wpg_C h⟩
instance : PR (wpg (tgT n gs (.tup ds)) QS η) (Rf (ds.length = n) (wpg (gs ds) QS η)) := ⟨fun h => wpg_T h.1 h.2⟩
/-- an owned slot is written -/
def putO (d : D) (k : D) : Option Slot → Option Slot
  | some (.own b c) => (putL c k d).map (Slot.own b)
  | _ => none
instance : PR (wps (soS i m mk) K η) (wp m (fun d η1 => wp (ownV i) (fun _ η2 => wp mk (fun k η3 => Som (putO d k η3[i]?) fun s => K.nx (η3.set i s)) K.ex η2) K.ex η1) K.ex η) :=
  ⟨fun h => wps_soS (wp_imp h (fun d η1 h => wp_imp h (fun _ η2 h => wp_imp h (fun k η3 ⟨s, e, h⟩ => by
    unfold putO at e
    split at e
    · rename_i b c q
      cases q2 : putL c k d with
      | none => rw [q2] at e; cases e
      | some c' =>
        rw [q2] at e
        cases e
        exact ⟨b, c, c', q, q2, h⟩
    · cases e) fun _ _ h => h) fun _ _ h => h) fun _ _ h => h)⟩
def ownLs : Option Slot → Option (List D)
  | some (.own _ (.lst ds)) => some ds
  | _ => none
def appO (d : D) : Option Slot → Option Slot
  | some (.own b (.lst ds)) => if lenOk ds.length = true then some (.own b (.lst (ds ++ [d]))) else none
  | _ => none
instance : PR (wps (apS i m) K η) (Som (ownLs η[i]?) fun _ => wp m (fun d η1 => Som (appO d η1[i]?) fun s => K.nx (η1.set i s)) K.ex η) :=
  ⟨fun ⟨ds, e, h⟩ => by
    unfold ownLs at e
    split at e
    · rename_i b ds' q
      refine wps_apS ⟨b, ds', q, wp_imp h (fun d η1 ⟨s, e, h⟩ => ?_) fun _ _ h => h⟩
      unfold appO at e
      split at e
      · rename_i b ds' q
        split at e
        · rename_i hl
          cases e
          exact ⟨b, ds', q, hl, h⟩
        · cases e
      · cases e
    · cases e⟩
instance : PR (wps nxS K η) (K.nx η) := ⟨wps_nxS⟩
instance : PR (wps bkS K η) (K.bk η) := ⟨wps_bkS⟩
instance : PR (wps ctS K η) (K.ct η) := ⟨wps_ctS⟩
instance : PR (wps rnS K η) (K.rt .non η) := ⟨wps_rnS⟩
instance {x : Str} : PR (wps (raS x) K η) (K.ex x η) := ⟨wps_raS⟩
instance : PR (wps (rlS i b1) K η) (wps b1 K (relS i η)) := ⟨wps_rlS⟩
def freeO : Option Slot → Option D
  | some (.own false d) => some d
  | _ => none
instance : PR (wps (roS i) K η) (Som (freeO η[i]?) fun d => K.rt d (η.set i .no)) := ⟨fun ⟨d, e, h⟩ => by
  unfold freeO at e
  split at e
  · rename_i q
    cases e
    exact wps_roS q h
  · cases e⟩
instance {mi : M (List D)} : PR (wps (foS mi gt b1) K η) (wp mi (fun ds η1 => wps (forS (turnS gt b1) ds) K η1) K.ex η) := ⟨fun h => wps_foS h⟩
instance : PR (wps (turnS gt b1 d) K η) (wpg (gt d) (wps b1 K) η) := ⟨fun h => wps_turn h⟩
instance {cl : Str → Option Bool} {mS : Str → MS} : PR (wps (tryS cl i b1 mS) K η) (wps b1 ⟨K.nx, K.bk, K.ct, K.rt, fun c η' => Som (cl c) fun b => Br b (Rf (canSet η' i = true) (wps (mS c) ⟨fun η'' => Rf (canSet η'' i = true) (K.nx (η''.set i .no)), Nv, Nv, K.rt, NvE⟩ (η'.set i .no))) (K.ex c η')⟩ η) := ⟨fun h => wps_try h⟩
end
section
variable {Q : D → Prop} {QB : Bool → Prop} {QI : Option Int → Prop} {d e : D} {a b : Int} {c : Bool} {ds es : List D}
instance : PR (Som (addD (.int a) (.int b)) Q) (Q (.int (a + b))) := ⟨fun h => ⟨_, rfl, h⟩⟩
instance : PR (Som (addD (.lst ds) (.lst es)) Q) (Rf (lenOk (ds.length + es.length) = true) (Q (.lst (ds ++ es)))) := ⟨fun ⟨e, h⟩ => ⟨_, if_pos e, h⟩⟩
instance : PR (Som (addD (.tup ds) (.tup es)) Q) (Rf (lenOk (ds.length + es.length) = true) (Q (.tup (ds ++ es)))) := ⟨fun ⟨e, h⟩ => ⟨_, if_pos e, h⟩⟩
instance : PR (Som (subD (.int a) (.int b)) Q) (Q (.int (a - b))) := ⟨fun h => ⟨_, rfl, h⟩⟩
instance : PR (Som (mulD (.int a) (.int b)) Q) (Sd (mulOk a b = true) (Q (.int (a * b)))) := ⟨fun ⟨e, h⟩ => ⟨_, if_pos e, h⟩⟩
instance : PR (Som (fdivD (.int a) (.int b)) Q) (Sd (divOk b = true) (Q (.int (a.fdiv b)))) := ⟨fun ⟨e, h⟩ => ⟨_, if_pos e, h⟩⟩
instance : PR (Som (modD (.int a) (.int b)) Q) (Sd (b ≠ 0) (Q (.int (a.fmod b)))) := ⟨fun ⟨e, h⟩ => mod_i (decide_eq_true e) h⟩
instance : PR (Som (powD (.int a) (.int b)) Q) (Rf (powOk a b = true) (Q (.int (a ^ b.toNat)))) := ⟨fun ⟨e, h⟩ => ⟨_, if_pos e, h⟩⟩
instance : PR (Som (negD (.int a)) Q) (Q (.int (-a))) := ⟨fun h => ⟨_, rfl, h⟩⟩
instance : PR (Som (eqD (.int a) (.int b)) QB) (QB (decide (a = b))) := ⟨fun h => eq_i h⟩
instance : PR (Som (neD (.int a) (.int b)) QB) (QB (!decide (a = b))) := ⟨fun h => ne_i h⟩
instance : PR (Som (ltD (.int a) (.int b)) QB) (QB (decide (a < b))) := ⟨fun h => ⟨_, rfl, h⟩⟩
instance : PR (Som (leD (.int a) (.int b)) QB) (QB (decide (a ≤ b))) := ⟨fun h => ⟨_, rfl, h⟩⟩
instance : PR (Som (gtD (.int a) (.int b)) QB) (QB (decide (b < a))) := ⟨fun h => ⟨_, rfl, h⟩⟩
instance : PR (Som (geD (.int a) (.int b)) QB) (QB (decide (b ≤ a))) := ⟨fun h => ⟨_, rfl, h⟩⟩
instance : PR (Som (isD d .non) QB) (QB (isNon d)) := ⟨fun h => ⟨_, rfl, h⟩⟩
instance : PR (Som (isntD d .non) QB) (QB (!isNon d)) := ⟨fun h => ⟨_, rfl, h⟩⟩
instance : PR (Som (isiD "tuple" d) Q) (Q (.bl (isTup d))) := ⟨isi_tuple⟩
instance : PR (Som (isiD "list" d) Q) (Q (.bl (isLst d))) := ⟨isi_list⟩
instance : PR (Som (isiD "bool" d) Q) (Q (.bl (isBl d))) := ⟨isi_bool⟩
instance : PR (Som (isiD "int" d) Q) (Q (.bl (isInt d))) := ⟨isi_int⟩
instance : PR (Som (isiD "str" d) Q) (Q (.bl (isStr d))) := ⟨isi_str⟩
instance : PR (Som (isiD "dict" d) Q) (Q (.bl (isDct d))) := ⟨isi_dict⟩
instance : PR (Som (asB (.bl c)) QB) (QB c) := ⟨fun h => ⟨_, rfl, h⟩⟩
instance {QJ : Int → Prop} : PR (Som (asI (.int a)) QJ) (QJ a) := ⟨fun h => ⟨_, rfl, h⟩⟩
instance : PR (Som (lenD [.tup ds]) Q) (Q (.int ds.length)) := ⟨fun h => ⟨_, rfl, h⟩⟩
instance : PR (Som (lenD [.lst ds]) Q) (Q (.int ds.length)) := ⟨fun h => ⟨_, rfl, h⟩⟩
instance : PR (Som (intD [.int a]) Q) (Q (.int a)) := ⟨fun h => ⟨_, rfl, h⟩⟩
instance : PR (Som (gcdD [.int a, .int b]) Q) (Q (.int ((Nat.gcd a.natAbs b.natAbs : Nat) : Int))) := ⟨fun h => ⟨_, rfl, h⟩⟩
instance : PR (Som (absD [.int a]) Q) (Q (.int (if a < 0 then -a else a))) := ⟨fun h => ⟨_, rfl, h⟩⟩
instance : PR (Som (max2D [.int a, .int b]) Q) (Q (.int (if b > a then b else a))) := ⟨fun h => ⟨_, rfl, h⟩⟩
instance : PR (Som (min2D [.int a, .int b]) Q) (Q (.int (if b < a then b else a))) := ⟨fun h => ⟨_, rfl, h⟩⟩
end
theorem rangeL_len (lo : Int) : ∀ n : Nat, (rangeL lo n).length = n := fun n => by unfold rangeL; simp
theorem rangeL_at {lo : Int} {n i : Nat} {d : D} (h : (rangeL lo n)[i]? = some d) : i < n ∧ d = .int (lo + i) := by
  have hl := (List.getElem?_eq_some_iff.mp h).1
  rw [rangeL_len] at hl
  exact ⟨hl, rangeL_get h⟩
/-- a loop over a range -/
theorem wps_range {fb : D → MS} {lo : Int} {n : Nat} {K : Kt} {η : Sto} (I : Nat → Sto → Prop) (h0 : I 0 η) (hs : ∀ (i : Nat) (η' : Sto), i < n → I i η' → wps (fb (.int (lo + i))) ⟨I (i + 1), K.nx, I (i + 1), K.rt, K.ex⟩ η') (h1 : ∀ η', I n η' → K.nx η') : wps (forS fb (rangeL lo n)) K η :=
  wps_for I h0 (fun i d η' e h => by
    obtain ⟨h2, rfl⟩ := rangeL_at e
    exact hs i η' h2 h) (fun η' h => h1 η' (by rw [rangeL_len] at h; exact h))
instance {j : Int} {QL : List D → Prop} : PR (Som (range1D [.int j]) QL) (Sd (-(2 ^ 62) ≤ j ∧ j < 2 ^ 62) (QL (rangeL 0 j.toNat))) := ⟨fun ⟨e, h⟩ => ⟨_, if_pos e, h⟩⟩
instance {i j : Int} {QL : List D → Prop} : PR (Som (range2D [.int i, .int j]) QL) (Sd (-(2 ^ 62) ≤ i ∧ i < 2 ^ 62 ∧ -(2 ^ 62) ≤ j ∧ j < 2 ^ 62) (QL (rangeL i (j - i).toNat))) := ⟨fun ⟨e, h⟩ => ⟨_, if_pos e, h⟩⟩
theorem eqD_bl (a b : Bool) : eqD (.bl a) (.bl b) = some (a == b) := by cases a <;> cases b <;> decide
theorem eqD_str {x : Str} (h : PyData.strOk x = true) : eqD (.str x) (.str x) = some true := by
  show eqP (.str x) (.str x) = some true
  unfold eqP toPy
  simp only
  rw [if_pos (by simp [SeqAt.shaped, PyData.canLay0, PyData.depth, h])]
  simp [PyData.eqv]
instance {a b : Bool} {QB : Bool → Prop} : PR (Som (eqD (.bl a) (.bl b)) QB) (QB (a == b)) := ⟨fun h => ⟨_, eqD_bl a b, h⟩⟩
instance {a b : Bool} {QB : Bool → Prop} : PR (Som (neD (.bl a) (.bl b)) QB) (QB (!(a == b))) := ⟨fun h => ⟨_, by unfold neD; rw [eqD_bl]; rfl, h⟩⟩
instance {x : Str} {QB : Bool → Prop} : PR (Som (eqD (.str x) (.str x)) QB) (Rf (PyData.strOk x = true) (QB true)) := ⟨fun ⟨e, h⟩ => ⟨_, eqD_str e, h⟩⟩
theorem bls_rep : ∀ n : Nat, bls (List.replicate n (.bl true)) = some (List.replicate n true)
  | 0 => rfl
  | n + 1 => by
    rw [List.replicate_succ, List.replicate_succ]
    unfold bls
    rw [bls_rep n]
    rfl
theorem all_rep (n : Nat) : allD [.lst (List.replicate n (.bl true))] = some (.bl true) := by
  show (bls (List.replicate n (.bl true))).map (fun bs => D.bl (bs.all id)) = _
  rw [bls_rep]
  simp
theorem filterMap_const {l : List D} {d : D} : ((l.mapIdx fun _ _ => some d).filterMap id) = List.replicate l.length d := by
  induction l with
  | nil => rfl
  | cons a l ih =>
    rw [List.mapIdx_cons, List.filterMap_cons]
    simp only [id]
    rw [show (List.mapIdx (fun i x => (fun (_ : Nat) (_ : D) => some d) (i + 1) x) l) = List.mapIdx (fun _ _ => some d) l from rfl, ih, List.length_cons, List.replicate_succ]
instance {n : Nat} {Q : D → Prop} : PR (Som (allD [.lst (List.replicate n (.bl true))]) Q) (Q (.bl true)) := ⟨fun h => ⟨_, all_rep n, h⟩⟩
section
variable {η : Sto} {E : Str → Sto → Prop} {vs : List Nat} {gt : D → MS} {mt : M Bool} {me : M D} {n : Nat} {lo : Int} {QL : List D → Sto → Prop}
/-- a comprehension over a range whose items are all True -/
theorem wp_compT (hl : n ≤ 1000000) (hs : ∀ i : Nat, i < n → wp (turnC vs gt mt me (.int (lo + i))) (fun o η2 => o = some (.bl true) ∧ η2 = η) NvE η) (h1 : QL (List.replicate n (.bl true)) η) : wp (compM (turnC vs gt mt me) [] (rangeL lo n)) QL E η :=
  wp_compF (fun _ _ => some (.bl true)) (by rw [rangeL_len]; exact decide_eq_true hl) (fun i d e => by
    obtain ⟨hi, rfl⟩ := rangeL_at e
    exact hs i hi) (by rw [filterMap_const, rangeL_len]; exact h1)
end
end Pd

namespace Pd
open PySem L2
section
variable {X : Cx} {W : WX} {G : Addr → Prop} {η : Sto} {σ : St} {H : Hp} {e e2 : Expr} {p pos tpos : Pos} {elts : List Expr} {kk : Nat}
/-! ### zip of two lists, of two tuples -/
def zipD : List D → Option (List D)
  | [.tup ds, .tup es] => some (List.zipWith (fun d e => .tup [d, e]) ds es)
  | [.lst ds, .lst es] => some (List.zipWith (fun d e => .tup [d, e]) ds es)
  | _ => none
theorem zipW_get {ds es : List D} {i : Nat} {d : D} (h : (List.zipWith (fun d e => D.tup [d, e]) ds es)[i]? = some d) : ∃ x y, ds[i]? = some x ∧ es[i]? = some y ∧ d = .tup [x, y] := by
  rw [List.getElem?_zipWith] at h
  cases q : ds[i]? with
  | none => rw [q] at h; cases h
  | some x =>
    cases q2 : es[i]? with
    | none => rw [q, q2] at h; cases h
    | some y =>
      rw [q, q2] at h
      cases h
      exact ⟨x, y, rfl, rfl, rfl⟩
theorem two_den {Z : Addr → Prop} {K : PySem.W.Frag} {H1 : Hp} {T : Addr} {x y : D} {u v : V} (hT : H1 T = none) (hx : Den Z K H1 x u) (hy : Den Z K H1 y v) : Den Z K (upd H1 T (.tup [u, v])) (.tup [x, y]) (.ref T) :=
  ⟨T, _, rfl, .of upd_same, Dens.same (same_new hT) (.cons hx (.cons hy .nil))⟩
theorem feeds_zipL {Z : Addr → Prop} {a b : Addr} {xs ys : List V} {ds es : List D} (hl : ∀ F H1, Step F H H1 → (∀ a, F a → Z a) → SqL X.K H1 a xs) (hl2 : ∀ F H1, Step F H H1 → (∀ a, F a → Z a) → SqL X.K H1 b ys) (dn : Dens Z X.K H ds xs) (dn2 : Dens Z X.K H es ys) :
    Feeds X.K Z H (List.zipWith (fun d e => .tup [d, e]) ds es) (Itz X.K a b) := by
  intro F Z1 H1 st hF hz i
  have hs := hl F H1 st hF
  have hs2 := hl2 F H1 st hF
  rw [List.length_zipWith, dn.length, dn2.length]
  refine ⟨fun hi => ⟨xs, ys, xs[i]'(by omega), ys[i]'(by omega), hs, hs2, List.getElem?_eq_getElem _, List.getElem?_eq_getElem _⟩, fun hi => ⟨xs, ys, hs, hs2, by omega⟩, fun d x H2 ed hy => ?_⟩
  obtain ⟨T, u, v, rfl, hT, rfl, f1, f2⟩ := hy
  obtain ⟨d1, d2, e1, e2, rfl⟩ := zipW_get ed
  obtain ⟨u1, eu, du⟩ := dn.get e1
  obtain ⟨v1, ev, dv⟩ := dn2.get e2
  have q1 := f1 xs hs
  have q2 := f2 ys hs2
  rw [eu] at q1
  rw [ev] at q2
  cases q1
  cases q2
  exact ⟨same_new hT, two_den hT (Den.move st hF hz _ du) (Den.move st hF hz _ dv)⟩
theorem feeds_zipT {Z : Addr → Prop} {a b : Addr} {xs ys : List V} {ds es : List D} (hl : SqT X.K H a xs) (hl2 : SqT X.K H b ys) (dn : Dens Z X.K H ds xs) (dn2 : Dens Z X.K H es ys) :
    Feeds X.K Z H (List.zipWith (fun d e => .tup [d, e]) ds es) (RZ.ItzT X.K a b) := by
  intro F Z1 H1 st hF hz i
  have hs := st.seqT hl
  have hs2 := st.seqT hl2
  rw [List.length_zipWith, dn.length, dn2.length]
  refine ⟨fun hi => ⟨xs, ys, xs[i]'(by omega), ys[i]'(by omega), hs, hs2, List.getElem?_eq_getElem _, List.getElem?_eq_getElem _⟩, fun hi => ⟨xs, ys, hs, hs2, by omega⟩, fun d x H2 ed hy => ?_⟩
  obtain ⟨T, u, v, rfl, hT, rfl, f1, f2⟩ := hy
  obtain ⟨d1, d2, e1, e2, rfl⟩ := zipW_get ed
  obtain ⟨u1, eu, du⟩ := dn.get e1
  obtain ⟨v1, ev, dv⟩ := dn2.get e2
  have q1 := f1 xs hs
  have q2 := f2 ys hs2
  rw [eu] at q1
  rw [ev] at q2
  cases q1
  cases q2
  exact ⟨same_new hT, two_den hT (Den.move st hF hz _ du) (Den.move st hF hz _ dv)⟩
theorem pid_zip {ms : M (List D)} (hm : X.mg "zip" = none) (ha : PAd X W [e, e2] ms) (hg : Gl X "zip" := by rfl)
    (hs : starEach [e, e2] X.env = (false, eval e X.env) :: starEach [e2] X.env := by rfl) (hpl : (backTo pos (starEach [e2] X.env)).any (·.1) = false := by rfl) :
    PId X W (.Tuple elts kk tpos) (.Call (.Name "zip" p) [e, e2] [] pos) (do let ds ← ms; M.of (zipD ds)) :=
  PI.weak (RZ.pi_zipA hg hm ha hs hpl) fun σ H R ⟨G, η, ok, h⟩ => ⟨G, η, ok, (Post.bind (R := RDs X G σ) h).imp fun vs H1 ⟨η1, ds, a1⟩ => by
    have q := a1.post
    have r := a1.r
    match ds, q, r with
    | [.tup ds, .tup es], q, r =>
      obtain ⟨v1, r1, rfl, h1, r⟩ := r
      obtain ⟨v2, r2, rfl, h2, r⟩ := r
      cases r
      obtain ⟨a, xs, rfl, hx, dx⟩ := h1
      obtain ⟨b, ys, rfl, hy, dy⟩ := h2
      exact ⟨a, b, xs, ys, rfl, .inr ⟨hx, hy, q _ _ .refl .refl a1.ok (feeds_zipT hx hy dx dy)⟩⟩
    | [.lst ds, .lst es], q, r =>
      obtain ⟨v1, r1, rfl, h1, r⟩ := r
      obtain ⟨v2, r2, rfl, h2, r⟩ := r
      cases r
      obtain ⟨a, xs, rfl, nz1, hx, dx⟩ := h1
      obtain ⟨b, ys, rfl, nz2, hy, dy⟩ := h2
      exact ⟨a, b, xs, ys, rfl, .inl ⟨.of hx, .of hy, q _ _ .refl .refl a1.ok (feeds_zipL (fun F H2 st hF => .of (st.keep _ _ hx fun f => nz1 (hF a f))) (fun F H2 st hF => .of (st.keep _ _ hy fun f => nz2 (hF b f))) dx dy)⟩⟩⟩
/-! ### len(set(xs)), xs a list of ints -/
def intsD : List D → Option (List Int)
  | [] => some []
  | .int i :: r => (intsD r).map (i :: ·)
  | _ :: _ => none
theorem intsD_some : ∀ {ds : List D} {ns : List Int}, intsD ds = some ns → ds = ns.map D.int
  | [], ns, h => by cases h; rfl
  | d :: r, ns, h => by
    cases d with
    | int i =>
      unfold intsD at h
      cases q : intsD r with
      | none => rw [q] at h; cases h
      | some m =>
        rw [q] at h
        cases h
        rw [intsD_some q]
        rfl
    | _ => cases h
/-- how many unlike ones -/
def unlike (ns : List Int) : Nat := (PyProof.Rows.firstMet (fun i => ns.getD i 0) ns.length).length
def lenSetD : D → Option D
  | .lst ds => match intsD ds with
    | some ns => if ns.length ≤ 4000 then some (.int (unlike ns)) else none
    | none => none
  | _ => none
theorem fm_len (f : Nat → Int) : ∀ n, (PyProof.Rows.firstMet f n).length ≤ n
  | 0 => Nat.le_refl _
  | n + 1 => by
    have ih := fm_len f n
    rw [PyProof.Rows.firstMet_succ]
    unfold PyProof.Rows.step_dedup
    split
    · omega
    · rw [List.length_append]
      simp only [List.length_cons, List.length_nil]
      omega
def tLenSetJ (K : PySem.W.Frag) (ta : TE) : TE := fun σ H Q => ta σ H fun x H1 => ∃ (l : Addr) (ns : List Int), x = .ref l ∧ SqL K H1 l (ns.map V.int) ∧ ns.length ≤ 4000 ∧ Q (.int (unlike ns : Nat)) H1
open PySem.Spec PyProof.Rows in
theorem pe_lenSetJ {a : Expr} {ta : TE} {p p2 q pos : Pos} (hg : Gl X "len") (hm : X.mg "len" = none) (hg2 : Gl X "set") (hm2 : X.mg "set" = none) (ha : PE X a ta) (hc : X.calm = true := by rfl)
    (na : starEach [a] X.env = (false, eval a X.env) :: starEach [] X.env := by rfl) : PE X (.Call (.Name "len" p) [.Call (.Name "set" p2) [a] [] q] [] pos) (tLenSetJ X.K ta) := by
  refine ⟨fun pins s σ H Q I h => ?_⟩
  refine Call_ (ld_blt I hg hm boot_len ?_)
  refine PyProof.Rows.callWith_builtin1 (PyProof.Rows.args_cons ?_ rfl) rfl rfl
  refine Call_ (ld_blt I hg2 hm2 boot_set ?_)
  refine PyProof.Rows.callWith_type1 (PyProof.Rows.args_cons (thn (ha.run pins s σ H _ I h) fun v s1 ⟨x, H1, I1, r1, q1⟩ => PyProof.Rows.args_nil ?_) na) na rfl
  obtain ⟨l, ns, rfl, hq, hl, q1⟩ := q1
  cases r1
  obtain ⟨its, r, pl, hz⟩ := I1.list hq
  have hlen : its.toArray.size = ns.length := by rw [List.size_toArray, ← r.length, List.length_map]
  refine call_set_list (I1.ok.hd hc) pl.isList (by simpa using RZ.intsAre_vals r) (by rw [hlen]; unfold scanBound; omega) fun h' tk hS hk => ?_
  refine PyProof.Rows.args_nil ?_
  rw [hlen] at hS
  obtain ⟨o, es, ep, t, ho, hex, hd, _, _, _, hf, hn⟩ := hS
  have I2 : Inv X pins σ H1 { s1 with heap := h', toks := tk } := I1.kept fun b o e => hk b o (Heap.lt_size e) e
  have hu := fm_len (fun i => ns.getD i 0) ns.length
  exact call_len_set ho hex hd hf (by rw [hn] <;> omega) ⟨.int (unlike ns), H1, I2.tok _, ⟨_, by rw [hn]; rfl⟩, q1⟩
theorem pd_lenSet {a : Expr} {m : M D} {p p2 q pos : Pos} (hm : X.mg "len" = none) (hm2 : X.mg "set" = none) (ha : PEd X W a m) (hc : X.calm = true := by rfl) (hg : Gl X "len" := by rfl) (hg2 : Gl X "set" := by rfl)
    (na : starEach [a] X.env = (false, eval a X.env) :: starEach [] X.env := by rfl) : PEd X W (.Call (.Name "len" p) [.Call (.Name "set" p2) [a] [] q] [] pos) (do let d ← m; M.of (lenSetD d)) :=
  PE.weak (pe_lenSetJ hg hm hg2 hm2 ha hc na) fun σ H Q ⟨G, η, ok, h⟩ => ⟨G, η, ok, (Post.bind (R := RD X G σ) h).imp fun x H1 ⟨η1, d, a1⟩ => by
    obtain ⟨g, eg, k⟩ := Post.of a1.ok a1.post
    cases d with
    | lst ds =>
      obtain ⟨a, xs, rfl, _, hx, dx⟩ := a1.r
      simp only [lenSetD] at eg
      cases q : intsD ds with
      | none => rw [q] at eg; cases eg
      | some ns =>
        rw [q] at eg
        simp only at eg
        by_cases hl : ns.length ≤ 4000
        · rw [if_pos hl] at eg
          cases eg
          have e := intsD_some q
          subst e
          have e := Dens.ints dx
          subst e
          exact ⟨a, ns, rfl, .of hx, hl, k _ _ (Same.refl _) rfl⟩
        · rw [if_neg hl] at eg; cases eg
    | _ => cases eg⟩
end
end Pd

namespace Pd
open PySem L2
/-! ### several clauses, each with or without a name -/
/-- behind a suite: the name is gone -/
def goneE (io : Option Nat) (D : Ends) : Ends := match io with
  | none => D
  | some i => { nx := fun τ J => D.nx (τ.set i none) J, rt := D.rt, bk := fun τ J => D.bk (τ.set i none) J, ct := fun τ J => D.ct (τ.set i none) J }
def boundE (io : Option Nat) (a : Addr) (τ : St) : St := match io with
  | none => τ
  | some i => τ.set i (some (.ref a))
structure Cl where
  c : Value
  io : Option Nat
  ts : Addr → Value → Option Addr → TS
def wMix (K : PySem.W.Frag) (Wout : WX) (D : Ends) : List Cl → WX
  | [] => Wout
  | k :: r => fun cls d τ J => ∃ b, PySem.W.exmOne K cls k.c = some b ∧ (b = true → ∀ a, J a = none → k.ts a cls d (goneE k.io D) (boundE k.io a τ) J) ∧ (b = false → wMix K Wout D r cls d τ J)
inductive ClsOk (X : Cx) : List ExceptHandler → List Cl → Prop
  | nil : ClsOk X [] []
  | cons {x : Str} {nm : Option Str} {k : Cl} {b₀ : Stmt} {suite : List Stmt} {np pos' : Pos} {hds : List ExceptHandler} {l : List Cl} (hc : Names X x k.c)
      (hn : (nm = none ∧ k.io = none) ∨ ∃ n i, nm = some n ∧ k.io = some i ∧ X.N[i]? = some n ∧ X.env.kindOf n = some .local)
      (hsu : ∀ (a : Addr) (oe : Obj) (cls : Value) (d : Option Addr) (pn : List (Addr × Obj)), Zc cls d oe → (∃ vs, oe.data = .fields vs) → PSs (X.suite a ((a, oe) :: pn)) (b₀ :: suite) (k.ts a cls d)) (r : ClsOk X hds l) :
      ClsOk X (.ExceptHandler (some (.Name x np)) nm (b₀ :: suite) pos' :: hds) (k :: l)
section
open PySem.Spec PyProof.Rows
variable {X : Cx} {body : List Stmt} {h₀ : ExceptHandler} {hds : List ExceptHandler} {l : List Cl} {pos : Pos} {tb : WX → TS} {Wout : WX}
theorem ps_try_mix (hs : X.stack = X.env :: X.outer) (hf : X.env.frame = some X.env.locals) (hN : X.N.Nodup) (tk : Takes X Wout)
    (hb : ∀ (W : WX) (pn : List (Addr × Obj)) (xe : Value → Shared → Prop), Takes (X.tr pn xe) W → PassesOwn (model X.prog X.w) X.A X.env xe → PSs (X.tr pn xe) body (tb W)) (hh : ClsOk X (h₀ :: hds) l) :
    PS X (.Try body (h₀ :: hds) [] [] pos) (fun D τ J => tb (wMix X.K Wout D l) D τ J) := by
  constructor
  intro pins s τ J D I h
  have ok := I.ok
  have hfr : X.A.frames = some (X.env :: X.outer) := ok.frames.trans (by rw [hs])
  apply wpAny_Try_except
  apply wpAny_mono ((hb (wMix X.K Wout D l) (X.pn ++ pins) (fun e t1 => wpAny (model X.prog X.w) X.A (noteFrame e X.env) (fun _ t2 => wpAny (model X.prog X.w) X.A (setFlight e none) (fun _ t3 => wpAny (model X.prog X.w) X.A (handleBy e X.env (h₀ :: hds)) (SP X pins D) X.xe t3) X.xe t2) X.xe t1) ?_ PassesOwn.looking).run [] s τ J D (I.toTry _) h) ?_ (fun _ _ z => z)
  · intro u s' xx
    obtain ⟨a, B, sI, pins', τ', J2, cls, d, rfl, M', nb, up, sky, na, os, ag, w⟩ := xx
    have M1 : Inv X pins τ' J2 sI := M'.ofTry ok
    have sky2 : Sky B (X.env :: X.outer) a (Zc cls d) X.env.locals s'.heap := hs ▸ sky
    show wpAny (model X.prog X.w) X.A (noteFrame (.ref a) X.env) _ _ _
    apply Sky.land Zc.steady hfr hf sky2
    intro h3 fl3 up3
    have M3 : Inv X pins τ' J2 { s' with heap := h3 } := M1.landed nb fl3.1 (up.trans up3) os ag
    obtain ⟨oe3, vs3, he3, hz3, hd3⟩ := fl3.there
    have nfr : a ∉ frs (X.env :: X.outer) := by
      intro hm
      obtain ⟨_, o', e', hnf⟩ := fl3.2.2.1.mem hm
      cases he3.symm.trans e'
      exact hnf _ hd3
    have nL : a ≠ X.env.locals := fun z => nfr (List.mem_filterMap.mpr ⟨X.env, List.mem_cons_self, by rw [hf, z]⟩)
    have nF : a ∉ X.fs := by
      intro hm
      obtain ⟨e, he, q⟩ := List.mem_filterMap.mp hm
      exact nfr (List.mem_filterMap.mpr ⟨e, List.mem_cons_of_mem _ he, q⟩)
    have S3 := M3.suite he3 hd3 na nL nF
    suffices go : ∀ {hds' : List ExceptHandler} {l' : List Cl}, ClsOk X hds' l' → wMix X.K Wout D l' cls d τ' J2 → wpAny (model X.prog X.w) X.A (handleBy (.ref a) X.env hds') (SP X pins D) X.xe { s' with heap := h3 } from go hh w
    intro hds' l' hk
    induction hk with
    | nil =>
      intro w
      apply wpAny_handleBy_nil
      obtain ⟨k1, k2, k3, oe, vs, T, oT, ts', he, hz, hd, h1, hr⟩ := id fl3
      unfold PySem.passOn
      apply wpAny_bind
      apply wpAny_field he hd h1
      rw [if_neg (by simp : ¬ ((Value.ref T == Value.none) = true))]
      have last : wpAny (model X.prog X.w) X.A (setFlight (.ref a) X.env.frame) (fun _ t4 => wpAny (model X.prog X.w) X.A (throw (.ref a) : Sem Flow) (SP X pins D) X.xe t4) X.xe { s' with heap := h3 } := by
        rw [hf]
        exact HandSPX.setFlight_upZ fl3 fun h4 hh4 up4 => wpAny_throw (tk _ _ ⟨a, B, sI, pins, τ', J2, cls, d, rfl, M1, nb, (up.trans up3).trans up4, .inr (.inr (hs ▸ hh4)), na, os, ag, w⟩)
      first | exact wpAny_bind (wpAny_pure (wpAny_bind last)) | exact wpAny_bind last
    | @cons x nm k b₀ suite np pos' hds2 l2 hc hn hsu r ih =>
      intro w
      obtain ⟨b, hb1, hyes, hno⟩ := w
      apply wpAny_handleBy_cons (codeAny_handlers_test ?_) (by intro q; cases q)
      have LM := PySem.W.exm_one (M := model X.prog X.w) (M3.kIn) (fun A Q E t k' q => wpAny_typeOf_ref (k' _ _ he3) (by rw [hz3.1]; exact q) : PySem.W.Looks (model X.prog X.w) h3 (typeOf (.ref a)) cls) hb1
      have test : ∀ {Q E : Value → Shared → Prop}, Q k.c { s' with heap := h3 } → wpAny (model X.prog X.w) (X.A.mark (some (.ref a))) (eval (.Name x np) X.env) Q E { s' with heap := h3 } := by
        intro Q E q
        rcases hc with ⟨hg, hdbg, hm | ⟨hm, hv, hnn⟩⟩
        · exact ld_glob (X := X.suite a ((a, oe3) :: (X.pn ++ pins))) S3 hg hm q hdbg
        · exact ld_blt (X := X.suite a ((a, oe3) :: (X.pn ++ pins))) S3 hg hm hv q hnn hdbg
      apply test
      apply LM.here
      cases b with
      | false => exact ih (hno rfl)
      | true =>
        rcases hn with ⟨rfl, hio⟩ | ⟨n, i, rfl, hio, hi, hln⟩
        · apply codeAny_handlers_suite
          apply HandSPX.lands_againZ fl3
          intro h4 fl4 up4
          have M4 : Inv X pins τ' J2 { s' with heap := h4 } := M1.landed nb fl4.1 ((up.trans up3).trans up4) os ag
          obtain ⟨oe4, vs4, he4, hz4, hd4⟩ := fl4.there
          have y := hyes rfl a na
          rw [hio] at y
          apply wpAny_mono ((hsu a oe4 cls d (X.pn ++ pins) hz4 ⟨_, hd4⟩).run [] _ _ J2 _ (M4.suite he4 hd4 na nL nF) y) ?_ (fun _ _ z => z.elim)
          intro f t6 hsp
          cases f with
          | next => exact let ⟨τ6, J6, S6, q6⟩ := hsp; ⟨_, _, S6.unsuite ok, q6⟩
          | brk => exact let ⟨τ6, J6, S6, q6⟩ := hsp; ⟨_, _, S6.unsuite ok, q6⟩
          | cont => exact let ⟨τ6, J6, S6, q6⟩ := hsp; ⟨_, _, S6.unsuite ok, q6⟩
          | ret u => exact let ⟨v6, τ6, J6, S6, r6, q6⟩ := hsp; ⟨_, _, _, S6.unsuite ok, r6, q6⟩
        · apply codeAny_handlers_suite_as
          apply HandSPX.lands_againZ fl3
          intro h4 fl4 up4
          have M4 : Inv X pins τ' J2 { s' with heap := h4 } := M1.landed nb fl4.1 ((up.trans up3).trans up4) os ag
          obtain ⟨oe4, vs4, he4, hz4, hd4⟩ := fl4.there
          have y := hyes rfl a na
          rw [hio] at y
          apply store_ok (X := X.suite a ((a, oe4) :: (X.pn ++ pins))) (v := .ref a) (M4.suite he4 hd4 na nL nF) hN hi (.inl hln : Loc X.env.scope n) rfl (fun t5 S5 => ?_) (.inr hln)
          apply wpAny_mono ((hsu a oe4 cls d (X.pn ++ pins) hz4 ⟨_, hd4⟩).run [] t5 _ J2 _ S5 y) ?_ (fun _ _ z => z.elim)
          intro f t6 hsp
          have fin : ∀ {τ6 : L2.St} {J6 : Hp} {Q : Shared → Prop}, Inv (X.suite a ((a, oe4) :: (X.pn ++ pins))) [] τ6 J6 t6 → (∀ t7, Inv X pins (τ6.set i none) J6 t7 → Q t7) → wpAny (model X.prog X.w) X.A (do bindName X.env n .none; unbindBehindTheSuite X.env n pos') (fun _ t7 => Q t7) X.xe t6 := fun S6 hq => gone_ok (S6.unsuite ok) hN hi hln hq
          cases f with
          | next => exact let ⟨τ6, J6, S6, q6⟩ := hsp; fin S6 fun t7 J7 => ⟨_, _, J7, q6⟩
          | brk => exact let ⟨τ6, J6, S6, q6⟩ := hsp; fin S6 fun t7 J7 => ⟨_, _, J7, q6⟩
          | cont => exact let ⟨τ6, J6, S6, q6⟩ := hsp; fin S6 fun t7 J7 => ⟨_, _, J7, q6⟩
          | ret u => exact let ⟨v6, τ6, J6, S6, r6, q6⟩ := hsp; fin S6 fun t7 J7 => ⟨_, _, _, J7, r6, q6⟩
  · intro f t1 hsp
    cases f with
    | next => exact let ⟨τ', J', M', q⟩ := hsp; wpAny_execs_nil ⟨τ', J', M'.ofTry ok, q⟩
    | brk => exact let ⟨τ', J', M', q⟩ := hsp; ⟨τ', J', M'.ofTry ok, q⟩
    | cont => exact let ⟨τ', J', M', q⟩ := hsp; ⟨τ', J', M'.ofTry ok, q⟩
    | ret u => exact let ⟨v, τ', J', M', r, q⟩ := hsp; ⟨v, τ', J', M'.ofTry ok, r, q⟩
end
/-! ### the same over slots -/
structure Hd where
  l : List (Str × Bool)
  io : Option Nat
  ms : Str → MS
def sufN : SRes → SRes
  | .nx η => .nx η
  | .rt d η => .rt d η
  | _ => .bad
def runH (h : Hd) (c : Str) : MS := fun η => match h.io with
  | none => sufN (h.ms c η)
  | some i => if canSet η i = true then sufS i (h.ms c (η.set i .no)) else .bad
def pickH : List Hd → Str → MS
  | [], c => fun η => .exc c η
  | h :: r, c => fun η => match h.l.lookup c with
    | some true => runH h c η
    | some false => pickH r c η
    | none => .bad
def tryM (mb : MS) (hs : List Hd) : MS := fun η => match mb η with
  | .exc c η' => pickH hs c η'
  | r => r
inductive HOk (X : Cx) (S : S0) (fr : Bool) : List ExceptHandler → List Hd → Prop
  | nil : HOk X S fr [] []
  | cons0 {x : Str} {h : Hd} {b₀ : Stmt} {suite : List Stmt} {np pos' : Pos} {hds : List ExceptHandler} {l : List Hd} (hcl : ∀ p ∈ h.l, ExmX X.K X.mg p.1 x p.2) (hx : ExcX X.K X.mg x) (hg : Gl X x) (hdb : (x == ("__debug__" : Str)) = false) (hn : h.io = none)
      (hsu : ∀ (a : Addr) (oe : Obj) (pn : List (Addr × Obj)) (c : Str) (D : Addr), Zc (.ref D) none oe → (∃ vs, oe.data = .fields vs) → X.mg c = some (.ref D) → PSsd (X.suite a ((a, oe) :: pn)) W0 S fr (b₀ :: suite) (h.ms c)) (r : HOk X S fr hds l) :
      HOk X S fr (.ExceptHandler (some (.Name x np)) none (b₀ :: suite) pos' :: hds) (h :: l)
  | cons1 {x n : Str} {h : Hd} {i : Nat} {b₀ : Stmt} {suite : List Stmt} {np pos' : Pos} {hds : List ExceptHandler} {l : List Hd} (hcl : ∀ p ∈ h.l, ExmX X.K X.mg p.1 x p.2) (hx : ExcX X.K X.mg x) (hg : Gl X x) (hdb : (x == ("__debug__" : Str)) = false) (hn : h.io = some i)
      (hi : X.N[i]? = some n) (hln : X.env.kindOf n = some .local)
      (hsu : ∀ (a : Addr) (oe : Obj) (pn : List (Addr × Obj)) (c : Str) (D : Addr), Zc (.ref D) none oe → (∃ vs, oe.data = .fields vs) → X.mg c = some (.ref D) → PSs (X.suite a ((a, oe) :: pn)) (b₀ :: suite) (tXs X S fr i a (h.ms c))) (r : HOk X S fr hds l) :
      HOk X S fr (.ExceptHandler (some (.Name x np)) (some n) (b₀ :: suite) pos' :: hds) (h :: l)
section
variable {X : Cx} {W : WX} {S : S0} {fr : Bool} {G : Addr → Prop} {Dn : Ends}
def tsOf (X : Cx) (S : S0) (fr : Bool) (h : Hd) (a : Addr) (cls : Value) (d : Option Addr) : TS := fun Dn σ H => ∃ c D, cls = .ref D ∧ d = none ∧ X.mg c = some (.ref D) ∧ (match h.io with
  | none => tS X W0 S fr (h.ms c) Dn σ H
  | some i => tXs X S fr i a (h.ms c) Dn σ H)
theorem clsOk_of {hds : List ExceptHandler} {l : List Hd} (h : HOk X S fr hds l) : ∃ cs : List Cl, ClsOk X hds cs ∧ ∀ (η : Sto) (σ : L2.St) (H : Hp) (c : Str) (D : Addr), X.mg c = some (.ref D) → S.to η σ H → Ok G X.K η σ H → PostS X W S fr G Dn η σ H (pickH l c η) →
    wMix X.K (fun cls d τ J => W cls d τ J) Dn cs (.ref D) none σ H := by
  induction h with
  | nil => exact ⟨[], .nil, fun η σ H c D hD t ok h => h D σ H hD .refl ok⟩
  | @cons0 x h b₀ suite np pos' hds l hcl hx hg hdb hn hsu r ih =>
    obtain ⟨cs, h1, h2⟩ := ih
    obtain ⟨C, bmB, B, newId, initId, gC, F, q, kC, k1, k2⟩ := hx.ex
    refine ⟨⟨.ref C, none, tsOf X S fr h⟩ :: cs, .cons ⟨hg, hdb, .inl gC⟩ (.inl ⟨rfl, rfl⟩) (fun a oe cls d pn hz hf => ⟨fun pins s σ H D I ⟨c, D', e1, e2, hm, q⟩ => ?_⟩) h1, fun η σ H c D hD t ok hp => ?_⟩
    · subst e1 e2
      rw [hn] at q
      exact (hsu a oe pn c D' hz hf hm).run pins s σ H D I q
    · unfold pickH at hp
      cases qc : h.l.lookup c with
      | none => rw [qc] at hp; exact hp.elim
      | some b =>
        rw [qc] at hp
        refine ⟨b, ?_, fun e a ha => ?_, fun e => ?_⟩
        · obtain ⟨D', C', e1, e2, e3⟩ := (hcl (c, b) (lookup_mem qc)).ex
          cases hD.symm.trans e1
          cases gC.symm.trans e2
          exact e3
        · subst e
          refine ⟨c, D, rfl, rfl, hD, ?_⟩
          rw [hn]
          simp only [runH, hn] at hp
          refine ⟨G, η, t, ok, ?_⟩
          cases qm : h.ms c η with
          | nx η3 => rw [qm] at hp; exact hp
          | rt d η3 => rw [qm] at hp; exact hp
          | bk η3 => rw [qm] at hp; exact False.elim hp
          | ct η3 => rw [qm] at hp; exact False.elim hp
          | exc c3 η3 => rw [qm] at hp; exact False.elim hp
          | bad => rw [qm] at hp; exact False.elim hp
        · subst e
          exact h2 η σ H c D hD t ok hp
  | @cons1 x n h i b₀ suite np pos' hds l hcl hx hg hdb hn hi hln hsu r ih =>
    obtain ⟨cs, h1, h2⟩ := ih
    obtain ⟨C, bmB, B, newId, initId, gC, F, q, kC, k1, k2⟩ := hx.ex
    refine ⟨⟨.ref C, some i, tsOf X S fr h⟩ :: cs, .cons ⟨hg, hdb, .inl gC⟩ (.inr ⟨n, i, rfl, rfl, hi, hln⟩) (fun a oe cls d pn hz hf => ⟨fun pins s σ H D I ⟨c, D', e1, e2, hm, q⟩ => ?_⟩) h1, fun η σ H c D hD t ok hp => ?_⟩
    · subst e1 e2
      rw [hn] at q
      exact (hsu a oe pn c D' hz hf hm).run pins s σ H D I q
    · unfold pickH at hp
      cases qc : h.l.lookup c with
      | none => rw [qc] at hp; exact hp.elim
      | some b =>
        rw [qc] at hp
        refine ⟨b, ?_, fun e a ha => ?_, fun e => ?_⟩
        · obtain ⟨D', C', e1, e2, e3⟩ := (hcl (c, b) (lookup_mem qc)).ex
          cases hD.symm.trans e1
          cases gC.symm.trans e2
          exact e3
        · subst e
          refine ⟨c, D, rfl, rfl, hD, ?_⟩
          rw [hn]
          simp only [runH, hn] at hp
          by_cases hcs : canSet η i = true
          · rw [if_pos hcs] at hp
            have hi' : i < σ.length := by rw [← ok.len]; exact canSet_lt hcs
            obtain ⟨o2, s2⟩ := no_ok (x := some (V.ref a)) ok hcs
            refine ⟨G, η.set i .no, StepS.trans t s2, o2, List.getElem?_set_self hi', ?_⟩
            have h2 := hp.later s2
            cases qm : h.ms c (η.set i .no) with
            | nx η3 =>
              rw [qm] at h2
              intro σ3 H3 s3 o3
              unfold sufS at h2
              simp only at h2
              by_cases hc3 : canSet η3 i = true
              · rw [if_pos hc3] at h2
                obtain ⟨o4, s4⟩ := no_ok (x := none) o3 hc3
                exact h2 _ _ (s3.trans s4) o4
              · rw [if_neg hc3] at h2
                exact h2.elim
            | rt d η3 => rw [qm] at h2; exact h2
            | bk η3 => rw [qm] at h2; exact False.elim h2
            | ct η3 => rw [qm] at h2; exact False.elim h2
            | exc c3 η3 => rw [qm] at h2; exact False.elim h2
            | bad => rw [qm] at h2; exact False.elim h2
          · rw [if_neg hcs] at hp
            exact hp.elim
        · subst e
          exact h2 η σ H c D hD t ok hp
theorem psd_tryM {body : List Stmt} {h₀ : ExceptHandler} {hds : List ExceptHandler} {l : List Hd} {mb : MS} {pos : Pos} (hs : X.stack = X.env :: X.outer) (hf : X.env.frame = some X.env.locals) (hN : X.N.Nodup) (tk : Takes X W)
    (hb : ∀ (W' : WX) (pn : List (Addr × Obj)) (xe : Value → Shared → Prop), Takes (X.tr pn xe) W' → PassesOwn (model X.prog X.w) X.A X.env xe → PSsd (X.tr pn xe) W' S fr body mb) (hh : HOk X S fr (h₀ :: hds) l) :
    PSd X W S fr (.Try body (h₀ :: hds) [] [] pos) (tryM mb l) := by
  obtain ⟨cs, h1, _⟩ := clsOk_of (W := W) (G := fun _ => False) (Dn := ⟨fun _ _ => True, fun _ _ => True, fun _ _ => True, fun _ _ => True⟩) hh
  refine ⟨fun pins s σ H D I ⟨G, η, t, ok, h⟩ => ?_⟩
  obtain ⟨cs, h1, h2⟩ := clsOk_of (W := W) (G := G) (Dn := D) hh
  refine (ps_try_mix (tb := fun W' => tS X W' S fr mb) (Wout := W) hs hf hN tk (fun W' pn xe t p => hb W' pn xe t p) h1).run pins s σ H D I ⟨G, η, t, ok, ?_⟩
  unfold tryM at h
  cases qb : mb η with
  | exc c η' =>
    rw [qb] at h
    intro C σ' H' hC s1 o1
    exact h2 η' σ' H' c C hC (StepS.trans t s1) o1 (h.later s1)
  | nx η' => rw [qb] at h; exact h
  | bk η' => rw [qb] at h; exact h
  | ct η' => rw [qb] at h; exact h
  | rt d η' => rw [qb] at h; exact h
  | bad => rw [qb] at h; exact h
end
/-! ### tests in a suite that look at the exception -/
def tXt (X : Cx) (i : Nat) (a : Addr) (m : M Bool) : TT := fun σ H Q => σ[i]? = some (some (V.ref a)) ∧ tT X W0 m σ H Q
def PXT (X : Cx) (i : Nat) (a : Addr) (e : Expr) (m : M Bool) : Prop := PT X e (tXt X i a m)
def PXW (X : Cx) (i : Nat) (a : Addr) (e : Expr) (m : M Bool) : Prop := PW X e (tXt X i a m)
section
variable {X : Cx} {i : Nat} {a : Addr} {e e1 e2 e3 : Expr} {m m1 m2 : M D} {t t1 t2 : M Bool} {pos : Pos} {S : S0} {fr : Bool}
theorem PXW.pt (h : PXW X i a e t) : PXT X i a e t := PW.pt h
theorem px_tst (h : PXd X i a e m) (he : ∀ whole, isTrue e X.env whole = (do let v ← whole; standAt e.pos; holding [v] (truthy v)) := by intro _; rfl) : PXT X i a e (tsT m) :=
  PT.weak (pt_val h he) fun σ H Q ⟨hx, G, η, ok, h⟩ => ⟨hx, G, η, ok, (Post.bind (R := RD X G σ) h).imp fun x H1 ⟨η1, d, a1⟩ => by
    obtain ⟨k, ek, q⟩ := Post.ofB a1.ok a1.post
    have e := asB_some ek
    subst e
    exact ⟨k, a1.r, q⟩⟩
theorem px_tand1 (h : PXT X i a e t) : PXW X i a (.BoolOp .And [e] pos) t := pw_and1 h
theorem px_tand {rest : List Expr} (h1 : PXT X i a e1 t1) (h2 : PXW X i a (.BoolOp .And (e2 :: rest) pos) t2) : PXW X i a (.BoolOp .And (e1 :: e2 :: rest) pos) (anT t1 t2) :=
  PW.weak (pw_and h1 h2) fun σ H Q ⟨hx, G, η, ok, h⟩ => ⟨hx, G, η, ok, (Post.bind (R := RB) h).imp fun c H1 ⟨η1, d, a1⟩ => by
    have e : d = c := a1.r
    subst e
    cases d with
    | true => exact iteT ⟨hx, G, η1, a1.ok, a1.post⟩
    | false => exact iteF (a1.post false H1 .refl .refl a1.ok rfl)⟩
theorem px_tnot (h : PXT X i a e t) : PXT X i a (.UnaryOp .Not e pos) (ntT t) :=
  PT.weak (pt_not h) fun σ H Q ⟨hx, G, η, ok, h⟩ => ⟨hx, G, η, ok, (Post.bind (R := RB) h).imp fun c H1 ⟨η1, d, a1⟩ => by
    have e : d = c := a1.r
    subst e
    exact a1.post (!d) H1 .refl .refl a1.ok rfl⟩
theorem px_if (hc : PXT X i a e1 t) (ha : PXd X i a e2 m1) (hb : PXd X i a e3 m2) : PXd X i a (.IfExp e1 e2 e3 pos) (ifD t m1 m2) :=
  PE.weak (pe_ifExp hc ha hb) fun σ H Q ⟨hx, G, η, ok, h⟩ => ⟨hx, G, η, ok, (Post.bind (R := RB) h).imp fun c H1 ⟨η1, d, a1⟩ => by
    have e : d = c := a1.r
    subst e
    cases d with
    | true => exact iteT ⟨hx, G, η1, a1.ok, a1.post⟩
    | false => exact iteF ⟨hx, G, η1, a1.ok, a1.post⟩⟩
theorem psx_of {st : List Stmt} {mb : MS} {ax : Addr} {pn : List (Addr × Obj)} {oe : Obj} (h : PSsd (X.suite ax ((ax, oe) :: pn)) W0 S fr st mb) : PSs (X.suite ax ((ax, oe) :: pn)) st (tXs X S fr i ax mb) :=
  PSs.weak h fun Dn σ H ⟨G, η, t, ok, _, h⟩ => ⟨G, η, t, ok, h⟩
end
/-! ### what no rule serves -/
def badS : MS := fun _ => .bad
section
variable {X : Cx} {W : WX} {S : S0} {fr : Bool}
theorem psd_bad {st : Stmt} : PSd X W S fr st badS := ⟨fun pins s σ H D I ⟨_, _, _, _, h⟩ => h.elim⟩
theorem pssd_bad {st : List Stmt} : PSsd X W S fr st badS := ⟨fun pins s σ H D I ⟨_, _, _, _, h⟩ => h.elim⟩
theorem pd_bad {e : Expr} : PEd X W e badM := ⟨fun pins s σ H Q I ⟨_, _, _, h⟩ => h.elim⟩
theorem pf_bad {e : Expr} : PFd X W e badM := ⟨fun pins s σ H Q I ⟨_, _, _, h⟩ => h.elim⟩
end
theorem defF_bad {P : Program} {w : World} {K : PySem.W.Frag} {mg : Str → Option Value} {base : Heap} {x : Str} {st : Stmt} {ps : List Str} {kn : List Nat} {n : Nat} (T : FunX K mg x st ps kn) (k : Nat) : Def P w K mg base x ps kn k (spF K mg n badM) := by
  obtain ⟨f, fd, F, hm, hb, hk⟩ := T.ex
  exact ⟨f, fd, hm, F.kp, hb, hk, F.lk, ⟨fun vs H Q E ⟨_, _, _, _, q⟩ => q.elim, fun A outer s H args us vs Q E _ _ _ _ ⟨_, _, _, _, q⟩ => q.elim⟩⟩
/-! ### names of the module that hold data -/
mutual
def GVal (K : PySem.W.Frag) : D → Value → Prop
  | .non, u => u = .none
  | .bl b, u => u = .bool b
  | .int i, u => ∃ t, u = .int i t
  | .str x, u => ∃ t, u = .str x t
  | .tup ds, u => ∃ a o its n, u = .ref a ∧ K.lookup a = some o ∧ o.cls = .type "tuple" ∧ o.data = .seq its n ∧ its.size ≤ sizeLine ∧ GVals K ds its.toList
  | _, _ => False
def GVals (K : PySem.W.Frag) : List D → List Value → Prop
  | [], us => us = []
  | d :: ds, us => ∃ u r, us = u :: r ∧ GVal K d u ∧ GVals K ds r
end
mutual
theorem GVal.den {K : PySem.W.Frag} : ∀ (d : D) {u : Value}, GVal K d u → ∃ v, RelV v u ∧ ∀ Z H, Den Z K H d v
  | .non, u, h => ⟨.non, by unfold GVal at h; exact h, fun _ _ => rfl⟩
  | .bl b, u, h => ⟨.bl b, by unfold GVal at h; exact h, fun _ _ => rfl⟩
  | .int i, u, h => ⟨.int i, by unfold GVal at h; exact h, fun _ _ => rfl⟩
  | .str x, u, h => ⟨.str x, by unfold GVal at h; exact h, fun _ _ => rfl⟩
  | .tup ds, u, ⟨a, o, its, n, e, l, c, s, z, g⟩ => by
    obtain ⟨vs, r, dn⟩ := GVals.dens ds g
    exact ⟨.ref a, e, fun Z H => ⟨a, vs, rfl, .inr ⟨o, its, n, l, c, s, z, r⟩, dn Z H⟩⟩
  | .lst _, _, h => h.elim
  | .dct _ _, _, h => h.elim
  | .scr _, _, h => h.elim
theorem GVals.dens {K : PySem.W.Frag} : ∀ (ds : List D) {us : List Value}, GVals K ds us → ∃ vs, L2.Vals vs us ∧ ∀ Z H, Dens Z K H ds vs
  | [], _, h => by cases h; exact ⟨[], .nil, fun _ _ => rfl⟩
  | d :: ds, _, ⟨u, r, e, h1, h2⟩ => by
    subst e
    obtain ⟨v, rv, dv⟩ := GVal.den d h1
    obtain ⟨vs, rs, dvs⟩ := GVals.dens ds h2
    exact ⟨v :: vs, .cons rv rs, fun Z H => ⟨v, vs, rfl, dv Z H, dvs Z H⟩⟩
end
structure GlobX (K : PySem.W.Frag) (mg : Str → Option Value) (x : Str) (d : D) : Prop where
  ex : ∃ u, mg x = some u ∧ GVal K d u
theorem pd_globX {X : Cx} {W : WX} {x : Str} {d : D} {pos : Pos} (T : GlobX X.K X.mg x d) (hg : Gl X x) (hdb : (x == ("__debug__" : Str)) = false := by decide) : PEd X W (.Name x pos) (cD d) := by
  obtain ⟨u, hm, g⟩ := T.ex
  obtain ⟨v, r, dn⟩ := GVal.den d g
  exact pd_c (pe_glob hg hm r hdb) fun Z H => dn Z H
theorem globX_mk {K : PySem.W.Frag} {h : Heap} {mg : Str → Option Value} {x : Str} {d : D} {u : Value} (X : K.In h) (G : h.Ns mainGlobals mg) (a : PySem.W.nsIn K mainGlobals x = some (some u)) (g : GVal K d u) : GlobX K mg x d := ⟨u, PySem.W.mg_of X G a, g⟩
abbrev GlobXT {K : PySem.W.Frag} {h : Heap} (_ : K.In h) (mg : Str → Option Value) (x : Str) (d : D) : Prop := GlobX K mg x d
theorem gval_tup {K : PySem.W.Frag} {ds : List D} {a : Addr} {dc : Option Addr} {its : Array Value} {n : Nat} {sl : Array (Option Value)} (l : K.lookup a = some ⟨.type "tuple", dc, .seq its n, sl⟩) (z : its.size ≤ sizeLine) (g : GVals K ds its.toList) : GVal K (.tup ds) (.ref a) := ⟨a, _, its, n, rfl, l, rfl, rfl, z, g⟩
def zpI (m : M (List D)) : M (List D) := do let ds ← m; M.of (zipD ds)
end Pd

namespace Pd
open PySem L2
/-! ### sets of slots, ways, lists: steps for plain data -/
structure Ix (p : Prop) (Q : p → Prop) : Prop where
  a : p
  b : Q a
section
variable {α β : Type} {Q : D → Prop} {QB : Bool → Prop} {QL : List D → Prop} {ds es : List D} {d : D} {f : α → D} {g : β → D} {xs : List α} {ys : List β} {i n : Nat} {b : Bool} {k : Int}
instance : PR (Som (itemsD (.tup ds)) QL) (QL ds) := ⟨fun h => ⟨_, rfl, h⟩⟩
instance : PR (Som (itemsD (.lst ds)) QL) (QL ds) := ⟨fun h => ⟨_, rfl, h⟩⟩
instance : PR (Som (tupleD [.lst ds]) Q) (Q (.tup ds)) := ⟨fun h => ⟨_, rfl, h⟩⟩
instance : PR (Som (tupleD [.tup ds]) Q) (Q (.tup ds)) := ⟨fun h => ⟨_, rfl, h⟩⟩
instance : PR (Som (listD [.tup ds]) Q) (Q (.lst ds)) := ⟨fun h => ⟨_, rfl, h⟩⟩
instance : PR (Som (listD [.lst ds]) Q) (Q (.lst ds)) := ⟨fun h => ⟨_, rfl, h⟩⟩
theorem zip_map : ∀ {xs : List α} {ys : List β}, List.zipWith (fun d e => D.tup [d, e]) (xs.map f) (ys.map g) = (xs.zip ys).map fun p => .tup [f p.1, g p.2]
  | [], _ => by simp
  | _ :: _, [] => by simp
  | x :: xs, y :: ys => by
    simp only [List.map_cons, List.zipWith_cons_cons, List.zip_cons_cons]
    rw [zip_map]
instance : PR (Som (zipD [.tup (xs.map f), .tup (ys.map g)]) QL) (QL ((xs.zip ys).map fun p => .tup [f p.1, g p.2])) := ⟨fun h => ⟨_, rfl, by rw [zip_map]; exact h⟩⟩
instance : PR (Som (zipD [.lst (xs.map f), .lst (ys.map g)]) QL) (QL ((xs.zip ys).map fun p => .tup [f p.1, g p.2])) := ⟨fun h => ⟨_, rfl, by rw [zip_map]; exact h⟩⟩
theorem bls_map {p : α → Bool} : ∀ {xs : List α}, bls (xs.map fun x => .bl (p x)) = some (xs.map p)
  | [] => rfl
  | x :: xs => by
    rw [List.map_cons]
    show (bls _).map _ = _
    rw [bls_map]
    rfl
theorem all_map {p : α → Bool} : allD [.lst (xs.map fun x => .bl (p x))] = some (.bl (xs.all p)) := by
  show (bls _).map (fun bs => D.bl (bs.all id)) = _
  rw [bls_map]
  simp [List.all_map]
theorem any_map {p : α → Bool} : anyD [.lst (xs.map fun x => .bl (p x))] = some (.bl (xs.any p)) := by
  show (bls _).map (fun bs => D.bl (bs.any id)) = _
  rw [bls_map]
  simp [List.any_map]
instance {p : α → Bool} : PR (Som (allD [.lst (xs.map fun x => .bl (p x))]) Q) (Q (.bl (xs.all p))) := ⟨fun h => ⟨_, all_map, h⟩⟩
instance {p : α → Bool} : PR (Som (anyD [.lst (xs.map fun x => .bl (p x))]) Q) (Q (.bl (xs.any p))) := ⟨fun h => ⟨_, any_map, h⟩⟩
theorem ix_map (h : i < xs.length) : idxD (.tup (xs.map f)) (.int (i : Int)) = some (f xs[i]) := by
  show (ixN (xs.map f).length (i : Int)).bind (fun j => (xs.map f)[j]?) = _
  rw [ixN_nat (by omega) (by rw [List.length_map]; omega)]
  show (xs.map f)[(i : Int).toNat]? = _
  rw [Int.toNat_natCast, List.getElem?_map, List.getElem?_eq_getElem h]
  rfl
instance : PR (Som (idxD (.tup (xs.map f)) (.int (i : Int))) Q) (Ix (i < xs.length) fun h => Q (f xs[i])) := ⟨fun ⟨e, h⟩ => ⟨_, ix_map e, h⟩⟩
instance : PR (Som (idxD (.lst (xs.map f)) (.int (i : Int))) Q) (Ix (i < xs.length) fun h => Q (f xs[i])) := ⟨fun ⟨e, h⟩ => ⟨_, ix_map (f := f) e, h⟩⟩
theorem ix_raw (h : i < ds.length) : idxD (.tup ds) (.int (i : Int)) = some ds[i] := by
  have := ix_map (f := id) (xs := ds) h
  rw [List.map_id] at this
  exact this
instance {ds : List D} : PR (Som (idxD (.tup (d :: ds)) (.int 0)) Q) (Q d) := ⟨fun h => ⟨_, ix_raw (ds := d :: ds) (i := 0) (by simp), h⟩⟩
instance {ds : List D} {e : D} : PR (Som (idxD (.tup (d :: e :: ds)) (.int 1)) Q) (Q e) := ⟨fun h => ⟨_, ix_raw (ds := d :: e :: ds) (i := 1) (by simp), h⟩⟩
-- an empty one
theorem eqE_t : eqD (.tup ds) (.tup []) = some ds.isEmpty := rfl
theorem eqE_l : eqD (.lst ds) (.lst []) = some ds.isEmpty := rfl
instance : PR (Som (eqD (.tup ds) (.tup [])) QB) (QB ds.isEmpty) := ⟨fun h => ⟨_, rfl, h⟩⟩
instance : PR (Som (eqD (.lst ds) (.lst [])) QB) (QB ds.isEmpty) := ⟨fun h => ⟨_, rfl, h⟩⟩
instance : PR (Som (neD (.tup ds) (.tup [])) QB) (QB (!ds.isEmpty)) := ⟨fun h => ⟨_, rfl, h⟩⟩
instance : PR (Som (neD (.lst ds) (.lst [])) QB) (QB (!ds.isEmpty)) := ⟨fun h => ⟨_, rfl, h⟩⟩
theorem range0 : ∀ n : Nat, rangeL 0 n = (List.range n).map fun i : Nat => D.int (i : Int) := fun n => by
  unfold rangeL
  congr 1
  funext i
  rw [Int.zero_add]
theorem range1_nat (e : (n : Int) < 2 ^ 62) : range1D [.int (n : Int)] = some ((List.range n).map fun i : Nat => D.int (i : Int)) := by
  have z : -(2 ^ 62) ≤ (n : Int) := Int.le_trans (b := 0) (by decide) (Int.natCast_nonneg n)
  dsimp only [range1D]
  rw [if_pos ⟨z, e⟩, Int.toNat_natCast, range0]
instance : PR (Som (range1D [.int (n : Int)]) QL) (Sd ((n : Int) < 2 ^ 62) (QL ((List.range n).map fun i : Nat => D.int (i : Int)))) := ⟨fun ⟨e, h⟩ => ⟨_, range1_nat e, h⟩⟩
end
/-! slices -/
theorem cut_to (ds : List D) (k : Nat) : cutL ds none (some (k : Int)) = ds.take k := by
  unfold cutL
  rw [HT.sIx_none, HT.sIx_nat, List.drop_zero, Nat.sub_zero]
  by_cases h : k ≤ ds.length
  · rw [Nat.min_eq_left h]
  · rw [Nat.min_eq_right (by omega), List.take_of_length_le (by omega), List.take_of_length_le (by omega)]
theorem cut_from (ds : List D) (k : Nat) : cutL ds (some (k : Int)) none = ds.drop k := by
  unfold cutL
  rw [HT.sIx_none, HT.sIx_nat]
  by_cases h : k ≤ ds.length
  · rw [Nat.min_eq_left h, List.take_of_length_le (by rw [List.length_drop]; omega)]
  · rw [Nat.min_eq_right (by omega), List.drop_eq_nil_of_le (Nat.le_refl _), List.drop_eq_nil_of_le (by omega), List.take_nil]
section
variable {Q : D → Prop} {ds : List D} {k : Nat}
instance : PR (Som (cutD (.tup ds) none (some (k : Int))) Q) (Q (.tup (ds.take k))) := ⟨fun h => ⟨_, rfl, by rw [cut_to]; exact h⟩⟩
instance : PR (Som (cutD (.tup ds) (some (k : Int)) none) Q) (Q (.tup (ds.drop k))) := ⟨fun h => ⟨_, rfl, by rw [cut_from]; exact h⟩⟩
instance : PR (Som (cutD (.tup ds) none (some ((k : Int) + 1))) Q) (Q (.tup (ds.take (k + 1)))) := ⟨fun h => ⟨_, rfl, by rw [show (k : Int) + 1 = ((k + 1 : Nat) : Int) by omega, cut_to]; exact h⟩⟩
instance : PR (Som (cutD (.tup ds) (some ((k : Int) + 1)) none) Q) (Q (.tup (ds.drop (k + 1)))) := ⟨fun h => ⟨_, rfl, by rw [show (k : Int) + 1 = ((k + 1 : Nat) : Int) by omega, cut_from]; exact h⟩⟩
instance : PR (Som (cutD (.tup ds) (some 1) none) Q) (Q (.tup (ds.drop 1))) := ⟨fun h => ⟨_, rfl, by rw [show (1 : Int) = ((1 : Nat) : Int) by rfl, cut_from]; exact h⟩⟩
theorem cut_last (ds : List D) : cutL ds none (some (-1)) = ds.take (ds.length - 1) := by
  unfold cutL
  have : HT.sIx ds.length ds.length (some (-1)) = ds.length - 1 := by
    show (if (-1 : Int) < 0 then ((-1 : Int) + (ds.length : Int)).toNat else min (-1 : Int).toNat ds.length) = _
    rw [if_pos (by decide)]
    omega
  rw [HT.sIx_none, this, List.drop_zero, Nat.sub_zero]
instance : PR (Som (cutD (.tup ds) none (some (-1))) Q) (Q (.tup (ds.take (ds.length - 1)))) := ⟨fun h => ⟨_, rfl, by rw [cut_last]; exact h⟩⟩
end
/-! kinds that are known -/
section
variable {A B : Prop}
instance  : PR (Br (isTup .non) A B) B := ⟨fun h => Br.isnt rfl h⟩
instance {b : Bool} : PR (Br (isTup (.bl b)) A B) B := ⟨fun h => Br.isnt rfl h⟩
instance {i : Int} : PR (Br (isTup (.int i)) A B) B := ⟨fun h => Br.isnt rfl h⟩
instance {x : Str} : PR (Br (isTup (.str x)) A B) B := ⟨fun h => Br.isnt rfl h⟩
instance {ds : List D} : PR (Br (isTup (.tup ds)) A B) A := ⟨fun h => Br.is rfl h⟩
instance {ds : List D} : PR (Br (isTup (.lst ds)) A B) B := ⟨fun h => Br.isnt rfl h⟩
instance {ks : List Key} {ds : List D} : PR (Br (isTup (.dct ks ds)) A B) B := ⟨fun h => Br.isnt rfl h⟩
instance {ns : List Int} : PR (Br (isTup (.scr ns)) A B) B := ⟨fun h => Br.isnt rfl h⟩
instance  : PR (Br (isLst .non) A B) B := ⟨fun h => Br.isnt rfl h⟩
instance {b : Bool} : PR (Br (isLst (.bl b)) A B) B := ⟨fun h => Br.isnt rfl h⟩
instance {i : Int} : PR (Br (isLst (.int i)) A B) B := ⟨fun h => Br.isnt rfl h⟩
instance {x : Str} : PR (Br (isLst (.str x)) A B) B := ⟨fun h => Br.isnt rfl h⟩
instance {ds : List D} : PR (Br (isLst (.tup ds)) A B) B := ⟨fun h => Br.isnt rfl h⟩
instance {ds : List D} : PR (Br (isLst (.lst ds)) A B) A := ⟨fun h => Br.is rfl h⟩
instance {ks : List Key} {ds : List D} : PR (Br (isLst (.dct ks ds)) A B) B := ⟨fun h => Br.isnt rfl h⟩
instance {ns : List Int} : PR (Br (isLst (.scr ns)) A B) A := ⟨fun h => Br.is rfl h⟩
instance  : PR (Br (isBl .non) A B) B := ⟨fun h => Br.isnt rfl h⟩
instance {b : Bool} : PR (Br (isBl (.bl b)) A B) A := ⟨fun h => Br.is rfl h⟩
instance {i : Int} : PR (Br (isBl (.int i)) A B) B := ⟨fun h => Br.isnt rfl h⟩
instance {x : Str} : PR (Br (isBl (.str x)) A B) B := ⟨fun h => Br.isnt rfl h⟩
instance {ds : List D} : PR (Br (isBl (.tup ds)) A B) B := ⟨fun h => Br.isnt rfl h⟩
instance {ds : List D} : PR (Br (isBl (.lst ds)) A B) B := ⟨fun h => Br.isnt rfl h⟩
instance {ks : List Key} {ds : List D} : PR (Br (isBl (.dct ks ds)) A B) B := ⟨fun h => Br.isnt rfl h⟩
instance {ns : List Int} : PR (Br (isBl (.scr ns)) A B) B := ⟨fun h => Br.isnt rfl h⟩
instance  : PR (Br (isInt .non) A B) B := ⟨fun h => Br.isnt rfl h⟩
instance {b : Bool} : PR (Br (isInt (.bl b)) A B) A := ⟨fun h => Br.is rfl h⟩
instance {i : Int} : PR (Br (isInt (.int i)) A B) A := ⟨fun h => Br.is rfl h⟩
instance {x : Str} : PR (Br (isInt (.str x)) A B) B := ⟨fun h => Br.isnt rfl h⟩
instance {ds : List D} : PR (Br (isInt (.tup ds)) A B) B := ⟨fun h => Br.isnt rfl h⟩
instance {ds : List D} : PR (Br (isInt (.lst ds)) A B) B := ⟨fun h => Br.isnt rfl h⟩
instance {ks : List Key} {ds : List D} : PR (Br (isInt (.dct ks ds)) A B) B := ⟨fun h => Br.isnt rfl h⟩
instance {ns : List Int} : PR (Br (isInt (.scr ns)) A B) B := ⟨fun h => Br.isnt rfl h⟩
instance  : PR (Br (isStr .non) A B) B := ⟨fun h => Br.isnt rfl h⟩
instance {b : Bool} : PR (Br (isStr (.bl b)) A B) B := ⟨fun h => Br.isnt rfl h⟩
instance {i : Int} : PR (Br (isStr (.int i)) A B) B := ⟨fun h => Br.isnt rfl h⟩
instance {x : Str} : PR (Br (isStr (.str x)) A B) A := ⟨fun h => Br.is rfl h⟩
instance {ds : List D} : PR (Br (isStr (.tup ds)) A B) B := ⟨fun h => Br.isnt rfl h⟩
instance {ds : List D} : PR (Br (isStr (.lst ds)) A B) B := ⟨fun h => Br.isnt rfl h⟩
instance {ks : List Key} {ds : List D} : PR (Br (isStr (.dct ks ds)) A B) B := ⟨fun h => Br.isnt rfl h⟩
instance {ns : List Int} : PR (Br (isStr (.scr ns)) A B) B := ⟨fun h => Br.isnt rfl h⟩
instance  : PR (Br (isDct .non) A B) B := ⟨fun h => Br.isnt rfl h⟩
instance {b : Bool} : PR (Br (isDct (.bl b)) A B) B := ⟨fun h => Br.isnt rfl h⟩
instance {i : Int} : PR (Br (isDct (.int i)) A B) B := ⟨fun h => Br.isnt rfl h⟩
instance {x : Str} : PR (Br (isDct (.str x)) A B) B := ⟨fun h => Br.isnt rfl h⟩
instance {ds : List D} : PR (Br (isDct (.tup ds)) A B) B := ⟨fun h => Br.isnt rfl h⟩
instance {ds : List D} : PR (Br (isDct (.lst ds)) A B) B := ⟨fun h => Br.isnt rfl h⟩
instance {ks : List Key} {ds : List D} : PR (Br (isDct (.dct ks ds)) A B) A := ⟨fun h => Br.is rfl h⟩
instance {ns : List Int} : PR (Br (isDct (.scr ns)) A B) B := ⟨fun h => Br.isnt rfl h⟩
instance  : PR (Br (isNon .non) A B) A := ⟨fun h => Br.is rfl h⟩
instance {b : Bool} : PR (Br (isNon (.bl b)) A B) B := ⟨fun h => Br.isnt rfl h⟩
instance {i : Int} : PR (Br (isNon (.int i)) A B) B := ⟨fun h => Br.isnt rfl h⟩
instance {x : Str} : PR (Br (isNon (.str x)) A B) B := ⟨fun h => Br.isnt rfl h⟩
instance {ds : List D} : PR (Br (isNon (.tup ds)) A B) B := ⟨fun h => Br.isnt rfl h⟩
instance {ds : List D} : PR (Br (isNon (.lst ds)) A B) B := ⟨fun h => Br.isnt rfl h⟩
instance {ks : List Key} {ds : List D} : PR (Br (isNon (.dct ks ds)) A B) B := ⟨fun h => Br.isnt rfl h⟩
instance {ns : List Int} : PR (Br (isNon (.scr ns)) A B) B := ⟨fun h => Br.isnt rfl h⟩
instance {c : Bool} : PR (Br (true && c) A B) (Br c A B) := ⟨fun h => by rw [Bool.true_and]; exact h⟩
instance {c : Bool} : PR (Br (false && c) A B) B := ⟨fun h => Br.isnt rfl h⟩
instance {c : Bool} : PR (Br (true || c) A B) A := ⟨fun h => Br.is rfl h⟩
instance {c : Bool} : PR (Br (false || c) A B) (Br c A B) := ⟨fun h => by rw [Bool.false_or]; exact h⟩
instance {α : Type} {a : α} {l : List α} : PR (Br (a :: l).isEmpty A B) B := ⟨fun h => Br.isnt rfl h⟩
instance {α : Type} : PR (Br (List.isEmpty ([] : List α)) A B) A := ⟨fun h => Br.is rfl h⟩
end
section
variable {α β : Type} {η : Sto} {E : Str → Sto → Prop} {Q : D → Sto → Prop} {QL : List D → Sto → Prop} {vs : List Nat} {gt : D → MS} {mt : M Bool} {me : M D} {f : α → D} {xs : List α} {K : Kt} {m : M D}
instance : PR (wp (unD lenSetD m) Q E η) (wp m (fun d η1 => Som (lenSetD d) fun x => Q x η1) E η) := ⟨fun h => wp_unD h⟩
instance {ms : M (List D)} : PR (wp (zpI ms) QL E η) (wp ms (fun d η1 => Som (zipD d) fun ds => QL ds η1) E η) := ⟨fun h => wp_bind (wp_imp h (fun _ _ h => wp_of h) fun _ _ h => h)⟩
/-- a comprehension, item by item -/
theorem wp_cfil (g : α → Option D) (hl : xs.length ≤ 1000000) (hs : ∀ x ∈ xs, wp (turnC vs gt mt me (f x)) (fun o η2 => o = g x ∧ η2 = η) NvE η) (h1 : QL (xs.filterMap g) η) : wp (compM (turnC vs gt mt me) [] (xs.map f)) QL E η := by
  have key : ∀ (xs : List α) (k : Nat), ((xs.map f).mapIdx fun i _ => ((xs.map g)[i]?).join).filterMap id = xs.filterMap g := by
    intro xs k
    induction xs with
    | nil => rfl
    | cons x xs ih =>
      rw [List.map_cons, List.map_cons, List.mapIdx_cons]
      simp only [List.getElem?_cons_zero, List.getElem?_cons_succ, Option.join]
      rw [List.filterMap_cons, List.filterMap_cons]
      simp only [id]
      cases q : g x with
      | none => exact ih
      | some y => exact congrArg (y :: ·) ih
  refine wp_compF (fun i _ => ((xs.map g)[i]?).join) (by rw [List.length_map]; exact decide_eq_true hl) (fun i d e => ?_) (by rw [key xs 0]; exact h1)
  rw [List.getElem?_map] at e
  cases q : xs[i]? with
  | none => rw [q] at e; cases e
  | some x =>
    rw [q] at e
    cases e
    have := hs x (List.mem_of_getElem? q)
    rw [List.getElem?_map, q]
    exact this
theorem wp_cmap (g : α → D) (hl : xs.length ≤ 1000000) (hs : ∀ x ∈ xs, wp (turnC vs gt mt me (f x)) (fun o η2 => o = some (g x) ∧ η2 = η) NvE η) (h1 : QL (xs.map g) η) : wp (compM (turnC vs gt mt me) [] (xs.map f)) QL E η :=
  wp_cfil (fun x => some (g x)) hl hs (by rw [List.filterMap_eq_map']; exact h1)
theorem wp_craw {ds : List D} (g : D → D) (hl : ds.length ≤ 1000000) (hs : ∀ x ∈ ds, wp (turnC vs gt mt me x) (fun o η2 => o = some (g x) ∧ η2 = η) NvE η) (h1 : QL (ds.map g) η) : wp (compM (turnC vs gt mt me) [] ds) QL E η := by
  have := wp_cmap (f := id) (xs := ds) (QL := QL) (E := E) g hl hs h1
  rw [List.map_id] at this
  exact this
theorem wp_crawf {ds : List D} (g : D → Option D) (hl : ds.length ≤ 1000000) (hs : ∀ x ∈ ds, wp (turnC vs gt mt me x) (fun o η2 => o = g x ∧ η2 = η) NvE η) (h1 : QL (ds.filterMap g) η) : wp (compM (turnC vs gt mt me) [] ds) QL E η := by
  have := wp_cfil (f := id) (xs := ds) (QL := QL) (E := E) g hl hs h1
  rw [List.map_id] at this
  exact this
/-- a loop by what holds behind the items gone through -/
theorem wps_fore {fb : D → MS} (I : List α → Sto → Prop) (h0 : I [] η) (hs : ∀ pre x post η', xs = pre ++ x :: post → I pre η' → wps (fb (f x)) ⟨I (pre ++ [x]), K.nx, I (pre ++ [x]), K.rt, K.ex⟩ η') (h1 : ∀ η', I xs η' → K.nx η') : wps (forS fb (xs.map f)) K η := by
  refine wps_for (fun i η => I (xs.take i) η) (by simpa using h0) (fun i d η' e h => ?_) (fun η' h => ?_)
  · rw [List.getElem?_map] at e
    cases q : xs[i]? with
    | none => rw [q] at e; cases e
    | some x =>
      rw [q] at e
      cases e
      have hi := (List.getElem?_eq_some_iff.mp q).1
      have e1 : xs = xs.take i ++ x :: xs.drop (i + 1) := by
        rw [← (List.getElem?_eq_some_iff.mp q).2, List.getElem_cons_drop hi, List.take_append_drop]
      have e2 : xs.take (i + 1) = xs.take i ++ [x] := by rw [List.take_add_one, q]; rfl
      have := hs _ x _ η' e1 h
      rw [e2]
      exact this
  · rw [List.length_map, List.take_length] at h
    exact h1 η' h
theorem wps_forer {fb : D → MS} {ds : List D} (I : List D → Sto → Prop) (h0 : I [] η) (hs : ∀ pre x post η', ds = pre ++ x :: post → I pre η' → wps (fb x) ⟨I (pre ++ [x]), K.nx, I (pre ++ [x]), K.rt, K.ex⟩ η') (h1 : ∀ η', I ds η' → K.nx η') : wps (forS fb ds) K η := by
  have := wps_fore (f := id) (xs := ds) (fb := fb) (K := K) I h0 hs h1
  rw [List.map_id] at this
  exact this
/-- a loop over 0 .. n - 1 -/
theorem wps_forn {fb : D → MS} {n : Nat} (I : Nat → Sto → Prop) (h0 : I 0 η) (hs : ∀ (i : Nat) (η' : Sto), i < n → I i η' → wps (fb (.int (i : Int))) ⟨I (i + 1), K.nx, I (i + 1), K.rt, K.ex⟩ η') (h1 : ∀ η', I n η' → K.nx η') : wps (forS fb ((List.range n).map fun i : Nat => D.int (i : Int))) K η := by
  rw [← range0]
  refine wps_range I h0 (fun i η' hi h => ?_) h1
  rw [Int.zero_add]
  exact hs i η' hi h
/-- several clauses -/
theorem wps_sufN {r : SRes} {η0 : Sto} (h : wps (fun _ => r) ⟨K.nx, Nv, Nv, K.rt, NvE⟩ η0) : wps (fun _ => sufN r) K η0 := by
  unfold wps at h ⊢
  cases r with
  | nx η' => exact h
  | rt d η' => exact h
  | bk η' => exact h.elim
  | ct η' => exact h.elim
  | exc c η' => exact h.elim
  | bad => exact h
def hdW (h : Hd) (c : Str) (K : Kt) (η : Sto) : Prop := match h.io with
  | none => wps (h.ms c) ⟨K.nx, Nv, Nv, K.rt, NvE⟩ η
  | some i => Rf (canSet η i = true) (wps (h.ms c) ⟨fun η'' => Rf (canSet η'' i = true) (K.nx (η''.set i .no)), Nv, Nv, K.rt, NvE⟩ (η.set i .no))
def hdsW : List Hd → Str → Kt → Sto → Prop
  | [], c, K, η => K.ex c η
  | h :: r, c, K, η => Som (h.l.lookup c) fun b => Br b (hdW h c K η) (hdsW r c K η)
theorem wps_runH {h : Hd} {c : Str} (k : hdW h c K η) : wps (runH h c) K η := by
  unfold hdW at k
  unfold wps runH
  cases q : h.io with
  | none =>
    rw [q] at k
    simp only at k ⊢
    unfold wps at k
    cases q2 : h.ms c η with
    | nx η3 => rw [q2] at k; exact k
    | rt d η3 => rw [q2] at k; exact k
    | bk η3 => rw [q2] at k; exact k.elim
    | ct η3 => rw [q2] at k; exact k.elim
    | exc c3 η3 => rw [q2] at k; exact k.elim
    | bad => rw [q2] at k; exact k.elim
  | some i =>
    rw [q] at k
    obtain ⟨e1, k⟩ := k
    simp only
    rw [if_pos e1]
    unfold wps at k
    cases q2 : h.ms c (η.set i .no) with
    | nx η3 =>
      rw [q2] at k
      obtain ⟨e3, k⟩ := k
      unfold sufS
      simp only
      rw [if_pos e3]
      exact k
    | rt d η3 => rw [q2] at k; exact k
    | bk η3 => rw [q2] at k; exact k.elim
    | ct η3 => rw [q2] at k; exact k.elim
    | exc c3 η3 => rw [q2] at k; exact k.elim
    | bad => rw [q2] at k; exact k.elim
theorem wps_pickH : ∀ {hs : List Hd} {c : Str} {η : Sto}, hdsW hs c K η → wps (pickH hs c) K η
  | [], c, η, h => by unfold wps pickH; exact h
  | h :: r, c, η, ⟨b, e, k⟩ => by
    unfold wps pickH
    rw [e]
    cases b with
    | true =>
      have := wps_runH (k.1 rfl)
      unfold wps at this
      exact this
    | false =>
      have := wps_pickH (k.2 rfl)
      unfold wps at this
      exact this
instance {hs : List Hd} {mb : MS} : PR (wps (tryM mb hs) K η) (wps mb ⟨K.nx, K.bk, K.ct, K.rt, fun c η' => hdsW hs c K η'⟩ η) := ⟨fun h => by
  unfold wps at h ⊢
  unfold tryM
  cases q : mb η with
  | nx η' => rw [q] at h; exact h
  | bk η' => rw [q] at h; exact h
  | ct η' => rw [q] at h; exact h
  | rt d η' => rw [q] at h; exact h
  | bad => rw [q] at h; exact h
  | exc c η' =>
    rw [q] at h
    have := wps_pickH h
    unfold wps at this
    exact this⟩
instance {c : Str} : PR (hdsW [] c K η) (K.ex c η) := ⟨fun h => h⟩
instance {h : Hd} {r : List Hd} {c : Str} : PR (hdsW (h :: r) c K η) (Som (h.l.lookup c) fun b => Br b (hdW h c K η) (hdsW r c K η)) := ⟨fun h => h⟩
instance {l : List (Str × Bool)} {ms : Str → MS} {c : Str} : PR (hdW ⟨l, none, ms⟩ c K η) (wps (ms c) ⟨K.nx, Nv, Nv, K.rt, NvE⟩ η) := ⟨fun h => h⟩
instance {l : List (Str × Bool)} {ms : Str → MS} {c : Str} {i : Nat} : PR (hdW ⟨l, some i, ms⟩ c K η) (Rf (canSet η i = true) (wps (ms c) ⟨fun η'' => Rf (canSet η'' i = true) (K.nx (η''.set i .no)), Nv, Nv, K.rt, NvE⟩ (η.set i .no))) := ⟨fun h => h⟩
end
end Pd

/-! fractions as they stand in tuples -/
namespace Rq
open PySem L2 Pd
def frQ (q : Rat) : D := .tup [.int q.num, .int (q.den : Int)]
def com (n d : Int) : Int := if d < 0 then -((Nat.gcd n.natAbs d.natAbs : Nat) : Int) else ((Nat.gcd n.natAbs d.natAbs : Nat) : Int)
theorem com_ne {n d : Int} (h : d ≠ 0) : com n d ≠ 0 := by
  have : 0 < Nat.gcd n.natAbs d.natAbs := Nat.gcd_pos_of_pos_right _ (by omega)
  unfold com
  split <;> omega
theorem com_n {n d : Int} : com n d ∣ n := by
  have : ((Nat.gcd n.natAbs d.natAbs : Nat) : Int) ∣ n := Int.ofNat_dvd_left.mpr (Nat.gcd_dvd_left _ _)
  unfold com
  split
  · exact Int.neg_dvd.mpr this
  · exact this
theorem com_d {n d : Int} : com n d ∣ d := by
  have : ((Nat.gcd n.natAbs d.natAbs : Nat) : Int) ∣ d := Int.ofNat_dvd_left.mpr (Nat.gcd_dvd_right _ _)
  unfold com
  split
  · exact Int.neg_dvd.mpr this
  · exact this
theorem com_abs {n d : Int} : (com n d).natAbs = Nat.gcd n.natAbs d.natAbs := by
  unfold com
  split <;> simp
theorem com_le {k : Nat} {n d : Int} (h : d ≠ 0) (hd : Sm k d) : Sm k (com n d) := by
  unfold Sm at *
  rw [com_abs]
  exact Nat.lt_of_le_of_lt (Nat.gcd_le_right _ (by omega)) hd
theorem fdiv_mul {a b : Int} (h : b ∣ a) : a.fdiv b * b = a := by
  rw [Int.fdiv_eq_ediv_of_dvd h]
  exact Int.ediv_mul_cancel h
theorem com_sign {n d : Int} (h : d ≠ 0) : 0 < d.fdiv (com n d) := by
  have e : d.fdiv (com n d) * com n d = d := fdiv_mul com_d
  have hc := com_ne (n := n) h
  by_cases hd : d < 0
  · have : com n d < 0 := by unfold com at hc ⊢; rw [if_pos hd] at hc ⊢; omega
    by_cases z : 0 < d.fdiv (com n d)
    · exact z
    · have := Int.mul_nonneg_of_nonpos_of_nonpos (show d.fdiv (com n d) ≤ 0 by omega) (show com n d ≤ 0 by omega)
      omega
  · have : 0 < com n d := by unfold com at hc ⊢; rw [if_neg hd] at hc ⊢; omega
    by_cases z : 0 < d.fdiv (com n d)
    · exact z
    · have := Int.mul_nonpos_of_nonpos_of_nonneg (show d.fdiv (com n d) ≤ 0 by omega) (show 0 ≤ com n d by omega)
      omega
/-- n over d -/
def qo (n d : Int) : Rat := Rat.divInt n d
theorem cop_q {q : Rat} {a b : Int} (hb : 0 < b) (c : Nat.gcd a.natAbs b.natAbs = 1) (e : a * q.den = q.num * b) : a = q.num ∧ b = q.den := by
  have hq := q.den_pos
  have cq : Nat.gcd q.num.natAbs q.den = 1 := q.reduced
  have e1 : a.natAbs * q.den = q.num.natAbs * b.natAbs := by
    have := congrArg Int.natAbs e
    rw [Int.natAbs_mul, Int.natAbs_mul, Int.natAbs_natCast] at this
    exact this
  have d1 : b.natAbs ∣ q.den := (Nat.Coprime.symm c : Nat.Coprime b.natAbs a.natAbs).dvd_of_dvd_mul_left (by rw [e1]; exact Nat.dvd_mul_left _ _)
  have d2 : q.den ∣ b.natAbs := (Nat.Coprime.symm cq : Nat.Coprime q.den q.num.natAbs).dvd_of_dvd_mul_left (by rw [← e1]; exact Nat.dvd_mul_left _ _)
  have e2 : b.natAbs = q.den := Nat.dvd_antisymm d1 d2
  have e3 : b = (q.den : Int) := by omega
  refine ⟨?_, e3⟩
  rw [e3] at e
  exact Int.eq_of_mul_eq_mul_right (by omega) e
theorem qo_cross {n d : Int} (h : d ≠ 0) : (qo n d).num * d = n * (qo n d).den := by
  have h1 := Rat.num_divInt_den (qo n d)
  have h2 : (qo n d) = Rat.divInt n d := rfl
  have := (Rat.divInt_eq_divInt_iff (by have := (qo n d).den_pos; omega : ((qo n d).den : Int) ≠ 0) h).mp (h1.trans h2)
  omega
theorem made_eq {n d : Int} (h : d ≠ 0) : n.fdiv (com n d) = (qo n d).num ∧ d.fdiv (com n d) = ((qo n d).den : Int) := by
  have a1 : n.fdiv (com n d) * com n d = n := fdiv_mul com_n
  have a2 : d.fdiv (com n d) * com n d = d := fdiv_mul com_d
  refine cop_q (com_sign h) ?_ ?_
  · have e1 := congrArg Int.natAbs a1
    have e2 := congrArg Int.natAbs a2
    rw [Int.natAbs_mul, com_abs] at e1 e2
    have hg : 0 < Nat.gcd n.natAbs d.natAbs := Nat.gcd_pos_of_pos_right _ (by omega)
    have := Nat.gcd_mul_right (n.fdiv (com n d)).natAbs (Nat.gcd n.natAbs d.natAbs) (d.fdiv (com n d)).natAbs
    rw [e1, e2] at this
    exact Nat.eq_of_mul_eq_mul_right hg (by rw [← this, Nat.one_mul])
  · have := qo_cross (n := n) h
    have hc := com_ne (n := n) h
    generalize n.fdiv (com n d) = x at *
    generalize d.fdiv (com n d) = y at *
    generalize com n d = c at *
    generalize (qo n d).num = u at *
    generalize ((qo n d).den : Int) = v at *
    apply Int.eq_of_mul_eq_mul_right hc
    subst a1 a2
    grind
/-! sizes -/
structure Sq (k : Nat) (q : Rat) : Prop where
  n : Sm k q.num
  d : Sm k (q.den : Int)
theorem Sq.mono {k l : Nat} {q : Rat} (h : Sq k q) (e : k ≤ l) : Sq l q := ⟨h.n.mono e, h.d.mono e⟩
theorem sm_dvd {k : Nat} {a b c : Int} (e : a * b = c) (h : b ≠ 0) (s : Sm k c) : Sm k a := by
  unfold Sm at *
  refine Nat.lt_of_le_of_lt ?_ s
  rw [← e, Int.natAbs_mul]
  exact Nat.le_mul_of_pos_right _ (by omega)
theorem Sq.qo {k : Nat} {n d : Int} (h : d ≠ 0) (hn : Sm k n) (hd : Sm k d) : Sq k (qo n d) := by
  obtain ⟨e1, e2⟩ := made_eq (n := n) h
  have hc := com_ne (n := n) h
  exact ⟨by rw [← e1]; exact sm_dvd (fdiv_mul com_n) hc hn, by rw [← e2]; exact sm_dvd (fdiv_mul com_d) hc hd⟩
theorem den_ne (q : Rat) : (q.den : Int) ≠ 0 := by
  have := q.den_pos
  omega
theorem qo_self (q : Rat) : qo q.num q.den = q := Rat.num_divInt_den q
theorem qo_int (n : Int) : qo n 1 = (n : Rat) := by
  unfold qo
  rw [Rat.divInt_eq_div]
  show (n : Rat) / ((1 : Int) : Rat) = n
  have : ((1 : Int) : Rat) = 1 := rfl
  rw [this]
  grind
theorem qo_add (p q : Rat) : qo (p.num * q.den + q.num * p.den) (p.den * q.den) = p + q := by
  unfold qo
  rw [← Rat.divInt_add_divInt _ _ (den_ne p) (den_ne q), Rat.num_divInt_den, Rat.num_divInt_den]
theorem qo_mul (p q : Rat) : qo (p.num * q.num) (p.den * q.den) = p * q := by
  unfold qo
  rw [← Rat.divInt_mul_divInt, Rat.num_divInt_den, Rat.num_divInt_den]
theorem qo_div (p q : Rat) : qo (p.num * q.den) (p.den * q.num) = p / q := by
  unfold qo
  rw [← Rat.divInt_mul_divInt, Rat.num_divInt_den, Rat.div_def]
  congr 1
  rw [Rat.divInt_eq_div]
  have e : q = (q.num : Rat) / ((q.den : Int) : Rat) := by
    rw [← Rat.divInt_eq_div]
    exact (Rat.num_divInt_den q).symm
  generalize (q.num : Rat) = a at *
  generalize ((q.den : Int) : Rat) = b at *
  subst e
  rw [Rat.div_def, Rat.div_def, Rat.inv_mul_rev, Rat.inv_inv]
theorem sm_add1 {k : Nat} {x y : Int} (h : Sm k x) (g : Sm k y) : Sm (k + 1) (x + y) := by
  unfold Sm at *
  have := Int.natAbs_add_le x y
  rw [Nat.pow_succ]
  omega
theorem Sq.add {k l : Nat} {p q : Rat} (h : Sq k p) (g : Sq l q) : Sq (k + l + 1) (p + q) := by
  rw [← qo_add]
  exact Sq.qo (Int.mul_ne_zero (den_ne p) (den_ne q)) (sm_add1 (h.n.mul g.d) ((g.n.mul h.d).mono (by omega))) ((h.d.mul g.d).mono (by omega))
theorem Sq.mul {k l : Nat} {p q : Rat} (h : Sq k p) (g : Sq l q) : Sq (k + l) (p * q) := by
  rw [← qo_mul]
  exact Sq.qo (Int.mul_ne_zero (den_ne p) (den_ne q)) (h.n.mul g.n) (h.d.mul g.d)
theorem Sq.neg {k : Nat} {p : Rat} (h : Sq k p) : Sq k (-p) := ⟨by rw [Rat.neg_num]; exact h.n.neg, h.d⟩
theorem Sq.sub {k l : Nat} {p q : Rat} (h : Sq k p) (g : Sq l q) : Sq (k + l + 1) (p - q) := by
  rw [Rat.sub_eq_add_neg]
  exact h.add g.neg
theorem num_zero {q : Rat} : q.num = 0 ↔ q = 0 := Rat.num_eq_zero
theorem Sq.div {k l : Nat} {p q : Rat} (h : Sq k p) (g : Sq l q) (hq : q ≠ 0) : Sq (k + l) (p / q) := by
  rw [← qo_div]
  exact Sq.qo (Int.mul_ne_zero (den_ne p) (fun e => hq (num_zero.mp e))) (h.n.mul g.d) (h.d.mul g.n)
theorem Sq.int {k : Nat} {n : Int} (h : Sm k n) (hk : 0 < k) : Sq k (n : Rat) := by
  refine ⟨by rw [Rat.num_intCast]; exact h, ?_⟩
  rw [Rat.den_intCast]
  show (1 : Int).natAbs < 2 ^ k
  exact Nat.one_lt_two_pow (by omega)
/-! frQ -/
theorem frQ_inj {p q : Rat} (h : frQ p = frQ q) : p = q := by
  unfold frQ at h
  injection h with h
  injection h with h1 h2
  injection h1 with h1
  injection h2 with h2
  injection h2 with h2
  exact Rat.ext h1 (by omega)
section
variable {Q : D → Prop} {QB : Bool → Prop} {p q : Rat}
instance : PR (Som (idxD (frQ q) (.int 0)) Q) (Q (.int q.num)) := ⟨fun h => ⟨_, rfl, h⟩⟩
instance : PR (Som (idxD (frQ q) (.int 1)) Q) (Q (.int (q.den : Int))) := ⟨fun h => ⟨_, rfl, h⟩⟩
theorem eq_fr : eqD (frQ p) (frQ q) = some (decide (p = q)) := by
  show (if (true && true) = true then some (PyData.eqvAll [PyData.int p.num, PyData.int p.den] [PyData.int q.num, PyData.int q.den]) else none) = _
  rw [if_pos (by rfl)]
  congr 1
  have h : PyData.eqvAll [PyData.int p.num, PyData.int p.den] [PyData.int q.num, PyData.int q.den] = ((p.num == q.num) && ((p.den : Int) == (q.den : Int) && true)) := by
    simp only [PyData.eqvAll, PyData.eqv]
  rw [h]
  by_cases e : p = q
  · subst e
    simp
  · rw [decide_eq_false e]
    cases h1 : (p.num == q.num) with
    | false => rfl
    | true =>
      cases h2 : ((p.den : Int) == (q.den : Int)) with
      | false => rfl
      | true =>
        exfalso
        have a := eq_of_beq h1
        have b := eq_of_beq h2
        exact e (Rat.ext a (by omega))
instance : PR (Som (eqD (frQ p) (frQ q)) QB) (QB (decide (p = q))) := ⟨fun h => ⟨_, eq_fr, h⟩⟩
instance : PR (Som (neD (frQ p) (frQ q)) QB) (QB (!decide (p = q))) := ⟨fun h => ⟨_, by unfold neD; rw [eq_fr]; rfl, h⟩⟩
end
/-! what is a fraction -/
def isI : D → Bool
  | .int _ => true
  | _ => false
section
variable {A B : Prop}
instance  : PR (Br (isI .non) A B) B := ⟨fun h => Br.isnt rfl h⟩
instance {b : Bool} : PR (Br (isI (.bl b)) A B) B := ⟨fun h => Br.isnt rfl h⟩
instance {i : Int} : PR (Br (isI (.int i)) A B) A := ⟨fun h => Br.is rfl h⟩
instance {x : Str} : PR (Br (isI (.str x)) A B) B := ⟨fun h => Br.isnt rfl h⟩
instance {ds : List D} : PR (Br (isI (.tup ds)) A B) B := ⟨fun h => Br.isnt rfl h⟩
instance {ds : List D} : PR (Br (isI (.lst ds)) A B) B := ⟨fun h => Br.isnt rfl h⟩
instance {ks : List Key} {ds : List D} : PR (Br (isI (.dct ks ds)) A B) B := ⟨fun h => Br.isnt rfl h⟩
instance {ns : List Int} : PR (Br (isI (.scr ns)) A B) B := ⟨fun h => Br.isnt rfl h⟩
end
def isR (n : Nat) : D → Bool
  | .tup ds => ds.length == n
  | _ => false
def toQ : D → Option Rat
  | .tup [.int a, .int b] => if 1 ≤ b ∧ Nat.gcd a.natAbs b.natAbs = 1 then some (qo a b) else none
  | _ => none
def isFr (d : D) : Bool := (toQ d).isSome
theorem toQ_fr (q : Rat) : toQ (frQ q) = some q := by
  show (if 1 ≤ (q.den : Int) ∧ Nat.gcd q.num.natAbs ((q.den : Int).natAbs) = 1 then some (qo q.num q.den) else none) = _
  rw [if_pos ⟨by have := q.den_pos; omega, q.reduced⟩, qo_self]
theorem toQ_some {d : D} {q : Rat} (h : toQ d = some q) : d = frQ q := by
  unfold toQ at h
  split at h
  · rename_i a b
    split at h
    · rename_i h1
      cases h
      have hb : b ≠ 0 := by omega
      have := cop_q (q := qo a b) (a := a) (b := b) (by omega) h1.2 (by have := qo_cross (n := a) hb; omega)
      unfold frQ
      rw [← this.1, ← this.2]
    · cases h
  · cases h
theorem frQ_qo {a b : Int} (h : 1 ≤ b) (c : Nat.gcd a.natAbs b.natAbs = 1) : D.tup [.int a, .int b] = frQ (qo a b) := toQ_some (if_pos ⟨h, c⟩)
theorem isFr_fr (q : Rat) : isFr (frQ q) = true := by unfold isFr; rw [toQ_fr]; rfl
theorem isFr_iff {d : D} : isFr d = true ↔ ∃ q, d = frQ q := by
  constructor
  · intro h
    unfold isFr at h
    cases e : toQ d with
    | none => rw [e] at h; cases h
    | some q => exact ⟨q, toQ_some e⟩
  · rintro ⟨q, rfl⟩
    exact isFr_fr q
theorem isFr_no {d : D} (h : isR 2 d = false) : isFr d = false := by
  cases e : isFr d with
  | false => rfl
  | true =>
    obtain ⟨q, rfl⟩ := isFr_iff.mp e
    cases h
theorem isFr_pair {a b : Int} : isFr (.tup [.int a, .int b]) = (decide (1 ≤ b) && decide (((Nat.gcd a.natAbs b.natAbs : Nat) : Int) = 1)) := by
  show (if 1 ≤ b ∧ Nat.gcd a.natAbs b.natAbs = 1 then some (qo a b) else none).isSome = _
  by_cases h1 : 1 ≤ b
  · by_cases h2 : Nat.gcd a.natAbs b.natAbs = 1
    · rw [if_pos ⟨h1, h2⟩, decide_eq_true h1, decide_eq_true (by omega)]
      rfl
    · rw [if_neg (fun h => h2 h.2), decide_eq_true h1, decide_eq_false (by omega)]
      rfl
  · rw [if_neg (fun h => h1 h.1), decide_eq_false h1]
    rfl
/-- small enough for a sum, a product -/
def Two (p q : Rat) : Prop := ∃ k l, Sq k p ∧ Sq l q ∧ k + l ≤ 8900
theorem two {k l : Nat} {p q : Rat} (h : Sq k p) (g : Sq l q) (e : k + l ≤ 8900) : Two p q := ⟨k, l, h, g, e⟩
theorem sq0 : Sq 1 0 := ⟨by unfold Pd.Sm; decide, by unfold Pd.Sm; decide⟩
theorem sq1 : Sq 2 1 := ⟨by unfold Pd.Sm; decide, by unfold Pd.Sm; decide⟩
theorem Sq.sum {k : Nat} : ∀ {xs : List Rat}, (∀ x ∈ xs, Sq k x) → Sq (xs.length * (k + 1) + 1) xs.sum
  | [], _ => by simpa using sq0
  | x :: xs, h => by
    have h1 := h x List.mem_cons_self
    have h2 := Sq.sum (xs := xs) fun y hy => h y (List.mem_cons_of_mem _ hy)
    rw [List.sum_cons]
    exact (h1.add h2).mono (by rw [List.length_cons, Nat.succ_mul]; omega)
/-! points, rows -/
def ptQ (xs : List Rat) : D := .tup (xs.map frQ)
abbrev Row := List Rat × Rat
def rowQ (r : Row) : D := .tup [ptQ r.1, frQ r.2]
def rowsQ (rs : List Row) : D := .tup (rs.map rowQ)
section
variable {α β : Type} {Q : D → Prop} {QB : Bool → Prop} {QL : List D → Prop} {xs ys : List Rat} {r : Row} {rs : List Row} {i : Nat} {f : α → D} {zs : List α}
instance : PR (Som (idxD (rowQ r) (.int 0)) Q) (Q (ptQ r.1)) := ⟨fun h => ⟨_, rfl, h⟩⟩
instance : PR (Som (idxD (rowQ r) (.int 1)) Q) (Q (frQ r.2)) := ⟨fun h => ⟨_, rfl, h⟩⟩
instance : PR (Som (idxD (ptQ xs) (.int (i : Int))) Q) (Ix (i < xs.length) fun h => Q (frQ xs[i])) := ⟨fun ⟨e, h⟩ => ⟨_, ix_map e, h⟩⟩
instance : PR (Som (idxD (rowsQ rs) (.int (i : Int))) Q) (Ix (i < rs.length) fun h => Q (rowQ rs[i])) := ⟨fun ⟨e, h⟩ => ⟨_, ix_map e, h⟩⟩
instance : PR (Som (itemsD (ptQ xs)) QL) (QL (xs.map frQ)) := ⟨fun h => ⟨_, rfl, h⟩⟩
instance : PR (Som (itemsD (rowsQ rs)) QL) (QL (rs.map rowQ)) := ⟨fun h => ⟨_, rfl, h⟩⟩
instance : PR (Som (lenD [ptQ xs]) Q) (Q (.int (xs.length : Int))) := ⟨fun h => ⟨_, rfl, by rw [List.length_map]; exact h⟩⟩
instance : PR (Som (lenD [rowsQ rs]) Q) (Q (.int (rs.length : Int))) := ⟨fun h => ⟨_, rfl, by rw [List.length_map]; exact h⟩⟩
instance : PR (Som (lenD [.tup (zs.map f)]) Q) (Q (.int (zs.length : Int))) := ⟨fun h => ⟨_, rfl, by rw [List.length_map]; exact h⟩⟩
instance : PR (Som (lenD [.lst (zs.map f)]) Q) (Q (.int (zs.length : Int))) := ⟨fun h => ⟨_, rfl, by rw [List.length_map]; exact h⟩⟩
instance : PR (Som (zipD [ptQ xs, ptQ ys]) QL) (QL ((xs.zip ys).map fun p => .tup [frQ p.1, frQ p.2])) := ⟨fun h => ⟨_, rfl, by rw [zip_map]; exact h⟩⟩
instance : PR (Som (zipD [rowsQ rs, ptQ ys]) QL) (QL ((rs.zip ys).map fun p => .tup [rowQ p.1, frQ p.2])) := ⟨fun h => ⟨_, rfl, by rw [zip_map]; exact h⟩⟩
instance : PR (Som (tupleD [.lst (xs.map frQ)]) Q) (Q (ptQ xs)) := ⟨fun h => ⟨_, rfl, h⟩⟩
instance : PR (Som (tupleD [.lst (rs.map rowQ)]) Q) (Q (rowsQ rs)) := ⟨fun h => ⟨_, rfl, h⟩⟩
instance {QS : Sto → Prop} {gs : List D → MS} {η : Sto} : PR (wpg (tgT 2 gs (rowQ r)) QS η) (wpg (gs [ptQ r.1, frQ r.2]) QS η) := ⟨fun h => wpg_T rfl h⟩
end
def dotQ (xs ys : List Rat) : Rat := ((xs.zip ys).map fun p => p.1 * p.2).sum
/-! what is well made, of any data -/
def tlen : D → Nat
  | .tup ds => ds.length
  | _ => 0
def isPt : D → Bool
  | .tup ds => !ds.isEmpty && ds.all isFr
  | _ => false
def isWPt (d : D) (w : Int) : Bool := isPt d && decide ((tlen d : Int) = w)
def isLn (d : D) (w : Int) : Bool := match d with
  | .tup [a, b] => isWPt a w && isFr b
  | _ => false
def isWRs (d : D) (w : Int) : Bool := match d with
  | .tup ds => ds.all (isLn · w)
  | _ => false
def fst2 : D → D
  | .tup [a, _] => a
  | _ => .non
def isRs : D → Bool
  | .tup ds => ds.isEmpty || ds.all (isLn · (tlen (fst2 (ds.headD .non)) : Nat))
  | _ => false
def isMu (d : D) (n : Int) : Bool := match d with
  | .tup ds => decide ((ds.length : Int) = n) && ds.all fun x => match toQ x with | some q => decide (0 ≤ q) | none => false
  | _ => false
/-- data whose rows are at most L long, whose integers are below 2 ^ 4000 -/
def Bdd (L : Nat) : D → Prop
  | .int i => Sm 4000 i
  | .tup ds => ds.length ≤ L ∧ ∀ d ∈ ds, Bdd L d
  | .lst ds => ds.length ≤ L ∧ ∀ d ∈ ds, Bdd L d
  | _ => True
theorem Bdd.tup {L : Nat} {ds : List D} (h : Bdd L (.tup ds)) : ds.length ≤ L ∧ ∀ d ∈ ds, Bdd L d := by
  unfold Bdd at h
  exact h
theorem Bdd.lst {L : Nat} {ds : List D} (h : Bdd L (.lst ds)) : ds.length ≤ L ∧ ∀ d ∈ ds, Bdd L d := by
  unfold Bdd at h
  exact h
theorem bdd_tup {L : Nat} {ds : List D} (h1 : ds.length ≤ L) (h2 : ∀ d ∈ ds, Bdd L d) : Bdd L (.tup ds) := by
  unfold Bdd
  exact ⟨h1, h2⟩
theorem bdd_lst {L : Nat} {ds : List D} (h1 : ds.length ≤ L) (h2 : ∀ d ∈ ds, Bdd L d) : Bdd L (.lst ds) := by
  unfold Bdd
  exact ⟨h1, h2⟩
theorem bdd_int {L : Nat} {i : Int} (h : Sm 4000 i) : Bdd L (.int i) := by
  unfold Bdd
  exact h
theorem bdd_fr {L : Nat} {q : Rat} (hL : 2 ≤ L) (h : Sq 4000 q) : Bdd L (frQ q) := bdd_tup hL (by
  intro d hd
  simp only [List.mem_cons, List.not_mem_nil, or_false] at hd
  rcases hd with rfl | rfl
  · exact bdd_int h.n
  · exact bdd_int h.d)
end Rq

namespace F
open PySem L2 Pd
def b_made_k1 : MS :=
  (rtS (tpD (csD (opD fdivD (getV 0) (getV 2)) (csD (opD fdivD (getV 1) (getV 2)) nlD))))
def b_made : MS :=
  (seqS (stS 2 (bltD gcdD (csD (getV 0) (csD (getV 1) nlD))))
  (seqS (ifS (cmT ltD (getV 1) (cD (.int 0)))
  (stS 2 (unD negD (getV 2)))
  nxS)
  b_made_k1))
def r_made : M D := fnM 2 3 b_made
def b_plus_t1 : MS :=
  (rtS (tpD (csD (opD addD (opD idxD (getV 0) (cD (.int 0))) (opD idxD (getV 1) (cD (.int 0)))) (csD (cD (.int 1)) nlD))))
def b_plus : MS :=
  (seqS (ifS (anT (cmT eqD (opD idxD (getV 0) (cD (.int 1))) (cD (.int 1))) (cmT eqD (opD idxD (getV 1) (cD (.int 1))) (cD (.int 1))))
  b_plus_t1
  nxS)
  (rtS (cal 2 (r_made) none (csV (vlV (opD addD (opD mulD (opD idxD (getV 0) (cD (.int 0))) (opD idxD (getV 1) (cD (.int 1)))) (opD mulD (opD idxD (getV 1) (cD (.int 0))) (opD idxD (getV 0) (cD (.int 1)))))) (csV (vlV (opD mulD (opD idxD (getV 0) (cD (.int 1))) (opD idxD (getV 1) (cD (.int 1))))) nlV)))))
def r_plus : M D := fnM 2 2 b_plus
def b_minus : MS :=
  (rtS (cal 2 (r_plus) none (csV (vlV (getV 0)) (csV (vlV (tpD (csD (unD negD (opD idxD (getV 1) (cD (.int 0)))) (csD (opD idxD (getV 1) (cD (.int 1))) nlD)))) nlV))))
def r_minus : M D := fnM 2 2 b_minus
def b_mult_t1 : MS :=
  (rtS (tpD (csD (opD mulD (opD idxD (getV 0) (cD (.int 0))) (opD idxD (getV 1) (cD (.int 0)))) (csD (cD (.int 1)) nlD))))
def b_mult : MS :=
  (seqS (ifS (anT (cmT eqD (opD idxD (getV 0) (cD (.int 1))) (cD (.int 1))) (cmT eqD (opD idxD (getV 1) (cD (.int 1))) (cD (.int 1))))
  b_mult_t1
  nxS)
  (rtS (cal 2 (r_made) none (csV (vlV (opD mulD (opD idxD (getV 0) (cD (.int 0))) (opD idxD (getV 1) (cD (.int 0))))) (csV (vlV (opD mulD (opD idxD (getV 0) (cD (.int 1))) (opD idxD (getV 1) (cD (.int 1))))) nlV)))))
def r_mult : M D := fnM 2 2 b_mult
def b_at_most : MS :=
  (rtS (cmD leD (opD mulD (opD idxD (getV 0) (cD (.int 0))) (opD idxD (getV 1) (cD (.int 1)))) (opD mulD (opD idxD (getV 1) (cD (.int 0))) (opD idxD (getV 0) (cD (.int 1))))))
def r_at_most : M D := fnM 2 2 b_at_most
def b_added_up_t1 : MS :=
  (stS 1 (opD addD (getV 1) (opD idxD (getV 3) (cD (.int 0)))))
def b_added_up_t2 : MS :=
  (paS 1 2 (csD (opD addD (opD mulD (getV 1) (opD idxD (getV 3) (cD (.int 1)))) (opD mulD (opD idxD (getV 3) (cD (.int 0))) (getV 2))) (csD (opD mulD (getV 2) (opD idxD (getV 3) (cD (.int 1)))) nlD)))
def b_added_up_e3 : MS :=
  (ifS (cmT neD (opD idxD (getV 3) (cD (.int 0))) (cD (.int 0)))
  b_added_up_t2
  nxS)
def b_added_up_f4 : MS :=
  (ifS (cmT eqD (opD idxD (getV 3) (cD (.int 1))) (getV 2))
  b_added_up_t1
  b_added_up_e3)
def b_added_up : MS :=
  (seqS (asS (tpD (csD (cD (.int 0)) (csD (cD (.int 1)) nlD))) (tgT 2 (tgC (setS 1) (tgC (setS 2) tgN))))
  (seqS (foS (itD (getV 0)) (setS 3) b_added_up_f4)
  (rtS (cal 2 (r_made) none (csV (vlV (getV 1)) (csV (vlV (getV 2)) nlV))))))
def r_added_up : M D := fnM 1 4 b_added_up
def b_dot : MS :=
  (rtS (cal 1 (r_added_up) none (csV (vlV (compL [2, 3] (zpI (csD (getV 0) (csD (getV 1) nlD))) (tgT 2 (tgC (setS 2) (tgC (setS 3) tgN))) (anT (cmT neD (opD idxD (getV 2) (cD (.int 0))) (cD (.int 0))) (cmT neD (opD idxD (getV 3) (cD (.int 0))) (cD (.int 0)))) (cal 2 (r_mult) none (csV (vlV (getV 2)) (csV (vlV (getV 3)) nlV))))) nlV)))
def r_dot : M D := fnM 2 4 b_dot
def b_is_int : MS :=
  (rtS (anD (isiM "int" (getV 0)) (ntD (isiM "bool" (getV 0)))))
def r_is_int : M D := fnM 1 1 b_is_int
def b_is_row : MS :=
  (rtS (anD (isiM "tuple" (getV 0)) (cmD eqD (bltD lenD (csD (getV 0) nlD)) (getV 1))))
def r_is_row : M D := fnM 2 2 b_is_row
def b_fits_fraction : MS :=
  (seqS (ifS (orT (ntT (tsT (cal 2 (r_is_row) none (csV (vlV (getV 0)) (csV (vlV (cD (.int 2))) nlV))))) (orT (ntT (tsT (cal 1 (r_is_int) none (csV (vlV (opD idxD (getV 0) (cD (.int 0)))) nlV)))) (ntT (tsT (cal 1 (r_is_int) none (csV (vlV (opD idxD (getV 0) (cD (.int 1)))) nlV))))))
  (rtS (cD (.bl false)))
  nxS)
  (rtS (anD (cmD geD (opD idxD (getV 0) (cD (.int 1))) (cD (.int 1))) (cmD eqD (bltD gcdD (csD (opD idxD (getV 0) (cD (.int 0))) (csD (opD idxD (getV 0) (cD (.int 1))) nlD))) (cD (.int 1))))))
def r_fits_fraction : M D := fnM 1 1 b_fits_fraction
def b_fits_point : MS :=
  (rtS (anD (isiM "tuple" (getV 0)) (anD (cmD neD (getV 0) (tpD nlD)) (bltD allD (csD (compL [1] (itD (getV 0)) (setS 1) (M.pure true) (cal 1 (r_fits_fraction) none (csV (vlV (getV 1)) nlV))) nlD)))))
def r_fits_point : M D := fnM 1 2 b_fits_point
def b_fits_wide_point : MS :=
  (rtS (anD (cal 1 (r_fits_point) none (csV (vlV (getV 0)) nlV)) (cmD eqD (bltD lenD (csD (getV 0) nlD)) (getV 1))))
def r_fits_wide_point : M D := fnM 2 2 b_fits_wide_point
def b_fits_line : MS :=
  (rtS (anD (cal 2 (r_is_row) none (csV (vlV (getV 0)) (csV (vlV (cD (.int 2))) nlV))) (anD (cal 2 (r_fits_wide_point) none (csV (vlV (opD idxD (getV 0) (cD (.int 0)))) (csV (vlV (getV 1)) nlV))) (cal 1 (r_fits_fraction) none (csV (vlV (opD idxD (getV 0) (cD (.int 1)))) nlV)))))
def r_fits_line : M D := fnM 2 2 b_fits_line
def b_fits_wide_rows : MS :=
  (rtS (anD (isiM "tuple" (getV 0)) (bltD allD (csD (compL [2] (itD (getV 0)) (setS 2) (M.pure true) (cal 2 (r_fits_line) none (csV (vlV (getV 2)) (csV (vlV (getV 1)) nlV)))) nlD))))
def r_fits_wide_rows : M D := fnM 2 3 b_fits_wide_rows
def b_fits_rows : MS :=
  (seqS (ifS (orT (ntT (tsT (isiM "tuple" (getV 0)))) (ntT (tsT (bltD allD (csD (compL [1] (itD (getV 0)) (setS 1) (M.pure true) (anD (cal 2 (r_is_row) none (csV (vlV (getV 1)) (csV (vlV (cD (.int 2))) nlV))) (isiM "tuple" (opD idxD (getV 1) (cD (.int 0)))))) nlD)))))
  (rtS (cD (.bl false)))
  nxS)
  (rtS (orD (cmD eqD (getV 0) (tpD nlD)) (cal 2 (r_fits_wide_rows) none (csV (vlV (getV 0)) (csV (vlV (bltD lenD (csD (opD idxD (opD idxD (getV 0) (cD (.int 0))) (cD (.int 0))) nlD))) nlV))))))
def r_fits_rows : M D := fnM 1 2 b_fits_rows
def b_fits_multipliers : MS :=
  (seqS (ifS (orT (ntT (tsT (cal 2 (r_is_row) none (csV (vlV (getV 0)) (csV (vlV (getV 1)) nlV))))) (ntT (tsT (bltD allD (csD (compL [2] (itD (getV 0)) (setS 2) (M.pure true) (cal 1 (r_fits_fraction) none (csV (vlV (getV 2)) nlV))) nlD)))))
  (rtS (cD (.bl false)))
  nxS)
  (rtS (bltD allD (csD (compL [2] (itD (getV 0)) (setS 2) (M.pure true) (cmD geD (opD idxD (getV 2) (cD (.int 0))) (cD (.int 0)))) nlD))))
def r_fits_multipliers : M D := fnM 2 3 b_fits_multipliers
def b_row_holds : MS :=
  (rtS (cal 2 (r_at_most) none (csV (vlV (cal 2 (r_dot) none (csV (vlV (opD idxD (getV 0) (cD (.int 0)))) (csV (vlV (getV 1)) nlV)))) (csV (vlV (opD idxD (getV 0) (cD (.int 1)))) nlV))))
def r_row_holds : M D := fnM 2 2 b_row_holds
def b_rows_hold : MS :=
  (rtS (bltD allD (csD (compL [2] (itD (getV 0)) (setS 2) (M.pure true) (cal 2 (r_row_holds) none (csV (vlV (getV 2)) (csV (vlV (getV 1)) nlV)))) nlD)))
def r_rows_hold : M D := fnM 2 3 b_rows_hold
def b_summed_t1 : MS :=
  (seqS (stS 3 (bltD tupleD (csD (compL [8, 9] (zpI (csD (getV 3) (csD (getV 5) nlD))) (tgT 2 (tgC (setS 8) (tgC (setS 9) tgN))) (M.pure true) (cal 2 (r_plus) none (csV (vlV (getV 8)) (csV (vlV (cal 2 (r_mult) none (csV (vlV (getV 7)) (csV (vlV (getV 9)) nlV)))) nlV)))) nlD)))
  (stS 4 (cal 2 (r_plus) none (csV (vlV (getV 4)) (csV (vlV (cal 2 (r_mult) none (csV (vlV (getV 7)) (csV (vlV (getV 6)) nlV)))) nlV)))))
def b_summed_f2 : MS :=
  (ifS (cmT neD (opD idxD (getV 7) (cD (.int 0))) (cD (.int 0)))
  b_summed_t1
  nxS)
def b_summed : MS :=
  (seqS (paS 3 4 (csD (opD mulD (tpD (csD (cD (.tup [.int 0, .int 1])) nlD)) (getV 2)) (csD (cD (.tup [.int 0, .int 1])) nlD)))
  (seqS (foS (zpI (csD (getV 0) (csD (getV 1) nlD))) (tgT 2 (tgC (tgT 2 (tgC (setS 5) (tgC (setS 6) tgN))) (tgC (setS 7) tgN))) b_summed_f2)
  (rtS (tpD (csD (getV 3) (csD (getV 4) nlD))))))
def r_summed : M D := fnM 3 10 b_summed
def b_check_rows : MS :=
  (ifS (ntT (tsT (cal 1 (r_fits_rows) none (csV (vlV (getV 0)) nlV))))
  (raS "InvalidRows")
  nxS)
def r_check_rows : M D := fnM 1 1 b_check_rows
def b_check_some_rows : MS :=
  (ifS (orT (ntT (tsT (cal 1 (r_fits_rows) none (csV (vlV (getV 0)) nlV)))) (cmT eqD (getV 0) (tpD nlD)))
  (raS "InvalidRows")
  nxS)
def r_check_some_rows : M D := fnM 1 1 b_check_some_rows
def b_check_points : MS :=
  (seqS (exS (cal 1 (r_check_rows) none (csV (vlV (getV 0)) nlV)))
  (ifS (orT (ntT (tsT (cal 1 (r_fits_point) none (csV (vlV (getV 1)) nlV)))) (anT (cmT neD (getV 0) (tpD nlD)) (cmT neD (bltD lenD (csD (getV 1) nlD)) (bltD lenD (csD (opD idxD (opD idxD (getV 0) (cD (.int 0))) (cD (.int 0))) nlD)))))
  (raS "InvalidPoint")
  nxS))
def r_check_points : M D := fnM 2 2 b_check_points
def b_is_rows : MS :=
  (rtS (cal 1 (r_fits_rows) none (csV (vlV (getV 0)) nlV)))
def r_is_rows : M D := fnM 1 1 b_is_rows
def b_holds : MS :=
  (seqS (exS (cal 2 (r_check_points) none (csV (vlV (getV 0)) (csV (vlV (getV 1)) nlV))))
  (rtS (cal 2 (r_rows_hold) none (csV (vlV (getV 0)) (csV (vlV (getV 1)) nlV)))))
def r_holds : M D := fnM 2 2 b_holds
def b_slack : MS :=
  (seqS (exS (cal 2 (r_check_points) none (csV (vlV (getV 0)) (csV (vlV (getV 1)) nlV))))
  (rtS (bltD tupleD (csD (compL [2, 3] (itD (getV 0)) (tgT 2 (tgC (setS 2) (tgC (setS 3) tgN))) (M.pure true) (cal 2 (r_minus) none (csV (vlV (getV 3)) (csV (vlV (cal 2 (r_dot) none (csV (vlV (getV 2)) (csV (vlV (getV 1)) nlV)))) nlV)))) nlD))))
def r_slack : M D := fnM 2 4 b_slack
def b_sum_of_rows : MS :=
  (seqS (exS (cal 1 (r_check_some_rows) none (csV (vlV (getV 0)) nlV)))
  (seqS (ifS (ntT (tsT (cal 2 (r_fits_multipliers) none (csV (vlV (getV 1)) (csV (vlV (bltD lenD (csD (getV 0) nlD))) nlV)))))
  (raS "InvalidPoint")
  nxS)
  (rtS (cal 3 (r_summed) none (csV (vlV (getV 0)) (csV (vlV (getV 1)) (csV (vlV (bltD lenD (csD (opD idxD (opD idxD (getV 0) (cD (.int 0))) (cD (.int 0))) nlD))) nlV)))))))
def r_sum_of_rows : M D := fnM 2 2 b_sum_of_rows
def b__law_pool : MS :=
  (seqS (stS 0 (bltD intD (csD (getV 0) nlD)))
  (rtS (lsD (csD (bltD max2D (csD (cD (.int 0)) (csD (opD subD (getV 0) (opD powD (cD (.int 10)) (cD (.int 24)))) nlD))) (csD (opD modD (bltD intD (csD (opD addD (opD mulD (getV 0) (cD (.int 6364136223))) (cD (.int 1442695))) nlD)) (cD (.int 2305843009213693951))) (csD (cD (.int 1)) nlD))))))
def r__law_pool : M D := fnF 1 1 b__law_pool
def b__law_next_t1 : MS :=
  (seqS (stS 2 (opD modD (bltD intD (csD (opV idxD (borV 0) (vlV (cD (.int 0)))) nlD)) (getV 1)))
  (seqS (soS 0 (opD fdivD (bltD intD (csD (opV idxD (borV 0) (vlV (cD (.int 0)))) nlD)) (getV 1)) (cD (.int 0)))
  (rtS (getV 2))))
def b__law_next : MS :=
  (seqS (soS 0 (opD addD (opV idxD (borV 0) (vlV (cD (.int 2)))) (cD (.int 1))) (cD (.int 2)))
  (seqS (ifS (cmT gtD (opV idxD (borV 0) (vlV (cD (.int 0)))) (cD (.int 0)))
  b__law_next_t1
  nxS)
  (seqS (soS 0 (opD modD (bltD intD (csD (opD addD (opD addD (opD mulD (opV idxD (borV 0) (vlV (cD (.int 1)))) (cD (.int 48271131))) (opD mulD (opD mulD (opV idxD (borV 0) (vlV (cD (.int 2)))) (opV idxD (borV 0) (vlV (cD (.int 2))))) (cD (.int 65537)))) (cD (.int 9176))) nlD)) (cD (.int 2305843009213693951))) (cD (.int 1)))
  (rtS (opD modD (opD fdivD (bltD intD (csD (opV idxD (borV 0) (vlV (cD (.int 1)))) nlD)) (cD (.int 524288))) (getV 1))))))
def r__law_next : M D := fnM 2 3 b__law_next
def b__law_one_of : MS :=
  (rtS (opD idxD (getV 1) (cal 2 (r__law_next) (some 0) (csV (borV 0) (csV (vlV (bltD lenD (csD (getV 1) nlD))) nlV)))))
def r__law_one_of : M D := fnM 2 2 b__law_one_of
def b__law_same_t1 (rc : M D) : MS :=
  (seqS (ifS (orT (cmT neD (isiM "tuple" (getV 0)) (isiM "tuple" (getV 1))) (cmT neD (isiM "list" (getV 0)) (isiM "list" (getV 1))))
  (rtS (cD (.bl false)))
  nxS)
  (rtS (anD (cmD eqD (bltD lenD (csD (getV 0) nlD)) (bltD lenD (csD (getV 1) nlD))) (bltD allD (csD (compL [2] (rg1 (csD (bltD lenD (csD (getV 1) nlD)) nlD)) (setS 2) (M.pure true) (cal 2 rc none (csV (vlV (opD idxD (getV 0) (getV 2))) (csV (vlV (opD idxD (getV 1) (getV 2))) nlV)))) nlD)))))
def b__law_same_t2 (rc : M D) : MS :=
  (rtS (anD (isiM "bool" (getV 0)) (cmD eqD (getV 0) (getV 1))))
def b__law_same_t3 (rc : M D) : MS :=
  (rtS (anD (isiM "int" (getV 0)) (anD (ntD (isiM "bool" (getV 0))) (cmD eqD (getV 0) (getV 1)))))
def b__law_same (rc : M D) : MS :=
  (seqS (ifS (orT (tsT (isiM "tuple" (getV 1))) (tsT (isiM "list" (getV 1))))
  (b__law_same_t1 rc)
  nxS)
  (seqS (ifS (cmT isD (getV 1) (cD .non))
  (rtS (cmD isD (getV 0) (cD .non)))
  nxS)
  (seqS (ifS (tsT (isiM "bool" (getV 1)))
  (b__law_same_t2 rc)
  nxS)
  (seqS (ifS (tsT (isiM "int" (getV 1)))
  (b__law_same_t3 rc)
  nxS)
  (rtS (anD (isiM "str" (getV 0)) (cmD eqD (getV 0) (getV 1))))))))
def r__law_same : Nat → M D
  | 0 => badM
  | i + 1 => fnM 2 3 (b__law_same (r__law_same i))
def b__law_bent_t1 (rc : M D) : MS :=
  (rtS (cal 2 (r__law_one_of) (some 0) (csV (borV 0) (csV (vlV (getV 2)) nlV))))
def b__law_bent_t2 (rc : M D) : MS :=
  (rtS (opD addD (slD (getV 1) noI (smI (getV 3))) (slD (getV 1) (smI (opD addD (getV 3) (cD (.int 1)))) noI)))
def b__law_bent_t3 (rc : M D) : MS :=
  (rtS (opD addD (slD (getV 1) noI (smI (opD addD (getV 3) (cD (.int 1))))) (slD (getV 1) (smI (getV 3)) noI)))
def b__law_bent_t4 (rc : M D) : MS :=
  (rtS (opD addD (slD (getV 1) (smI (getV 3)) noI) (slD (getV 1) noI (smI (getV 3)))))
def b__law_bent (rc : M D) : MS :=
  (seqS (ifS (orT (ntT (tsT (isiM "tuple" (getV 1)))) (orT (cmT eqD (getV 1) (tpD nlD)) (cmT eqD (cal 2 (r__law_next) (some 0) (csV (borV 0) (csV (vlV (cD (.int 6))) nlV))) (cD (.int 0)))))
  (b__law_bent_t1 rc)
  nxS)
  (seqS (paS 3 4 (csD (cal 2 (r__law_next) (some 0) (csV (borV 0) (csV (vlV (bltD lenD (csD (getV 1) nlD))) nlV))) (csD (cal 2 (r__law_next) (some 0) (csV (borV 0) (csV (vlV (cD (.int 8))) nlV))) nlD)))
  (seqS (ifS (cmT eqD (getV 4) (cD (.int 0)))
  (b__law_bent_t2 rc)
  nxS)
  (seqS (ifS (cmT eqD (getV 4) (cD (.int 1)))
  (b__law_bent_t3 rc)
  nxS)
  (seqS (ifS (cmT eqD (getV 4) (cD (.int 2)))
  (b__law_bent_t4 rc)
  nxS)
  (seqS (ifS (cmT eqD (getV 4) (cD (.int 3)))
  (rtS (bltD listD (csD (getV 1) nlD)))
  nxS)
  (rtS (opD addD (opD addD (slD (getV 1) noI (smI (getV 3))) (tpD (csD (cal 3 rc (some 0) (csV (borV 0) (csV (vlV (opD idxD (getV 1) (getV 3))) (csV (vlV (getV 2)) nlV)))) nlD))) (slD (getV 1) (smI (opD addD (getV 3) (cD (.int 1)))) noI)))))))))
def r__law_bent : Nat → M D
  | 0 => badM
  | i + 1 => fnM 3 5 (b__law_bent (r__law_bent i))
def b__law_odd : MS :=
  (rtS (lsD (csD (cD .non) (csD (cD (.bl true)) (csD (cD (.bl false)) (csD (cD (.int 0)) (csD (cD (.int 1)) (csD (unD negD (cD (.int 1))) (csD (cD (.int 2)) (csD (cD (.str "")) (csD (cD (.str "a")) (csD (cD (.str "none")) (csD (cD (.str "all")) (csD (cD (.str "x")) (csD (tpD nlD) (csD (lsD nlD) (csD (cD (.dct [] [])) (csD (tpD (csD (tpD nlD) nlD)) (csD (tpD (csD (cD (.int 0)) nlD)) (csD (tpD (csD (cD (.int 0)) (csD (cD (.int 0)) nlD))) (csD (tpD (csD (cD (.int 2)) (csD (cD (.int 4)) nlD))) (csD (tpD (csD (cD (.int 1)) (csD (cD (.int 0)) nlD))) (csD (tpD (csD (cD (.int 1)) (csD (unD negD (cD (.int 1))) nlD))) (csD (tpD (csD (cD (.bl true)) (csD (cD (.int 1)) nlD))) (csD (tpD (csD (cD (.int 0)) (csD (cD (.int 1)) nlD))) (csD (tpD (csD (unD negD (cD (.int 1))) (csD (cD (.int 1)) nlD))) (csD (tpD (csD (cD (.int 1)) (csD (cD (.int 2)) nlD))) (csD (tpD (csD (tpD (csD (cD (.int 0)) (csD (cD (.int 1)) nlD))) nlD)) (csD (tpD (csD (tpD (csD (cD (.int 1)) (csD (cD (.int 1)) nlD))) (csD (tpD (csD (cD (.int 0)) (csD (cD (.int 1)) nlD))) nlD))) nlD)))))))))))))))))))))))))))))
def r__law_odd : M D := fnM 0 0 b__law_odd
def b__law_gcd_f1 : MS :=
  (seqS (ifS (cmT eqD (getV 1) (cD (.int 0)))
  bkS
  nxS)
  (paS 0 1 (csD (getV 1) (csD (opD modD (bltD intD (csD (getV 0) nlD)) (getV 1)) nlD))))
def b__law_gcd : MS :=
  (seqS (paS 0 1 (csD (bltD absD (csD (getV 0) nlD)) (csD (bltD absD (csD (getV 1) nlD)) nlD)))
  (seqS (foS (rg1 (csD (cD (.int 20000)) nlD)) (setS 2) b__law_gcd_f1)
  (rtS (getV 0))))
def r__law_gcd : M D := fnM 2 3 b__law_gcd
def b__law_made_k1 : MS :=
  (rtS (tpD (csD (opD fdivD (getV 0) (getV 2)) (csD (opD fdivD (getV 1) (getV 2)) nlD))))
def b__law_made : MS :=
  (seqS (stS 2 (cal 2 (r__law_gcd) none (csV (vlV (getV 0)) (csV (vlV (getV 1)) nlV))))
  (seqS (ifS (cmT ltD (getV 1) (cD (.int 0)))
  (stS 2 (unD negD (getV 2)))
  nxS)
  b__law_made_k1))
def r__law_made : M D := fnM 2 3 b__law_made
def b__law_plus_t1 : MS :=
  (rtS (tpD (csD (opD addD (opD idxD (getV 0) (cD (.int 0))) (opD idxD (getV 1) (cD (.int 0)))) (csD (cD (.int 1)) nlD))))
def b__law_plus : MS :=
  (seqS (ifS (chT eqD eqD (opD idxD (getV 0) (cD (.int 1))) (opD idxD (getV 1) (cD (.int 1))) (cD (.int 1)))
  b__law_plus_t1
  nxS)
  (rtS (cal 2 (r__law_made) none (csV (vlV (opD addD (opD mulD (opD idxD (getV 0) (cD (.int 0))) (opD idxD (getV 1) (cD (.int 1)))) (opD mulD (opD idxD (getV 1) (cD (.int 0))) (opD idxD (getV 0) (cD (.int 1)))))) (csV (vlV (opD mulD (opD idxD (getV 0) (cD (.int 1))) (opD idxD (getV 1) (cD (.int 1))))) nlV)))))
def r__law_plus : M D := fnM 2 2 b__law_plus
def b__law_turned : MS :=
  (rtS (tpD (csD (unD negD (opD idxD (getV 0) (cD (.int 0)))) (csD (opD idxD (getV 0) (cD (.int 1))) nlD))))
def r__law_turned : M D := fnM 1 1 b__law_turned
def b__law_minus : MS :=
  (rtS (cal 2 (r__law_plus) none (csV (vlV (getV 0)) (csV (vlV (tpD (csD (unD negD (opD idxD (getV 1) (cD (.int 0)))) (csD (opD idxD (getV 1) (cD (.int 1))) nlD)))) nlV))))
def r__law_minus : M D := fnM 2 2 b__law_minus
def b__law_times_t1 : MS :=
  (rtS (tpD (csD (opD mulD (opD idxD (getV 0) (cD (.int 0))) (opD idxD (getV 1) (cD (.int 0)))) (csD (cD (.int 1)) nlD))))
def b__law_times : MS :=
  (seqS (ifS (chT eqD eqD (opD idxD (getV 0) (cD (.int 1))) (opD idxD (getV 1) (cD (.int 1))) (cD (.int 1)))
  b__law_times_t1
  nxS)
  (rtS (cal 2 (r__law_made) none (csV (vlV (opD mulD (opD idxD (getV 0) (cD (.int 0))) (opD idxD (getV 1) (cD (.int 0))))) (csV (vlV (opD mulD (opD idxD (getV 0) (cD (.int 1))) (opD idxD (getV 1) (cD (.int 1))))) nlV)))))
def r__law_times : M D := fnM 2 2 b__law_times
def b__law_dot_t1 : MS :=
  (stS 2 (cal 2 (r__law_plus) none (csV (vlV (getV 2)) (csV (vlV (cal 2 (r__law_times) none (csV (vlV (opD idxD (getV 0) (getV 3))) (csV (vlV (opD idxD (getV 1) (getV 3))) nlV)))) nlV))))
def b__law_dot_f2 : MS :=
  (ifS (anT (cmT neD (opD idxD (opD idxD (getV 0) (getV 3)) (cD (.int 0))) (cD (.int 0))) (cmT neD (opD idxD (opD idxD (getV 1) (getV 3)) (cD (.int 0))) (cD (.int 0))))
  b__law_dot_t1
  nxS)
def b__law_dot : MS :=
  (seqS (stS 2 (tpD (csD (cD (.int 0)) (csD (cD (.int 1)) nlD))))
  (seqS (foS (rg1 (csD (bltD lenD (csD (getV 0) nlD)) nlD)) (setS 3) b__law_dot_f2)
  (rtS (getV 2))))
def r__law_dot : M D := fnM 2 4 b__law_dot
def b__law_is_int : MS :=
  (rtS (anD (isiM "int" (getV 0)) (ntD (isiM "bool" (getV 0)))))
def r__law_is_int : M D := fnM 1 1 b__law_is_int
def b__law_is_tuple : MS :=
  (rtS (anD (isiM "tuple" (getV 0)) (cmD eqD (bltD lenD (csD (getV 0) nlD)) (getV 1))))
def r__law_is_tuple : M D := fnM 2 2 b__law_is_tuple
def b__law_is_fraction : MS :=
  (seqS (ifS (orT (ntT (tsT (cal 2 (r__law_is_tuple) none (csV (vlV (getV 0)) (csV (vlV (cD (.int 2))) nlV))))) (orT (ntT (tsT (cal 1 (r__law_is_int) none (csV (vlV (opD idxD (getV 0) (cD (.int 0)))) nlV)))) (ntT (tsT (cal 1 (r__law_is_int) none (csV (vlV (opD idxD (getV 0) (cD (.int 1)))) nlV))))))
  (rtS (cD (.bl false)))
  nxS)
  (rtS (anD (cmD gtD (opD idxD (getV 0) (cD (.int 1))) (cD (.int 0))) (cmD eqD (cal 2 (r__law_gcd) none (csV (vlV (opD idxD (getV 0) (cD (.int 0)))) (csV (vlV (opD idxD (getV 0) (cD (.int 1)))) nlV))) (cD (.int 1))))))
def r__law_is_fraction : M D := fnM 1 1 b__law_is_fraction
def b__law_is_point : MS :=
  (seqS (ifS (orT (ntT (tsT (isiM "tuple" (getV 0)))) (orT (cmT eqD (getV 0) (tpD nlD)) (ntT (tsT (bltD allD (csD (compL [2] (itD (getV 0)) (setS 2) (M.pure true) (cal 1 (r__law_is_fraction) none (csV (vlV (getV 2)) nlV))) nlD))))))
  (rtS (cD (.bl false)))
  nxS)
  (rtS (orD (cmD eqD (getV 1) (cD (.int 0))) (cmD eqD (bltD lenD (csD (getV 0) nlD)) (getV 1)))))
def r__law_is_point : M D := fnM 2 3 b__law_is_point
def b__law_is_line : MS :=
  (rtS (anD (cal 2 (r__law_is_tuple) none (csV (vlV (getV 0)) (csV (vlV (cD (.int 2))) nlV))) (anD (cal 2 (r__law_is_point) none (csV (vlV (opD idxD (getV 0) (cD (.int 0)))) (csV (vlV (getV 1)) nlV))) (cal 1 (r__law_is_fraction) none (csV (vlV (opD idxD (getV 0) (cD (.int 1)))) nlV)))))
def r__law_is_line : M D := fnM 2 2 b__law_is_line
def b__law_is_rows : MS :=
  (seqS (ifS (orT (ntT (tsT (isiM "tuple" (getV 0)))) (ntT (tsT (bltD allD (csD (compL [2] (itD (getV 0)) (setS 2) (M.pure true) (cal 2 (r__law_is_line) none (csV (vlV (getV 2)) (csV (vlV (getV 1)) nlV)))) nlD)))))
  (rtS (cD (.bl false)))
  nxS)
  (rtS (cmD ltD (unD lenSetD (compL [2] (itD (getV 0)) (setS 2) (M.pure true) (bltD lenD (csD (opD idxD (getV 2) (cD (.int 0))) nlD)))) (cD (.int 2)))))
def r__law_is_rows : M D := fnM 2 3 b__law_is_rows
def b__law_summed_t1 : MS :=
  (seqS (stS 3 (compL [6] (rg1 (csD (getV 2) nlD)) (setS 6) (M.pure true) (cal 2 (r__law_plus) none (csV (vlV (opD idxD (getV 3) (getV 6))) (csV (vlV (cal 2 (r__law_times) none (csV (vlV (opD idxD (getV 1) (getV 5))) (csV (vlV (opD idxD (opD idxD (opD idxD (getV 0) (getV 5)) (cD (.int 0))) (getV 6))) nlV)))) nlV)))))
  (stS 4 (cal 2 (r__law_plus) none (csV (vlV (getV 4)) (csV (vlV (cal 2 (r__law_times) none (csV (vlV (opD idxD (getV 1) (getV 5))) (csV (vlV (opD idxD (opD idxD (getV 0) (getV 5)) (cD (.int 1)))) nlV)))) nlV)))))
def b__law_summed_f2 : MS :=
  (ifS (cmT neD (opD idxD (opD idxD (getV 1) (getV 5)) (cD (.int 0))) (cD (.int 0)))
  b__law_summed_t1
  nxS)
def b__law_summed : MS :=
  (seqS (asS (tpD (csD (opD mulD (lsD (csD (tpD (csD (cD (.int 0)) (csD (cD (.int 1)) nlD))) nlD)) (getV 2)) (csD (tpD (csD (cD (.int 0)) (csD (cD (.int 1)) nlD))) nlD))) (tgT 2 (tgC (setS 3) (tgC (setS 4) tgN))))
  (seqS (foS (rg1 (csD (bltD lenD (csD (getV 0) nlD)) nlD)) (setS 5) b__law_summed_f2)
  (rtS (tpD (csD (bltD tupleD (csD (getV 3) nlD)) (csD (getV 4) nlD))))))
def r__law_summed : M D := fnM 3 7 b__law_summed
def b__law_zeros : MS :=
  (rtS (opD mulD (tpD (csD (tpD (csD (cD (.int 0)) (csD (cD (.int 1)) nlD))) nlD)) (getV 0)))
def r__law_zeros : M D := fnM 1 1 b__law_zeros
def b__law_unit : MS :=
  (rtS (bltD tupleD (csD (compL [3] (rg1 (csD (getV 0) nlD)) (setS 3) (M.pure true) (tpD (csD (ifD (cmT eqD (getV 3) (getV 1)) (getV 2) (cD (.int 0))) (csD (cD (.int 1)) nlD)))) nlD)))
def r__law_unit : M D := fnM 3 4 b__law_unit
def b__law_small : MS :=
  (rtS (cal 2 (r__law_made) none (csV (vlV (cal 2 (r__law_one_of) (some 0) (csV (borV 0) (csV (vlV (lsD (csD (cD (.int 0)) (csD (cD (.int 1)) (csD (unD negD (cD (.int 1))) (csD (cD (.int 2)) (csD (unD negD (cD (.int 2))) (csD (cD (.int 3)) (csD (cD (.int 1)) (csD (cD (.int 5)) (csD (unD negD (cD (.int 3))) (csD (cD (.int 7)) (csD (cD (.int 4)) (csD (cD (.int 10)) nlD)))))))))))))) nlV)))) (csV (vlV (cal 2 (r__law_one_of) (some 0) (csV (borV 0) (csV (vlV (lsD (csD (cD (.int 1)) (csD (cD (.int 1)) (csD (cD (.int 1)) (csD (cD (.int 1)) (csD (cD (.int 2)) (csD (cD (.int 3)) nlD)))))))) nlV)))) nlV))))
def r__law_small : M D := fnM 1 1 b__law_small
def b__law_great : MS :=
  (seqS (stS 2 (cal 2 (r__law_one_of) (some 0) (csV (borV 0) (csV (vlV (getV 1)) nlV))))
  (seqS (stS 3 (opD modD (bltD intD (csD (opD addD (opD addD (opD mulD (cal 2 (r__law_next) (some 0) (csV (borV 0) (csV (vlV (opD powD (cD (.int 10)) (cD (.int 10)))) nlV))) (opD powD (cD (.int 10)) (cD (.int 20)))) (opD mulD (cal 2 (r__law_next) (some 0) (csV (borV 0) (csV (vlV (opD powD (cD (.int 10)) (cD (.int 10)))) nlV))) (opD powD (cD (.int 10)) (cD (.int 10))))) (cal 2 (r__law_next) (some 0) (csV (borV 0) (csV (vlV (opD powD (cD (.int 10)) (cD (.int 10)))) nlV)))) nlD)) (getV 2)))
  (seqS (stS 4 (opD addD (cD (.int 1)) (opD modD (bltD intD (csD (opD addD (opD addD (opD mulD (cal 2 (r__law_next) (some 0) (csV (borV 0) (csV (vlV (opD powD (cD (.int 10)) (cD (.int 10)))) nlV))) (opD powD (cD (.int 10)) (cD (.int 20)))) (opD mulD (cal 2 (r__law_next) (some 0) (csV (borV 0) (csV (vlV (opD powD (cD (.int 10)) (cD (.int 10)))) nlV))) (opD powD (cD (.int 10)) (cD (.int 10))))) (cal 2 (r__law_next) (some 0) (csV (borV 0) (csV (vlV (opD powD (cD (.int 10)) (cD (.int 10)))) nlV)))) nlD)) (opD subD (getV 2) (cD (.int 1))))))
  (rtS (cal 2 (r__law_made) none (csV (vlV (ifD (cmT eqD (cal 2 (r__law_next) (some 0) (csV (borV 0) (csV (vlV (cD (.int 2))) nlV))) (cD (.int 0))) (getV 3) (unD negD (getV 3)))) (csV (vlV (ifD (cmT gtD (cal 2 (r__law_next) (some 0) (csV (borV 0) (csV (vlV (cD (.int 3))) nlV))) (cD (.int 0))) (getV 4) (cD (.int 1)))) nlV)))))))
def r__law_great : M D := fnM 2 5 b__law_great
def b__law_coefficients : MS :=
  (rtS (bltD tupleD (csD (compL [2] (rg1 (csD (getV 1) nlD)) (setS 2) (M.pure true) (cal 2 (r__law_one_of) (some 0) (csV (borV 0) (csV (vlV (lsD (csD (tpD (csD (cD (.int 0)) (csD (cD (.int 1)) nlD))) (csD (tpD (csD (cD (.int 1)) (csD (cD (.int 1)) nlD))) (csD (tpD (csD (unD negD (cD (.int 1))) (csD (cD (.int 1)) nlD))) (csD (tpD (csD (cD (.int 1)) (csD (cD (.int 1)) nlD))) (csD (tpD (csD (unD negD (cD (.int 1))) (csD (cD (.int 1)) nlD))) (csD (tpD (csD (cD (.int 2)) (csD (cD (.int 1)) nlD))) (csD (tpD (csD (unD negD (cD (.int 2))) (csD (cD (.int 1)) nlD))) (csD (tpD (csD (cD (.int 1)) (csD (cD (.int 2)) nlD))) (csD (tpD (csD (cD (.int 3)) (csD (cD (.int 1)) nlD))) (csD (tpD (csD (cD (.int 0)) (csD (cD (.int 1)) nlD))) nlD)))))))))))) nlV)))) nlD)))
def r__law_coefficients : M D := fnM 2 3 b__law_coefficients
def b__law_row : MS :=
  (rtS (tpD (csD (cal 2 (r__law_coefficients) (some 0) (csV (borV 0) (csV (vlV (getV 1)) nlV))) (csD (cal 1 (r__law_small) (some 0) (csV (borV 0) nlV)) nlD))))
def r__law_row : M D := fnM 2 2 b__law_row
def b__law_rows_t1 : MS :=
  (seqS (stS 6 (cal 2 (r__law_one_of) (some 0) (csV (borV 0) (csV (borV 3) nlV))))
  (stS 5 (tpD (csD (bltD tupleD (csD (compL [7] (itD (opD idxD (getV 6) (cD (.int 0)))) (setS 7) (M.pure true) (cal 1 (r__law_turned) none (csV (vlV (getV 7)) nlV))) nlD)) (csD (cal 2 (r__law_plus) none (csV (vlV (cal 1 (r__law_turned) none (csV (vlV (opD idxD (getV 6) (cD (.int 1)))) nlV))) (csV (vlV (cal 1 (r__law_small) (some 0) (csV (borV 0) nlV))) nlV))) nlD)))))
def b__law_rows_t2 : MS :=
  (stS 5 (tpD (csD (cal 3 (r__law_unit) none (csV (vlV (getV 1)) (csV (vlV (cal 2 (r__law_next) (some 0) (csV (borV 0) (csV (vlV (getV 1)) nlV)))) (csV (vlV (cal 2 (r__law_one_of) (some 0) (csV (borV 0) (csV (vlV (lsD (csD (cD (.int 1)) (csD (unD negD (cD (.int 1))) nlD)))) nlV)))) nlV)))) (csD (cal 1 (r__law_small) (some 0) (csV (borV 0) nlV)) nlD))))
def b__law_rows_k3 : MS :=
  (seqS (ifS (cmT eqD (cal 2 (r__law_next) (some 0) (csV (borV 0) (csV (vlV (cD (.int 3))) nlV))) (cD (.int 0)))
  b__law_rows_t2
  nxS)
  (apS 3 (getV 5)))
def b__law_rows_f4 : MS :=
  (seqS (stS 5 (cal 2 (r__law_row) (some 0) (csV (borV 0) (csV (vlV (getV 1)) nlV))))
  (seqS (ifS (anT (cmVT neD (borV 3) (vlV (lsD nlD))) (cmT eqD (cal 2 (r__law_next) (some 0) (csV (borV 0) (csV (vlV (cD (.int 4))) nlV))) (cD (.int 0))))
  b__law_rows_t1
  nxS)
  b__law_rows_k3))
def b__law_rows : MS :=
  (seqS (owS 3 (lsD nlD))
  (seqS (foS (rg1 (csD (cal 2 (r__law_next) (some 0) (csV (borV 0) (csV (vlV (opD addD (getV 2) (cD (.int 1)))) nlV))) nlD)) (setS 4) b__law_rows_f4)
  (rtS (bltV tupleD (csV (borV 3) nlV)))))
def r__law_rows : M D := fnM 3 8 b__law_rows
def b__law_wide_point : MS :=
  (rtS (bltD tupleD (csD (compL [2] (rg1 (csD (getV 1) nlD)) (setS 2) (M.pure true) (cal 1 (r__law_small) (some 0) (csV (borV 0) nlV))) nlD)))
def r__law_wide_point : M D := fnM 2 3 b__law_wide_point
def b__law_word_of_t1 : MS :=
  (exS (cal 2 (r_holds) none (csV (vlV (getV 1)) (csV (vlV (getV 2)) nlV))))
def b__law_word_of_t2 : MS :=
  (exS (cal 2 (r_slack) none (csV (vlV (getV 1)) (csV (vlV (getV 2)) nlV))))
def b__law_word_of_e3 : MS :=
  (exS (cal 2 (r_sum_of_rows) none (csV (vlV (getV 1)) (csV (vlV (getV 2)) nlV))))
def b__law_word_of_e4 : MS :=
  (ifS (cmT eqD (getV 0) (cD (.int 1)))
  b__law_word_of_t2
  b__law_word_of_e3)
def b__law_word_of_y5 : MS :=
  (ifS (cmT eqD (getV 0) (cD (.int 0)))
  b__law_word_of_t1
  b__law_word_of_e4)
def b__law_word_of : MS :=
  (seqS (stS 3 (cD (.str "none")))
  (seqS (tryM b__law_word_of_y5 [⟨[("InvalidPoint", false), ("InvalidRows", true)], some 4, fun c => (stS 3 (ifD (anT (tsT (kitT [("InvalidPoint", true), ("InvalidRows", true)] c)) (ntT (tsT (kitT [("InvalidPoint", true), ("InvalidRows", false)] c)))) (cD (.str "rows")) (cD (.str "other"))))⟩, ⟨[("InvalidPoint", true), ("InvalidRows", false)], some 4, fun c => (stS 3 (ifD (tsT (kitT [("InvalidPoint", true), ("InvalidRows", true)] c)) (cD (.str "point")) (cD (.str "other"))))⟩])
  (rtS (getV 3))))
def r__law_word_of : M D := fnM 3 5 b__law_word_of
def b__law_words_of : MS :=
  (rtS (compL [2] (rg1 (csD (cD (.int 3)) nlD)) (setS 2) (M.pure true) (cal 3 (r__law_word_of) none (csV (vlV (getV 2)) (csV (vlV (getV 0)) (csV (vlV (getV 1)) nlV))))))
def r__law_words_of : M D := fnM 2 3 b__law_words_of
def b__law_great_rows_t1 : MS :=
  (stS 3 (tpD (csD (bltD tupleD (csD (compL [4] (itD (opD idxD (getV 3) (cD (.int 0)))) (setS 4) (M.pure true) (cal 2 (r__law_great) (some 0) (csV (borV 0) (csV (vlV (lsD (csD (cD (.int 10)) (csD (opD powD (cD (.int 10)) (cD (.int 30))) nlD)))) nlV)))) nlD)) (csD (cal 2 (r__law_great) (some 0) (csV (borV 0) (csV (vlV (lsD (csD (cD (.int 10)) (csD (opD powD (cD (.int 10)) (cD (.int 30))) nlD)))) nlV))) nlD))))
def b__law_great_rows_f2 : MS :=
  (seqS (ifS (cmT eqD (cal 2 (r__law_next) (some 0) (csV (borV 0) (csV (vlV (cD (.int 3))) nlV))) (cD (.int 0)))
  b__law_great_rows_t1
  nxS)
  (apS 2 (getV 3)))
def b__law_great_rows : MS :=
  (seqS (owS 2 (lsD nlD))
  (seqS (foS (itD (getV 1)) (setS 3) b__law_great_rows_f2)
  (rtS (bltV tupleD (csV (borV 2) nlV)))))
def r__law_great_rows : M D := fnM 2 5 b__law_great_rows
def b_law_t1 : MS :=
  (seqS (stS 10 (cal 2 (r__law_one_of) (some 0) (csV (borV 3) (csV (vlV (getV 9)) nlV))))
  (seqS (stS 11 (cal 2 (r__law_minus) none (csV (vlV (opD idxD (getV 8) (cD (.int 1)))) (csV (vlV (cal 2 (r__law_dot) none (csV (vlV (opD idxD (getV 8) (cD (.int 0)))) (csV (vlV (opD addD (opD addD (slD (getV 6) noI (smI (getV 10))) (tpD (csD (tpD (csD (cD (.int 0)) (csD (cD (.int 1)) nlD))) nlD))) (slD (getV 6) (smI (opD addD (getV 10) (cD (.int 1)))) noI))) nlV)))) nlV))))
  (stS 6 (opD addD (opD addD (slD (getV 6) noI (smI (getV 10))) (tpD (csD (cal 2 (r__law_made) none (csV (vlV (opD mulD (opD idxD (getV 11) (cD (.int 0))) (opD idxD (opD idxD (opD idxD (getV 8) (cD (.int 0))) (getV 10)) (cD (.int 1))))) (csV (vlV (opD mulD (opD idxD (getV 11) (cD (.int 1))) (opD idxD (opD idxD (opD idxD (getV 8) (cD (.int 0))) (getV 10)) (cD (.int 0))))) nlV))) nlD))) (slD (getV 6) (smI (opD addD (getV 10) (cD (.int 1)))) noI)))))
def b_law_t2 : MS :=
  (seqS (stS 8 (cal 2 (r__law_one_of) (some 0) (csV (borV 3) (csV (vlV (getV 5)) nlV))))
  (seqS (stS 9 (compL [10] (rg1 (csD (getV 4) nlD)) (setS 10) (cmT neD (opD idxD (opD idxD (opD idxD (getV 8) (cD (.int 0))) (getV 10)) (cD (.int 0))) (cD (.int 0))) (getV 10)))
  (ifS (cmT neD (getV 9) (lsD nlD))
  b_law_t1
  nxS)))
def b_law_f3 : MS :=
  (stS 11 (cal 2 (r__law_plus) none (csV (vlV (getV 11)) (csV (vlV (cal 2 (r__law_times) none (csV (vlV (opD idxD (getV 13) (getV 10))) (csV (vlV (opD idxD (getV 12) (getV 10))) nlV)))) nlV))))
def b_law_t4 : MS :=
  (seqS (stS 14 (cal 2 (r_sum_of_rows) none (csV (vlV (getV 5)) (csV (vlV (getV 13)) nlV))))
  (seqS (ifS (ntT (tsT (cal 2 (r__law_same 40) none (csV (vlV (getV 14)) (csV (vlV (cal 3 (r__law_summed) none (csV (vlV (getV 5)) (csV (vlV (getV 13)) (csV (vlV (getV 4)) nlV))))) nlV)))))
  (rtS (cD (.bl false)))
  nxS)
  (seqS (stS 11 (tpD (csD (cD (.int 0)) (csD (cD (.int 1)) nlD))))
  (seqS (foS (rg1 (csD (bltD lenD (csD (getV 5) nlD)) nlD)) (setS 10) b_law_f3)
  (seqS (ifS (orT (ntT (tsT (cal 2 (r__law_same 40) none (csV (vlV (cal 2 (r_slack) none (csV (vlV (tpD (csD (getV 14) nlD))) (csV (vlV (getV 6)) nlV)))) (csV (vlV (tpD (csD (getV 11) nlD))) nlV))))) (anT (tsT (cal 2 (r_holds) none (csV (vlV (getV 5)) (csV (vlV (getV 6)) nlV)))) (ntT (tsT (cal 2 (r_holds) none (csV (vlV (tpD (csD (getV 14) nlD))) (csV (vlV (getV 6)) nlV)))))))
  (rtS (cD (.bl false)))
  nxS)
  (ifS (orT (cmT neD (cal 3 (r__law_word_of) none (csV (vlV (cD (.int 2))) (csV (vlV (getV 5)) (csV (vlV (slD (getV 13) (smI (cD (.int 1))) noI)) nlV)))) (cD (.str "point"))) (cmT neD (cal 3 (r__law_word_of) none (csV (vlV (cD (.int 2))) (csV (vlV (getV 5)) (csV (vlV (opD addD (slD (getV 13) noI (smI (unD negD (cD (.int 1))))) (tpD (csD (tpD (csD (unD negD (cD (.int 1))) (csD (cD (.int 2)) nlD))) nlD)))) nlV)))) (cD (.str "point"))))
  (rtS (cD (.bl false)))
  nxS))))))
def b_law_e5 : MS :=
  (ifS (cmT neD (cal 3 (r__law_word_of) none (csV (vlV (cD (.int 2))) (csV (vlV (getV 5)) (csV (vlV (tpD nlD)) nlV)))) (cD (.str "rows")))
  (rtS (cD (.bl false)))
  nxS)
def b_law_f6 : MS :=
  (seqS (stS 16 (cal 3 (r__law_bent 40) (some 0) (csV (borV 3) (csV (vlV (getV 5)) (csV (vlV (getV 1)) nlV)))))
  (seqS (stS 17 (cal 2 (r__law_is_rows) none (csV (vlV (getV 16)) (csV (vlV (cD (.int 0))) nlV))))
  (ifS (orT (ntT (tsT (cal 2 (r__law_same 40) none (csV (vlV (calK0 1 1 (r_is_rows) none (csV (vlV (getV 16)) nlV))) (csV (vlV (getV 17)) nlV))))) (anT (ntT (tsT (getV 17))) (cmT neD (cal 2 (r__law_words_of) none (csV (vlV (getV 16)) (csV (vlV (cD .non)) nlV))) (opD mulD (lsD (csD (cD (.str "rows")) nlD)) (cD (.int 3))))))
  (rtS (cD (.bl false)))
  nxS)))
def b_law_f7 : MS :=
  (seqS (stS 12 (ifD (tsT (cal 2 (r__law_is_point) none (csV (vlV (getV 16)) (csV (vlV (ifD (cmT neD (getV 5) (tpD nlD)) (getV 4) (cD (.int 0)))) nlV)))) (cD (.str "none")) (cD (.str "point"))))
  (ifS (cmT neD (compL [19] (rg1 (csD (cD (.int 2)) nlD)) (setS 19) (M.pure true) (cal 3 (r__law_word_of) none (csV (vlV (getV 19)) (csV (vlV (getV 5)) (csV (vlV (getV 16)) nlV))))) (opD mulD (lsD (csD (getV 12) nlD)) (cD (.int 2))))
  (rtS (cD (.bl false)))
  nxS))
def b_law_k8 : MS :=
  (ifS (ntT (tsT (cal 2 (r__law_same 40) none (csV (vlV (cal 1 (r_is_rows) none (csV (vlV (opD addD (getV 5) (tpD (csD (tpD (csD (cal 1 (r__law_zeros) none (csV (vlV (opD addD (getV 4) (cD (.int 1)))) nlV)) (csD (tpD (csD (cD (.int 0)) (csD (cD (.int 1)) nlD))) nlD))) nlD)))) nlV))) (csV (vlV (cmD eqD (getV 5) (tpD nlD))) nlV)))))
  (rtS (cD (.bl false)))
  nxS)
def b_law_k9 : MS :=
  (seqS (foS (itD (lsD (csD (opD addD (getV 6) (tpD (csD (tpD (csD (cD (.int 0)) (csD (cD (.int 1)) nlD))) nlD))) (csD (slD (getV 6) noI (smI (unD negD (cD (.int 1))))) (csD (bltD listD (csD (getV 6) nlD)) (csD (cD .non) (csD (opD addD (tpD (csD (tpD (csD (cD (.int 2)) (csD (cD (.int 4)) nlD))) nlD)) (slD (getV 6) (smI (cD (.int 1))) noI)) (csD (tpD nlD) nlD)))))))) (setS 16) b_law_f7)
  b_law_k8)
def b_law_k10 : MS :=
  (seqS (foS (rg1 (csD (cD (.int 6)) nlD)) (setS 15) b_law_f6)
  b_law_k9)
def b_law_k11 : MS :=
  (seqS (stS 13 (bltD tupleD (csD (compL [8] (itD (getV 5)) (setS 8) (M.pure true) (cal 2 (r__law_one_of) (some 0) (csV (borV 3) (csV (vlV (lsD (csD (tpD (csD (cD (.int 0)) (csD (cD (.int 1)) nlD))) (csD (tpD (csD (cD (.int 1)) (csD (cD (.int 1)) nlD))) (csD (tpD (csD (cD (.int 1)) (csD (cD (.int 2)) nlD))) (csD (tpD (csD (cD (.int 0)) (csD (cD (.int 1)) nlD))) (csD (tpD (csD (cD (.int 7)) (csD (cD (.int 3)) nlD))) (csD (tpD (csD (opD addD (opD powD (cD (.int 10)) (cD (.int 29))) (cD (.int 1))) (csD (cD (.int 3)) nlD))) nlD)))))))) nlV)))) nlD)))
  (seqS (ifS (cmT neD (getV 5) (tpD nlD))
  b_law_t4
  b_law_e5)
  b_law_k10))
def b_law_k12 : MS :=
  (seqS (stS 12 (bltD tupleD (csD (compL [8] (itD (getV 5)) (setS 8) (M.pure true) (cal 2 (r__law_minus) none (csV (vlV (opD idxD (getV 8) (cD (.int 1)))) (csV (vlV (cal 2 (r__law_dot) none (csV (vlV (opD idxD (getV 8) (cD (.int 0)))) (csV (vlV (getV 6)) nlV)))) nlV)))) nlD)))
  (seqS (ifS (ntT (tsT (cal 2 (r__law_same 40) none (csV (vlV (lsD (csD (cal 1 (r_is_rows) none (csV (vlV (getV 5)) nlV)) (csD (cal 2 (r_holds) none (csV (vlV (getV 5)) (csV (vlV (getV 6)) nlV))) (csD (cal 2 (r_slack) none (csV (vlV (getV 5)) (csV (vlV (getV 6)) nlV))) nlD))))) (csV (vlV (lsD (csD (cD (.bl true)) (csD (bltD allD (csD (compL [18] (itD (getV 12)) (setS 18) (M.pure true) (cmD geD (opD idxD (getV 18) (cD (.int 0))) (cD (.int 0)))) nlD)) (csD (getV 12) nlD))))) nlV)))))
  (rtS (cD (.bl false)))
  nxS)
  b_law_k11))
def b_law_f13 : MS :=
  (seqS (owS 3 (calF 1 (r__law_pool) none (csV (vlV (getV 2)) nlV)))
  (seqS (stS 4 (opD addD (cD (.int 1)) (cal 2 (r__law_next) (some 0) (csV (borV 3) (csV (vlV (cD (.int 4))) nlV)))))
  (seqS (stS 5 (cal 3 (r__law_rows) (some 0) (csV (borV 3) (csV (vlV (getV 4)) (csV (vlV (cD (.int 8))) nlV)))))
  (seqS (asS (tpD (csD (cal 2 (r__law_wide_point) (some 0) (csV (borV 3) (csV (vlV (getV 4)) nlV))) (csD (cmD eqD (cal 2 (r__law_next) (some 0) (csV (borV 3) (csV (vlV (cD (.int 3))) nlV))) (cD (.int 0))) nlD))) (tgT 2 (tgC (setS 6) (tgC (setS 7) tgN))))
  (seqS (stS 5 (ifD (tsT (getV 7)) (cal 2 (r__law_great_rows) (some 0) (csV (borV 3) (csV (vlV (getV 5)) nlV))) (getV 5)))
  (seqS (ifS (anT (ntT (tsT (getV 7))) (cmT neD (getV 5) (tpD nlD)))
  b_law_t2
  nxS)
  b_law_k12))))))
def b_law : MS :=
  (seqS (stS 1 (opD addD (cal0 (r__law_odd)) (lsD (csD (tpD (csD (tpD (csD (cD (.int 0)) (csD (cD (.int 1)) nlD))) (csD (tpD (csD (cD (.int 0)) (csD (cD (.int 1)) nlD))) nlD))) (csD (tpD (csD (tpD (csD (tpD (csD (cD (.int 0)) (csD (cD (.int 1)) nlD))) nlD)) (csD (tpD (csD (cD (.int 0)) (csD (cD (.int 1)) nlD))) nlD))) nlD)))))
  (seqS (foS (itD (slD (opD addD (lsD (csD (cD (.int 1709)) nlD)) (getV 0)) noI (smI (cD (.int 8))))) (setS 2) b_law_f13)
  (rtS (cD (.bl true)))))
def r_law : M D := fnM 1 20 b_law
end F

section
open PySem L2 Pd
end
local macro_rules | `(tactic| walk_at "sm") => `(tactic| first
  | assumption
  | ((with_reducible apply Rq.Sq.n); walk_at "sq")
  | ((with_reducible apply Rq.Sq.d); walk_at "sq")
  | exact (show Pd.Sm 64 _ from by show Int.natAbs _ < 2 ^ 64; decide)
  | exact (show Pd.Sm 400 _ from by show Int.natAbs _ < 2 ^ 400; decide)
  | ((with_reducible apply Pd.Sm.mul) <;> walk_at "sm")
  | ((with_reducible apply Pd.Sm.add) <;> walk_at "sm")
  | ((with_reducible apply Pd.Sm.sub) <;> walk_at "sm")
  | ((with_reducible apply Pd.Sm.neg) <;> walk_at "sm"))
local macro_rules | `(tactic| walk_at "sq") => `(tactic| first
  | assumption
  | ((with_reducible apply Rq.Sq.add) <;> walk_at "sq")
  | ((with_reducible apply Rq.Sq.mul) <;> walk_at "sq")
  | ((with_reducible apply Rq.Sq.sub) <;> walk_at "sq")
  | ((with_reducible apply Rq.Sq.neg) <;> walk_at "sq")
  | with_reducible exact Rq.sq0
  | with_reducible exact Rq.sq1)
local macro_rules | `(tactic| walk_at "sz") => `(tactic| first
  | assumption
  | omega
  | ((with_reducible apply Pd.mulOk_sm); (focus walk_at "sm"); (focus walk_at "sm"); (focus first | decide | omega))
  | ((with_reducible apply Pd.divOk_sm); (focus walk_at "sm"); (focus first | decide | omega); (focus first | assumption | omega | exact Rq.den_ne _))
  | ((with_reducible apply Rq.two); (focus walk_at "sq"); (focus walk_at "sq"); (focus first | decide | omega))
  | ((with_reducible apply Rq.Sq.mono); (focus walk_at "sq"); (focus first | decide | omega))
  | ((with_reducible refine And.intro ?_ ?_) <;> walk_at "sz")
  | decide
  | omega)
local macro_rules | `(tactic| walk_at "wn") => `(tactic| try dsimp only [List.set_cons_zero, List.set_cons_succ, List.cons_append, List.nil_append, List.replicate, List.length_cons, List.length_nil, Nat.reduceAdd, Nat.reduceSub, Pd.back, Pd.relS, List.map, Pd.wipeS])
local macro_rules | `(tactic| walk_at "wx") => `(tactic| first
  | with_reducible refine Pd.pr ?_
  | ((with_reducible refine Pd.rf_i ?_ ?_); (focus first | rfl | (refine Pd.canSet_of rfl ?_; assumption) | (refine decide_eq_true ?_; first | omega | (simp only [List.length_map, List.length_range, List.length_take, List.length_drop, List.length_append, List.length_cons, List.length_nil, List.length_replicate, List.length_zip]; omega))); try dsimp only [List.set_cons_zero, List.set_cons_succ, List.cons_append, List.nil_append, List.replicate, List.length_cons, List.length_nil, Nat.reduceAdd, Nat.reduceSub, Pd.back, Pd.relS, List.map, Pd.wipeS])
  | ((with_reducible refine Pd.som_id ?_); refine Pd.som_i (by rfl) ?_; try dsimp only [List.set_cons_zero, List.set_cons_succ, List.cons_append, List.nil_append, List.replicate, List.length_cons, List.length_nil, Nat.reduceAdd, Nat.reduceSub, Pd.back, Pd.relS, List.map, Pd.wipeS])
  | ((with_reducible refine Pd.sd_i ?_ ?_); (focus walk_at "sz"))
  | ((with_reducible refine Pd.Ix.mk ?_ ?_); (focus first | assumption | omega))
  | ((with_reducible refine Pd.BrD.id ?_); first | refine Pd.BrD.yes (by decide) ?_ | refine Pd.BrD.no (by decide) ?_)
  | ((with_reducible refine Pd.Br.id ?_); first | refine Pd.Br.is (by with_reducible rfl) ?_ | refine Pd.Br.isnt (by with_reducible rfl) ?_))
local macro_rules | `(tactic| walk_at "wg") => `(tactic| repeat walk_at "wx")

/-! what the functions of number_work and value_work do -/
namespace Sp
open PySem L2 Pd Rq F
section
variable {Q : D → Sto → Prop} {E : Str → Sto → Prop} {p q : Rat}
theorem made {n d : Int} (h : d ≠ 0) (hs : Sm 8900 d) (k : Q (frQ (qo n d)) [.val (.int n), .val (.int d)]) : wp r_made Q E [.val (.int n), .val (.int d)] := by
  have h' : divOk (com n d) = true := divOk_sm (com_le h hs) (by decide) (com_ne h)
  obtain ⟨e1, e2⟩ := made_eq (n := n) h
  refine wp_fnM rfl rfl ?_
  walk_at "wn"
  unfold b_made
  walk_at "wg"
  unfold frQ at k
  rw [← e1, ← e2] at k
  unfold com at h' k
  refine BrD.dec (fun hd => ?_) (fun hd => ?_)
  · rw [if_pos hd] at h' k
    walk_at "wg"
    unfold b_made_k1
    walk_at "wg"
    exact k
  · rw [if_neg hd] at h' k
    walk_at "wg"
    unfold b_made_k1
    walk_at "wg"
    exact k
theorem one_den {q : Rat} (h : (q.den : Int) = 1) : qo q.num 1 = q := by
  rw [← h]
  exact qo_self q
theorem frQ_int (a : Int) : frQ (a : Rat) = .tup [.int a, .int 1] := by
  unfold frQ
  rw [Rat.num_intCast, Rat.den_intCast]
  rfl
theorem den_one {q : Rat} (h : (q.den : Int) = 1) : q = (q.num : Rat) := by
  have := one_den h
  rw [qo_int] at this
  exact this.symm
theorem plus (hz : Two p q) (h : Q (frQ (p + q)) [.val (frQ p), .val (frQ q)]) : wp r_plus Q E [.val (frQ p), .val (frQ q)] := by
  obtain ⟨k, l, hp, hq, hkl⟩ := hz
  have hpq : (p.den : Int) * q.den ≠ 0 := Int.mul_ne_zero (den_ne p) (den_ne q)
  have main : Q (frQ (qo (p.num * q.den + q.num * p.den) (p.den * q.den))) [.val (frQ p), .val (frQ q)] := by rw [qo_add]; exact h
  refine wp_fnM rfl rfl ?_
  walk_at "wn"
  unfold b_plus
  walk_at "wg"
  refine BrD.dec (fun h1 => ?_) (fun h1 => ?_)
  · walk_at "wg"
    refine BrD.dec (fun h2 => ?_) (fun h2 => ?_)
    · unfold b_plus_t1
      walk_at "wg"
      have e1 := den_one h1
      have e2 := den_one h2
      have e : p + q = ((p.num + q.num : Int) : Rat) := by rw [Rat.intCast_add, ← e1, ← e2]
      rw [e, frQ_int] at h
      exact h
    · walk_at "wg"
      exact made hpq ((hp.d.mul hq.d).mono (by omega)) main
  · walk_at "wg"
    exact made hpq ((hp.d.mul hq.d).mono (by omega)) main
instance : PR (wp r_plus Q E [.val (frQ p), .val (frQ q)]) (Sd (Two p q) (Q (frQ (p + q)) [.val (frQ p), .val (frQ q)])) := ⟨fun ⟨h1, h⟩ => plus h1 h⟩
theorem neg_fr (q : Rat) : D.tup [.int (-q.num), .int (q.den : Int)] = frQ (-q) := by
  unfold frQ
  rw [Rat.neg_num, Rat.neg_den]
theorem minus (hz : Two p q) (h : Q (frQ (p - q)) [.val (frQ p), .val (frQ q)]) : wp r_minus Q E [.val (frQ p), .val (frQ q)] := by
  obtain ⟨k, l, hp, hq, hkl⟩ := hz
  refine wp_fnM rfl rfl ?_
  walk_at "wn"
  unfold b_minus
  walk_at "wg"
  rw [neg_fr]
  refine plus ⟨k, l, hp, hq.neg, hkl⟩ ?_
  walk_at "wg"
  rw [← Rat.sub_eq_add_neg]
  exact h
instance : PR (wp r_minus Q E [.val (frQ p), .val (frQ q)]) (Sd (Two p q) (Q (frQ (p - q)) [.val (frQ p), .val (frQ q)])) := ⟨fun ⟨h1, h⟩ => minus h1 h⟩
theorem mult (hz : Two p q) (h : Q (frQ (p * q)) [.val (frQ p), .val (frQ q)]) : wp r_mult Q E [.val (frQ p), .val (frQ q)] := by
  obtain ⟨k, l, hp, hq, hkl⟩ := hz
  have hpq : (p.den : Int) * q.den ≠ 0 := Int.mul_ne_zero (den_ne p) (den_ne q)
  have main : Q (frQ (qo (p.num * q.num) (p.den * q.den))) [.val (frQ p), .val (frQ q)] := by rw [qo_mul]; exact h
  refine wp_fnM rfl rfl ?_
  walk_at "wn"
  unfold b_mult
  walk_at "wg"
  refine BrD.dec (fun h1 => ?_) (fun h1 => ?_)
  · walk_at "wg"
    refine BrD.dec (fun h2 => ?_) (fun h2 => ?_)
    · unfold b_mult_t1
      walk_at "wg"
      have e1 := den_one h1
      have e2 := den_one h2
      have e : p * q = ((p.num * q.num : Int) : Rat) := by rw [Rat.intCast_mul, ← e1, ← e2]
      rw [e, frQ_int] at h
      exact h
    · walk_at "wg"
      exact made hpq ((hp.d.mul hq.d).mono (by omega)) main
  · walk_at "wg"
    exact made hpq ((hp.d.mul hq.d).mono (by omega)) main
instance : PR (wp r_mult Q E [.val (frQ p), .val (frQ q)]) (Sd (Two p q) (Q (frQ (p * q)) [.val (frQ p), .val (frQ q)])) := ⟨fun ⟨h1, h⟩ => mult h1 h⟩
theorem at_most (hz : Two p q) (h : Q (.bl (decide (p ≤ q))) [.val (frQ p), .val (frQ q)]) : wp r_at_most Q E [.val (frQ p), .val (frQ q)] := by
  obtain ⟨k, l, hp, hq, hkl⟩ := hz
  refine wp_fnM rfl rfl ?_
  walk_at "wn"
  unfold b_at_most
  walk_at "wg"
  have e : decide (p.num * (q.den : Int) ≤ q.num * (p.den : Int)) = decide (p ≤ q) := by
    rw [decide_eq_decide]
    exact (Rat.le_iff p q).symm
  rw [e]
  exact h
instance : PR (wp r_at_most Q E [.val (frQ p), .val (frQ q)]) (Sd (Two p q) (Q (.bl (decide (p ≤ q))) [.val (frQ p), .val (frQ q)])) := ⟨fun ⟨h1, h⟩ => at_most h1 h⟩
end
section
variable {Q : D → Sto → Prop} {E : Str → Sto → Prop} {d e : D} {w : Int} {L : Nat}
theorem is_int (h : Q (.bl (isI d)) [.val d]) : wp r_is_int Q E [.val d] := by
  refine wp_fnM rfl rfl ?_
  walk_at "wn"
  unfold b_is_int
  cases d <;> (walk_at "wg"; exact h)
instance : PR (wp r_is_int Q E [.val d]) (Q (.bl (isI d)) [.val d]) := ⟨is_int⟩
def isRow (d : D) (n : Int) : Bool := match d with
  | .tup ds => decide ((ds.length : Int) = n)
  | _ => false
theorem is_row (h : Q (.bl (isRow d w)) [.val d, .val (.int w)]) : wp r_is_row Q E [.val d, .val (.int w)] := by
  refine wp_fnM rfl rfl ?_
  walk_at "wn"
  unfold b_is_row
  cases d <;> (walk_at "wg"; exact h)
instance : PR (wp r_is_row Q E [.val d, .val (.int w)]) (Q (.bl (isRow d w)) [.val d, .val (.int w)]) := ⟨is_row⟩
theorem row2 (h : isRow d 2 = true) : ∃ a b, d = .tup [a, b] := by
  unfold isRow at h
  split at h
  · rename_i ds
    have h := of_decide_eq_true h
    match ds, h with
    | [a, b], _ => exact ⟨a, b, rfl⟩
    | [], h => simp at h
    | [_], h => simp at h
    | _ :: _ :: _ :: _, h => simp at h; omega
  · cases h
theorem row2_no (h : isRow d 2 = false) : isFr d = false ∧ isLn d w = false := by
  constructor
  · cases q : isFr d with
    | false => rfl
    | true =>
      obtain ⟨q, rfl⟩ := isFr_iff.mp q
      cases h
  · unfold isLn
    split
    · cases h
    · rfl
theorem fits_fraction (h : Q (.bl (isFr d)) [.val d]) : wp r_fits_fraction Q E [.val d] := by
  refine wp_fnM rfl rfl ?_
  walk_at "wn"
  unfold b_fits_fraction
  walk_at "wg"
  refine Br.both (fun e => ?_) (fun e => ?_)
  · obtain ⟨x, y, rfl⟩ := row2 e
    walk_at "wg"
    cases x with
    | int a =>
      walk_at "wg"
      cases y with
      | int b =>
        walk_at "wg"
        rw [isFr_pair] at h
        refine BrD.dec (fun hb => ?_) (fun hb => ?_)
        · walk_at "wg"
          rw [decide_eq_true hb, Bool.true_and] at h
          exact h
        · walk_at "wg"
          rw [decide_eq_false hb, Bool.false_and] at h
          exact h
      | _ => walk_at "wg"; exact h
    | _ => walk_at "wg"; exact h
  · walk_at "wg"
    rw [(row2_no (w := 0) e).1] at h
    exact h
instance : PR (wp r_fits_fraction Q E [.val d]) (Q (.bl (isFr d)) [.val d]) := ⟨fits_fraction⟩
theorem fits_point (hb : Bdd 1000 d) (h : Q (.bl (isPt d)) [.val d]) : wp r_fits_point Q E [.val d] := by
  refine wp_fnM rfl rfl ?_
  walk_at "wn"
  unfold b_fits_point
  cases d with
  | tup ds =>
    have hl := hb.tup.1
    walk_at "wg"
    have e0 : isPt (.tup ds) = (!ds.isEmpty && ds.all isFr) := rfl
    rw [e0] at h
    refine Br.both (fun e => ?_) (fun e => ?_)
    · rw [e] at h
      exact h
    · walk_at "wg"
      refine wp_craw (fun x => .bl (isFr x)) (by omega) (fun x hx => ?_) ?_
      · walk_at "wg"
        exact ⟨rfl, rfl⟩
      · walk_at "wg"
        rw [e] at h
        exact h
  | _ => walk_at "wg"; exact h
instance : PR (wp r_fits_point Q E [.val d]) (Sd (Bdd 1000 d) (Q (.bl (isPt d)) [.val d])) := ⟨fun ⟨a, h⟩ => fits_point a h⟩
theorem isPt_tup (h : isPt d = true) : ∃ ds, d = .tup ds ∧ ds ≠ [] ∧ ∀ x ∈ ds, isFr x = true := by
  unfold isPt at h
  split at h
  · rename_i ds
    simp only [Bool.and_eq_true, List.all_eq_true] at h
    exact ⟨ds, rfl, fun e => by rw [e] at h; simp at h, h.2⟩
  · cases h
theorem fits_wide_point (hb : Bdd 1000 d) (h : Q (.bl (isWPt d w)) [.val d, .val (.int w)]) : wp r_fits_wide_point Q E [.val d, .val (.int w)] := by
  refine wp_fnM rfl rfl ?_
  walk_at "wn"
  unfold b_fits_wide_point
  walk_at "wg"
  refine Br.both (fun e => ?_) (fun e => ?_)
  · obtain ⟨ds, rfl, _, _⟩ := isPt_tup e
    walk_at "wg"
    unfold isWPt at h
    rw [e, Bool.true_and] at h
    exact h
  · unfold isWPt at h
    rw [e, Bool.false_and] at h
    exact h
instance : PR (wp r_fits_wide_point Q E [.val d, .val (.int w)]) (Sd (Bdd 1000 d) (Q (.bl (isWPt d w)) [.val d, .val (.int w)])) := ⟨fun ⟨a, h⟩ => fits_wide_point a h⟩
theorem bdd2 {a b : D} (h : Bdd L (.tup [a, b])) : Bdd L a ∧ Bdd L b := ⟨h.tup.2 _ (by simp), h.tup.2 _ (by simp)⟩
theorem fits_line (hb : Bdd 1000 d) (h : Q (.bl (isLn d w)) [.val d, .val (.int w)]) : wp r_fits_line Q E [.val d, .val (.int w)] := by
  refine wp_fnM rfl rfl ?_
  walk_at "wn"
  unfold b_fits_line
  walk_at "wg"
  refine Br.both (fun e => ?_) (fun e => ?_)
  · obtain ⟨x, y, rfl⟩ := row2 e
    have h1 := bdd2 hb
    have h2 := h1.1
    walk_at "wg"
    have e2 : isLn (.tup [x, y]) w = (isWPt x w && isFr y) := rfl
    rw [e2] at h
    refine Br.both (fun e => ?_) (fun e => ?_)
    · walk_at "wg"
      rw [e, Bool.true_and] at h
      exact h
    · rw [e, Bool.false_and] at h
      exact h
  · rw [(row2_no e).2] at h
    exact h
instance : PR (wp r_fits_line Q E [.val d, .val (.int w)]) (Sd (Bdd 1000 d) (Q (.bl (isLn d w)) [.val d, .val (.int w)])) := ⟨fun ⟨a, h⟩ => fits_line a h⟩
theorem fits_wide_rows (hb : Bdd 1000 d) (h : Q (.bl (isWRs d w)) [.val d, .val (.int w)]) : wp r_fits_wide_rows Q E [.val d, .val (.int w)] := by
  refine wp_fnM rfl rfl ?_
  walk_at "wn"
  unfold b_fits_wide_rows
  cases d with
  | tup ds =>
    have hl := hb.tup
    walk_at "wg"
    refine wp_craw (fun x => .bl (isLn x w)) (by omega) (fun x hx => ?_) ?_
    · have := hl.2 x hx
      walk_at "wg"
      exact ⟨rfl, rfl⟩
    · walk_at "wg"
      exact h
  | _ => walk_at "wg"; exact h
instance : PR (wp r_fits_wide_rows Q E [.val d, .val (.int w)]) (Sd (Bdd 1000 d) (Q (.bl (isWRs d w)) [.val d, .val (.int w)])) := ⟨fun ⟨a, h⟩ => fits_wide_rows a h⟩
def isTup : D → Bool := Pd.isTup
theorem fits_rows (hb : Bdd 1000 d) (h : Q (.bl (isRs d)) [.val d]) : wp r_fits_rows Q E [.val d] := by
  refine wp_fnM rfl rfl ?_
  walk_at "wn"
  unfold b_fits_rows
  cases d with
  | tup ds =>
    have hl := hb.tup
    walk_at "wg"
    refine wp_craw (fun x => .bl (isRow x 2 && Pd.isTup (fst2 x))) (by omega) (fun x hx => ?_) ?_
    · walk_at "wg"
      refine Br.both (fun e => ?_) (fun e => ?_)
      · obtain ⟨x, y, rfl⟩ := row2 e
        walk_at "wg"
        rw [e]
        exact ⟨rfl, rfl⟩
      · rw [e]
        exact ⟨rfl, rfl⟩
    · walk_at "wg"
      refine Br.both (fun e => ?_) (fun e => ?_)
      · walk_at "wg"
        cases ds with
        | nil => walk_at "wg"; exact h
        | cons r rs =>
          walk_at "wg"
          rw [List.all_eq_true] at e
          have e1 := e r List.mem_cons_self
          simp only [Bool.and_eq_true] at e1
          obtain ⟨x, y, rfl⟩ := row2 e1.1
          have e2 := e1.2
          cases x with
          | tup xs =>
            walk_at "wg"
            have e3 : isRs (.tup (.tup [.tup xs, y] :: rs)) = isWRs (.tup (.tup [.tup xs, y] :: rs)) (xs.length : Int) := rfl
            rw [e3] at h
            exact h
          | _ => cases e2
      · walk_at "wg"
        have : isRs (.tup ds) = false := by
          cases q : isRs (.tup ds) with
          | false => rfl
          | true =>
            have q : (ds.isEmpty || ds.all (isLn · (tlen (fst2 (ds.headD .non)) : Nat))) = true := q
            cases ds with
            | nil => cases e
            | cons r rs =>
              rw [Bool.or_eq_true] at q
              have q := q.resolve_left (by simp)
              rw [List.all_eq_true] at q
              have : ((r :: rs).all fun x => isRow x 2 && Pd.isTup (fst2 x)) = true := by
                rw [List.all_eq_true]
                intro x hx
                have := q x hx
                unfold isLn at this
                split at this
                · rename_i a b
                  rw [Bool.and_eq_true] at this
                  have := this.1
                  unfold isWPt at this
                  rw [Bool.and_eq_true] at this
                  obtain ⟨ds, rfl, _⟩ := isPt_tup this.1
                  rfl
                · cases this
              rw [this] at e
              cases e
        rw [this] at h
        exact h
  | _ => walk_at "wg"; exact h
instance : PR (wp r_fits_rows Q E [.val d]) (Sd (Bdd 1000 d) (Q (.bl (isRs d)) [.val d])) := ⟨fun ⟨a, h⟩ => fits_rows a h⟩
end
end Sp

namespace Rq
open Pd
theorem den_rat_ne {d : Int} (h : d ≠ 0) : (d : Rat) ≠ 0 := fun e => h (Rat.intCast_inj.mp (e.trans (by rfl)))
theorem num_eq (q : Rat) : (q.num : Rat) = q * ((q.den : Int) : Rat) := by
  have h := Rat.num_divInt_den q
  rw [Rat.divInt_eq_div] at h
  have := den_rat_ne (den_ne q)
  generalize ((q.den : Int) : Rat) = x at *
  generalize (q.num : Rat) = y at *
  subst h
  grind
theorem qo_of {n d : Int} {q : Rat} (h : d ≠ 0) (e : (n : Rat) = q * (d : Rat)) : qo n d = q := by
  unfold qo
  rw [Rat.divInt_eq_div]
  have := den_rat_ne h
  generalize (d : Rat) = x at *
  generalize (n : Rat) = y at *
  subst e
  grind
theorem filterMap_if {α β : Type} {c : α → Bool} {g : α → β} : ∀ {xs : List α}, xs.filterMap (fun x => if c x = true then some (g x) else none) = (xs.filter c).map g
  | [] => rfl
  | x :: xs => by
    rw [List.filterMap_cons, List.filter_cons, filterMap_if]
    by_cases h : c x = true
    · rw [if_pos h, if_pos h]
      rfl
    · rw [if_neg h, if_neg h]
/-- products that are not 0 -/
def prods (zs : List (Rat × Rat)) : List Rat := (zs.filter fun p => !decide (p.1 = 0) && !decide (p.2 = 0)).map fun p => p.1 * p.2
theorem prods_sum : ∀ zs : List (Rat × Rat), (prods zs).sum = (zs.map fun p => p.1 * p.2).sum
  | [] => rfl
  | p :: zs => by
    have ih := prods_sum zs
    unfold prods at ih ⊢
    rw [List.filter_cons, List.map_cons, List.sum_cons]
    by_cases h1 : p.1 = 0
    · rw [if_neg (by simp [h1]), ih, h1]
      grind
    · by_cases h2 : p.2 = 0
      · rw [if_neg (by simp [h2]), ih, h2]
        grind
      · rw [if_pos (by simp [h1, h2]), List.map_cons, List.sum_cons, ih]
theorem prods_mem {zs : List (Rat × Rat)} {z : Rat} (h : z ∈ prods zs) : ∃ p ∈ zs, z = p.1 * p.2 := by
  unfold prods at h
  obtain ⟨p, hp, rfl⟩ := List.mem_map.mp h
  exact ⟨p, (List.mem_filter.mp hp).1, rfl⟩
theorem prods_len (zs : List (Rat × Rat)) : (prods zs).length ≤ zs.length := by
  unfold prods
  rw [List.length_map]
  exact List.length_filter_le _ _
def AllSq (k : Nat) (xs : List Rat) : Prop := ∀ x ∈ xs, Sq k x
structure DotOk' (k l : Nat) (xs ys : List Rat) : Prop where
  a : AllSq k xs
  b : AllSq l ys
  c : 1 + xs.length * (k + l + 1) ≤ 8900
  d : xs.length ≤ 1000
def DotOk (xs ys : List Rat) : Prop := ∃ k l, DotOk' k l xs ys
theorem AllSq.mono {k l : Nat} {xs : List Rat} (h : AllSq k xs) (e : k ≤ l) : AllSq l xs := fun x hx => (h x hx).mono e
theorem dot_sq {k l : Nat} {xs ys : List Rat} (h : AllSq k xs) (g : AllSq l ys) : Sq (xs.length * (k + l + 1) + 1) (dotQ xs ys) := by
  unfold dotQ
  have := Sq.sum (k := k + l) (xs := (xs.zip ys).map fun p => p.1 * p.2) (fun z hz => by
    obtain ⟨p, hp, rfl⟩ := List.mem_map.mp hz
    obtain ⟨h1, h2⟩ := List.of_mem_zip hp
    exact (h _ h1).mul (g _ h2))
  refine this.mono ?_
  rw [List.length_map, List.length_zip]
  have := Nat.mul_le_mul_right (k + l + 1) (Nat.min_le_left xs.length ys.length)
  omega
end Rq
namespace Sp
open PySem L2 Pd Rq F
section
variable {Q : D → Sto → Prop} {E : Str → Sto → Prop} {d e : D} {w : Int} {L k : Nat} {xs ys : List Rat}
theorem added_up (hs : ∀ x ∈ xs, Sq k x) (hk : 1 + xs.length * (k + 1) ≤ 8900) (h : Q (frQ xs.sum) [.val (.lst (xs.map frQ))]) : wp r_added_up Q E [.val (.lst (xs.map frQ))] := by
  refine wp_fnM rfl rfl ?_
  walk_at "wn"
  unfold b_added_up
  walk_at "wg"
  refine wps_fore (fun pre η => ∃ (n d : Int) (s : Slot), η = [.val (.lst (xs.map frQ)), .val (.int n), .val (.int d), s] ∧ canSets (some s) = true ∧ d ≠ 0 ∧ (n : Rat) = pre.sum * (d : Rat) ∧ Sm (1 + pre.length * (k + 1)) n ∧ Sm (1 + pre.length * (k + 1)) d) ?_ ?_ ?_
  · exact ⟨0, 1, .no, rfl, rfl, by decide, by simp [List.sum_nil], (show Sm 1 0 by unfold Sm; decide).mono (by omega), (show Sm 1 1 by unfold Sm; decide).mono (by omega)⟩
  · rintro pre x post η' he ⟨n, d, s, rfl, hc, hd, hn, sn, sd⟩
    have hx := hs x (by rw [he]; simp)
    have hlen : pre.length + 1 ≤ xs.length := by rw [he]; simp
    have hpl : (pre ++ [x]).length = pre.length + 1 := by simp
    have hsum : (pre ++ [x]).sum = pre.sum + x := by
      rw [List.sum_append]
      simp [Rat.add_zero]
    have hM : 1 + (pre.length + 1) * (k + 1) = 1 + pre.length * (k + 1) + k + 1 := by rw [Nat.succ_mul]; omega
    have hM2 : (pre.length + 1) * (k + 1) ≤ xs.length * (k + 1) := Nat.mul_le_mul_right _ hlen
    have hx1 := num_eq x
    rw [hpl, hsum, hM]
    walk_at "wg"
    unfold b_added_up_f4
    walk_at "wg"
    refine BrD.dec (fun h1 => ?_) (fun h1 => ?_)
    · unfold b_added_up_t1
      walk_at "wg"
      refine ⟨n + x.num, d, _, rfl, rfl, hd, ?_, sm_add1 (sn.mono (by omega)) (hx.n.mono (by omega)), sd.mono (by omega)⟩
      rw [h1] at hx1
      rw [Rat.intCast_add, hn, hx1]
      grind
    · unfold b_added_up_e3
      walk_at "wg"
      refine BrD.dec (fun h2 => ?_) (fun h2 => ?_)
      · walk_at "wg"
        refine ⟨n, d, _, rfl, rfl, hd, ?_, sn.mono (by omega), sd.mono (by omega)⟩
        rw [num_zero.mp h2, hn]
        grind
      · unfold b_added_up_t2
        walk_at "wg"
        refine ⟨_, _, _, rfl, rfl, Int.mul_ne_zero hd (den_ne x), ?_, sm_add1 (sn.mul hx.d) ((hx.n.mul sd).mono (by omega)), (sd.mul hx.d).mono (by omega)⟩
        rw [Rat.intCast_add, Rat.intCast_mul, Rat.intCast_mul, Rat.intCast_mul, hn, hx1]
        grind
  · rintro η' ⟨n, d, s, rfl, hc, hd, hn, sn, sd⟩
    walk_at "wg"
    refine made hd (sd.mono hk) ?_
    rw [qo_of hd hn]
    exact h
theorem dot (h : DotOk xs ys) (k : Q (frQ (dotQ xs ys)) [.val (ptQ xs), .val (ptQ ys)]) : wp r_dot Q E [.val (ptQ xs), .val (ptQ ys)] := by
  obtain ⟨m, l, h1, h2, h3, h4⟩ := h
  have hzl : (xs.zip ys).length ≤ xs.length := by rw [List.length_zip]; omega
  have hz : (xs.zip ys).length * (m + l + 1) ≤ xs.length * (m + l + 1) := Nat.mul_le_mul_right _ hzl
  refine wp_fnM rfl rfl ?_
  walk_at "wn"
  unfold b_dot
  walk_at "wg"
  refine wp_cfil (fun p => if (!decide (p.1 = 0) && !decide (p.2 = 0)) = true then some (frQ (p.1 * p.2)) else none) (by omega) (fun p hp => ?_) ?_
  · have q1 := h1 _ (List.of_mem_zip hp).1
    have q2 := h2 _ (List.of_mem_zip hp).2
    have hml : m + l ≤ 8900 := by
      have : 1 ≤ (xs.zip ys).length := List.length_pos_of_mem hp
      have := Nat.mul_le_mul_right (m + l + 1) this
      omega
    obtain ⟨x, y⟩ := p
    walk_at "wg"
    refine BrD.dec (fun h1 => ?_) (fun h1 => ?_)
    · walk_at "wg"
      rw [if_neg (by simp [num_zero.mp h1])]
      exact ⟨rfl, rfl⟩
    · walk_at "wg"
      refine BrD.dec (fun h2 => ?_) (fun h2 => ?_)
      · walk_at "wg"
        rw [if_neg (by simp [num_zero.mp h2])]
        exact ⟨rfl, rfl⟩
      · walk_at "wg"
        have n1 : ¬ x = 0 := fun e => h1 (num_zero.mpr e)
        have n2 : ¬ y = 0 := fun e => h2 (num_zero.mpr e)
        rw [if_pos (by simp [n1, n2])]
        exact ⟨rfl, rfl⟩
  · have e : (xs.zip ys).filterMap (fun p => if (!decide (p.1 = 0) && !decide (p.2 = 0)) = true then some (frQ (p.1 * p.2)) else none) = (prods (xs.zip ys)).map frQ := by
      unfold prods
      rw [List.map_map]
      exact filterMap_if
    rw [e]
    walk_at "wg"
    have hl := prods_len (xs.zip ys)
    have hz2 : (prods (xs.zip ys)).length * (m + l + 1) ≤ (xs.zip ys).length * (m + l + 1) := Nat.mul_le_mul_right _ hl
    refine added_up (k := m + l) (fun z hz => ?_) (by omega) ?_
    · obtain ⟨p, hp, rfl⟩ := prods_mem hz
      exact (h1 _ (List.of_mem_zip hp).1).mul (h2 _ (List.of_mem_zip hp).2)
    · rw [prods_sum]
      exact k
instance : PR (wp r_dot Q E [.val (ptQ xs), .val (ptQ ys)]) (Sd (DotOk xs ys) (Q (frQ (dotQ xs ys)) [.val (ptQ xs), .val (ptQ ys)])) := ⟨fun ⟨a, h⟩ => dot a h⟩
end
end Sp

namespace Rq
open Pd
/-- rows of one width above 0 -/
def WRows (w : Nat) (rs : List Row) : Prop := 0 < w ∧ ∀ r ∈ rs, r.1.length = w
theorem all_fr (xs : List Rat) : (xs.map frQ).all isFr = true := by
  rw [List.all_eq_true]
  intro d hd
  obtain ⟨q, _, rfl⟩ := List.mem_map.mp hd
  exact isFr_fr q
theorem isPt_pt (xs : List Rat) : isPt (ptQ xs) = !xs.isEmpty := by
  show (!(xs.map frQ).isEmpty && (xs.map frQ).all isFr) = _
  rw [all_fr, Bool.and_true, List.isEmpty_map]
theorem tlen_pt (xs : List Rat) : tlen (ptQ xs) = xs.length := by
  show (xs.map frQ).length = _
  rw [List.length_map]
theorem isLn_row (r : Row) (w : Int) : isLn (rowQ r) w = (!r.1.isEmpty && decide ((r.1.length : Int) = w)) := by
  show (isWPt (ptQ r.1) w && isFr (frQ r.2)) = _
  rw [isFr_fr, Bool.and_true]
  unfold isWPt
  rw [isPt_pt, tlen_pt]
theorem isRs_rows {w : Nat} {rs : List Row} (h : WRows w rs) : isRs (rowsQ rs) = true := by
  show ((rs.map rowQ).isEmpty || (rs.map rowQ).all (isLn · (tlen (fst2 ((rs.map rowQ).headD .non)) : Nat))) = true
  cases rs with
  | nil => rfl
  | cons r rs =>
    rw [Bool.or_eq_true]
    right
    rw [List.all_eq_true]
    intro d hd
    obtain ⟨q, hq, rfl⟩ := List.mem_map.mp hd
    have h1 := h.2 r List.mem_cons_self
    have h2 := h.2 q hq
    rw [isLn_row]
    have e : tlen (fst2 ((((r :: rs) : List Row).map rowQ).headD .non)) = r.1.length := tlen_pt r.1
    rw [e]
    have : q.1 ≠ [] := fun e => by rw [e] at h2; have := h.1; simp at h2; omega
    simp [this]
    omega
/-- a point for rows -/
def isPtFor (d p : D) : Bool := isPt p && (match d with
  | .tup (r :: _) => decide ((tlen p : Int) = (tlen (fst2 r) : Int))
  | _ => true)
theorem isLn_pair {r : D} {w : Int} (h : isLn r w = true) : ∃ a b, r = .tup [a, b] ∧ isWPt a w = true ∧ isFr b = true := by
  match r, h with
  | .tup [a, b], h =>
    have h : (isWPt a w && isFr b) = true := h
    rw [Bool.and_eq_true] at h
    exact ⟨a, b, rfl, h.1, h.2⟩
theorem isWPt_tup {a : D} {w : Int} (h : isWPt a w = true) : ∃ xs, a = .tup xs ∧ xs ≠ [] ∧ (xs.length : Int) = w ∧ ∀ x ∈ xs, isFr x = true := by
  unfold isWPt at h
  rw [Bool.and_eq_true] at h
  cases a with
  | tup xs =>
    have h1 : (!xs.isEmpty && xs.all isFr) = true := h.1
    simp only [Bool.and_eq_true, List.all_eq_true] at h1
    refine ⟨xs, rfl, fun e => by rw [e] at h1; simp at h1, of_decide_eq_true h.2, h1.2⟩
  | _ => cases h.1
theorem isRs_cons {r : D} {rs : List D} (h : isRs (.tup (r :: rs)) = true) : ∃ xs y, r = .tup [.tup xs, y] := by
  have h : (false || (r :: rs).all (isLn · (tlen (fst2 r) : Nat))) = true := h
  rw [Bool.false_or, List.all_eq_true] at h
  obtain ⟨a, b, rfl, h1, _⟩ := isLn_pair (h r List.mem_cons_self)
  obtain ⟨xs, rfl, _⟩ := isWPt_tup h1
  exact ⟨xs, b, rfl⟩
theorem isRs_tup {d : D} (h : isRs d = true) : ∃ ds, d = .tup ds := by
  unfold isRs at h
  split at h
  · exact ⟨_, rfl⟩
  · cases h
theorem isPtFor_rows {w : Nat} {rs : List Row} {xs : List Rat} (h : WRows w rs) (hx : xs.length = w) : isPtFor (rowsQ rs) (ptQ xs) = true := by
  unfold isPtFor
  rw [isPt_pt]
  have : xs ≠ [] := fun e => by rw [e] at hx; have := h.1; simp at hx; omega
  cases rs with
  | nil => simp [this]; rfl
  | cons r rs =>
    have h1 := h.2 r List.mem_cons_self
    show (!xs.isEmpty && decide ((tlen (ptQ xs) : Int) = (tlen (ptQ r.1) : Int))) = true
    rw [tlen_pt, tlen_pt]
    simp [this]
    omega
theorem bdd_pt {L : Nat} {xs : List Rat} (hL : 2 ≤ L) (h : xs.length ≤ L) (hs : AllSq 4000 xs) : Bdd L (ptQ xs) := bdd_tup (by rw [List.length_map]; exact h) (by
  intro d hd
  obtain ⟨q, hq, rfl⟩ := List.mem_map.mp hd
  exact bdd_fr hL (hs q hq))
structure RowSz (k L : Nat) (r : Row) : Prop where
  a : AllSq k r.1
  b : Sq k r.2
  c : r.1.length ≤ L
theorem bdd_row {L k : Nat} {r : Row} (hL : 2 ≤ L) (h : RowSz k L r) (hk : k ≤ 4000) : Bdd L (rowQ r) := bdd_tup hL (by
  intro d hd
  simp only [List.mem_cons, List.not_mem_nil, or_false] at hd
  rcases hd with rfl | rfl
  · exact bdd_pt hL h.c (h.a.mono hk)
  · exact bdd_fr hL (h.b.mono hk))
structure RowsSz (k L : Nat) (rs : List Row) : Prop where
  a : ∀ r ∈ rs, RowSz k L r
  b : rs.length ≤ L
theorem bdd_rows {L k : Nat} {rs : List Row} (hL : 2 ≤ L) (h : RowsSz k L rs) (hk : k ≤ 4000) : Bdd L (rowsQ rs) := bdd_tup (by rw [List.length_map]; exact h.b) (by
  intro d hd
  obtain ⟨r, hr, rfl⟩ := List.mem_map.mp hd
  exact bdd_row hL (h.a r hr) hk)
theorem Bdd.mono {L M : Nat} (e : L ≤ M) : ∀ {d : D}, Bdd L d → Bdd M d
  | .int i, h => by unfold Bdd at h ⊢; exact h
  | .tup ds, h => bdd_tup (by have := h.tup.1; omega) fun d hd => Bdd.mono e (h.tup.2 d hd)
  | .lst ds, h => bdd_lst (by have := h.lst.1; omega) fun d hd => Bdd.mono e (h.lst.2 d hd)
  | .non, h => by unfold Bdd; trivial
  | .bl _, h => by unfold Bdd; trivial
  | .str _, h => by unfold Bdd; trivial
  | .dct _ _, h => by unfold Bdd; trivial
  | .scr _, h => by unfold Bdd; trivial
/-- where a row holds -/
def rowAt (x : List Rat) (r : Row) : Bool := decide (dotQ r.1 x ≤ r.2)
end Rq
namespace Sp
open PySem L2 Pd Rq F
section
variable {Q : D → Sto → Prop} {E : Str → Sto → Prop} {d e p : D} {w : Int} {L k l : Nat} {xs ys : List Rat} {rs : List Row} {r : Row}
theorem check_rows (hb : Bdd 1000 d) (h : Br (isRs d) (Q .non [.val d]) (E "InvalidRows" [.val d])) : wp r_check_rows Q E [.val d] := by
  refine wp_fnM rfl rfl ?_
  walk_at "wn"
  unfold b_check_rows
  walk_at "wg"
  refine Br.both (fun e => ?_) (fun e => ?_)
  · walk_at "wg"
    exact h.1 e
  · walk_at "wg"
    exact h.2 e
instance : PR (wp r_check_rows Q E [.val d]) (Sd (Bdd 1000 d) (Br (isRs d) (Q .non [.val d]) (E "InvalidRows" [.val d]))) := ⟨fun ⟨a, h⟩ => check_rows a h⟩
def isSome (d : D) : Bool := match d with
  | .tup [] => false
  | _ => true
theorem check_some_rows (hb : Bdd 1000 d) (h : Br (isRs d && isSome d) (Q .non [.val d]) (E "InvalidRows" [.val d])) : wp r_check_some_rows Q E [.val d] := by
  refine wp_fnM rfl rfl ?_
  walk_at "wn"
  unfold b_check_some_rows
  walk_at "wg"
  refine Br.both (fun e => ?_) (fun e => ?_)
  · obtain ⟨ds, rfl⟩ := isRs_tup e
    walk_at "wg"
    rw [e, Bool.true_and] at h
    refine Br.both (fun e2 => ?_) (fun e2 => ?_)
    · walk_at "wg"
      cases ds with
      | nil => exact h.2 rfl
      | cons d ds => cases e2
    · walk_at "wg"
      cases ds with
      | nil => cases e2
      | cons d ds => exact h.1 rfl
  · walk_at "wg"
    exact h.2 (by rw [e]; rfl)
instance : PR (wp r_check_some_rows Q E [.val d]) (Sd (Bdd 1000 d) (Br (isRs d && isSome d) (Q .non [.val d]) (E "InvalidRows" [.val d]))) := ⟨fun ⟨a, h⟩ => check_some_rows a h⟩
theorem check_points (hb : Bdd 1000 d) (hp : Bdd 1000 p) (h : Br (isRs d) (Br (isPtFor d p) (Q .non [.val d, .val p]) (E "InvalidPoint" [.val d, .val p])) (E "InvalidRows" [.val d, .val p])) : wp r_check_points Q E [.val d, .val p] := by
  refine wp_fnM rfl rfl ?_
  walk_at "wn"
  unfold b_check_points
  walk_at "wg"
  refine Br.both (fun e => ?_) (fun e => ?_)
  · obtain ⟨ds, rfl⟩ := isRs_tup e
    have h := h.1 e
    walk_at "wg"
    refine Br.both (fun e2 => ?_) (fun e2 => ?_)
    · obtain ⟨ps, rfl, _, _⟩ := isPt_tup e2
      walk_at "wg"
      refine Br.both (fun e3 => ?_) (fun e3 => ?_)
      · walk_at "wg"
        cases ds with
        | nil => exact h.1 (by unfold isPtFor; rw [e2]; rfl)
        | cons d ds => cases e3
      · cases ds with
        | nil => cases e3
        | cons r rs =>
          obtain ⟨xs, y, rfl⟩ := isRs_cons e
          walk_at "wg"
          refine BrD.dec (fun e4 => ?_) (fun e4 => ?_)
          · walk_at "wg"
            exact h.1 (by unfold isPtFor; rw [e2]; exact decide_eq_true e4)
          · walk_at "wg"
            exact h.2 (by unfold isPtFor; rw [e2]; exact decide_eq_false e4)
    · walk_at "wg"
      exact h.2 (by unfold isPtFor; rw [e2]; rfl)
  · exact h.2 e
instance : PR (wp r_check_points Q E [.val d, .val p]) (Sd (Bdd 1000 d ∧ Bdd 1000 p) (Br (isRs d) (Br (isPtFor d p) (Q .non [.val d, .val p]) (E "InvalidPoint" [.val d, .val p])) (E "InvalidRows" [.val d, .val p]))) := ⟨fun ⟨a, h⟩ => check_points a.1 a.2 h⟩
theorem is_rows (hb : Bdd 1000 d) (h : Q (.bl (isRs d)) [.val d]) : wp r_is_rows Q E [.val d] := by
  refine wp_fnM rfl rfl ?_
  walk_at "wn"
  unfold b_is_rows
  walk_at "wg"
  exact h
instance : PR (wp r_is_rows Q E [.val d]) (Sd (Bdd 1000 d) (Q (.bl (isRs d)) [.val d])) := ⟨fun ⟨a, h⟩ => is_rows a h⟩
def isMuB (x : D) : Bool := match toQ x with
  | some q => decide (0 ≤ q)
  | none => false
theorem fits_multipliers {n : Int} (hb : Bdd 1000 d) (h : Q (.bl (isMu d n)) [.val d, .val (.int n)]) : wp r_fits_multipliers Q E [.val d, .val (.int n)] := by
  have key : ∀ {ds : List D}, ds.all isFr = false → (ds.all isMuB) = false := by
    intro ds h
    cases q : ds.all isMuB with
    | false => rfl
    | true =>
      rw [List.all_eq_true] at q
      rw [← h, Eq.comm, List.all_eq_true]
      intro x hx
      have := q x hx
      unfold isMuB at this
      unfold isFr
      cases e : toQ x with
      | none => rw [e] at this; cases this
      | some z => rfl
  refine wp_fnM rfl rfl ?_
  walk_at "wn"
  unfold b_fits_multipliers
  cases d with
  | tup ds =>
    have hl := hb.tup.1
    have e0 : isMu (.tup ds) n = (isRow (.tup ds) n && ds.all isMuB) := rfl
    rw [e0] at h
    walk_at "wg"
    refine Br.both (fun e => ?_) (fun e => ?_)
    · rw [e, Bool.true_and] at h
      walk_at "wg"
      refine wp_craw (fun x => .bl (isFr x)) (by omega) (fun x hx => ?_) ?_
      · walk_at "wg"
        exact ⟨rfl, rfl⟩
      · walk_at "wg"
        refine Br.both (fun e2 => ?_) (fun e2 => ?_)
        · walk_at "wg"
          rw [List.all_eq_true] at e2
          refine wp_craw (fun x => .bl (isMuB x)) (by omega) (fun x hx => ?_) ?_
          · obtain ⟨q, rfl⟩ := isFr_iff.mp (e2 x hx)
            walk_at "wg"
            have : isMuB (frQ q) = decide (0 ≤ q.num) := by
              unfold isMuB
              rw [toQ_fr]
              simp only
              rw [decide_eq_decide]
              exact Rat.num_nonneg.symm
            rw [this]
            exact ⟨rfl, rfl⟩
          · walk_at "wg"
            exact h
        · walk_at "wg"
          rw [key e2] at h
          exact h
    · rw [e, Bool.false_and] at h
      walk_at "wg"
      exact h
  | _ =>
    walk_at "wg"
    refine Br.isnt rfl ?_
    walk_at "wg"
    exact h
instance {n : Int} : PR (wp r_fits_multipliers Q E [.val d, .val (.int n)]) (Sd (Bdd 1000 d) (Q (.bl (isMu d n)) [.val d, .val (.int n)])) := ⟨fun ⟨a, h⟩ => fits_multipliers a h⟩
/-! where rows hold -/
def AtOk (x : List Rat) (r : Row) : Prop := DotOk r.1 x ∧ Two (dotQ r.1 x) r.2
theorem row_holds (ho : AtOk xs r) (h : Q (.bl (rowAt xs r)) [.val (rowQ r), .val (ptQ xs)]) : wp r_row_holds Q E [.val (rowQ r), .val (ptQ xs)] := by
  obtain ⟨h1, h2⟩ := ho
  refine wp_fnM rfl rfl ?_
  walk_at "wn"
  unfold b_row_holds
  walk_at "wg"
  exact h
instance : PR (wp r_row_holds Q E [.val (rowQ r), .val (ptQ xs)]) (Sd (AtOk xs r) (Q (.bl (rowAt xs r)) [.val (rowQ r), .val (ptQ xs)])) := ⟨fun ⟨a, h⟩ => row_holds a h⟩
theorem rows_hold (ho : rs.length ≤ 1000 ∧ ∀ r ∈ rs, AtOk xs r) (h : Q (.bl (rs.all (rowAt xs))) [.val (rowsQ rs), .val (ptQ xs)]) : wp r_rows_hold Q E [.val (rowsQ rs), .val (ptQ xs)] := by
  refine wp_fnM rfl rfl ?_
  walk_at "wn"
  unfold b_rows_hold
  walk_at "wg"
  refine wp_cmap (fun r => .bl (rowAt xs r)) (by omega) (fun r hr => ?_) ?_
  · have := ho.2 r hr
    walk_at "wg"
    exact ⟨rfl, rfl⟩
  · walk_at "wg"
    exact h
end
end Sp

namespace Rq
open Pd
def addRow (acc : Row) (f : Rat) (r : Row) : Row := (List.zipWith (fun a b => a + f * b) acc.1 r.1, acc.2 + f * r.2)
def sumQ (w : Nat) (zs : List (Row × Rat)) : Row := zs.foldl (fun acc p => addRow acc p.2 p.1) (List.replicate w 0, 0)
theorem addRow_len {acc r : Row} {f : Rat} {w : Nat} (h1 : acc.1.length = w) (h2 : r.1.length = w) : (addRow acc f r).1.length = w := by
  unfold addRow
  simp only [List.length_zipWith]
  omega
theorem sumQ_snoc (w : Nat) (zs : List (Row × Rat)) (p : Row × Rat) : sumQ w (zs ++ [p]) = addRow (sumQ w zs) p.2 p.1 := by
  unfold sumQ
  rw [List.foldl_append]
  rfl
theorem zw0 : ∀ {xs ys : List Rat}, xs.length = ys.length → List.zipWith (fun a b => a + 0 * b) xs ys = xs
  | [], [], _ => rfl
  | x :: xs, y :: ys, h => by
    rw [List.zipWith_cons_cons, zw0 (by simpa using h)]
    congr 1
    grind
  | [], _ :: _, h => by simp at h
  | _ :: _, [], h => by simp at h
theorem addRow0 {acc r : Row} (h : acc.1.length = r.1.length) : addRow acc 0 r = acc := by
  unfold addRow
  rw [zw0 h]
  refine Prod.ext rfl ?_
  show acc.2 + 0 * r.2 = acc.2
  grind
theorem mem_zipWith {α β γ : Type} {g : α → β → γ} : ∀ {xs : List α} {ys : List β} {z : γ}, z ∈ List.zipWith g xs ys → ∃ x ∈ xs, ∃ y ∈ ys, z = g x y
  | [], _, _, h => by simp at h
  | _ :: _, [], _, h => by simp at h
  | x :: xs, y :: ys, z, h => by
    rw [List.zipWith_cons_cons, List.mem_cons] at h
    rcases h with rfl | h
    · exact ⟨x, List.mem_cons_self, y, List.mem_cons_self, rfl⟩
    · obtain ⟨a, ha, b, hb, e⟩ := mem_zipWith h
      exact ⟨a, List.mem_cons_of_mem _ ha, b, List.mem_cons_of_mem _ hb, e⟩
theorem zip_mapW {α β γ : Type} {g : α → β → γ} : ∀ {xs : List α} {ys : List β}, (xs.zip ys).map (fun p => g p.1 p.2) = List.zipWith g xs ys
  | [], _ => by simp
  | _ :: _, [] => by simp
  | x :: xs, y :: ys => by
    rw [List.zip_cons_cons, List.map_cons, List.zipWith_cons_cons, zip_mapW]
structure RowSq (k : Nat) (r : Row) : Prop where
  a : AllSq k r.1
  b : Sq k r.2
theorem RowSq.mono {k l : Nat} {r : Row} (h : RowSq k r) (e : k ≤ l) : RowSq l r := ⟨h.a.mono e, h.b.mono e⟩
theorem addRow_sq {k m j : Nat} {acc r : Row} {f : Rat} (h : RowSq j acc) (hf : Sq m f) (hr : RowSq k r) : RowSq (j + (m + k) + 1) (addRow acc f r) :=
  ⟨fun x hx => by
    obtain ⟨a, ha, b, hb, rfl⟩ := mem_zipWith hx
    exact (h.a a ha).add (hf.mul (hr.a b hb)), h.b.add (hf.mul hr.b)⟩
theorem sumQ_sq {k m w : Nat} : ∀ {zs : List (Row × Rat)}, (∀ p ∈ zs, RowSq k p.1 ∧ Sq m p.2) → RowSq (1 + zs.length * (m + k + 1)) (sumQ w zs) := by
  have key : ∀ (zs : List (Row × Rat)) (acc : Row) (j : Nat), (∀ p ∈ zs, RowSq k p.1 ∧ Sq m p.2) → RowSq j acc → RowSq (j + zs.length * (m + k + 1)) (zs.foldl (fun acc p => addRow acc p.2 p.1) acc) := by
    intro zs
    induction zs with
    | nil => intro acc j _ h; exact h.mono (by omega)
    | cons p zs ih =>
      intro acc j hz h
      obtain ⟨h1, h2⟩ := hz p List.mem_cons_self
      refine (ih _ _ (fun q hq => hz q (List.mem_cons_of_mem _ hq)) (addRow_sq h h2 h1)).mono ?_
      rw [List.length_cons, Nat.succ_mul]
      omega
  intro zs h
  exact key zs _ 1 h ⟨fun x hx => by rw [List.eq_of_mem_replicate hx]; exact sq0, sq0⟩
theorem sumQ_len {w : Nat} {zs : List (Row × Rat)} (h : ∀ p ∈ zs, p.1.1.length = w) : (sumQ w zs).1.length = w := by
  have key : ∀ (zs : List (Row × Rat)) (acc : Row), (∀ p ∈ zs, p.1.1.length = w) → acc.1.length = w → (zs.foldl (fun acc p => addRow acc p.2 p.1) acc).1.length = w := by
    intro zs
    induction zs with
    | nil => intro acc _ h; exact h
    | cons p zs ih =>
      intro acc hz h
      exact ih _ (fun q hq => hz q (List.mem_cons_of_mem _ hq)) (addRow_len h (hz p List.mem_cons_self))
  exact key zs _ h (by simp)
end Rq
namespace Sp
open PySem L2 Pd Rq F
section
variable {Q : D → Sto → Prop} {E : Str → Sto → Prop} {d e p : D} {w k m : Nat} {xs ys : List Rat} {rs : List Row} {r : Row}
theorem rep_flat (n : Nat) (d : D) : (List.replicate n [d]).flatten = List.replicate n d := by
  induction n with
  | zero => rfl
  | succ n ih => rw [List.replicate_succ, List.flatten_cons, ih, List.replicate_succ]; rfl
theorem mul_rep {n : Nat} {d : D} (e : n ≤ 1000) : mulD (.tup [d]) (.int (n : Int)) = some (.tup (List.replicate n d)) ∧ mulD (.lst [d]) (.int (n : Int)) = some (.lst (List.replicate n d)) := by
  have hr : repOk 1 (n : Int) = true := by
    unfold repOk
    simp
    omega
  constructor
  · show (if repOk 1 (n : Int) = true then some (D.tup (List.replicate (n : Int).toNat [d]).flatten) else none) = _
    rw [if_pos hr, Int.toNat_natCast, rep_flat]
  · show (if repOk 1 (n : Int) = true then some (D.lst (List.replicate (n : Int).toNat [d]).flatten) else none) = _
    rw [if_pos hr, Int.toNat_natCast, rep_flat]
theorem rep_q (n : Nat) (q : Rat) : D.tup (List.replicate n (frQ q)) = ptQ (List.replicate n q) := by
  unfold ptQ
  rw [List.map_replicate]
instance {Q : D → Prop} {n : Nat} {d : D} : PR (Som (mulD (.tup [d]) (.int (n : Int))) Q) (Sd (n ≤ 1000) (Q (.tup (List.replicate n d)))) := ⟨fun ⟨e, h⟩ => ⟨_, (mul_rep e).1, h⟩⟩
instance {Q : D → Prop} {n : Nat} {d : D} : PR (Som (mulD (.lst [d]) (.int (n : Int))) Q) (Sd (n ≤ 1000) (Q (.lst (List.replicate n d)))) := ⟨fun ⟨e, h⟩ => ⟨_, (mul_rep e).2, h⟩⟩
theorem fr0 : D.tup [.int 0, .int 1] = frQ 0 := rfl
/-- rows and multipliers small enough for their sum -/
structure SumOk (k m w : Nat) (rs : List Row) (ms : List Rat) : Prop where
  a : ∀ r ∈ rs, RowSq k r ∧ r.1.length = w
  b : AllSq m ms
  c : 1 + rs.length * (m + k + 1) + (m + k) ≤ 8900
  d : w ≤ 1000
theorem summed {ms : List Rat} (h : SumOk k m w rs ms) (q : Q (rowQ (sumQ w (rs.zip ms))) [.val (rowsQ rs), .val (ptQ ms), .val (.int (w : Int))]) : wp r_summed Q E [.val (rowsQ rs), .val (ptQ ms), .val (.int (w : Int))] := by
  obtain ⟨h1, h2, h3, h4⟩ := h
  refine wp_fnM rfl rfl ?_
  walk_at "wn"
  unfold b_summed
  walk_at "wg"
  rw [fr0, rep_q]
  walk_at "wg"
  refine wps_fore (fun pre η => ∃ t1 t2 t3 : Slot, η = [.val (rowsQ rs), .val (ptQ ms), .val (.int (w : Int)), .val (ptQ (sumQ w pre).1), .val (frQ (sumQ w pre).2), t1, t2, t3, .no, .no] ∧ canSets (some t1) = true ∧ canSets (some t2) = true ∧ canSets (some t3) = true) ?_ ?_ ?_
  · exact ⟨.no, .no, .no, rfl, rfl, rfl, rfl⟩
  · rintro pre ⟨r, f⟩ post η' he ⟨t1, t2, t3, rfl, c1, c2, c3⟩
    have hmem : ∀ p ∈ pre ++ (r, f) :: post, p.1 ∈ rs ∧ p.2 ∈ ms := fun p hp => List.of_mem_zip (by rw [he]; exact hp)
    have hr := h1 r (hmem (r, f) (by simp)).1
    have hf := h2 f (hmem (r, f) (by simp)).2
    have hacc : RowSq (1 + pre.length * (m + k + 1)) (sumQ w pre) := sumQ_sq fun p hp => ⟨(h1 _ (hmem p (by simp [hp])).1).1, h2 _ (hmem p (by simp [hp])).2⟩
    have hlen : (sumQ w pre).1.length = w := sumQ_len fun p hp => (h1 _ (hmem p (by simp [hp])).1).2
    have hpl : pre.length ≤ rs.length := by
      have := congrArg List.length he
      rw [List.length_zip, List.length_append] at this
      omega
    have hM := Nat.mul_le_mul_right (m + k + 1) hpl
    have hr1 := hr.1.b
    have ha := hacc.b
    walk_at "wg"
    unfold b_summed_f2
    walk_at "wg"
    refine BrD.dec (fun hz => ?_) (fun hz => ?_)
    · walk_at "wg"
      refine ⟨.val (ptQ r.1), .val (frQ r.2), .val (frQ f), ?_, rfl, rfl, rfl⟩
      rw [sumQ_snoc, num_zero.mp hz, addRow0 (by rw [hlen, hr.2])]
    · unfold b_summed_t1
      walk_at "wg"
      refine wp_cmap (fun p => frQ (p.1 + f * p.2)) (by rw [List.length_zip]; omega) (fun p hp => ?_) ?_
      · have q1 := hacc.a _ (List.of_mem_zip hp).1
        have q2 := hr.1.a _ (List.of_mem_zip hp).2
        obtain ⟨x, y⟩ := p
        walk_at "wg"
        exact ⟨rfl, rfl⟩
      · walk_at "wg"
        refine ⟨.val (ptQ r.1), .val (frQ r.2), .val (frQ f), ?_, rfl, rfl, rfl⟩
        rw [sumQ_snoc]
        have e : D.tup (((sumQ w pre).1.zip r.1).map fun p => frQ (p.1 + f * p.2)) = ptQ (addRow (sumQ w pre) f r).1 := by
          unfold ptQ addRow
          simp only
          rw [← zip_mapW, List.map_map]
          rfl
        rw [e]
        rfl
  · rintro η' ⟨t1, t2, t3, rfl, c1, c2, c3⟩
    walk_at "wg"
    exact q
end
end Sp

namespace Sp
open PySem L2 Pd Rq F
section
variable {Q : D → Sto → Prop} {E : Str → Sto → Prop} {d e p : D} {w k m l : Nat} {xs ys ms : List Rat} {rs : List Row} {r : Row}
/-- rows and a point, well made and small -/
structure Pair (w : Nat) (rs : List Row) (xs : List Rat) : Prop where
  a : WRows w rs
  b : xs.length = w
  c : Bdd 1000 (rowsQ rs)
  d : Bdd 1000 (ptQ xs)
  e : ∀ r ∈ rs, AtOk xs r
theorem Pair.len (h : Pair w rs xs) : rs.length ≤ 1000 := by
  have := h.c.tup.1
  rw [List.length_map] at this
  exact this
theorem holds (h : Pair w rs xs) (q : Q (.bl (rs.all (rowAt xs))) [.val (rowsQ rs), .val (ptQ xs)]) : wp r_holds Q E [.val (rowsQ rs), .val (ptQ xs)] := by
  obtain ⟨h1, h2, h3, h4, h5⟩ := id h
  have hl := h.len
  refine wp_fnM rfl rfl ?_
  walk_at "wn"
  unfold b_holds
  walk_at "wg"
  rw [isRs_rows h1, isPtFor_rows h1 h2]
  walk_at "wg"
  exact rows_hold ⟨hl, h5⟩ q
theorem slack (h : Pair w rs xs) (q : Q (ptQ (rs.map fun r => r.2 - dotQ r.1 xs)) [.val (rowsQ rs), .val (ptQ xs)]) : wp r_slack Q E [.val (rowsQ rs), .val (ptQ xs)] := by
  obtain ⟨h1, h2, h3, h4, h5⟩ := id h
  have hl := h.len
  refine wp_fnM rfl rfl ?_
  walk_at "wn"
  unfold b_slack
  walk_at "wg"
  rw [isRs_rows h1, isPtFor_rows h1 h2]
  walk_at "wg"
  refine wp_cmap (fun r => frQ (r.2 - dotQ r.1 xs)) (by omega) (fun r hr => ?_) ?_
  · obtain ⟨o1, k, l, o2, o3, o4⟩ := h5 r hr
    have o5 : Two r.2 (dotQ r.1 xs) := ⟨l, k, o3, o2, by omega⟩
    walk_at "wg"
    exact ⟨rfl, rfl⟩
  · walk_at "wg"
    unfold ptQ at q ⊢
    rw [List.map_map] at q
    exact q
theorem holds_n (hb : Bdd 1000 d) (hp : Bdd 1000 p) (h : isRs d = false → E "InvalidRows" [.val d, .val p]) (h2 : isRs d = true → isPtFor d p = false → E "InvalidPoint" [.val d, .val p]) (hx : (isRs d && isPtFor d p) = false) : wp r_holds Q E [.val d, .val p] := by
  refine wp_fnM rfl rfl ?_
  walk_at "wn"
  unfold b_holds
  walk_at "wg"
  refine Br.both (fun e => ?_) (fun e => ?_)
  · refine Br.both (fun e2 => ?_) (fun e2 => ?_)
    · rw [e, e2] at hx
      cases hx
    · exact h2 e e2
  · exact h e
theorem slack_n (hb : Bdd 1000 d) (hp : Bdd 1000 p) (h : isRs d = false → E "InvalidRows" [.val d, .val p]) (h2 : isRs d = true → isPtFor d p = false → E "InvalidPoint" [.val d, .val p]) (hx : (isRs d && isPtFor d p) = false) : wp r_slack Q E [.val d, .val p] := by
  refine wp_fnM rfl rfl ?_
  walk_at "wn"
  unfold b_slack
  walk_at "wg"
  refine Br.both (fun e => ?_) (fun e => ?_)
  · refine Br.both (fun e2 => ?_) (fun e2 => ?_)
    · rw [e, e2] at hx
      cases hx
    · exact h2 e e2
  · exact h e
theorem isSome_cons (h : (isRs d && isSome d) = true) : ∃ r ds, d = .tup (r :: ds) := by
  rw [Bool.and_eq_true] at h
  obtain ⟨ds, rfl⟩ := isRs_tup h.1
  cases ds with
  | nil => cases h.2
  | cons r ds => exact ⟨r, ds, rfl⟩
theorem sum_of_rows_n (hb : Bdd 1000 d) (hp : Bdd 1000 p) (h : (isRs d && isSome d) = false → E "InvalidRows" [.val d, .val p]) (h2 : (isRs d && isSome d) = true → isMu p (tlen d) = false → E "InvalidPoint" [.val d, .val p]) (hx : ((isRs d && isSome d) && isMu p (tlen d)) = false) : wp r_sum_of_rows Q E [.val d, .val p] := by
  refine wp_fnM rfl rfl ?_
  walk_at "wn"
  unfold b_sum_of_rows
  walk_at "wg"
  refine Br.both (fun e => ?_) (fun e => ?_)
  · obtain ⟨r, ds, rfl⟩ := isSome_cons e
    walk_at "wg"
    refine Br.both (fun e2 => ?_) (fun e2 => ?_)
    · rw [e] at hx
      have e2 : isMu p (tlen (.tup (r :: ds))) = true := e2
      rw [e2] at hx
      cases hx
    · walk_at "wg"
      exact h2 e e2
  · exact h e
theorem isMu_pt (h : ms.length = rs.length) (h0 : ∀ x ∈ ms, 0 ≤ x) : isMu (ptQ ms) (rs.length : Int) = true := by
  have e : isMu (ptQ ms) (rs.length : Int) = (decide (((ms.map frQ).length : Int) = (rs.length : Int)) && (ms.map frQ).all isMuB) := rfl
  rw [e, Bool.and_eq_true, List.all_eq_true]
  refine ⟨by rw [List.length_map, h]; simp, fun d hd => ?_⟩
  obtain ⟨q, hq, rfl⟩ := List.mem_map.mp hd
  unfold isMuB
  rw [toQ_fr]
  exact decide_eq_true (h0 q hq)
theorem sum_of_rows (h1 : WRows w rs) (h2 : rs ≠ []) (h3 : Bdd 1000 (rowsQ rs)) (h4 : Bdd 1000 (ptQ ms)) (h5 : ms.length = rs.length) (h6 : ∀ x ∈ ms, 0 ≤ x) (h7 : SumOk k m w rs ms) (q : Q (rowQ (sumQ w (rs.zip ms))) [.val (rowsQ rs), .val (ptQ ms)]) : wp r_sum_of_rows Q E [.val (rowsQ rs), .val (ptQ ms)] := by
  refine wp_fnM rfl rfl ?_
  walk_at "wn"
  unfold b_sum_of_rows
  walk_at "wg"
  rw [isRs_rows h1]
  have e : isSome (rowsQ rs) = true := by
    cases rs with
    | nil => exact absurd rfl h2
    | cons r rs => rfl
  rw [e]
  walk_at "wg"
  rw [isMu_pt h5 h6]
  walk_at "wg"
  cases rs with
  | nil => exact absurd rfl h2
  | cons r rs =>
    have hw := h1.2 r List.mem_cons_self
    refine som_i (ix_map (f := rowQ) (xs := r :: rs) (i := 0) (by simp)) ?_
    walk_at "wg"
    rw [List.getElem_cons_zero, hw]
    exact summed h7 q
end
end Sp

/-! the law's own helpers, first family -/
namespace Sp
open PySem L2 Pd Rq F
section
variable {Q : D → Sto → Prop} {E : Str → Sto → Prop} {η : Sto} {d e p po : D} {w k m l i : Nat} {bb : Bool} {many : Int} {xs ys ms : List Rat} {rs : List Row} {r : Row}
/-- a pool behind at most k draws -/
def Po (k : Nat) (d : D) : Prop := ∃ a b c : Int, d = .lst [.int a, .int b, .int c] ∧ 0 ≤ a ∧ Sm 1100000 a ∧ 0 ≤ b ∧ b < 2305843009213693951 ∧ 0 ≤ c ∧ c ≤ k
theorem Po.mono (h : Po k po) (e : k ≤ l) : Po l po := by
  obtain ⟨a, b, c, h1, h2, h3, h4, h5, h6, h7⟩ := h
  exact ⟨a, b, c, h1, h2, h3, h4, h5, h6, by omega⟩
theorem ten24 : (10 : Int) ^ (24 : Int).toNat = 1000000000000000000000000 := by decide
theorem pool {z : Int} (hz : Sm 1048577 z) (q : ∀ po, Po 1 po → Q po [.val (.int z)]) : wp r__law_pool Q E [.val (.int z)] := by
  refine wp_fnF rfl rfl ?_
  walk_at "wn"
  unfold b__law_pool
  walk_at "wg"
  refine q _ ⟨_, _, 1, rfl, ?_, ?_, ?_, ?_, by decide, by decide⟩
  · split <;> omega
  · rw [ten24]
    split
    · exact (hz.sub (show Sm 80 1000000000000000000000000 by unfold Sm; decide)).mono (by decide)
    · exact (show Sm 64 0 by unfold Sm; decide).mono (by decide)
  · exact Int.fmod_nonneg_of_pos _ (by decide)
  · exact Int.fmod_lt_of_pos _ (by decide)
theorem next (hp : Po k po) (hk : k < 1000000) (hm : 0 < many) (hs : Sm 400 many) (q : ∀ v po, 0 ≤ v → v < many → Po (k + 1) po → Q (.int v) [.own true po, .val (.int many)]) : wp r__law_next Q E [.own true po, .val (.int many)] := by
  obtain ⟨a, b, c, rfl, a0, as, b0, b1, c0, c1⟩ := hp
  have hb : Sm 64 b := by unfold Sm; omega
  have hc : Sm 64 (c + 1) := by unfold Sm; omega
  refine wp_fnM rfl rfl ?_
  walk_at "wn"
  unfold b__law_next
  walk_at "wg"
  refine BrD.dec (fun h => ?_) (fun h => ?_)
  · unfold b__law_next_t1
    walk_at "wg"
    refine q _ _ (Int.fmod_nonneg_of_pos _ hm) (Int.fmod_lt_of_pos _ hm) ⟨_, _, _, rfl, ?_, ?_, b0, b1, by omega, by omega⟩
    · exact Int.fdiv_nonneg (by omega) (by omega)
    · refine Sm.rng as (Int.fdiv_nonneg (by omega) (by omega)) ?_
      rw [Int.fdiv_eq_ediv_of_nonneg _ (by omega)]
      exact Int.ediv_le_self _ (by omega)
  · walk_at "wg"
    refine q _ _ (Int.fmod_nonneg_of_pos _ hm) (Int.fmod_lt_of_pos _ hm) ⟨_, _, _, rfl, a0, as, Int.fmod_nonneg_of_pos _ (by decide), Int.fmod_lt_of_pos _ (by decide), by omega, by omega⟩
/-- a draw, in a caller -/
theorem cal_next (e : η[i]? = some (.own bb po)) (hp : Po k po) (hk : k < 1000000) (hm : 0 < many) (hs : Sm 400 many)
    (q : ∀ v po, 0 ≤ v → v < many → Po (k + 1) po → Q (.int v) (η.set i (.own bb po))) : wp (callM noLst r__law_next (some 0) [.bor i, .val (.int many)]) Q E η :=
  wp_io (ds := [.int many]) rfl e (next hp hk hm hs fun v po h0 h1 h2 => ⟨_, _, rfl, q v po h0 h1 h2⟩)
/-- a draw below a number of things -/
theorem cal_nextn {n : Nat} (e : η[i]? = some (.own bb po)) (hp : Po k po) (hk : k < 1000000) (hm : 0 < n) (hs : n < 100000)
    (q : ∀ (v : Nat) po, v < n → Po (k + 1) po → Q (.int (v : Int)) (η.set i (.own bb po))) : wp (callM noLst r__law_next (some 0) [.bor i, .val (.int (n : Int))]) Q E η :=
  cal_next e hp hk (by omega) (by unfold Sm; omega) fun v po h0 h1 h2 => by
    have := q v.toNat po (by omega) h2
    rw [Int.toNat_of_nonneg h0] at this
    exact this
theorem one_of {ds : List D} (hp : Po k po) (hk : k < 1000000) (hm : 0 < ds.length) (hs : ds.length < 1000) (q : ∀ d po, d ∈ ds → Po (k + 1) po → Q d [.own true po, .val (.lst ds)]) : wp r__law_one_of Q E [.own true po, .val (.lst ds)] := by
  refine wp_fnM rfl rfl ?_
  walk_at "wn"
  unfold b__law_one_of
  walk_at "wg"
  refine cal_nextn rfl hp hk hm (by omega) fun v po h1 h2 => ?_
  walk_at "wn"
  walk_at "wg"
  refine som_i (ix_raw h1) ?_
  walk_at "wg"
  exact q _ _ (List.getElem_mem _) h2
theorem cal_one {ds : List D} (e : η[i]? = some (.own bb po)) (hp : Po k po) (hk : k < 1000000) (hm : 0 < ds.length) (hs : ds.length < 1000)
    (q : ∀ d po, d ∈ ds → Po (k + 1) po → Q d (η.set i (.own bb po))) : wp (callM noLst r__law_one_of (some 0) [.bor i, .val (.lst ds)]) Q E η :=
  wp_io (ds := [.lst ds]) rfl e (one_of hp hk hm hs fun v po h1 h2 => ⟨_, _, rfl, q v po h1 h2⟩)
theorem one_of_t {ds : List D} (hp : Po k po) (hk : k < 1000000) (hm : 0 < ds.length) (hs : ds.length < 1000) (q : ∀ d po, d ∈ ds → Po (k + 1) po → Q d [.own true po, .val (.tup ds)]) : wp r__law_one_of Q E [.own true po, .val (.tup ds)] := by
  refine wp_fnM rfl rfl ?_
  walk_at "wn"
  unfold b__law_one_of
  walk_at "wg"
  refine cal_nextn rfl hp hk hm (by show ds.length < 100000; omega) fun v po h1 h2 => ?_
  walk_at "wn"
  walk_at "wg"
  refine som_i (ix_raw h1) ?_
  walk_at "wg"
  exact q _ _ (List.getElem_mem _) h2
theorem cal_one_t {ds : List D} (e : η[i]? = some (.own bb po)) (hp : Po k po) (hk : k < 1000000) (hm : 0 < ds.length) (hs : ds.length < 1000)
    (q : ∀ d po, d ∈ ds → Po (k + 1) po → Q d (η.set i (.own bb po))) : wp (callM noLst r__law_one_of (some 0) [.bor i, .val (.tup ds)]) Q E η :=
  wp_io (ds := [.tup ds]) rfl e (one_of_t hp hk hm hs fun v po h1 h2 => ⟨_, _, rfl, q v po h1 h2⟩)
/-! the law's own divisor -/
def absI (a : Int) : Int := if a < 0 then -a else a
theorem absI_nat (a : Int) : absI a = (a.natAbs : Int) := by unfold absI; split <;> omega
/-- ahead of a turn -/
def GInv (K : Nat) (n d : Int) (i : Nat) (η : Sto) : Prop := ∃ (a b : Nat) (t : Slot), η = [.val (.int a), .val (.int b), t] ∧ canSets (some t) = true ∧ Nat.gcd a b = Nat.gcd n.natAbs d.natAbs ∧ (i = 0 → a * b < 2 ^ K) ∧ (0 < i → b ≤ a ∧ (b = 0 ∨ a * b < 2 ^ (K + 1 - i))) ∧ a < 2 ^ K ∧ b < 2 ^ K
theorem half {a b : Nat} (h : b ≤ a) (hb : 0 < b) {m : Nat} (e : a * b < 2 ^ (m + 1)) : b * (a % b) < 2 ^ m := by
  have h1 := Nat.div_add_mod a b
  have h2 := Nat.mod_lt a hb
  have h3 : 1 ≤ a / b := Nat.div_pos h hb
  have h4 : b * 1 ≤ b * (a / b) := Nat.mul_le_mul_left b h3
  have h5 : 2 * (a % b) ≤ a := by omega
  have h6 : b * (2 * (a % b)) ≤ b * a := Nat.mul_le_mul_left b h5
  have h7 : b * (2 * (a % b)) = 2 * (b * (a % b)) := by rw [Nat.mul_left_comm]
  rw [Nat.mul_comm b a] at h6
  rw [Nat.pow_succ] at e
  omega
theorem lgcd {k : Nat} {n d : Int} (hn : Sm k n) (hd : Sm k d) (hk : k < 9000) (q : Q (.int ((Nat.gcd n.natAbs d.natAbs : Nat) : Int)) [.val (.int n), .val (.int d)]) : wp r__law_gcd Q E [.val (.int n), .val (.int d)] := by
  refine wp_fnM rfl rfl ?_
  walk_at "wn"
  unfold b__law_gcd
  walk_at "wg"
  refine wps_range (n := 20000) (GInv (2 * k) n d) ?_ ?_ ?_
  · refine ⟨n.natAbs, d.natAbs, .no, ?_, rfl, rfl, fun _ => ?_, fun h => absurd h (by decide), ?_, ?_⟩
    · have e1 := absI_nat n
      have e2 := absI_nat d
      unfold absI at e1 e2
      rw [e1, e2]
    · unfold Sm at hn hd
      have := Nat.mul_lt_mul'' hn hd
      rw [← Nat.pow_add, show k + k = 2 * k by omega] at this
      exact this
    · exact Nat.lt_of_lt_of_le hn (Nat.pow_le_pow_right (by decide) (by omega))
    · exact Nat.lt_of_lt_of_le hd (Nat.pow_le_pow_right (by decide) (by omega))
  · rintro i η' hi ⟨a, b, t, rfl, ht, hg, h0, hm, ha, hb⟩
    have hc : canSet [Slot.val (.int a), Slot.val (.int b), t] 2 = true := by
      rw [ev_canSet]
      exact ht
    walk_at "wg"
    unfold b__law_gcd_f1
    walk_at "wg"
    refine BrD.dec (fun h => ?_) (fun h => ?_)
    · walk_at "wg"
      have hb0 : b = 0 := by omega
      subst hb0
      rw [Nat.gcd_zero_right] at hg
      rw [← hg] at q
      exact q
    · walk_at "wg"
      have hb0 : 0 < b := by omega
      refine ⟨b, a % b, .val (.int (0 + (i : Int))), ?_, rfl, ?_, fun z => absurd z (by omega), fun _ => ⟨Nat.le_of_lt (Nat.mod_lt _ hb0), ?_⟩, hb, Nat.lt_trans (Nat.mod_lt _ hb0) hb⟩
      · rw [Int.fmod_eq_emod_of_nonneg _ (by omega)]
        rfl
      · rw [← hg, Nat.gcd_comm b, ← Nat.gcd_rec, Nat.gcd_comm]
      · right
        by_cases hi0 : i = 0
        · have h0 := h0 hi0
          have h3 : b * (a % b) ≤ b * a := Nat.mul_le_mul_left b (Nat.mod_le a b)
          rw [Nat.mul_comm b a] at h3
          subst hi0
          rw [show 2 * k + 1 - (0 + 1) = 2 * k by omega]
          omega
        · obtain ⟨h3, h4⟩ := hm (by omega)
          have h4 : a * b < 2 ^ (2 * k + 1 - i) := h4.resolve_left (by omega)
          by_cases hz : 2 * k + 1 - i = 0
          · rw [hz] at h4
            have := Nat.mul_pos (show 0 < a by omega) hb0
            omega
          · rw [show 2 * k + 1 - (i + 1) = 2 * k - i by omega]
            exact half h3 hb0 (by rw [show 2 * k - i + 1 = 2 * k + 1 - i by omega]; exact h4)
  · rintro η' ⟨a, b, t, rfl, ht, hg, h0, hm, ha, hb⟩
    obtain ⟨h3, h4⟩ := hm (by decide)
    have hb0 : b = 0 := by
      rcases h4 with h4 | h4
      · exact h4
      · rw [show 2 * k + 1 - 20000 = 0 by omega] at h4
        by_cases z : b = 0
        · exact z
        · have := Nat.mul_pos (show 0 < a by omega) (show 0 < b by omega)
          omega
    subst hb0
    rw [Nat.gcd_zero_right] at hg
    rw [← hg] at q
    walk_at "wg"
    exact q
theorem lmade {n d : Int} (h : d ≠ 0) (hn : Sm 8990 n) (hs : Sm 8990 d) (q : Q (frQ (qo n d)) [.val (.int n), .val (.int d)]) : wp r__law_made Q E [.val (.int n), .val (.int d)] := by
  have h' : divOk (com n d) = true := divOk_sm (com_le h hs) (by decide) (com_ne h)
  obtain ⟨e1, e2⟩ := made_eq (n := n) h
  refine wp_fnM rfl rfl ?_
  walk_at "wn"
  unfold b__law_made
  walk_at "wg"
  refine lgcd hn hs (by decide) ?_
  walk_at "wg"
  unfold frQ at q
  rw [← e1, ← e2] at q
  unfold com at h' q
  refine BrD.dec (fun hd => ?_) (fun hd => ?_)
  · rw [if_pos hd] at h' q
    walk_at "wg"
    unfold b__law_made_k1
    walk_at "wg"
    exact q
  · rw [if_neg hd] at h' q
    walk_at "wg"
    unfold b__law_made_k1
    walk_at "wg"
    exact q
variable {u v : Rat}
theorem lplus (hz : Two u v) (h : Q (frQ (u + v)) [.val (frQ u), .val (frQ v)]) : wp r__law_plus Q E [.val (frQ u), .val (frQ v)] := by
  obtain ⟨k, l, hp, hq, hkl⟩ := hz
  have hpq : (u.den : Int) * v.den ≠ 0 := Int.mul_ne_zero (den_ne u) (den_ne v)
  have main : Q (frQ (qo (u.num * v.den + v.num * u.den) (u.den * v.den))) [.val (frQ u), .val (frQ v)] := by rw [qo_add]; exact h
  have s1 : Sm 8990 (u.num * v.den + v.num * u.den) := (sm_add1 (hp.n.mul hq.d) ((hq.n.mul hp.d).mono (by omega))).mono (by omega)
  have s2 : Sm 8990 ((u.den : Int) * v.den) := (hp.d.mul hq.d).mono (by omega)
  refine wp_fnM rfl rfl ?_
  walk_at "wn"
  unfold b__law_plus
  walk_at "wg"
  refine BrD.dec (fun h1 => ?_) (fun h1 => ?_)
  · walk_at "wg"
    refine BrD.dec (fun h2 => ?_) (fun h2 => ?_)
    · unfold b__law_plus_t1
      walk_at "wg"
      have e1 := den_one (h1.trans h2)
      have e2 := den_one h2
      have e : u + v = ((u.num + v.num : Int) : Rat) := by rw [Rat.intCast_add, ← e1, ← e2]
      rw [e, frQ_int] at h
      exact h
    · walk_at "wg"
      exact lmade hpq s1 s2 main
  · walk_at "wg"
    exact lmade hpq s1 s2 main
instance : PR (wp r__law_plus Q E [.val (frQ u), .val (frQ v)]) (Sd (Two u v) (Q (frQ (u + v)) [.val (frQ u), .val (frQ v)])) := ⟨fun ⟨h1, h⟩ => lplus h1 h⟩
theorem lturned (h : Q (frQ (-u)) [.val (frQ u)]) : wp r__law_turned Q E [.val (frQ u)] := by
  refine wp_fnM rfl rfl ?_
  walk_at "wn"
  unfold b__law_turned
  walk_at "wg"
  rw [neg_fr]
  exact h
instance : PR (wp r__law_turned Q E [.val (frQ u)]) (Q (frQ (-u)) [.val (frQ u)]) := ⟨lturned⟩
theorem lminus (hz : Two u v) (h : Q (frQ (u - v)) [.val (frQ u), .val (frQ v)]) : wp r__law_minus Q E [.val (frQ u), .val (frQ v)] := by
  obtain ⟨k, l, hp, hq, hkl⟩ := hz
  refine wp_fnM rfl rfl ?_
  walk_at "wn"
  unfold b__law_minus
  walk_at "wg"
  rw [neg_fr]
  refine lplus ⟨k, l, hp, hq.neg, hkl⟩ ?_
  walk_at "wg"
  rw [← Rat.sub_eq_add_neg]
  exact h
instance : PR (wp r__law_minus Q E [.val (frQ u), .val (frQ v)]) (Sd (Two u v) (Q (frQ (u - v)) [.val (frQ u), .val (frQ v)])) := ⟨fun ⟨h1, h⟩ => lminus h1 h⟩
theorem ltimes (hz : Two u v) (h : Q (frQ (u * v)) [.val (frQ u), .val (frQ v)]) : wp r__law_times Q E [.val (frQ u), .val (frQ v)] := by
  obtain ⟨k, l, hp, hq, hkl⟩ := hz
  have hpq : (u.den : Int) * v.den ≠ 0 := Int.mul_ne_zero (den_ne u) (den_ne v)
  have main : Q (frQ (qo (u.num * v.num) (u.den * v.den))) [.val (frQ u), .val (frQ v)] := by rw [qo_mul]; exact h
  have s1 : Sm 8990 (u.num * v.num) := (hp.n.mul hq.n).mono (by omega)
  have s2 : Sm 8990 ((u.den : Int) * v.den) := (hp.d.mul hq.d).mono (by omega)
  refine wp_fnM rfl rfl ?_
  walk_at "wn"
  unfold b__law_times
  walk_at "wg"
  refine BrD.dec (fun h1 => ?_) (fun h1 => ?_)
  · walk_at "wg"
    refine BrD.dec (fun h2 => ?_) (fun h2 => ?_)
    · unfold b__law_times_t1
      walk_at "wg"
      have e1 := den_one (h1.trans h2)
      have e2 := den_one h2
      have e : u * v = ((u.num * v.num : Int) : Rat) := by rw [Rat.intCast_mul, ← e1, ← e2]
      rw [e, frQ_int] at h
      exact h
    · walk_at "wg"
      exact lmade hpq s1 s2 main
  · walk_at "wg"
    exact lmade hpq s1 s2 main
instance : PR (wp r__law_times Q E [.val (frQ u), .val (frQ v)]) (Sd (Two u v) (Q (frQ (u * v)) [.val (frQ u), .val (frQ v)])) := ⟨fun ⟨h1, h⟩ => ltimes h1 h⟩
end
end Sp

namespace Sp
open PySem L2 Pd Rq F
section
variable {Q : D → Sto → Prop} {E : Str → Sto → Prop} {η : Sto} {d e p po : D} {w : Int} {k m l i : Nat} {xs ys ms : List Rat} {rs : List Row} {r : Row}
theorem lis_int (h : Q (.bl (isI d)) [.val d]) : wp r__law_is_int Q E [.val d] := by
  refine wp_fnM rfl rfl ?_
  walk_at "wn"
  unfold b__law_is_int
  cases d <;> (walk_at "wg"; exact h)
instance : PR (wp r__law_is_int Q E [.val d]) (Q (.bl (isI d)) [.val d]) := ⟨lis_int⟩
theorem lis_tuple (h : Q (.bl (isRow d w)) [.val d, .val (.int w)]) : wp r__law_is_tuple Q E [.val d, .val (.int w)] := by
  refine wp_fnM rfl rfl ?_
  walk_at "wn"
  unfold b__law_is_tuple
  cases d <;> (walk_at "wg"; exact h)
instance : PR (wp r__law_is_tuple Q E [.val d, .val (.int w)]) (Q (.bl (isRow d w)) [.val d, .val (.int w)]) := ⟨lis_tuple⟩
theorem bdd_i {L : Nat} {a : Int} (h : Bdd L (.int a)) : Sm 4000 a := by
  unfold Bdd at h
  exact h
theorem lis_fraction (hb : Bdd 1000 d) (h : Q (.bl (isFr d)) [.val d]) : wp r__law_is_fraction Q E [.val d] := by
  refine wp_fnM rfl rfl ?_
  walk_at "wn"
  unfold b__law_is_fraction
  walk_at "wg"
  refine Br.both (fun e => ?_) (fun e => ?_)
  · obtain ⟨x, y, rfl⟩ := row2 e
    have hb2 := bdd2 hb
    walk_at "wg"
    cases x with
    | int a =>
      walk_at "wg"
      cases y with
      | int b =>
        walk_at "wg"
        have sa := bdd_i hb2.1
        have sb := bdd_i hb2.2
        rw [isFr_pair] at h
        refine BrD.dec (fun hb => ?_) (fun hb => ?_)
        · walk_at "wg"
          rw [decide_eq_true (show 1 ≤ b by omega), Bool.true_and] at h
          refine lgcd sa sb (by decide) ?_
          walk_at "wg"
          exact h
        · walk_at "wg"
          rw [decide_eq_false (show ¬ 1 ≤ b by omega), Bool.false_and] at h
          exact h
      | _ => walk_at "wg"; exact h
    | _ => walk_at "wg"; exact h
  · walk_at "wg"
    rw [(row2_no (w := 0) e).1] at h
    exact h
instance : PR (wp r__law_is_fraction Q E [.val d]) (Sd (Bdd 1000 d) (Q (.bl (isFr d)) [.val d])) := ⟨fun ⟨a, h⟩ => lis_fraction a h⟩
def isPtL (d : D) (w : Int) : Bool := isPt d && (decide (w = 0) || decide ((tlen d : Int) = w))
theorem isPt_tup_eq {ds : List D} : isPt (.tup ds) = (!ds.isEmpty && ds.all isFr) := rfl
theorem lis_point (hb : Bdd 1000 d) (h : Q (.bl (isPtL d w)) [.val d, .val (.int w)]) : wp r__law_is_point Q E [.val d, .val (.int w)] := by
  refine wp_fnM rfl rfl ?_
  walk_at "wn"
  unfold b__law_is_point
  cases d with
  | tup ds =>
    have hl := hb.tup
    unfold isPtL at h
    rw [isPt_tup_eq] at h
    walk_at "wg"
    refine Br.both (fun e => ?_) (fun e => ?_)
    · walk_at "wg"
      rw [e] at h
      exact h
    · rw [e] at h
      walk_at "wg"
      refine wp_craw (fun x => .bl (isFr x)) (by omega) (fun x hx => ?_) ?_
      · have := hl.2 x hx
        walk_at "wg"
        exact ⟨rfl, rfl⟩
      · walk_at "wg"
        refine Br.both (fun e2 => ?_) (fun e2 => ?_)
        · rw [e2] at h
          walk_at "wg"
          refine BrD.dec (fun e3 => ?_) (fun e3 => ?_)
          · rw [decide_eq_true e3] at h
            exact h
          · rw [decide_eq_false e3] at h
            walk_at "wg"
            exact h
        · rw [e2] at h
          walk_at "wg"
          exact h
  | _ => walk_at "wg"; exact h
instance : PR (wp r__law_is_point Q E [.val d, .val (.int w)]) (Sd (Bdd 1000 d) (Q (.bl (isPtL d w)) [.val d, .val (.int w)])) := ⟨fun ⟨a, h⟩ => lis_point a h⟩
def isLnL (d : D) (w : Int) : Bool := match d with
  | .tup [a, b] => isPtL a w && isFr b
  | _ => false
theorem row2_noL (h : isRow d 2 = false) : isLnL d w = false := by
  unfold isLnL
  split
  · cases h
  · rfl
theorem lis_line (hb : Bdd 1000 d) (h : Q (.bl (isLnL d w)) [.val d, .val (.int w)]) : wp r__law_is_line Q E [.val d, .val (.int w)] := by
  refine wp_fnM rfl rfl ?_
  walk_at "wn"
  unfold b__law_is_line
  walk_at "wg"
  refine Br.both (fun e => ?_) (fun e => ?_)
  · obtain ⟨x, y, rfl⟩ := row2 e
    have h1 := bdd2 hb
    have h2 := h1.1
    have h3 := h1.2
    walk_at "wg"
    have e2 : isLnL (.tup [x, y]) w = (isPtL x w && isFr y) := rfl
    rw [e2] at h
    refine Br.both (fun e => ?_) (fun e => ?_)
    · walk_at "wg"
      rw [e, Bool.true_and] at h
      exact h
    · rw [e, Bool.false_and] at h
      exact h
  · rw [row2_noL e] at h
    exact h
instance : PR (wp r__law_is_line Q E [.val d, .val (.int w)]) (Sd (Bdd 1000 d) (Q (.bl (isLnL d w)) [.val d, .val (.int w)])) := ⟨fun ⟨a, h⟩ => lis_line a h⟩
/-! unlike numbers -/
theorem fm_mem {f : Nat → Int} : ∀ {n : Nat} {z : Int}, z ∈ PyProof.Rows.firstMet f n ↔ ∃ i, i < n ∧ f i = z
  | 0, z => by
    constructor
    · intro h
      cases h
    · rintro ⟨i, h, _⟩
      omega
  | n + 1, z => by
    rw [PyProof.Rows.firstMet_succ]
    unfold PyProof.Rows.step_dedup
    have ih : ∀ {z : Int}, z ∈ PyProof.Rows.firstMet f n ↔ ∃ i, i < n ∧ f i = z := fm_mem
    split
    · rename_i ha
      rw [ih]
      constructor
      · rintro ⟨i, h1, h2⟩
        exact ⟨i, by omega, h2⟩
      · rintro ⟨i, h1, h2⟩
        by_cases hi : i = n
        · subst hi
          obtain ⟨y, hy, e⟩ := List.any_eq_true.mp ha
          have e := eq_of_beq e
          obtain ⟨j, h3, h4⟩ := ih.mp hy
          exact ⟨j, h3, by rw [h4, e, h2]⟩
        · exact ⟨i, by omega, h2⟩
    · rw [List.mem_append, ih, List.mem_singleton]
      constructor
      · rintro (⟨i, h1, h2⟩ | h)
        · exact ⟨i, by omega, h2⟩
        · exact ⟨n, by omega, h.symm⟩
      · rintro ⟨i, h1, h2⟩
        by_cases hi : i = n
        · subst hi
          exact .inr h2.symm
        · exact .inl ⟨i, by omega, h2⟩
theorem fm_nodup {f : Nat → Int} : ∀ n : Nat, (PyProof.Rows.firstMet f n).Nodup
  | 0 => List.nodup_nil
  | n + 1 => by
    rw [PyProof.Rows.firstMet_succ]
    unfold PyProof.Rows.step_dedup
    have ih := fm_nodup (f := f) n
    split
    · exact ih
    · rename_i ha
      rw [List.nodup_append]
      refine ⟨ih, by simp, fun x hx y hy => ?_⟩
      rw [List.mem_singleton] at hy
      intro e
      apply ha
      rw [List.any_eq_true]
      exact ⟨x, hx, by rw [e, hy]; simp⟩
theorem nodup_same {α : Type} {c : α} : ∀ {l : List α}, l.Nodup → (∀ z ∈ l, z = c) → l.length < 2
  | [], _, _ => by simp
  | [_], _, _ => by simp
  | a :: b :: l, h, g => by
    have h1 := g a (by simp)
    have h2 := g b (by simp)
    rw [h1, h2] at h
    simp at h
theorem unlike_two {ns : List Int} : unlike ns < 2 ↔ ∀ z ∈ ns, z = ns.headD 0 := by
  have hget : ∀ z, z ∈ ns ↔ ∃ i, i < ns.length ∧ ns.getD i 0 = z := by
    intro z
    constructor
    · intro h
      obtain ⟨i, hi, e⟩ := List.mem_iff_getElem.mp h
      exact ⟨i, hi, by rw [List.getD_eq_getElem?_getD, List.getElem?_eq_getElem hi]; exact e⟩
    · rintro ⟨i, hi, e⟩
      rw [← e, List.getD_eq_getElem?_getD, List.getElem?_eq_getElem hi]
      exact List.getElem_mem _
  have hmem : ∀ z, z ∈ PyProof.Rows.firstMet (fun i => ns.getD i 0) ns.length ↔ z ∈ ns := fun z => fm_mem.trans (hget z).symm
  unfold unlike
  constructor
  · intro h z hz
    cases ns with
    | nil => cases hz
    | cons a ns =>
      have h1 := (hmem z).mpr hz
      have h2 := (hmem a).mpr List.mem_cons_self
      generalize PyProof.Rows.firstMet (fun i => (a :: ns).getD i 0) (a :: ns).length = l at *
      match l, h, h1, h2 with
      | [x], _, h1, h2 =>
        rw [List.mem_singleton] at h1 h2
        rw [h1, ← h2]
        rfl
      | x :: y :: l, h, _, _ => simp at h; omega
  · intro h
    exact nodup_same (fm_nodup _) fun z hz => h z ((hmem z).mp hz)
theorem intsD_map {α : Type} {f : α → Int} : ∀ {zs : List α}, intsD (zs.map fun z => D.int (f z)) = some (zs.map f)
  | [] => rfl
  | z :: zs => by
    rw [List.map_cons]
    show (intsD _).map _ = _
    rw [intsD_map]
    rfl
instance {α : Type} {f : α → Int} {zs : List α} {Q : D → Prop} : PR (Som (lenSetD (.lst (zs.map fun z => D.int (f z)))) Q) (Sd (zs.length ≤ 4000) (Q (.int (unlike (zs.map f) : Nat)))) := ⟨fun ⟨e, h⟩ => ⟨_, by
  simp only [lenSetD, intsD_map]
  rw [if_pos (by rw [List.length_map]; exact e)], h⟩⟩
theorem isLnL0 {x : D} : isLnL x 0 = true ↔ ∃ as b, x = .tup [.tup as, b] ∧ isPt (.tup as) = true ∧ isFr b = true := by
  constructor
  · intro h
    match x, h with
    | .tup [a, b], h =>
      have h : ((isPt a && (decide ((0 : Int) = 0) || decide ((tlen a : Int) = 0))) && isFr b) = true := h
      simp only [Bool.and_eq_true] at h
      obtain ⟨as, rfl, _⟩ := isPt_tup h.1.1
      exact ⟨as, b, rfl, h.1.1, h.2⟩
  · rintro ⟨as, b, rfl, h1, h2⟩
    show ((isPt (.tup as) && (decide ((0 : Int) = 0) || decide ((tlen (.tup as) : Int) = 0))) && isFr b) = true
    rw [h1, h2]
    simp
theorem isRs_law {ds : List D} (h : ds.all (isLnL · 0) = true) : isRs (.tup ds) = decide (unlike (ds.map fun x => (tlen (fst2 x) : Int)) < 2) := by
  rw [List.all_eq_true] at h
  have e0 : isRs (.tup ds) = (ds.isEmpty || ds.all (isLn · (tlen (fst2 (ds.headD .non)) : Nat))) := rfl
  rw [e0]
  cases ds with
  | nil =>
    rw [decide_eq_true (unlike_two.mpr (by simp))]
    rfl
  | cons r rs =>
    by_cases hu : unlike ((r :: rs).map fun x => (tlen (fst2 x) : Int)) < 2
    · rw [decide_eq_true hu]
      have hu := unlike_two.mp hu
      show (r :: rs).all (isLn · (tlen (fst2 r) : Nat)) = true
      rw [List.all_eq_true]
      intro x hx
      obtain ⟨as, b, rfl, h1, h2⟩ := isLnL0.mp (h x hx)
      have h3 : (tlen (.tup as) : Int) = (tlen (fst2 r) : Int) := hu _ (List.mem_map.mpr ⟨_, hx, rfl⟩)
      show ((isPt (.tup as) && decide ((tlen (.tup as) : Int) = (tlen (fst2 r) : Nat))) && isFr b) = true
      rw [h1, h2, decide_eq_true h3]
      rfl
    · rw [decide_eq_false hu]
      cases q : ((r :: rs).isEmpty || (r :: rs).all (isLn · (tlen (fst2 r) : Nat))) with
      | false => exact q
      | true =>
        exfalso
        apply hu
        rw [Bool.or_eq_true] at q
        have q := q.resolve_left (by simp)
        rw [List.all_eq_true] at q
        rw [unlike_two]
        intro z hz
        obtain ⟨x, hx, rfl⟩ := List.mem_map.mp hz
        obtain ⟨a, b, rfl, h1, _⟩ := isLn_pair (q x hx)
        obtain ⟨as, rfl, _, h3, _⟩ := isWPt_tup h1
        exact h3
theorem isRs_noL {ds : List D} (h : ds.all (isLnL · 0) = false) : isRs (.tup ds) = false := by
  cases q : isRs (.tup ds) with
  | false => rfl
  | true =>
    rw [← h, Eq.comm, List.all_eq_true]
    intro x hx
    have q : (ds.isEmpty || ds.all (isLn · (tlen (fst2 (ds.headD .non)) : Nat))) = true := q
    rw [Bool.or_eq_true] at q
    rcases q with q | q
    · cases ds with
      | nil => cases hx
      | cons _ _ => cases q
    · rw [List.all_eq_true] at q
      obtain ⟨a, b, rfl, h1, h2⟩ := isLn_pair (q x hx)
      obtain ⟨as, rfl, h3, h4, h5⟩ := isWPt_tup h1
      refine isLnL0.mpr ⟨as, b, rfl, ?_, h2⟩
      rw [isPt_tup_eq]
      rw [Bool.and_eq_true, List.all_eq_true]
      exact ⟨by simp [h3], h5⟩
theorem lis_rows (hb : Bdd 1000 d) (h : Q (.bl (isRs d)) [.val d, .val (.int 0)]) : wp r__law_is_rows Q E [.val d, .val (.int 0)] := by
  refine wp_fnM rfl rfl ?_
  walk_at "wn"
  unfold b__law_is_rows
  cases d with
  | tup ds =>
    have hl := hb.tup
    walk_at "wg"
    refine wp_craw (fun x => .bl (isLnL x 0)) (by omega) (fun x hx => ?_) ?_
    · have := hl.2 x hx
      walk_at "wg"
      exact ⟨rfl, rfl⟩
    · walk_at "wg"
      refine Br.both (fun e => ?_) (fun e => ?_)
      · walk_at "wg"
        have e' := List.all_eq_true.mp e
        refine wp_craw (fun x => .int (tlen (fst2 x) : Int)) (by omega) (fun x hx => ?_) ?_
        · obtain ⟨as, b, rfl, h1, h2⟩ := isLnL0.mp (e' x hx)
          walk_at "wg"
          exact ⟨rfl, rfl⟩
        · walk_at "wg"
          rw [isRs_law e] at h
          have e2 : decide ((unlike (ds.map fun x => (tlen (fst2 x) : Int)) : Int) < 2) = decide (unlike (ds.map fun x => (tlen (fst2 x) : Int)) < 2) := by
            rw [decide_eq_decide]
            omega
          rw [e2]
          exact h
      · walk_at "wg"
        rw [isRs_noL e] at h
        exact h
  | _ => walk_at "wg"; exact h
instance : PR (wp r__law_is_rows Q E [.val d, .val (.int 0)]) (Sd (Bdd 1000 d) (Q (.bl (isRs d)) [.val d, .val (.int 0)])) := ⟨fun ⟨a, h⟩ => lis_rows a h⟩
end
end Sp

namespace Rq
open Pd
theorem zip_take_succ {α β : Type} {xs : List α} {ys : List β} {k : Nat} (h1 : k < xs.length) (h2 : k < ys.length) : (xs.zip ys).take (k + 1) = (xs.zip ys).take k ++ [(xs[k], ys[k])] := by
  have : (xs.zip ys)[k]? = some (xs[k], ys[k]) := by
    rw [List.getElem?_eq_getElem (by rw [List.length_zip]; omega), List.getElem_zip]
  rw [List.take_add_one, this]
  rfl
theorem range_zw {w : Nat} {a b : List Rat} {g : Rat → Rat → Rat} (ha : a.length = w) (hb : b.length = w) : ((List.range w).map fun j => frQ (g (a.getD j 0) (b.getD j 0))) = (List.zipWith g a b).map frQ := by
  apply List.ext_getElem
  · simp [ha, hb]
  · intro i h1 h2
    simp only [List.getElem_map, List.getElem_range, List.getElem_zipWith]
    have h3 : i < w := by simpa using h1
    rw [List.getD_eq_getElem?_getD, List.getElem?_eq_getElem (by omega), List.getD_eq_getElem?_getD, List.getElem?_eq_getElem (by omega)]
    rfl
theorem AllSq.el {k i : Nat} {xs : List Rat} (h : AllSq k xs) (hi : i < xs.length) : Sq k xs[i] := h _ (List.getElem_mem _)
theorem getD_el {a : List Rat} {j : Nat} (h : j < a.length) : a.getD j 0 = a[j] := by
  rw [List.getD_eq_getElem?_getD, List.getElem?_eq_getElem h]
  rfl
end Rq
namespace Sp
open PySem L2 Pd Rq F
section
variable {Q : D → Sto → Prop} {E : Str → Sto → Prop} {η : Sto} {d e p po : D} {w k m l i : Nat} {xs ys ms : List Rat} {rs : List Row} {r : Row}
theorem ldot (h : DotOk' k l xs ys) (hl : xs.length ≤ ys.length) (hk : k + l ≤ 2000) (hk2 : xs.length * (k + l + 1) + (k + l) ≤ 8890) (q : Q (frQ (dotQ xs ys)) [.val (ptQ xs), .val (ptQ ys)]) : wp r__law_dot Q E [.val (ptQ xs), .val (ptQ ys)] := by
  obtain ⟨h1, h2, h3, h4⟩ := h
  refine wp_fnM rfl rfl ?_
  walk_at "wn"
  unfold b__law_dot
  walk_at "wg"
  rw [fr0]
  refine wps_forn (fun i η => ∃ t : Slot, η = [.val (ptQ xs), .val (ptQ ys), .val (frQ ((((xs.zip ys).take i).map fun p => p.1 * p.2).sum)), t] ∧ canSets (some t) = true) ?_ ?_ ?_
  · exact ⟨.no, by simp, rfl⟩
  · rintro i η' hi ⟨t, rfl, hc⟩
    have hy : i < ys.length := by omega
    have s1 := h1.el hi
    have s2 := h2.el hy
    have s3 : Sq (i * (k + l + 1) + 1) ((((xs.zip ys).take i).map fun p => p.1 * p.2).sum) := by
      refine (Sq.sum (k := k + l) (fun z hz => ?_)).mono ?_
      · obtain ⟨p, hp, rfl⟩ := List.mem_map.mp hz
        obtain ⟨a1, a2⟩ := List.of_mem_zip (List.mem_of_mem_take hp)
        exact (h1 _ a1).mul (h2 _ a2)
      · rw [List.length_map, List.length_take]
        have := Nat.mul_le_mul_right (k + l + 1) (Nat.min_le_left i (xs.zip ys).length)
        omega
    have hM := Nat.mul_le_mul_right (k + l + 1) (show i ≤ xs.length by omega)
    have es : (((xs.zip ys).take (i + 1)).map fun p => p.1 * p.2).sum = (((xs.zip ys).take i).map fun p => p.1 * p.2).sum + xs[i] * ys[i] := by
      rw [zip_take_succ hi hy, List.map_append, List.sum_append]
      simp [Rat.add_zero]
    generalize (((xs.zip ys).take i).map fun p => p.1 * p.2).sum = acc at *
    rw [es]
    walk_at "wg"
    unfold b__law_dot_f2
    walk_at "wg"
    refine BrD.dec (fun h1 => ?_) (fun h1 => ?_)
    · walk_at "wg"
      refine ⟨.val (.int (i : Int)), ?_, rfl⟩
      rw [num_zero.mp h1]
      congr 4
      grind
    · walk_at "wg"
      refine BrD.dec (fun h2 => ?_) (fun h2 => ?_)
      · walk_at "wg"
        refine ⟨.val (.int (i : Int)), ?_, rfl⟩
        rw [num_zero.mp h2]
        congr 4
        grind
      · unfold b__law_dot_t1
        walk_at "wg"
        exact ⟨.val (.int (i : Int)), rfl, rfl⟩
  · rintro η' ⟨t, rfl, hc⟩
    rw [List.take_of_length_le (by rw [List.length_zip]; omega)]
    walk_at "wg"
    exact q
theorem lsummed (h : SumOk k m w rs ms) (hl : rs.length ≤ ms.length) (q : Q (rowQ (sumQ w (rs.zip ms))) [.val (rowsQ rs), .val (ptQ ms), .val (.int (w : Int))]) : wp r__law_summed Q E [.val (rowsQ rs), .val (ptQ ms), .val (.int (w : Int))] := by
  obtain ⟨h1, h2, h3, h4⟩ := h
  have hrl : rs.length ≤ 9000 := by
    have := Nat.mul_le_mul_left rs.length (show 1 ≤ m + k + 1 by omega)
    omega
  refine wp_fnM rfl rfl ?_
  walk_at "wn"
  unfold b__law_summed
  walk_at "wg"
  rw [fr0, ← List.map_replicate]
  refine wps_forn (fun i η => ∃ t t2 : Slot, η = [.val (rowsQ rs), .val (ptQ ms), .val (.int (w : Int)), .val (.lst ((sumQ w ((rs.zip ms).take i)).1.map frQ)), .val (frQ (sumQ w ((rs.zip ms).take i)).2), t, t2] ∧ canSets (some t) = true ∧ t2 = .no) ?_ ?_ ?_
  · exact ⟨.no, .no, rfl, rfl, rfl⟩
  · rintro i η' hi ⟨t, t2, rfl, hc, rfl⟩
    have hy : i < ms.length := by omega
    have hr := h1 _ (List.getElem_mem hi)
    have s2 := h2.el hy
    have hmem : ∀ p ∈ (rs.zip ms).take i, p.1 ∈ rs ∧ p.2 ∈ ms := fun p hp => List.of_mem_zip (List.mem_of_mem_take hp)
    have hacc : RowSq (1 + i * (m + k + 1)) (sumQ w ((rs.zip ms).take i)) := (sumQ_sq (k := k) (m := m) fun p hp => ⟨(h1 _ (hmem p hp).1).1, h2 _ (hmem p hp).2⟩).mono (by
      rw [List.length_take]
      have := Nat.mul_le_mul_right (m + k + 1) (Nat.min_le_left i (rs.zip ms).length)
      omega)
    have hlen : (sumQ w ((rs.zip ms).take i)).1.length = w := sumQ_len fun p hp => (h1 _ (hmem p hp).1).2
    have hM := Nat.mul_le_mul_right (m + k + 1) (show i ≤ rs.length by omega)
    rw [zip_take_succ hi hy, sumQ_snoc]
    generalize sumQ w ((rs.zip ms).take i) = acc at *
    have hr1 := hr.1.b
    have ha := hacc.b
    have hw := hr.2
    walk_at "wg"
    unfold b__law_summed_f2
    walk_at "wg"
    refine BrD.dec (fun hz => ?_) (fun hz => ?_)
    · walk_at "wg"
      refine ⟨.val (.int (i : Int)), .no, ?_, rfl, rfl⟩
      rw [num_zero.mp hz, addRow0 (by rw [hlen, hr.2])]
    · unfold b__law_summed_t1
      walk_at "wg"
      refine wp_cmap (fun j => frQ (acc.1.getD j 0 + ms[i] * rs[i].1.getD j 0)) (by rw [List.length_range]; omega) (fun j hj => ?_) ?_
      · have hj := List.mem_range.mp hj
        have j1 : j < acc.1.length := by omega
        have j2 : j < rs[i].1.length := by omega
        have q1 := hacc.a.el j1
        have q2 := hr.1.a.el j2
        walk_at "wg"
        rw [getD_el j1, getD_el j2]
        exact ⟨rfl, rfl⟩
      · walk_at "wg"
        refine ⟨.val (.int (i : Int)), .no, ?_, rfl, rfl⟩
        rw [range_zw (g := fun a b => a + ms[i] * b) hlen hw]
        rfl
  · rintro η' ⟨t, t2, rfl, hc, rfl⟩
    rw [List.take_of_length_le (by rw [List.length_zip]; omega)]
    walk_at "wg"
    exact q
theorem lzeros (hw : w ≤ 1000) (h : Q (ptQ (List.replicate w 0)) [.val (.int (w : Int))]) : wp r__law_zeros Q E [.val (.int (w : Int))] := by
  refine wp_fnM rfl rfl ?_
  walk_at "wn"
  unfold b__law_zeros
  walk_at "wg"
  rw [fr0, rep_q]
  exact h
def unitQ (w k : Nat) (n : Int) : List Rat := (List.range w).map fun j => if j = k then (n : Rat) else 0
theorem lunit {n : Int} (hw : w ≤ 1000) (h : Q (ptQ (unitQ w k n)) [.val (.int (w : Int)), .val (.int (k : Int)), .val (.int n)]) : wp r__law_unit Q E [.val (.int (w : Int)), .val (.int (k : Int)), .val (.int n)] := by
  refine wp_fnM rfl rfl ?_
  walk_at "wn"
  unfold b__law_unit
  walk_at "wg"
  refine wp_cmap (fun j => frQ (if j = k then (n : Rat) else 0)) (by rw [List.length_range]; omega) (fun j hj => ?_) ?_
  · walk_at "wg"
    refine BrD.dec (fun hz => ?_) (fun hz => ?_)
    · walk_at "wg"
      rw [if_pos (by omega), frQ_int]
      exact ⟨rfl, rfl⟩
    · walk_at "wg"
      rw [if_neg (by omega)]
      exact ⟨rfl, rfl⟩
  · walk_at "wg"
    unfold unitQ ptQ at h
    rw [List.map_map] at h
    exact h
end
end Sp

namespace Pd
open PySem L2
section
variable {α : Type} {η : Sto} {E : Str → Sto → Prop} {QL : List D → Sto → Prop} {vs : List Nat} {gt : D → MS} {mt : M Bool} {me : M D} {f : α → D} {xs : List α}
/-- a comprehension whose items change the slots -/
theorem wp_cst (I : List D → Sto → Prop) (hl : xs.length ≤ 1000000) (h0 : I [] η) (hs : ∀ pre x post acc η', xs = pre ++ x :: post → acc.length = pre.length → I acc η' → wp (turnC vs gt mt me (f x)) (fun o η2 => ∃ y, o = some y ∧ I (acc ++ [y]) η2) E η')
    (h1 : ∀ acc η', acc.length = xs.length → I acc η' → QL acc η') : wp (compM (turnC vs gt mt me) [] (xs.map f)) QL E η := by
  refine wp_compM (fun i acc η => acc.length = i ∧ I acc η) 0 (fun i d acc η' e ⟨e1, h⟩ => ?_) ⟨rfl, h0⟩ (fun acc η' ⟨e1, h⟩ => ?_)
  · rw [List.getElem?_map] at e
    cases q : xs[i]? with
    | none => rw [q] at e; cases e
    | some x =>
      rw [q] at e
      cases e
      have hi := (List.getElem?_eq_some_iff.mp q).1
      have e2 : xs = xs.take i ++ x :: xs.drop (i + 1) := by
        rw [← (List.getElem?_eq_some_iff.mp q).2, List.getElem_cons_drop hi, List.take_append_drop]
      rw [Nat.zero_add] at e1
      refine wp_imp (hs _ x _ acc η' e2 (by rw [List.length_take, e1]; omega) h) (fun o η2 ⟨y, ho, h2⟩ => ?_) fun _ _ h => h
      subst ho
      refine ⟨acc ++ [y], ?_, by rw [List.length_append]; simp; omega, h2⟩
      unfold growC
      simp only
      rw [if_pos (show lenOk acc.length = true from decide_eq_true (by omega))]
  · rw [List.length_map, Nat.zero_add] at e1
    exact h1 acc η' e1 h
end
theorem exists_map {α : Type} {f : α → D} {R : α → Prop} : ∀ {acc : List D}, (∀ y ∈ acc, ∃ x, y = f x ∧ R x) → ∃ xs : List α, acc = xs.map f ∧ ∀ x ∈ xs, R x
  | [], _ => ⟨[], rfl, by simp⟩
  | y :: acc, h => by
    obtain ⟨x, rfl, hx⟩ := h y List.mem_cons_self
    obtain ⟨xs, rfl, hs⟩ := exists_map fun y hy => h y (List.mem_cons_of_mem _ hy)
    exact ⟨x :: xs, rfl, by
      intro z hz
      rcases List.mem_cons.mp hz with rfl | hz
      · exact hx
      · exact hs z hz⟩
end Pd
namespace Rq
open Pd
/-- a number of sixths -/
def Six (j : Nat) (x : Rat) : Prop := ∃ z : Int, (z : Rat) = 6 * x ∧ z.natAbs ≤ j
theorem Six.mono {j l : Nat} {x : Rat} (h : Six j x) (e : j ≤ l) : Six l x := by
  obtain ⟨z, h1, h2⟩ := h
  exact ⟨z, h1, by omega⟩
theorem Six.neg {j : Nat} {x : Rat} (h : Six j x) : Six j (-x) := by
  obtain ⟨z, h1, h2⟩ := h
  refine ⟨-z, ?_, by omega⟩
  rw [Rat.intCast_neg, h1]
  grind
theorem Six.add {j l : Nat} {x y : Rat} (h : Six j x) (g : Six l y) : Six (j + l) (x + y) := by
  obtain ⟨z, h1, h2⟩ := h
  obtain ⟨u, g1, g2⟩ := g
  refine ⟨z + u, ?_, by omega⟩
  rw [Rat.intCast_add, h1, g1]
  grind
theorem Six.sq {j k : Nat} {x : Rat} (h : Six j x) (hj : j < 2 ^ k) (hk : 3 ≤ k) : Sq k x := by
  obtain ⟨z, h1, h2⟩ := h
  have e : x = qo z 6 := by
    refine (qo_of (by decide) ?_).symm
    rw [h1]
    have : ((6 : Int) : Rat) = 6 := rfl
    rw [this]
    grind
  rw [e]
  refine Sq.qo (by decide) (by unfold Sm; omega) ?_
  exact (show Sm 3 6 by unfold Sm; decide).mono hk
theorem six_qo {n c : Int} (h0 : -10 ≤ n) (h1 : n ≤ 10) (h2 : 1 ≤ c) (h3 : c ≤ 3) : Six 60 (qo n c) := by
  have hc : c = 1 ∨ c = 2 ∨ c = 3 := by omega
  have key : ∀ (z : Int), z * c = 6 * n → z.natAbs ≤ 60 → Six 60 (qo n c) := by
    intro z e hz
    refine ⟨z, ?_, hz⟩
    have hr : (qo n c) * (c : Rat) = (n : Rat) := by
      unfold qo
      rw [Rat.divInt_eq_div]
      have := den_rat_ne (show c ≠ 0 by omega)
      generalize (c : Rat) = x at *
      grind
    have e2 : (z : Rat) * (c : Rat) = 6 * (n : Rat) := by
      rw [← Rat.intCast_mul, e, Rat.intCast_mul]
      rfl
    have := den_rat_ne (show c ≠ 0 by omega)
    generalize (c : Rat) = x at *
    generalize (n : Rat) = y at *
    generalize (z : Rat) = u at *
    generalize qo n c = v at *
    subst hr
    have : (u - 6 * v) * x = 0 := by grind
    have := (Rat.mul_eq_zero.mp this).resolve_right (by assumption)
    grind
  rcases hc with rfl | rfl | rfl
  · exact key (6 * n) (by omega) (by omega)
  · exact key (3 * n) (by omega) (by omega)
  · exact key (2 * n) (by omega) (by omega)
structure RSm (j : Nat) (r : Row) : Prop where
  a : AllSq 2 r.1
  b : Six j r.2
theorem RSm.mono {j l : Nat} {r : Row} (h : RSm j r) (e : j ≤ l) : RSm l r := ⟨h.a, h.b.mono e⟩
end Rq
namespace Sp
open PySem L2 Pd Rq F
section
variable {Q : D → Sto → Prop} {E : Str → Sto → Prop} {η : Sto} {d e p po : D} {w k m l i : Nat} {bb : Bool} {xs ys ms : List Rat} {rs : List Row} {r : Row}
theorem small (hp : Po k po) (hk : k < 999000) (q : ∀ x po, Sq 4 x → Six 60 x → Po (k + 2) po → Q (frQ x) [.own true po]) : wp r__law_small Q E [.own true po] := by
  refine wp_fnM rfl rfl ?_
  walk_at "wn"
  unfold b__law_small
  walk_at "wg"
  refine cal_one rfl hp (by omega) (by simp) (by simp) fun d po hd hp => ?_
  have hd : ∃ n : Int, d = .int n ∧ -10 ≤ n ∧ n ≤ 10 := by
    simp only [List.mem_cons, List.not_mem_nil, or_false] at hd
    rcases hd with rfl | rfl | rfl | rfl | rfl | rfl | rfl | rfl | rfl | rfl | rfl | rfl <;> exact ⟨_, rfl, by decide, by decide⟩
  obtain ⟨n, rfl, n0, n1⟩ := hd
  walk_at "wn"
  walk_at "wg"
  refine cal_one rfl hp (by omega) (by simp) (by simp) fun d po hd hp => ?_
  have hd : ∃ n : Int, d = .int n ∧ 1 ≤ n ∧ n ≤ 3 := by
    simp only [List.mem_cons, List.not_mem_nil, or_false] at hd
    rcases hd with rfl | rfl | rfl | rfl | rfl | rfl <;> exact ⟨_, rfl, by decide, by decide⟩
  obtain ⟨c, rfl, c0, c1⟩ := hd
  have sn : Sm 4 n := by unfold Sm; omega
  have sc : Sm 4 c := by unfold Sm; omega
  walk_at "wn"
  walk_at "wg"
  refine lmade (by omega) (sn.mono (by decide)) (sc.mono (by decide)) ?_
  walk_at "wg"
  exact q _ _ (Sq.qo (by omega) sn sc) (six_qo n0 n1 c0 c1) (hp.mono (by omega))
theorem cal_small (e : η[i]? = some (.own bb po)) (hp : Po k po) (hk : k < 999000) (q : ∀ x po, Sq 4 x → Six 60 x → Po (k + 2) po → Q (frQ x) (η.set i (.own bb po))) : wp (callM noLst r__law_small (some 0) [.bor i]) Q E η :=
  wp_io (ds := []) rfl e (small hp hk fun x po h1 h2 h3 => ⟨_, _, rfl, q x po h1 h2 h3⟩)
theorem coefficients (hp : Po k po) (hk : k < 990000) (hw : w ≤ 1000) (q : ∀ xs po, xs.length = w → AllSq 2 xs → Po (k + w) po → Q (ptQ xs) [.own true po, .val (.int (w : Int))]) : wp r__law_coefficients Q E [.own true po, .val (.int (w : Int))] := by
  refine wp_fnM rfl rfl ?_
  walk_at "wn"
  unfold b__law_coefficients
  walk_at "wg"
  refine wp_cst (fun acc η => (∀ y ∈ acc, ∃ x, y = frQ x ∧ Sq 2 x) ∧ ∃ po, Po (k + acc.length) po ∧ η = [.own true po, .val (.int (w : Int)), .no]) (by rw [List.length_range]; omega) ⟨by simp, po, by simpa using hp, rfl⟩ ?_ ?_
  · rintro pre x post acc η' he hl ⟨ha, po, hp, rfl⟩
    have hlen := congrArg List.length he
    rw [List.length_range, List.length_append, List.length_cons] at hlen
    walk_at "wg"
    refine cal_one rfl hp (by omega) (by simp) (by simp) fun d po hd hp => ?_
    walk_at "wn"
    refine ⟨d, rfl, fun y hy => ?_, po, by rw [List.length_append]; exact hp.mono (by simp; omega), rfl⟩
    rw [List.mem_append, List.mem_singleton] at hy
    rcases hy with hy | rfl
    · exact ha y hy
    · simp only [List.mem_cons, List.not_mem_nil, or_false] at hd
      have s : ∀ (a b : Int), b = 1 ∨ b = 2 → -3 ≤ a → a ≤ 3 → Sq 2 (qo a b) := fun a b hb h1 h2 => Sq.qo (by omega) (by unfold Sm; omega) (by unfold Sm; omega)
      rcases hd with rfl | rfl | rfl | rfl | rfl | rfl | rfl | rfl | rfl | rfl
      all_goals exact ⟨_, frQ_qo (by decide) (by decide), s _ _ (by first | exact .inl rfl | exact .inr rfl) (by decide) (by decide)⟩
  · rintro acc η' hl ⟨ha, po, hp, rfl⟩
    obtain ⟨xs, rfl, hx⟩ := exists_map ha
    rw [List.length_map, List.length_range] at hl
    rw [List.length_map] at hp
    walk_at "wg"
    exact q xs po hl hx (by rw [← hl]; exact hp)
theorem cal_coefficients (e : η[i]? = some (.own bb po)) (hp : Po k po) (hk : k < 990000) (hw : w ≤ 1000) (q : ∀ xs po, xs.length = w → AllSq 2 xs → Po (k + w) po → Q (ptQ xs) (η.set i (.own bb po))) : wp (callM noLst r__law_coefficients (some 0) [.bor i, .val (.int (w : Int))]) Q E η :=
  wp_io (ds := [.int (w : Int)]) rfl e (coefficients hp hk hw fun x po h1 h2 h3 => ⟨_, _, rfl, q x po h1 h2 h3⟩)
theorem row (hp : Po k po) (hk : k < 980000) (hw : w ≤ 1000) (q : ∀ r po, r.1.length = w → RSm 60 r → Po (k + w + 2) po → Q (rowQ r) [.own true po, .val (.int (w : Int))]) : wp r__law_row Q E [.own true po, .val (.int (w : Int))] := by
  refine wp_fnM rfl rfl ?_
  walk_at "wn"
  unfold b__law_row
  walk_at "wg"
  refine cal_coefficients rfl hp (by omega) hw fun xs po h1 h2 hp => ?_
  walk_at "wn"
  walk_at "wg"
  refine cal_small rfl hp (by omega) fun x po h3 h4 hp => ?_
  walk_at "wn"
  walk_at "wg"
  exact q (xs, x) po h1 ⟨h2, h4⟩ hp
theorem cal_row (e : η[i]? = some (.own bb po)) (hp : Po k po) (hk : k < 980000) (hw : w ≤ 1000) (q : ∀ r po, r.1.length = w → RSm 60 r → Po (k + w + 2) po → Q (rowQ r) (η.set i (.own bb po))) : wp (callM noLst r__law_row (some 0) [.bor i, .val (.int (w : Int))]) Q E η :=
  wp_io (ds := [.int (w : Int)]) rfl e (row hp hk hw fun x po h1 h2 h3 => ⟨_, _, rfl, q x po h1 h2 h3⟩)
theorem wide_point (hp : Po k po) (hk : k < 980000) (hw : w ≤ 1000) (q : ∀ xs po, xs.length = w → AllSq 4 xs → Po (k + 2 * w) po → Q (ptQ xs) [.own true po, .val (.int (w : Int))]) : wp r__law_wide_point Q E [.own true po, .val (.int (w : Int))] := by
  refine wp_fnM rfl rfl ?_
  walk_at "wn"
  unfold b__law_wide_point
  walk_at "wg"
  refine wp_cst (fun acc η => (∀ y ∈ acc, ∃ x, y = frQ x ∧ Sq 4 x) ∧ ∃ po, Po (k + 2 * acc.length) po ∧ η = [.own true po, .val (.int (w : Int)), .no]) (by rw [List.length_range]; omega) ⟨by simp, po, by simpa using hp, rfl⟩ ?_ ?_
  · rintro pre x post acc η' he hl ⟨ha, po, hp, rfl⟩
    have hlen := congrArg List.length he
    rw [List.length_range, List.length_append, List.length_cons] at hlen
    walk_at "wg"
    refine cal_small rfl hp (by omega) fun z po hz _ hp => ?_
    walk_at "wn"
    refine ⟨_, rfl, fun y hy => ?_, po, by rw [List.length_append]; exact hp.mono (by simp; omega), rfl⟩
    rw [List.mem_append, List.mem_singleton] at hy
    rcases hy with hy | rfl
    · exact ha y hy
    · exact ⟨z, rfl, hz⟩
  · rintro acc η' hl ⟨ha, po, hp, rfl⟩
    obtain ⟨xs, rfl, hx⟩ := exists_map ha
    rw [List.length_map, List.length_range] at hl
    rw [List.length_map] at hp
    walk_at "wg"
    exact q xs po hl hx (by rw [← hl]; exact hp)
theorem cal_wide_point (e : η[i]? = some (.own bb po)) (hp : Po k po) (hk : k < 980000) (hw : w ≤ 1000) (q : ∀ xs po, xs.length = w → AllSq 4 xs → Po (k + 2 * w) po → Q (ptQ xs) (η.set i (.own bb po))) : wp (callM noLst r__law_wide_point (some 0) [.bor i, .val (.int (w : Int))]) Q E η :=
  wp_io (ds := [.int (w : Int)]) rfl e (wide_point hp hk hw fun x po h1 h2 h3 => ⟨_, _, rfl, q x po h1 h2 h3⟩)
end
end Sp

namespace Pd
open PySem L2
/-- a call whose first argument is changed, whose second one is an owned list that is read -/
theorem wp_iob {Q : D → Sto → Prop} {E : Str → Sto → Prop} {η : Sto} {fm : M D} {nl : D → Bool} {i j : Nat} {b b' : Bool} {c0 c1 : D} (e0 : η[i]? = some (.own b c0)) (e1 : η[j]? = some (.own b' c1)) (hij : (i == j) = false)
    (h : wp fm (fun d as => ∃ c r, as = .own true c :: r ∧ (nl d && noLstIn c) = true ∧ Q d (η.set i (.own b c))) (fun x as => False) [.own true c0, .val c1]) : wp (callM nl fm (some 0) [.bor i, .bor j]) Q E η := by
  have em : mkA η (some 0) [.bor i, .bor j] = some [.own true c0, .val c1] := by
    simp only [mkA, e0, e1, Option.map_some]
  have eb : bors (some 0) [.bor i, .bor j] = [j] := rfl
  have ei : ioIx (some 0) [.bor i, .bor j] = some i := rfl
  unfold wp at h ⊢
  unfold callM
  rw [em]
  simp only
  rw [if_pos (by unfold chk; rw [ei, eb]; simp only [List.contains_cons, hij]; rfl)]
  have ew : ∀ c r, wb η (some 0) [.bor i, .bor j] (.own true c :: r) = η.set i (.own b c) := fun c r => by
    unfold wb
    rw [ei]
    simp only
    rw [e0]
    rfl
  cases q : fm [.own true c0, .val c1] with
  | ok d as =>
    rw [q] at h
    obtain ⟨c, r, rfl, hc, h⟩ := h
    unfold finM clean
    have : ioD (some 0) (.own true c :: r) = c := rfl
    simp only [eb, ew, this, hc, Bool.or_true, if_true]
    exact h
  | exc x as => rw [q] at h; exact h.elim
  | bad => rw [q] at h; exact h
end Pd
namespace Sp
open PySem L2 Pd Rq F
section
variable {Q : D → Sto → Prop} {E : Str → Sto → Prop} {η : Sto} {d e p po : D} {w k m l i most : Nat} {bb : Bool} {xs ys ms : List Rat} {rs : List Row} {r : Row}
theorem Po.free (h : Po k po) : noLstIn po = true := by
  obtain ⟨a, b, c, rfl, _⟩ := h
  rfl
theorem free_pt : noLst (ptQ xs) = true := by
  show noLsts (xs.map frQ) = true
  induction xs with
  | nil => rfl
  | cons x xs ih => exact ih
theorem free_row : noLst (rowQ r) = true := by
  show noLsts [ptQ r.1, frQ r.2] = true
  show (noLst (ptQ r.1) && noLsts [frQ r.2]) = true
  rw [free_pt]
  rfl
theorem neg_all (h : AllSq k xs) : AllSq k (xs.map (-·)) := fun x hx => by
  obtain ⟨y, hy, rfl⟩ := List.mem_map.mp hx
  exact (h y hy).neg
theorem ten_pow {j : Nat} : (10 : Int) ^ (j : Int).toNat = 10 ^ j := by rw [Int.toNat_natCast]
theorem sm10 {v : Int} (h0 : 0 ≤ v) (h : v < 10 ^ (10 : Int).toNat) : Sm 40 v := by
  have e : (10 : Int) ^ (10 : Int).toNat = 10000000000 := by decide
  rw [e] at h
  unfold Sm
  omega
theorem sm30 {s : Int} (h0 : 0 ≤ s) (h : s ≤ 10 ^ 30) : Sm 100 s := by unfold Sm; omega
def SizeOk (ds : List D) : Prop := ds.length < 1000 ∧ 0 < ds.length ∧ ∀ d ∈ ds, ∃ s : Int, d = .int s ∧ 10 ≤ s ∧ s ≤ 10 ^ 30
theorem great {ds : List D} (hd : SizeOk ds) (hp : Po k po) (hk : k < 990000) (q : ∀ x po, Sq 100 x → Po (k + 9) po → Q (frQ x) [.own true po, .val (.lst ds)]) : wp r__law_great Q E [.own true po, .val (.lst ds)] := by
  refine wp_fnM rfl rfl ?_
  walk_at "wn"
  unfold b__law_great
  walk_at "wg"
  refine cal_one rfl hp (by omega) hd.2.1 hd.1 fun d po hm hp => ?_
  obtain ⟨s, rfl, hs0, hs1⟩ := hd.2.2 d hm
  have hss := sm30 (by omega) hs1
  walk_at "wn"
  walk_at "wg"
  refine cal_next rfl hp (by omega) (by decide) (by walk_at "sm") fun v1 po h1 h2 hp => ?_
  have e1 := sm10 h1 h2
  walk_at "wn"
  walk_at "wg"
  refine cal_next rfl hp (by omega) (by decide) (by walk_at "sm") fun v2 po h1 h2 hp => ?_
  have e2 := sm10 h1 h2
  walk_at "wn"
  walk_at "wg"
  refine cal_next rfl hp (by omega) (by decide) (by walk_at "sm") fun v3 po h1 h2 hp => ?_
  walk_at "wn"
  walk_at "wg"
  generalize hN : (v1 * 10 ^ Int.toNat 20 + v2 * 10 ^ Int.toNat 10 + v3).fmod s = N
  have n0 : 0 ≤ N := by rw [← hN]; exact Int.fmod_nonneg_of_pos _ (by omega)
  have n1 : N < s := by rw [← hN]; exact Int.fmod_lt_of_pos _ (by omega)
  clear hN
  refine cal_next rfl hp (by omega) (by decide) (by walk_at "sm") fun v4 po h1 h2 hp => ?_
  have e4 := sm10 h1 h2
  walk_at "wn"
  walk_at "wg"
  refine cal_next rfl hp (by omega) (by decide) (by walk_at "sm") fun v5 po h1 h2 hp => ?_
  have e5 := sm10 h1 h2
  walk_at "wn"
  walk_at "wg"
  refine cal_next rfl hp (by omega) (by decide) (by walk_at "sm") fun v6 po h1 h2 hp => ?_
  walk_at "wn"
  walk_at "wg"
  generalize hM : (v4 * 10 ^ Int.toNat 20 + v5 * 10 ^ Int.toNat 10 + v6).fmod (s - 1) = M
  have m0 : 0 ≤ M := by rw [← hM]; exact Int.fmod_nonneg_of_pos _ (by omega)
  have m1 : M < s - 1 := by rw [← hM]; exact Int.fmod_lt_of_pos _ (by omega)
  clear hM
  have sN : Sm 100 N := sm30 n0 (by omega)
  have sM : Sm 100 (1 + M) := sm30 (by omega) (by omega)
  have s1 : Sm 100 1 := by unfold Sm; decide
  refine cal_next rfl hp (by omega) (by decide) (by walk_at "sm") fun v7 po _ _ hp => ?_
  walk_at "wn"
  walk_at "wg"
  refine BrD.dec (fun hv => ?_) (fun hv => ?_)
  all_goals
    walk_at "wg"
    refine cal_next rfl hp (by omega) (by decide) (by walk_at "sm") fun v8 po _ _ hp => ?_
    walk_at "wn"
    walk_at "wg"
    refine BrD.dec (fun hw => ?_) (fun hw => ?_)
    all_goals
      walk_at "wg"
      first
        | refine lmade (n := N) (d := 1 + M) (by omega) (sN.mono (by decide)) (sM.mono (by decide)) ?_
        | refine lmade (n := -N) (d := 1 + M) (by omega) (sN.neg.mono (by decide)) (sM.mono (by decide)) ?_
        | refine lmade (n := N) (d := 1) (by decide) (sN.mono (by decide)) (s1.mono (by decide)) ?_
        | refine lmade (n := -N) (d := 1) (by decide) (sN.neg.mono (by decide)) (s1.mono (by decide)) ?_
      walk_at "wg"
      first
        | exact q _ _ (Sq.qo (by omega) sN sM) (hp.mono (by omega))
        | exact q _ _ (Sq.qo (by omega) sN.neg sM) (hp.mono (by omega))
        | exact q _ _ (Sq.qo (by decide) sN s1) (hp.mono (by omega))
        | exact q _ _ (Sq.qo (by decide) sN.neg s1) (hp.mono (by omega))
theorem cal_great {ds : List D} (hd : SizeOk ds) (e : η[i]? = some (.own bb po)) (hp : Po k po) (hk : k < 990000) (q : ∀ x po, Sq 100 x → Po (k + 9) po → Q (frQ x) (η.set i (.own bb po))) : wp (callM noLst r__law_great (some 0) [.bor i, .val (.lst ds)]) Q E η :=
  wp_io (ds := [.lst ds]) rfl e (great hd hp hk fun x po h1 h2 => ⟨_, _, rfl, q x po h1 h2⟩)
/-! drawn rows -/
structure RInv (k w i : Nat) (rs : List Row) (po : D) : Prop where
  a : ∀ r ∈ rs, r.1.length = w ∧ RSm (60 * (i + 1)) r
  b : rs.length = i
  c : Po (k + 1 + 30 * i) po
def RSt (k w most i : Nat) (η : Sto) : Prop := ∃ (rs : List Row) (po : D) (t1 t2 t3 : Slot), RInv k w i rs po ∧ η = [.own true po, .val (.int (w : Int)), .val (.int (most : Int)), .own false (.lst (rs.map rowQ)), t1, t2, t3, .no] ∧ canSets (some t1) = true ∧ canSets (some t2) = true ∧ canSets (some t3) = true
theorem unit_sq {n : Int} (h : -1 ≤ n ∧ n ≤ 1) : AllSq 2 (unitQ w l n) := fun x hx => by
  unfold unitQ at hx
  obtain ⟨j, _, rfl⟩ := List.mem_map.mp hx
  split
  · exact Sq.int (by unfold Sm; omega) (by decide)
  · exact sq0.mono (by decide)
theorem unit_len {n : Int} : (unitQ w l n).length = w := by
  unfold unitQ
  simp
theorem rows_k3 {K : Kt} (hw : 0 < w ∧ w ≤ 8) (hk : k + 30 * i < 900000) (hi : i < 1000) (ha : ∀ r ∈ rs, r.1.length = w ∧ RSm (60 * (i + 1)) r) (hb : rs.length = i) (hr : r.1.length = w ∧ RSm (60 * (i + 1 + 1)) r) (hp : Po (k + 1 + 30 * i + w + 6) po) {t1 t4 : Slot} (h1 : canSets (some t1) = true) (h4 : canSets (some t4) = true)
    (q : ∀ η, RSt k w most (i + 1) η → K.nx η) : wps b__law_rows_k3 K [.own true po, .val (.int (w : Int)), .val (.int (most : Int)), .own false (.lst (rs.map rowQ)), t1, .val (rowQ r), t4, .no] := by
  have step : ∀ {r' : Row} {po' : D}, (r'.1.length = w ∧ RSm (60 * (i + 1 + 1)) r') → Po (k + 1 + 30 * (i + 1)) po' → RInv k w (i + 1) (rs ++ [r']) po' := fun {r' po'} h hp => ⟨fun z hz => by
    rw [List.mem_append, List.mem_singleton] at hz
    rcases hz with hz | rfl
    · exact ⟨(ha z hz).1, (ha z hz).2.mono (by omega)⟩
    · exact h, by rw [List.length_append, hb]; rfl, hp⟩
  have hap : ∀ (r' : Row), appO (rowQ r') (some (.own false (.lst (rs.map rowQ)))) = some (.own false (.lst ((rs ++ [r']).map rowQ))) := fun r' => by
    unfold appO
    simp only
    rw [if_pos (show lenOk (rs.map rowQ).length = true from decide_eq_true (by rw [List.length_map]; omega)), List.map_append]
    rfl
  unfold b__law_rows_k3
  walk_at "wg"
  refine cal_next rfl hp (by omega) (by decide) (by walk_at "sm") fun v po _ _ hp => ?_
  walk_at "wn"
  walk_at "wg"
  refine BrD.dec (fun hv => ?_) (fun hv => ?_)
  · unfold b__law_rows_t2
    walk_at "wg"
    refine cal_nextn (n := w) rfl hp (by omega) (by omega) (by omega) fun v po hv hp => ?_
    walk_at "wn"
    walk_at "wg"
    refine cal_one rfl hp (by omega) (by simp) (by simp) fun d po hd hp => ?_
    have hd : ∃ n : Int, d = .int n ∧ -1 ≤ n ∧ n ≤ 1 := by
      simp only [List.mem_cons, List.not_mem_nil, or_false] at hd
      rcases hd with rfl | rfl <;> exact ⟨_, rfl, by decide, by decide⟩
    obtain ⟨n, rfl, hn⟩ := hd
    walk_at "wn"
    walk_at "wg"
    refine lunit (by omega) ?_
    walk_at "wg"
    refine cal_small rfl hp (by omega) fun x po _ hx hp => ?_
    walk_at "wn"
    walk_at "wg"
    refine som_i (hap (unitQ w v n, x)) ?_
    walk_at "wn"
    exact q _ ⟨_, _, _, _, _, step ⟨unit_len, unit_sq hn, hx.mono (by omega)⟩ (hp.mono (by omega)), rfl, h1, rfl, h4⟩
  · walk_at "wg"
    refine som_i (hap r) ?_
    walk_at "wn"
    exact q _ ⟨_, _, _, _, _, step hr (hp.mono (by omega)), rfl, h1, rfl, h4⟩
theorem rows (hp : Po k po) (hk : k < 800000) (hw : 0 < w ∧ w ≤ 8) (hm : most ≤ 100) (q : ∀ rs po, WRows w rs → (∀ r ∈ rs, RSm (60 * (most + 1)) r) → rs.length ≤ most → Po (k + 1 + 30 * most) po → Q (rowsQ rs) [.own true po, .val (.int (w : Int)), .val (.int (most : Int))]) : wp r__law_rows Q E [.own true po, .val (.int (w : Int)), .val (.int (most : Int))] := by
  refine wp_fnM rfl rfl ?_
  walk_at "wn"
  unfold b__law_rows
  walk_at "wg"
  refine cal_nextn (n := most + 1) rfl hp (by omega) (by omega) (by omega) fun v po hv hp => ?_
  walk_at "wn"
  have hv62 : (v : Int) < 2 ^ 62 := by omega
  walk_at "wg"
  refine wps_forn (RSt k w most) ?_ ?_ ?_
  · exact ⟨[], po, .no, .no, .no, ⟨by simp, rfl, hp.mono (by omega)⟩, rfl, rfl, rfl, rfl⟩
  · rintro i η' hi ⟨rs, po, t1, t2, t3, ⟨ha, hb, hp⟩, rfl, c1, c2, c3⟩
    walk_at "wg"
    unfold b__law_rows_f4
    walk_at "wg"
    refine cal_row rfl hp (by omega) (by omega) fun r po h1 h2 hp => ?_
    walk_at "wn"
    walk_at "wg"
    refine Br.both (fun e => ?_) (fun e => ?_)
    · walk_at "wg"
      exact rows_k3 hw (by omega) (by omega) ha hb ⟨h1, h2.mono (by omega)⟩ (hp.mono (by omega)) rfl c3 fun _ h => h
    · walk_at "wg"
      refine cal_next rfl hp (by omega) (by decide) (by walk_at "sm") fun v2 po _ _ hp => ?_
      walk_at "wn"
      walk_at "wg"
      refine BrD.dec (fun hv2 => ?_) (fun hv2 => ?_)
      · unfold b__law_rows_t1
        walk_at "wg"
        have hne : 0 < (rs.map rowQ).length := by
          cases rs with
          | nil => cases e
          | cons _ _ => simp
        refine wp_iob rfl rfl rfl (one_of hp (by omega) hne (by rw [List.length_map]; omega) fun d po hd hp => ?_)
        obtain ⟨o, ho, rfl⟩ := List.mem_map.mp hd
        have hso := ha o ho
        have hs2 := hso.2.b.neg
        have hs3 : Sq (60 * (i + 1) + 3) (-o.2) := hs2.sq (Nat.lt_of_lt_of_le Nat.lt_two_pow_self (Nat.pow_le_pow_right (by decide) (by omega))) (by omega)
        refine ⟨_, _, rfl, by rw [free_row, hp.free]; rfl, ?_⟩
        walk_at "wn"
        walk_at "wg"
        refine wp_cmap (fun x => frQ (-x)) (by have := hso.1; omega) (fun x hx => ?_) ?_
        · walk_at "wg"
          exact ⟨rfl, rfl⟩
        · walk_at "wg"
          refine cal_small rfl hp (by omega) fun x po hx4 hx hp => ?_
          walk_at "wn"
          walk_at "wg"
          have e3 : D.tup [.tup (o.1.map fun x => frQ (-x)), frQ (-o.2 + x)] = rowQ (o.1.map (-·), -o.2 + x) := by
            show _ = D.tup [.tup ((o.1.map (-·)).map frQ), frQ (-o.2 + x)]
            rw [List.map_map]
            rfl
          rw [e3]
          refine rows_k3 hw (by omega) (by omega) ha hb ⟨by rw [List.length_map]; exact hso.1, neg_all hso.2.a, (hs2.add hx).mono (by omega)⟩ (hp.mono (by omega)) rfl rfl fun _ h => h
      · walk_at "wg"
        exact rows_k3 hw (by omega) (by omega) ha hb ⟨h1, h2.mono (by omega)⟩ (hp.mono (by omega)) rfl c3 fun _ h => h
  · rintro η' ⟨rs, po, t1, t2, t3, ⟨ha, hb, hp⟩, rfl, c1, c2, c3⟩
    walk_at "wg"
    exact q rs po ⟨hw.1, fun r hr => (ha r hr).1⟩ (fun r hr => (ha r hr).2.mono (by omega)) (by omega) (hp.mono (by omega))
end
end Sp

namespace Rq
open Pd
/-- not deep -/
def Dpt : Nat → D → Prop
  | _, .tup [] => True
  | 0, .tup (_ :: _) => False
  | n + 1, .tup (d :: ds) => ∀ x ∈ d :: ds, Dpt n x
  | _, _ => True
theorem dpt_tup {n : Nat} {ds : List D} (h : ∀ x ∈ ds, Dpt n x) : Dpt (n + 1) (.tup ds) := by
  cases ds with
  | nil => unfold Dpt; trivial
  | cons d ds => unfold Dpt; exact h
theorem dpt_fr (n : Nat) (q : Rat) : Dpt (n + 1) (frQ q) := dpt_tup (by
  intro x hx
  simp only [List.mem_cons, List.not_mem_nil, or_false] at hx
  rcases hx with rfl | rfl <;> (cases n <;> (unfold Dpt; trivial)))
theorem dpt_pt (n : Nat) (xs : List Rat) : Dpt (n + 2) (ptQ xs) := dpt_tup (by
  intro x hx
  obtain ⟨q, _, rfl⟩ := List.mem_map.mp hx
  exact dpt_fr n q)
theorem dpt_row (n : Nat) (r : Row) : Dpt (n + 3) (rowQ r) := dpt_tup (by
  intro x hx
  simp only [List.mem_cons, List.not_mem_nil, or_false] at hx
  rcases hx with rfl | rfl
  · exact dpt_pt n _
  · exact dpt_fr (n + 1) _)
theorem dpt_rows (n : Nat) (rs : List Row) : Dpt (n + 4) (rowsQ rs) := dpt_tup (by
  intro x hx
  obtain ⟨q, _, rfl⟩ := List.mem_map.mp hx
  exact dpt_row n q)
/-- data that is the same as itself -/
def Pl : Nat → D → Prop
  | _, .non => True
  | _, .bl _ => True
  | _, .int _ => True
  | _, .str x => PySem.PyData.strOk x = true
  | n + 1, .tup ds => ds.length ≤ 1000000 ∧ ∀ d ∈ ds, Pl n d
  | n + 1, .lst ds => ds.length ≤ 1000000 ∧ ∀ d ∈ ds, Pl n d
  | _, _ => False
theorem pl_int (n : Nat) (i : Int) : Pl n (.int i) := by cases n <;> (unfold Pl; trivial)
theorem pl_bl (n : Nat) (i : Bool) : Pl n (.bl i) := by cases n <;> (unfold Pl; trivial)
theorem pl_non (n : Nat) : Pl n .non := by cases n <;> (unfold Pl; trivial)
theorem pl_tup {n : Nat} {ds : List D} (h : ds.length ≤ 1000000) (g : ∀ d ∈ ds, Pl n d) : Pl (n + 1) (.tup ds) := by
  unfold Pl
  exact ⟨h, g⟩
theorem pl_lst {n : Nat} {ds : List D} (h : ds.length ≤ 1000000) (g : ∀ d ∈ ds, Pl n d) : Pl (n + 1) (.lst ds) := by
  unfold Pl
  exact ⟨h, g⟩
theorem pl_fr (n : Nat) (q : Rat) : Pl (n + 1) (frQ q) := pl_tup (by simp) (by
  intro x hx
  simp only [List.mem_cons, List.not_mem_nil, or_false] at hx
  rcases hx with rfl | rfl <;> exact pl_int _ _)
theorem pl_pt (n : Nat) {xs : List Rat} (h : xs.length ≤ 1000000) : Pl (n + 2) (ptQ xs) := pl_tup (by rw [List.length_map]; exact h) (by
  intro x hx
  obtain ⟨q, _, rfl⟩ := List.mem_map.mp hx
  exact pl_fr n q)
theorem pl_row (n : Nat) {r : Row} (h : r.1.length ≤ 1000000) : Pl (n + 3) (rowQ r) := pl_tup (by simp) (by
  intro x hx
  simp only [List.mem_cons, List.not_mem_nil, or_false] at hx
  rcases hx with rfl | rfl
  · exact pl_pt n h
  · exact pl_fr (n + 1) _)
theorem bdd_take {L k : Nat} {ds : List D} (h : ∀ d ∈ ds, Bdd L d) : ∀ d ∈ ds.take k, Bdd L d := fun d hd => h d (List.mem_of_mem_take hd)
theorem bdd_drop {L k : Nat} {ds : List D} (h : ∀ d ∈ ds, Bdd L d) : ∀ d ∈ ds.drop k, Bdd L d := fun d hd => h d (List.mem_of_mem_drop hd)
theorem bdd_app {L : Nat} {ds es : List D} (h : ∀ d ∈ ds, Bdd L d) (g : ∀ d ∈ es, Bdd L d) : ∀ d ∈ ds ++ es, Bdd L d := fun d hd => (List.mem_append.mp hd).elim (h d) (g d)
end Rq
namespace Sp
open PySem L2 Pd Rq F
section
variable {Q : D → Sto → Prop} {E : Str → Sto → Prop} {η : Sto} {d e p po : D} {w k m l i L : Nat} {bb : Bool} {xs ys ms : List Rat} {rs : List Row} {r : Row} {ods ds : List D}
def OddOk (L : Nat) (ods : List D) : Prop := 0 < ods.length ∧ ods.length < 1000 ∧ ∀ x ∈ ods, Bdd L x
theorem bent_one {n : Nat} {K : Kt} (ho : OddOk L ods) (hp : Po k po) (hk : k < 990000) (q : ∀ x po, Bdd L x → Po (k + 1) po → K.rt x [.own true po, .val d, .val (.lst ods), .no, .no]) : wps (b__law_bent_t1 (r__law_bent n)) K [.own true po, .val d, .val (.lst ods), .no, .no] := by
  unfold b__law_bent_t1
  walk_at "wg"
  refine cal_one rfl hp (by omega) ho.1 ho.2.1 fun x po hx hp => ?_
  walk_at "wn"
  walk_at "wg"
  exact q x po (ho.2.2 x hx) hp
theorem bent : ∀ (n : Nat) {d po : D} {k : Nat} {Q : D → Sto → Prop} {E : Str → Sto → Prop}, Dpt n d → Bdd L d → L ≤ 900 → OddOk (L + 1) ods → Po k po → k + 4 * n < 900000 → (∀ x po, Bdd (L + 1) x → Po (k + 4 * (n + 1)) po → Q x [.own true po, .val d, .val (.lst ods)]) →
    wp (r__law_bent (n + 1)) Q E [.own true po, .val d, .val (.lst ods)] := by
  intro n
  induction n with
  | zero =>
    intro d po k Q E hd hb hL ho hp hk q
    refine wp_fnM rfl rfl ?_
    walk_at "wn"
    unfold b__law_bent
    cases d with
    | tup ds =>
      cases ds with
      | nil =>
        walk_at "wg"
        exact bent_one ho hp (by omega) fun x po hx hp => q x po hx (hp.mono (by omega))
      | cons x ds =>
        unfold Dpt at hd
        exact hd.elim
    | _ =>
      walk_at "wg"
      exact bent_one ho hp (by omega) fun x po hx hp => q x po hx (hp.mono (by omega))
  | succ n ih =>
    intro d po k Q E hd hb hL ho hp hk q
    refine wp_fnM rfl rfl ?_
    walk_at "wn"
    unfold b__law_bent
    cases d with
    | tup ds =>
      cases ds with
      | nil =>
        walk_at "wg"
        exact bent_one ho hp (by omega) fun x po hx hp => q x po hx (hp.mono (by omega))
      | cons x ds =>
        have hx : ∀ y ∈ x :: ds, Dpt n y := by
          unfold Dpt at hd
          exact hd
        have hl := hb.tup
        have hL1 : ∀ y ∈ x :: ds, Bdd (L + 1) y := fun y hy => (hl.2 y hy).mono (by omega)
        have hlen : (x :: ds).length ≤ L := hl.1
        have hne : 0 < (x :: ds).length := by simp
        have hemp : (x :: ds).isEmpty = false := rfl
        clear hd
        generalize x :: ds = es at *
        walk_at "wg"
        refine Br.isnt hemp ?_
        walk_at "wg"
        refine cal_next rfl hp (by omega) (by decide) (by walk_at "sm") fun v po _ _ hp => ?_
        walk_at "wn"
        walk_at "wg"
        refine BrD.dec (fun hv => ?_) (fun hv => ?_)
        · walk_at "wg"
          exact bent_one ho hp (by omega) fun x po hx hp => q x po hx (hp.mono (by omega))
        · walk_at "wg"
          refine cal_nextn rfl hp (by omega) hne (by omega) fun v po hvl hp => ?_
          walk_at "wn"
          walk_at "wg"
          have l1 : (es.take v ++ es.drop (v + 1)).length ≤ L + 1 := by simp; omega
          have l2 : (es.take (v + 1) ++ es.drop v).length ≤ L + 1 := by simp; omega
          have l3 : (es.drop v ++ es.take v).length ≤ L + 1 := by simp; omega
          have l4 : ∀ y : D, (es.take v ++ [y] ++ es.drop (v + 1)).length ≤ L + 1 := fun y => by simp; omega
          refine cal_next rfl hp (by omega) (by decide) (by walk_at "sm") fun way po _ _ hp => ?_
          walk_at "wn"
          walk_at "wg"
          refine BrD.dec (fun hv => ?_) (fun hv => ?_)
          · unfold b__law_bent_t2
            walk_at "wg"
            exact q _ _ (bdd_tup l1 (bdd_app (bdd_take hL1) (bdd_drop hL1))) (hp.mono (by omega))
          walk_at "wg"
          refine BrD.dec (fun hv => ?_) (fun hv => ?_)
          · unfold b__law_bent_t3
            walk_at "wg"
            exact q _ _ (bdd_tup l2 (bdd_app (bdd_take hL1) (bdd_drop hL1))) (hp.mono (by omega))
          walk_at "wg"
          refine BrD.dec (fun hv => ?_) (fun hv => ?_)
          · unfold b__law_bent_t4
            walk_at "wg"
            exact q _ _ (bdd_tup l3 (bdd_app (bdd_drop hL1) (bdd_take hL1))) (hp.mono (by omega))
          walk_at "wg"
          refine BrD.dec (fun hv => ?_) (fun hv => ?_)
          · walk_at "wg"
            exact q _ _ (bdd_lst (by omega) hL1) (hp.mono (by omega))
          walk_at "wg"
          refine som_i (ix_raw hvl) ?_
          walk_at "wg"
          refine wp_io (ds := [_, .lst ods]) rfl rfl (ih (hx _ (List.getElem_mem hvl)) (hl.2 _ (List.getElem_mem hvl)) hL ho hp (by omega) fun y po hy hp => ⟨_, _, rfl, ?_⟩)
          walk_at "wn"
          walk_at "wg"
          refine q _ _ (bdd_tup (l4 y) (bdd_app (bdd_app (bdd_take hL1) ?_) (bdd_drop hL1))) (hp.mono (by omega))
          intro z hz
          rw [List.mem_singleton] at hz
          rw [hz]
          exact hy
    | _ =>
      walk_at "wg"
      exact bent_one ho hp (by omega) fun x po hx hp => q x po hx (hp.mono (by omega))
theorem cal_bent {n : Nat} (e : η[i]? = some (.own bb po)) (hd : Dpt n d) (hb : Bdd L d) (hL : L ≤ 900) (ho : OddOk (L + 1) ods) (hp : Po k po) (hk : k + 4 * n < 900000) (q : ∀ x po, Bdd (L + 1) x → Po (k + 4 * (n + 1)) po → Q x (η.set i (.own bb po))) : wp (callM noLst (r__law_bent (n + 1)) (some 0) [.bor i, .val d, .val (.lst ods)]) Q E η :=
  wp_io (ds := [d, .lst ods]) rfl e (bent n hd hb hL ho hp hk fun x po h1 h2 => ⟨_, _, rfl, q x po h1 h2⟩)
/-! the same -/
theorem ix_tl {i : Nat} (hi : i < ds.length) : idxD (.lst ds) (.int (i : Int)) = some ds[i] := ix_raw hi
theorem same_seq {n : Nat} (hd : d = .tup ds ∨ d = .lst ds) (hl : ds.length ≤ 1000000) (ih : ∀ x ∈ ds, ∀ (Q : D → Sto → Prop) (E : Str → Sto → Prop), Q (.bl true) [.val x, .val x] → wp (r__law_same n) Q E [.val x, .val x])
    (h : Q (.bl true) [.val d, .val d]) : wp (r__law_same (n + 1)) Q E [.val d, .val d] := by
  have hl62 : (ds.length : Int) < 2 ^ 62 := by omega
  have eall : (List.range ds.length).all (fun _ => true) = true := by simp
  refine wp_fnM rfl rfl ?_
  walk_at "wn"
  unfold b__law_same
  rcases hd with rfl | rfl
  · walk_at "wg"
    unfold b__law_same_t1
    walk_at "wg"
    refine Br.is (by rfl) ?_
    walk_at "wg"
    refine Br.is (by rfl) ?_
    walk_at "wg"
    refine BrD.yes rfl ?_
    walk_at "wg"
    refine wp_cmap (fun _ => .bl true) (by rw [List.length_range]; omega) (fun i hi => ?_) ?_
    · have hi := List.mem_range.mp hi
      walk_at "wg"
      refine som_i (ix_raw hi) ?_
      walk_at "wg"
      refine som_i (ix_raw hi) ?_
      walk_at "wg"
      exact ih _ (List.getElem_mem _) _ _ ⟨rfl, rfl⟩
    · walk_at "wg"
      rw [eall]
      exact h
  · walk_at "wg"
    unfold b__law_same_t1
    walk_at "wg"
    refine Br.is (by rfl) ?_
    walk_at "wg"
    refine Br.is (by rfl) ?_
    walk_at "wg"
    refine BrD.yes rfl ?_
    walk_at "wg"
    refine wp_cmap (fun _ => .bl true) (by rw [List.length_range]; omega) (fun i hi => ?_) ?_
    · have hi := List.mem_range.mp hi
      walk_at "wg"
      refine som_i (ix_tl hi) ?_
      walk_at "wg"
      refine som_i (ix_tl hi) ?_
      walk_at "wg"
      exact ih _ (List.getElem_mem _) _ _ ⟨rfl, rfl⟩
    · walk_at "wg"
      rw [eall]
      exact h
theorem same_at {n : Nat} (hd : d = .non ∨ (∃ b, d = .bl b) ∨ (∃ i, d = .int i) ∨ ∃ x, d = .str x ∧ PySem.PyData.strOk x = true) (h : Q (.bl true) [.val d, .val d]) : wp (r__law_same (n + 1)) Q E [.val d, .val d] := by
  refine wp_fnM rfl rfl ?_
  walk_at "wn"
  unfold b__law_same
  rcases hd with rfl | ⟨b, rfl⟩ | ⟨i, rfl⟩ | ⟨x, rfl, hx⟩
  · walk_at "wg"
    exact h
  · walk_at "wg"
    unfold b__law_same_t2
    walk_at "wg"
    rw [show (b == b) = true by cases b <;> rfl]
    exact h
  · walk_at "wg"
    unfold b__law_same_t3
    walk_at "wg"
    rw [decide_eq_true (rfl : i = i)]
    exact h
  · walk_at "wg"
    refine rf_i hx ?_
    exact h
theorem same : ∀ (n : Nat) {d : D} (Q : D → Sto → Prop) (E : Str → Sto → Prop), Pl n d → Q (.bl true) [.val d, .val d] → wp (r__law_same (n + 1)) Q E [.val d, .val d]
  | n, .non, _, _, _, h => same_at (.inl rfl) h
  | n, .bl b, _, _, _, h => same_at (.inr (.inl ⟨b, rfl⟩)) h
  | n, .int b, _, _, _, h => same_at (.inr (.inr (.inl ⟨b, rfl⟩))) h
  | n, .str b, _, _, hp, h => same_at (.inr (.inr (.inr ⟨b, rfl, by cases n <;> (unfold Pl at hp; exact hp)⟩))) h
  | n, .dct _ _, _, _, hp, h => by cases n <;> (unfold Pl at hp; exact hp.elim)
  | n, .scr _, _, _, hp, h => by cases n <;> (unfold Pl at hp; exact hp.elim)
  | 0, .tup _, _, _, hp, _ => by unfold Pl at hp; exact hp.elim
  | 0, .lst _, _, _, hp, _ => by unfold Pl at hp; exact hp.elim
  | n + 1, .tup ds, _, _, hp, h => by
    unfold Pl at hp
    exact same_seq (.inl rfl) hp.1 (fun x hx Q E hq => same n Q E (hp.2 x hx) hq) h
  | n + 1, .lst ds, _, _, hp, h => by
    unfold Pl at hp
    exact same_seq (.inr rfl) hp.1 (fun x hx Q E hq => same n Q E (hp.2 x hx) hq) h
/-- where the two are the same -/
theorem same_40 {d e : D} (he : d = e) (hp : Pl 39 d) (h : Q (.bl true) [.val d, .val e]) : wp (r__law_same 40) Q E [.val d, .val e] := by
  subst he
  exact same 39 Q E hp h
end
end Sp

namespace Rq
open Pd PySem
/-! data equals itself -/
theorem pl_py : ∀ (n : Nat) {d : D}, Pl n d → ∃ p, toPy d = some p ∧ PyData.canLay0 p = true ∧ PyData.depth p ≤ n ∧ PyData.eqv p p = true := by
  have key : ∀ (n : Nat) (ih : ∀ {d : D}, Pl n d → ∃ p, toPy d = some p ∧ PyData.canLay0 p = true ∧ PyData.depth p ≤ n ∧ PyData.eqv p p = true) (ds : List D), (∀ d ∈ ds, Pl n d) → ∃ ps, toPys ds = some ps ∧ PyData.canLayAll0 ps = true ∧ PyData.depthAll ps ≤ n ∧ PyData.eqvAll ps ps = true := by
    intro n ih ds
    induction ds with
    | nil => intro _; exact ⟨[], rfl, rfl, Nat.zero_le _, rfl⟩
    | cons d ds ihl =>
      intro h
      obtain ⟨p, h1, h2, h3, h4⟩ := ih (h d List.mem_cons_self)
      obtain ⟨ps, g1, g2, g3, g4⟩ := ihl fun x hx => h x (List.mem_cons_of_mem _ hx)
      refine ⟨p :: ps, ?_, ?_, ?_, ?_⟩
      · show (toPy d).bind (fun p => (toPys ds).map fun ps => p :: ps) = _
        rw [h1, g1]
        rfl
      · show (PyData.canLay0 p && PyData.canLayAll0 ps) = true
        rw [h2, g2]
        rfl
      · show max (PyData.depth p) (PyData.depthAll ps) ≤ n
        omega
      · show (PyData.eqv p p && PyData.eqvAll ps ps) = true
        rw [h4, g4]
        rfl
  intro n
  induction n with
  | zero =>
    intro d h
    cases d with
    | non => exact ⟨.none, rfl, rfl, Nat.zero_le _, rfl⟩
    | bl b => exact ⟨.bool b, rfl, rfl, Nat.zero_le _, by cases b <;> rfl⟩
    | int i => exact ⟨.int i, rfl, rfl, Nat.zero_le _, by show (i == i) = true; simp⟩
    | str x => exact ⟨.str x, rfl, by unfold Pl at h; exact h, Nat.zero_le _, by show (x == x) = true; simp⟩
    | _ => unfold Pl at h; exact h.elim
  | succ n ih =>
    intro d h
    cases d with
    | non => exact ⟨.none, rfl, rfl, Nat.zero_le _, rfl⟩
    | bl b => exact ⟨.bool b, rfl, rfl, Nat.zero_le _, by cases b <;> rfl⟩
    | int i => exact ⟨.int i, rfl, rfl, Nat.zero_le _, by show (i == i) = true; simp⟩
    | str x => exact ⟨.str x, rfl, by unfold Pl at h; exact h, Nat.zero_le _, by show (x == x) = true; simp⟩
    | tup ds =>
      unfold Pl at h
      obtain ⟨ps, g1, g2, g3, g4⟩ := key n ih ds h.2
      exact ⟨.tuple ps, by show (toPys ds).map PyData.tuple = _; rw [g1]; rfl, g2, by show PyData.depthAll ps + 1 ≤ n + 1; omega, g4⟩
    | lst ds =>
      unfold Pl at h
      obtain ⟨ps, g1, g2, g3, g4⟩ := key n ih ds h.2
      exact ⟨.list ps, by show (toPys ds).map PyData.list = _; rw [g1]; rfl, g2, by show PyData.depthAll ps + 1 ≤ n + 1; omega, g4⟩
    | _ => unfold Pl at h; exact h.elim
theorem eqD_refl {n : Nat} {d : D} (h : Pl n d) (hn : n ≤ 64) : eqD d d = some true := by
  obtain ⟨p, h1, h2, h3, h4⟩ := pl_py n h
  have main : eqP d d = some true := by
    unfold eqP
    rw [h1]
    simp only
    rw [h4, if_pos]
    unfold SeqAt.shaped
    rw [h2, decide_eq_true (show PyData.depth p ≤ 64 by omega)]
    rfl
  have he : eqE d d = none ∨ eqE d d = some true := by
    cases d with
    | tup ds => cases ds with
      | nil => exact .inr rfl
      | cons _ _ => exact .inl rfl
    | lst ds => cases ds with
      | nil => exact .inr rfl
      | cons _ _ => exact .inl rfl
    | _ => exact .inl rfl
  unfold eqD
  rcases he with he | he
  · rw [he]
    exact main
  · rw [he]
theorem neD_refl {n : Nat} {d : D} (h : Pl n d) (hn : n ≤ 64) : neD d d = some false := by
  unfold neD
  rw [eqD_refl h hn]
  rfl
theorem pl_str (n : Nat) {x : Str} (h : PyData.strOk x = true) : Pl n (.str x) := by cases n <;> (unfold Pl; exact h)
/-! small data, by computing -/
mutual
def bddb (L : Nat) : D → Bool
  | .int i => decide (i.natAbs < 18446744073709551616)
  | .tup ds => decide (ds.length ≤ L) && bddbs L ds
  | .lst ds => decide (ds.length ≤ L) && bddbs L ds
  | _ => true
def bddbs (L : Nat) : List D → Bool
  | [] => true
  | d :: ds => bddb L d && bddbs L ds
end
mutual
theorem bdd_of {L : Nat} : ∀ (d : D), bddb L d = true → Bdd L d
  | .int i, h => by
    have h : decide (i.natAbs < 18446744073709551616) = true := h
    have h2 : i.natAbs < 18446744073709551616 := of_decide_eq_true h
    have h3 : Sm 64 i := by unfold Sm; omega
    exact bdd_int (h3.mono (by decide))
  | .tup ds, h => by
    have h : (decide (ds.length ≤ L) && bddbs L ds) = true := h
    rw [Bool.and_eq_true] at h
    exact bdd_tup (of_decide_eq_true h.1) (bdds_of ds h.2)
  | .lst ds, h => by
    have h : (decide (ds.length ≤ L) && bddbs L ds) = true := h
    rw [Bool.and_eq_true] at h
    exact bdd_lst (of_decide_eq_true h.1) (bdds_of ds h.2)
  | .non, _ => by unfold Bdd; trivial
  | .bl _, _ => by unfold Bdd; trivial
  | .str _, _ => by unfold Bdd; trivial
  | .dct _ _, _ => by unfold Bdd; trivial
  | .scr _, _ => by unfold Bdd; trivial
theorem bdds_of {L : Nat} : ∀ (ds : List D), bddbs L ds = true → ∀ d ∈ ds, Bdd L d
  | [], _ => by intro d hd; cases hd
  | d :: ds, h => by
    have h : (bddb L d && bddbs L ds) = true := h
    rw [Bool.and_eq_true] at h
    intro x hx
    rcases List.mem_cons.mp hx with hx | hx
    · rw [hx]
      exact bdd_of d h.1
    · exact bdds_of ds h.2 x hx
end
end Rq
namespace Sp
open PySem L2 Pd Rq F
section
variable {Q : D → Sto → Prop} {E : Str → Sto → Prop} {η : Sto} {d e p po : D} {w k m l i L : Nat} {bb : Bool} {xs ys ms : List Rat} {rs : List Row} {r : Row} {ods ds : List D}
structure GrInv (w k i : Nat) (n : Nat) (rs : List Row) (po : D) : Prop where
  a : ∀ r ∈ rs, r.1.length = w ∧ RowSq 100 r
  b : rs.length = i
  c : Po (k + 100 * i) po
theorem sizes2 : SizeOk [.int 10, .int (10 ^ (30 : Int).toNat)] := ⟨by simp, by simp, by
  intro d hd
  simp only [List.mem_cons, List.not_mem_nil, or_false] at hd
  rcases hd with rfl | rfl <;> exact ⟨_, rfl, by decide, by decide⟩⟩
theorem great_rows (hp : Po k po) (hk : k < 800000) (hw : w ≤ 8) (hl : rs.length ≤ 100) (ha : ∀ r ∈ rs, r.1.length = w ∧ RowSq 100 r) (q : ∀ rs' po, rs'.length = rs.length → (∀ r ∈ rs', r.1.length = w ∧ RowSq 100 r) → Po (k + 100 * rs.length) po → Q (rowsQ rs') [.own true po, .val (rowsQ rs)]) : wp r__law_great_rows Q E [.own true po, .val (rowsQ rs)] := by
  have hap : ∀ (zs : List Row) (r' : Row), zs.length ≤ 1000 → appO (rowQ r') (some (.own false (.lst (zs.map rowQ)))) = some (.own false (.lst ((zs ++ [r']).map rowQ))) := fun zs r' hz => by
    unfold appO
    simp only
    rw [if_pos (show lenOk (zs.map rowQ).length = true from decide_eq_true (by rw [List.length_map]; omega)), List.map_append]
    rfl
  refine wp_fnM rfl rfl ?_
  walk_at "wn"
  unfold b__law_great_rows
  walk_at "wg"
  refine wps_fore (fun pre η => ∃ (zs : List Row) (po : D) (t : Slot), GrInv w k pre.length 0 zs po ∧ η = [.own true po, .val (rowsQ rs), .own false (.lst (zs.map rowQ)), t, .no] ∧ canSets (some t) = true) ?_ ?_ ?_
  · exact ⟨[], po, .no, ⟨by simp, rfl, hp.mono (by simp)⟩, rfl, rfl⟩
  · rintro pre r post η' he ⟨zs, po, t, ⟨g1, g2, hp⟩, rfl, c1⟩
    have hr := ha r (by rw [he]; simp)
    have hpl := congrArg List.length he
    rw [List.length_append, List.length_cons] at hpl
    have hq : (pre ++ [r]).length = pre.length + 1 := by simp
    have step : ∀ {r' : Row} {po' : D}, (r'.1.length = w ∧ RowSq 100 r') → Po (k + 100 * (pre.length + 1)) po' → GrInv w k (pre.length + 1) 0 (zs ++ [r']) po' := fun {r' po'} h hp => ⟨fun z hz => by
      rw [List.mem_append, List.mem_singleton] at hz
      rcases hz with hz | rfl
      · exact g1 z hz
      · exact h, by rw [List.length_append, g2]; rfl, hp⟩
    rw [hq]
    walk_at "wg"
    unfold b__law_great_rows_f2
    walk_at "wg"
    refine cal_next rfl hp (by omega) (by decide) (by walk_at "sm") fun v po _ _ hp => ?_
    walk_at "wn"
    walk_at "wg"
    refine BrD.dec (fun hv => ?_) (fun hv => ?_)
    · unfold b__law_great_rows_t1
      walk_at "wg"
      have hw2 := hr.1
      refine wp_cst (fun acc η => (∀ y ∈ acc, ∃ x, y = frQ x ∧ Sq 100 x) ∧ ∃ po, Po (k + 100 * pre.length + 1 + 9 * acc.length) po ∧ η = [.own true po, .val (rowsQ rs), .own false (.lst (zs.map rowQ)), .val (rowQ r), .no]) (by omega) ⟨by simp, po, by simpa using hp, rfl⟩ ?_ ?_
      · rintro pre2 x post2 acc η' he2 hl2 ⟨hacc, po, hp, rfl⟩
        have hlen := congrArg List.length he2
        rw [List.length_append, List.length_cons] at hlen
        walk_at "wg"
        refine cal_great sizes2 rfl hp (by omega) fun z po hz hp => ?_
        walk_at "wn"
        refine ⟨_, rfl, fun y hy => ?_, po, by rw [List.length_append]; exact hp.mono (by simp; omega), rfl⟩
        rw [List.mem_append, List.mem_singleton] at hy
        rcases hy with hy | rfl
        · exact hacc y hy
        · exact ⟨z, rfl, hz⟩
      · rintro acc η' hl2 ⟨hacc, po, hp, rfl⟩
        obtain ⟨ys, rfl, hy⟩ := exists_map hacc
        rw [List.length_map] at hl2 hp
        walk_at "wg"
        refine cal_great sizes2 rfl hp (by omega) fun z po hz hp => ?_
        walk_at "wn"
        walk_at "wg"
        refine som_i (hap zs (ys, z) (by omega)) ?_
        walk_at "wn"
        exact ⟨_, _, _, step (r' := (ys, z)) ⟨by rw [hl2]; exact hw2, ⟨hy, hz⟩⟩ (hp.mono (by omega)), rfl, rfl⟩
    · walk_at "wg"
      refine som_i (hap zs r (by omega)) ?_
      walk_at "wn"
      exact ⟨_, _, _, step hr (hp.mono (by omega)), rfl, rfl⟩
  · rintro η' ⟨zs, po, t, ⟨g1, g2, hp⟩, rfl, c1⟩
    walk_at "wg"
    exact q zs po g2 g1 hp
theorem cal_great_rows (e : η[i]? = some (.own bb po)) (hp : Po k po) (hk : k < 800000) (hw : w ≤ 8) (hl : rs.length ≤ 100) (ha : ∀ r ∈ rs, r.1.length = w ∧ RowSq 100 r) (q : ∀ rs' po, rs'.length = rs.length → (∀ r ∈ rs', r.1.length = w ∧ RowSq 100 r) → Po (k + 100 * rs.length) po → Q (rowsQ rs') (η.set i (.own bb po))) : wp (callM noLst r__law_great_rows (some 0) [.bor i, .val (rowsQ rs)]) Q E η :=
  wp_io (ds := [rowsQ rs]) rfl e (great_rows hp hk hw hl ha fun x po h1 h2 h3 => ⟨_, _, rfl, q x po h1 h2 h3⟩)
theorem cal_rows {most : Nat} (e : η[i]? = some (.own bb po)) (hp : Po k po) (hk : k < 800000) (hw : 0 < w ∧ w ≤ 8) (hm : most ≤ 100) (q : ∀ rs po, WRows w rs → (∀ r ∈ rs, RSm (60 * (most + 1)) r) → rs.length ≤ most → Po (k + 1 + 30 * most) po → Q (rowsQ rs) (η.set i (.own bb po))) : wp (callM noLst r__law_rows (some 0) [.bor i, .val (.int (w : Int)), .val (.int (most : Int))]) Q E η :=
  wp_io (ds := [.int (w : Int), .int (most : Int)]) rfl e (rows hp hk hw hm fun x po h1 h2 h3 h4 => ⟨_, _, rfl, q x po h1 h2 h3 h4⟩)
/-! words -/
theorem word_of01 {which : Int} (hw : which = 0 ∨ which = 1) (hb : Bdd 1000 d) (hp : Bdd 1000 p) (h : isRs d = false → Q (.str "rows") [.val (.int which), .val d, .val p]) (h2 : isRs d = true → isPtFor d p = false → Q (.str "point") [.val (.int which), .val d, .val p])
    (h3 : isRs d = true → isPtFor d p = true → (∃ w rs xs, d = rowsQ rs ∧ p = ptQ xs ∧ Pair w rs xs) ∧ Q (.str "none") [.val (.int which), .val d, .val p]) : wp r__law_word_of Q E [.val (.int which), .val d, .val p] := by
  refine wp_fnM rfl rfl ?_
  walk_at "wn"
  unfold b__law_word_of
  walk_at "wg"
  by_cases hz : isRs d = true ∧ isPtFor d p = true
  · obtain ⟨⟨w, rs, xs, rfl, rfl, hpr⟩, q⟩ := h3 hz.1 hz.2
    rcases hw with rfl | rfl
    · unfold b__law_word_of_y5
      walk_at "wg"
      unfold b__law_word_of_t1
      walk_at "wg"
      refine holds hpr ?_
      walk_at "wg"
      exact q
    · unfold b__law_word_of_y5
      walk_at "wg"
      unfold b__law_word_of_e4
      walk_at "wg"
      unfold b__law_word_of_t2
      walk_at "wg"
      refine slack hpr ?_
      walk_at "wg"
      exact q
  · have hx : (isRs d && isPtFor d p) = false := by
      cases a : isRs d with
      | false => rfl
      | true =>
        cases b : isPtFor d p with
        | false => rfl
        | true => exact absurd ⟨a, b⟩ hz
    rcases hw with rfl | rfl
    · unfold b__law_word_of_y5
      walk_at "wg"
      unfold b__law_word_of_t1
      walk_at "wg"
      refine holds_n hb hp (fun e => ?_) (fun e e2 => ?_) hx
      · walk_at "wg"
        exact h e
      · walk_at "wg"
        exact h2 e e2
    · unfold b__law_word_of_y5
      walk_at "wg"
      unfold b__law_word_of_e4
      walk_at "wg"
      unfold b__law_word_of_t2
      walk_at "wg"
      refine slack_n hb hp (fun e => ?_) (fun e e2 => ?_) hx
      · walk_at "wg"
        exact h e
      · walk_at "wg"
        exact h2 e e2
theorem word_of2 (hb : Bdd 1000 d) (hp : Bdd 1000 p) (h : (isRs d && isSome d) = false → Q (.str "rows") [.val (.int 2), .val d, .val p]) (h2 : (isRs d && isSome d) = true → isMu p (tlen d) = false → Q (.str "point") [.val (.int 2), .val d, .val p]) (hx : ((isRs d && isSome d) && isMu p (tlen d)) = false) : wp r__law_word_of Q E [.val (.int 2), .val d, .val p] := by
  refine wp_fnM rfl rfl ?_
  walk_at "wn"
  unfold b__law_word_of
  walk_at "wg"
  unfold b__law_word_of_y5
  walk_at "wg"
  unfold b__law_word_of_e4
  walk_at "wg"
  unfold b__law_word_of_e3
  walk_at "wg"
  refine sum_of_rows_n hb hp (fun e => ?_) (fun e e2 => ?_) hx
  · walk_at "wg"
    exact h e
  · walk_at "wg"
    exact h2 e e2
/-- words of what is no rows -/
theorem words_of_n (hb : Bdd 1000 d) (hp : Bdd 1000 p) (hd : isRs d = false) (h : Q (.lst [.str "rows", .str "rows", .str "rows"]) [.val d, .val p]) : wp r__law_words_of Q E [.val d, .val p] := by
  refine wp_fnM rfl rfl ?_
  walk_at "wn"
  unfold b__law_words_of
  walk_at "wg"
  rw [show rangeL 0 (Int.toNat 3) = (List.range 3).map (fun i : Nat => D.int (i : Int)) from range0 3]
  refine wp_cmap (fun _ => .str "rows") (by simp) (fun i hi => ?_) ?_
  · have hi := List.mem_range.mp hi
    have hi3 : i = 0 ∨ i = 1 ∨ i = 2 := by omega
    walk_at "wg"
    rcases hi3 with rfl | rfl | rfl
    · exact word_of01 (.inl rfl) hb hp (fun _ => ⟨rfl, rfl⟩) (fun e => by rw [hd] at e; cases e) (fun e => by rw [hd] at e; cases e)
    · exact word_of01 (.inr rfl) hb hp (fun _ => ⟨rfl, rfl⟩) (fun e => by rw [hd] at e; cases e) (fun e => by rw [hd] at e; cases e)
    · exact word_of2 hb hp (fun _ => ⟨rfl, rfl⟩) (fun e => by rw [hd] at e; cases e) (by rw [hd]; rfl)
  · walk_at "wg"
    exact h
end
end Sp

namespace Rq
open Pd
/-- what a row leaves at a point -/
def slk (xs : List Rat) (r : Row) : Rat := r.2 - dotQ r.1 xs
theorem dotQ_nil (xs : List Rat) : dotQ [] xs = 0 := rfl
theorem dotQ_nil2 (xs : List Rat) : dotQ xs [] = 0 := by
  unfold dotQ
  rw [List.zip_nil_right]
  rfl
theorem dotQ_cons (a x : Rat) (as xs : List Rat) : dotQ (a :: as) (x :: xs) = a * x + dotQ as xs := by
  unfold dotQ
  rw [List.zip_cons_cons, List.map_cons, List.sum_cons]
theorem dot_zw {f : Rat} : ∀ {as bs xs : List Rat}, as.length = bs.length → dotQ (List.zipWith (fun a b => a + f * b) as bs) xs = dotQ as xs + f * dotQ bs xs
  | [], [], xs, _ => by
    rw [List.zipWith_nil_left, dotQ_nil]
    grind
  | a :: as, b :: bs, [], _ => by
    rw [dotQ_nil2, dotQ_nil2, dotQ_nil2]
    grind
  | a :: as, b :: bs, x :: xs, h => by
    rw [List.zipWith_cons_cons, dotQ_cons, dotQ_cons, dotQ_cons, dot_zw (by simpa using h)]
    grind
  | [], _ :: _, _, h => by simp at h
  | _ :: _, [], _, h => by simp at h
theorem slk_add {acc r : Row} {f : Rat} {xs : List Rat} (h : acc.1.length = r.1.length) : slk xs (addRow acc f r) = slk xs acc + f * slk xs r := by
  unfold slk addRow
  simp only
  rw [dot_zw h]
  grind
theorem dot_rep0 : ∀ (w : Nat) (xs : List Rat), dotQ (List.replicate w 0) xs = 0
  | 0, xs => rfl
  | w + 1, [] => dotQ_nil2 _
  | w + 1, x :: xs => by
    rw [List.replicate_succ, dotQ_cons, dot_rep0 w xs]
    grind
theorem slk_sum {w : Nat} {xs : List Rat} : ∀ {rs : List Row} {ms : List Rat}, (∀ r ∈ rs, r.1.length = w) → rs.length = ms.length → slk xs (sumQ w (rs.zip ms)) = dotQ ms (rs.map (slk xs)) := by
  have key : ∀ (rs : List Row) (ms : List Rat) (acc : Row), (∀ r ∈ rs, r.1.length = w) → rs.length = ms.length → acc.1.length = w → slk xs ((rs.zip ms).foldl (fun acc p => addRow acc p.2 p.1) acc) = slk xs acc + dotQ ms (rs.map (slk xs)) := by
    intro rs
    induction rs with
    | nil =>
      intro ms acc _ hl _
      cases ms with
      | nil =>
        rw [List.zip_nil_left, List.foldl_nil, List.map_nil, dotQ_nil]
        grind
      | cons _ _ => simp at hl
    | cons r rs ih =>
      intro ms acc hr hl ha
      cases ms with
      | nil => simp at hl
      | cons m ms =>
        have h1 := hr r List.mem_cons_self
        rw [List.zip_cons_cons, List.foldl_cons, ih ms _ (fun z hz => hr z (List.mem_cons_of_mem _ hz)) (by simpa using hl) (addRow_len ha h1), slk_add (by rw [ha, h1]), List.map_cons, dotQ_cons]
        grind
  intro rs ms h hl
  unfold sumQ
  rw [key rs ms _ h hl (by simp)]
  have : slk xs (List.replicate w 0, 0) = 0 := by
    unfold slk
    simp only
    rw [dot_rep0]
    grind
  rw [this]
  grind
theorem dot_nn : ∀ {as bs : List Rat}, (∀ a ∈ as, 0 ≤ a) → (∀ b ∈ bs, 0 ≤ b) → 0 ≤ dotQ as bs
  | [], bs, _, _ => by rw [dotQ_nil]; exact Rat.le_refl
  | a :: as, [], _, _ => by rw [dotQ_nil2]; exact Rat.le_refl
  | a :: as, b :: bs, h, g => by
    rw [dotQ_cons]
    have h1 := Rat.mul_nonneg (h a List.mem_cons_self) (g b List.mem_cons_self)
    have h2 := dot_nn (as := as) (bs := bs) (fun z hz => h z (List.mem_cons_of_mem _ hz)) (fun z hz => g z (List.mem_cons_of_mem _ hz))
    grind
theorem rowAt_slk {xs : List Rat} {r : Row} : rowAt xs r = decide (0 ≤ slk xs r) := by
  unfold rowAt slk
  rw [decide_eq_decide]
  constructor <;> intro h <;> grind
/-- a cell's rows and point -/
structure Cell (w : Nat) (rs : List Row) (xs : List Rat) (kr kx : Nat) : Prop where
  w1 : 0 < w ∧ w ≤ 4
  wr : ∀ r ∈ rs, r.1.length = w
  rl : rs.length ≤ 8
  xl : xs.length = w
  k1 : kr ≤ 100
  k2 : kx ≤ 42
  k3 : kr + kx ≤ 104
  sr : ∀ r ∈ rs, RowSq kr r
  sx : AllSq kx xs
section
variable {w kr kx : Nat} {rs : List Row} {xs : List Rat} (c : Cell w rs xs kr kx)
include c
theorem Cell.wrs : WRows w rs := ⟨c.w1.1, c.wr⟩
theorem Cell.bdr : Bdd 900 (rowsQ rs) := bdd_rows (k := kr) (by decide) ⟨fun r hr => ⟨(c.sr r hr).a, (c.sr r hr).b, by have := c.wr r hr; have := c.w1; omega⟩, by have := c.rl; omega⟩ (by have := c.k1; omega)
theorem Cell.bdx : Bdd 900 (ptQ xs) := bdd_pt (by decide) (by have := c.xl; have := c.w1; omega) (c.sx.mono (by have := c.k2; omega))
theorem Cell.dok {r : Row} (hr : r ∈ rs) : DotOk' kr kx r.1 xs := ⟨(c.sr r hr).a, c.sx, by
  rw [c.wr r hr]
  have h1 := c.w1.2
  have h2 := c.k3
  have := Nat.mul_le_mul h1 (show kr + kx + 1 ≤ 105 by omega)
  omega, by have := c.wr r hr; have := c.w1; omega⟩
theorem Cell.dsq {r : Row} (hr : r ∈ rs) : Sq 421 (dotQ r.1 xs) := (dot_sq (c.sr r hr).a c.sx).mono (by
  rw [c.wr r hr]
  have h1 := c.w1.2
  have h2 := c.k3
  have := Nat.mul_le_mul h1 (show kr + kx + 1 ≤ 105 by omega)
  omega)
theorem Cell.ssq {r : Row} (hr : r ∈ rs) : Sq 522 (slk xs r) := ((c.sr r hr).b.sub (c.dsq hr)).mono (by have := c.k1; omega)
theorem Cell.aat {r : Row} (hr : r ∈ rs) : Sp.AtOk xs r := ⟨⟨_, _, c.dok hr⟩, ⟨_, _, c.dsq hr, (c.sr r hr).b, by have := c.k1; omega⟩⟩
theorem Cell.pair : Sp.Pair w rs xs := ⟨c.wrs, c.xl, c.bdr.mono (by decide), c.bdx.mono (by decide), fun r hr => c.aat hr⟩
end
end Rq

namespace K06
open PySem L2 Pd Rq F Sp
def odd06 : List D := [.non, .bl true, .bl false, .int 0, .int 1, .int (-1), .int 2, .str "", .str "a", .str "none", .str "all", .str "x", .tup [], .lst [], .dct [] [], .tup [.tup []], .tup [.int 0], .tup [.int 0, .int 0], .tup [.int 2, .int 4], .tup [.int 1, .int 0], .tup [.int 1, .int (-1)], .tup [.bl true, .int 1], .tup [.int 0, .int 1], .tup [.int (-1), .int 1], .tup [.int 1, .int 2], .tup [.tup [.int 0, .int 1]], .tup [.tup [.int 1, .int 1], .tup [.int 0, .int 1]],
  .tup [.tup [.int 0, .int 1], .tup [.int 0, .int 1]], .tup [.tup [.tup [.int 0, .int 1]], .tup [.int 0, .int 1]]]
theorem odd_ok : Sp.OddOk 901 odd06 := ⟨by decide, by decide, bdds_of _ (by decide)⟩
def nown : Slot → Bool
  | .own _ _ => false
  | _ => true
theorem nown_can {s : Slot} (h : nown s = true) : canSets (some s) = true := by
  cases s with
  | own _ _ => cases h
  | _ => rfl
theorem nown_at {η : Sto} {i : Nat} {s : Slot} (e : η[i]? = some s) (h : nown s = true) : noOwn η [i] = true := by
  show (match η[i]? with | some (.own _ _) => false | _ => true) && true = true
  rw [e]
  cases s with
  | own _ _ => cases h
  | _ => rfl
theorem rest_set {η η3 : Sto} {i : Nat} {s : Slot} (h : i < η.length) (e : η3 = η.set i s) : restS η η3 [i] = η := by
  subst e
  unfold restS
  apply List.ext_getElem?
  intro j
  rw [List.getElem?_mapIdx, List.getElem?_set]
  by_cases hj : i = j
  · subst hj
    rw [if_pos rfl, if_pos h, List.getElem?_eq_getElem h]
    simp
  · rw [if_neg hj]
    have : [i].contains j = false := by simp; omega
    rw [this]
    cases η[j]? with
    | none => rfl
    | some s => rfl
def Turn (ns : List Int) (η : Sto) : Prop := ∃ s2 s3 s4 s5 s6 s7 t8 t9 t10 t11 t12 t13 t14 t15 t16 t17, η = [.val (.scr ns), .val (.lst odd06), s2, s3, s4, s5, s6, s7, t8, t9, t10, t11, t12, t13, t14, t15, t16, t17, .no, .no] ∧ canSets (some s2) = true ∧ canSets (some s3) = true ∧ canSets (some s4) = true ∧ canSets (some s5) = true ∧ canSets (some s6) = true ∧ canSets (some s7) = true ∧ nown t8 = true ∧ canSets (some t9) = true ∧ nown t10 = true ∧ canSets (some t11) = true ∧ canSets (some t12) = true ∧ canSets (some t13) = true ∧ canSets (some t14) = true ∧ canSets (some t15) = true ∧ canSets (some t16) = true ∧ canSets (some t17) = true
section
variable {K : Kt} {ns : List Int} {z : Int} {g : Bool} {po d : D} {w k kr kx : Nat} {xs ms : List Rat} {rs : List Row} {t8 t9 t10 t11 t12 t13 t14 t15 t16 t17 : Slot}
theorem fr01 : D.tup [.int 0, .int 1] = frQ 0 := rfl
theorem eqs (h : rs ≠ []) : rs.isEmpty = false := by cases rs with
  | nil => exact absurd rfl h
  | cons _ _ => rfl
theorem eq_rows0 : eqD (rowsQ rs) (.tup []) = some rs.isEmpty := by
  unfold rowsQ
  rw [eqE_t, List.isEmpty_map]
theorem ne_rows0 : neD (rowsQ rs) (.tup []) = some (!rs.isEmpty) := by
  unfold neD
  rw [eq_rows0]
  rfl
instance {QB : Bool → Prop} : PR (Som (eqD (rowsQ rs) (.tup [])) QB) (QB rs.isEmpty) := ⟨fun h => ⟨_, eq_rows0, h⟩⟩
instance {QB : Bool → Prop} : PR (Som (neD (rowsQ rs) (.tup [])) QB) (QB (!rs.isEmpty)) := ⟨fun h => ⟨_, ne_rows0, h⟩⟩
theorem add_tup {ds es : List D} (h : ds.length + es.length ≤ 1000) : addD (.tup ds) (.tup es) = some (.tup (ds ++ es)) := by
  show (if lenOk (ds.length + es.length) = true then some (D.tup (ds ++ es)) else none) = _
  rw [if_pos (show lenOk (ds.length + es.length) = true from decide_eq_true (by omega))]
theorem isRs_more (c : Cell w rs xs kr kx) : isRs (rowsQ (rs ++ [(List.replicate (w + 1) 0, 0)])) = rs.isEmpty := by
  cases rs with
  | nil => exact isRs_rows (w := w + 1) ⟨by omega, by simp⟩
  | cons r rs =>
    cases e : isRs (rowsQ (r :: rs ++ [(List.replicate (w + 1) 0, 0)])) with
    | false => rfl
    | true =>
      have h : (false || ((r :: rs ++ [(List.replicate (w + 1) 0, 0)]).map rowQ).all (isLn · (tlen (ptQ r.1) : Nat))) = true := e
      rw [Bool.false_or, List.all_eq_true] at h
      have := h (rowQ (List.replicate (w + 1) 0, 0)) (List.mem_map_of_mem (by simp))
      rw [isLn_row, tlen_pt] at this
      have h1 := c.wr r List.mem_cons_self
      simp at this
      omega
theorem bdd_more (c : Cell w rs xs kr kx) : Bdd 1000 (rowsQ (rs ++ [(List.replicate (w + 1) 0, 0)])) := bdd_rows (k := 100) (by decide) ⟨fun r hr => by
  have hw := c.w1
  rw [List.mem_append, List.mem_singleton] at hr
  rcases hr with hr | rfl
  · exact ⟨((c.sr r hr).a).mono c.k1, ((c.sr r hr).b).mono c.k1, by have := c.wr r hr; omega⟩
  · refine ⟨fun x hx => ?_, sq0.mono (by decide), by simp; omega⟩
    rw [List.eq_of_mem_replicate hx]
    exact sq0.mono (by decide), by have := c.rl; simp; omega⟩ (by decide)
theorem k8_ok (c : Cell w rs xs kr kx) (h8 : nown t8 = true) (h9 : canSets (some t9) = true) (h10 : nown t10 = true) (h11 : canSets (some t11) = true) (h12 : canSets (some t12) = true) (h13 : canSets (some t13) = true) (h14 : canSets (some t14) = true) (h15 : canSets (some t15) = true) (h16 : canSets (some t16) = true) (h17 : canSets (some t17) = true) (kk : ∀ η', Turn ns η' → K.nx η') : wps b_law_k8 K [.val (.scr ns), .val (.lst odd06), .val (.int z), .own false po, .val (.int (w : Int)), .val (rowsQ rs), .val (ptQ xs), .val (.bl g), t8, t9, t10, t11, t12, t13, t14, t15, t16, t17, .no, .no] := by
  have hw := c.w1
  have ea : addD (rowsQ rs) (.tup [.tup [ptQ (List.replicate (w + 1) 0), .tup [.int 0, .int 1]]]) = some (rowsQ (rs ++ [(List.replicate (w + 1) 0, 0)])) := by
    unfold rowsQ
    rw [add_tup (by have := c.rl; rw [List.length_map, List.length_singleton]; omega), List.map_append]
    rfl
  have hb := bdd_more c
  have hm := isRs_more c
  obtain ⟨zs, hz⟩ : ∃ zs, zs = List.replicate (w + 1) (0 : Rat) := ⟨_, rfl⟩
  rw [← hz] at ea hb hm
  unfold b_law_k8
  walk_at "wg"
  rw [show (w : Int) + 1 = ((w + 1 : Nat) : Int) by omega]
  refine lzeros (by omega) ?_
  rw [← hz]
  walk_at "wg"
  refine som_i ea ?_
  walk_at "wg"
  rw [hm]
  refine same_40 rfl (pl_bl _ _) ?_
  walk_at "wg"
  exact kk _ ⟨_, _, _, _, _, _, t8, t9, t10, t11, t12, t13, t14, t15, t16, t17, rfl, rfl, rfl, rfl, rfl, rfl, rfl, h8, h9, h10, h11, h12, h13, h14, h15, h16, h17⟩
/-- one thing asked for -/
theorem f7_ok (c : Cell w rs xs kr kx) (h8 : nown t8 = true) (h9 : canSets (some t9) = true) (h10 : nown t10 = true) (h11 : canSets (some t11) = true) (h12 : canSets (some t12) = true) (h13 : canSets (some t13) = true) (h14 : canSets (some t14) = true) (h15 : canSets (some t15) = true) (h16 : canSets (some t16) = true) (h17 : canSets (some t17) = true) (hb : Bdd 1000 d) (hg : isPtFor (rowsQ rs) d = true → ∃ w' ys, d = ptQ ys ∧ Pair w' rs ys) (kk : ∀ t12, canSets (some t12) = true → K.nx [.val (.scr ns), .val (.lst odd06), .val (.int z), .own false po, .val (.int (w : Int)), .val (rowsQ rs), .val (ptQ xs), .val (.bl g), t8, t9, t10, t11, t12, t13, t14, t15, .val d, t17, .no, .no]) :
    wps b_law_f7 K [.val (.scr ns), .val (.lst odd06), .val (.int z), .own false po, .val (.int (w : Int)), .val (rowsQ rs), .val (ptQ xs), .val (.bl g), t8, t9, t10, t11, t12, t13, t14, t15, .val d, t17, .no, .no] := by
  have hw := c.w1
  have hr : isRs (rowsQ rs) = true := isRs_rows c.wrs
  have hbr : Bdd 1000 (rowsQ rs) := c.bdr.mono (by decide)
  have e1 : isPtL d (if rs.isEmpty = true then 0 else (w : Int)) = isPtFor (rowsQ rs) d := by
    unfold isPtL isPtFor
    cases rs with
    | nil => rfl
    | cons r rs =>
      show (isPt d && (decide ((w : Int) = 0) || decide ((tlen d : Int) = w))) = (isPt d && decide ((tlen d : Int) = (tlen (ptQ r.1) : Int)))
      rw [tlen_pt, c.wr r List.mem_cons_self, decide_eq_false (show ¬ (w : Int) = 0 by omega), Bool.false_or]
  have last : ∀ {x : Str} {t12 : Slot}, t12 = .val (.str x) → PyData.strOk x = true → (isPtFor (rowsQ rs) d = true → x = "none") → (isPtFor (rowsQ rs) d = false → x = "point") → wp (compM (turnC [19] (setS 19) (M.pure true) (cal 3 r__law_word_of none (csV (vlV (getV 19)) (csV (vlV (getV 5)) (csV (vlV (getV 16)) nlV))))) [] (rangeL 0 (Int.toNat 2)))
    (fun ys η2 => wp (opD mulD (lsD (csD (getV 12) nlD)) (cD (D.int 2))) (fun e η2 => Som (neD (D.lst ys) e) fun x => Br x (wps (rtS (cD (D.bl false))) K η2) (wps nxS K η2)) K.ex η2) K.ex [.val (.scr ns), .val (.lst odd06), .val (.int z), .own false po, .val (.int (w : Int)), .val (rowsQ rs), .val (ptQ xs), .val (.bl g), t8, t9, t10, t11, t12, t13, t14, t15, .val d, t17, .no, .no] := by
    rintro x t12 rfl hs a b
    rw [show rangeL 0 (Int.toNat 2) = (List.range 2).map (fun i : Nat => D.int (i : Int)) from range0 2]
    refine wp_cmap (fun _ => .str x) (by simp) (fun i hi => ?_) ?_
    · have hi := List.mem_range.mp hi
      have hi2 : (i : Int) = 0 ∨ (i : Int) = 1 := by omega
      walk_at "wg"
      refine word_of01 hi2 hbr hb (fun e => ?_) (fun _ e => ?_) (fun _ e => ?_)
      · rw [hr] at e
        cases e
      · exact ⟨congrArg (fun s => some (D.str s)) (b e).symm, rest_set (Nat.le_of_ble_eq_true rfl) rfl⟩
      · obtain ⟨w', ys, e2, e3⟩ := hg e
        exact ⟨⟨w', rs, ys, rfl, e2, e3⟩, congrArg (fun s => some (D.str s)) (a e).symm, rest_set (Nat.le_of_ble_eq_true rfl) rfl⟩
    · walk_at "wg"
      refine som_i (neD_refl (n := 1) (pl_lst (by simp) fun y hy => by
        rcases List.mem_cons.mp hy with rfl | hy
        · exact pl_str _ hs
        · rcases List.mem_cons.mp hy with rfl | hy
          · exact pl_str _ hs
          · cases hy) (by decide)) ?_
      walk_at "wg"
      exact kk _ rfl
  unfold b_law_f7
  walk_at "wg"
  refine Br.both (fun e => ?_) (fun e => ?_)
  · walk_at "wg"
    rw [show isPtL d 0 = isPtFor (rowsQ rs) d from by rw [← e1, if_pos e]]
    refine Br.both (fun e2 => ?_) (fun e2 => ?_)
    · walk_at "wg"
      exact last rfl (by decide +kernel) (fun _ => rfl) fun e => by rw [e2] at e; cases e
    · walk_at "wg"
      exact last rfl (by decide +kernel) (fun e => by rw [e2] at e; cases e) fun _ => rfl
  · walk_at "wg"
    rw [show isPtL d (w : Int) = isPtFor (rowsQ rs) d from by rw [← e1, if_neg (by rw [e]; decide)]]
    refine Br.both (fun e2 => ?_) (fun e2 => ?_)
    · walk_at "wg"
      exact last rfl (by decide +kernel) (fun _ => rfl) fun e => by rw [e2] at e; cases e
    · walk_at "wg"
      exact last rfl (by decide +kernel) (fun e => by rw [e2] at e; cases e) fun _ => rfl
/-- what is asked for in turn -/
theorem pt_no (c : Cell w rs xs kr kx) {ys : List Rat} (hs : AllSq 100 ys) (hl : ys.length ≤ 8) (hw : ys.length ≠ w) (e : isPtFor (rowsQ rs) (ptQ ys) = true) : ∃ w' zs, ptQ ys = ptQ zs ∧ Pair w' rs zs := by
  cases rs with
  | nil =>
    have h0 : isPt (ptQ ys) = true := by
      unfold isPtFor at e
      rw [Bool.and_eq_true] at e
      exact e.1
    rw [isPt_pt] at h0
    have h1 : 0 < ys.length := by
      cases ys with
      | nil => cases h0
      | cons _ _ => simp
    exact ⟨ys.length, ys, rfl, ⟨h1, by simp⟩, rfl, bdd_rows (k := 1) (by decide) ⟨by simp, by simp⟩ (by decide), bdd_pt (by decide) (by omega) (hs.mono (by decide)), by simp⟩
  | cons r rs =>
    exfalso
    have h1 : (isPt (ptQ ys) && decide ((tlen (ptQ ys) : Int) = (tlen (ptQ r.1) : Int))) = true := e
    rw [Bool.and_eq_true, tlen_pt, tlen_pt, c.wr r List.mem_cons_self, decide_eq_true_eq] at h1
    omega
theorem nopt (h : isPt d = false) (e : isPtFor (rowsQ rs) d = true) : ∃ w' zs, d = ptQ zs ∧ Pair w' rs zs := by
  unfold isPtFor at e
  rw [h] at e
  cases e
def things (xs : List Rat) (w : Nat) : List D := [ptQ (xs ++ [0]), ptQ (xs.take (w - 1)), .lst (xs.map frQ), .non, .tup (.tup [.int 2, .int 4] :: (xs.drop 1).map frQ), .tup []]
theorem things_ok (c : Cell w rs xs kr kx) (h : d ∈ things xs w) : Bdd 1000 d ∧ (isPtFor (rowsQ rs) d = true → ∃ w' ys, d = ptQ ys ∧ Pair w' rs ys) := by
  have hw := c.w1
  have hx := c.xl
  have hs : AllSq 100 xs := c.sx.mono (by have := c.k2; omega)
  have ha : AllSq 100 (xs ++ [0]) := fun x hx => by
    rw [List.mem_append, List.mem_singleton] at hx
    rcases hx with hx | rfl
    · exact hs x hx
    · exact sq0.mono (by decide)
  have ht : AllSq 100 (xs.take (w - 1)) := fun x hx => hs x (List.mem_of_mem_take hx)
  unfold things at h
  simp only [List.mem_cons, List.not_mem_nil, or_false] at h
  rcases h with rfl | rfl | rfl | rfl | rfl | rfl
  · exact ⟨bdd_pt (by decide) (by simp; omega) (ha.mono (by decide)), pt_no c ha (by simp; omega) (by simp; omega)⟩
  · exact ⟨bdd_pt (by decide) (by simp; omega) (ht.mono (by decide)), pt_no c ht (by simp; omega) (by simp; omega)⟩
  · refine ⟨bdd_lst (by rw [List.length_map]; omega) fun d hd => ?_, nopt rfl⟩
    obtain ⟨q, hq, rfl⟩ := List.mem_map.mp hd
    exact bdd_fr (by decide) ((hs q hq).mono (by decide))
  · exact ⟨by unfold Bdd; trivial, nopt rfl⟩
  · refine ⟨bdd_tup (by simp; omega) fun d hd => ?_, nopt rfl⟩
    rcases List.mem_cons.mp hd with rfl | hd
    · exact bdd_of _ (by decide)
    · obtain ⟨q, hq, rfl⟩ := List.mem_map.mp hd
      exact bdd_fr (by decide) ((hs q (List.mem_of_mem_drop hq)).mono (by decide))
  · exact ⟨bdd_tup (by simp) (by simp), nopt rfl⟩
theorem k9_ok (c : Cell w rs xs kr kx) (h8 : nown t8 = true) (h9 : canSets (some t9) = true) (h10 : nown t10 = true) (h11 : canSets (some t11) = true) (h12 : canSets (some t12) = true) (h13 : canSets (some t13) = true) (h14 : canSets (some t14) = true) (h15 : canSets (some t15) = true) (h16 : canSets (some t16) = true) (h17 : canSets (some t17) = true) (kk : ∀ η', Turn ns η' → K.nx η') : wps b_law_k9 K [.val (.scr ns), .val (.lst odd06), .val (.int z), .own false po, .val (.int (w : Int)), .val (rowsQ rs), .val (ptQ xs), .val (.bl g), t8, t9, t10, t11, t12, t13, t14, t15, t16, t17, .no, .no] := by
  have hx := c.xl
  have hw := c.w1
  have e1 : addD (ptQ xs) (.tup [.tup [.int 0, .int 1]]) = some (ptQ (xs ++ [0])) := by
    unfold ptQ
    rw [add_tup (by rw [List.length_map, List.length_singleton]; omega), List.map_append]
    rfl
  have e2 : D.tup (cutL (xs.map frQ) none (some (-1))) = ptQ (xs.take (w - 1)) := by
    rw [cut_last, List.length_map, ← List.map_take, hx]
    rfl
  have e4 : cutL (xs.map frQ) (some 1) none = (xs.drop 1).map frQ := by
    show cutL (xs.map frQ) (some ((1 : Nat) : Int)) none = _
    rw [cut_from, ← List.map_drop]
  unfold b_law_k9
  walk_at "wg"
  refine som_i e1 ?_
  walk_at "wg"
  rw [e2, e4]
  refine rf_i (decide_eq_true (by rw [List.length_map, List.length_drop, List.length_singleton]; omega)) ?_
  walk_at "wg"
  refine wps_forer (ds := things xs w) (fun _ η => ∃ t12 t16, canSets (some t12) = true ∧ canSets (some t16) = true ∧ η = [.val (.scr ns), .val (.lst odd06), .val (.int z), .own false po, .val (.int (w : Int)), .val (rowsQ rs), .val (ptQ xs), .val (.bl g), t8, t9, t10, t11, t12, t13, t14, t15, t16, t17, .no, .no]) ⟨_, _, h12, h16, rfl⟩ ?_ ?_
  · rintro pre d post η' he ⟨t12, t16, h12, h16, rfl⟩
    obtain ⟨hb, hg⟩ := things_ok c (show d ∈ things xs w by rw [he]; simp)
    walk_at "wg"
    exact f7_ok c h8 h9 h10 h11 h12 h13 h14 h15 (t16 := .no) rfl h17 hb hg fun t12 h => ⟨_, _, h, rfl, rfl⟩
  · rintro η' ⟨t12, t16, h12, h16, rfl⟩
    exact k8_ok c h8 h9 h10 h11 h12 h13 h14 h15 h16 h17 kk
end
end K06

namespace K06
open PySem L2 Pd Rq F Sp
section
variable {K : Kt} {ns : List Int} {z : Int} {g bb : Bool} {po d : D} {w k kr kx i : Nat} {xs ms : List Rat} {rs : List Row} {t8 t9 t10 t11 t12 t13 t14 t15 t16 t17 : Slot}
theorem rows3 : mulD (.lst [.str "rows"]) (.int 3) = some (.lst [.str "rows", .str "rows", .str "rows"]) := (mul_rep (n := 3) (by decide)).2
theorem so_rows : PyData.strOk (Str.ofString "rows") = true := by decide +kernel
theorem so_point : PyData.strOk (Str.ofString "point") = true := by decide +kernel
theorem f6_ok (c : Cell w rs xs kr kx) (h8 : nown t8 = true) (h9 : canSets (some t9) = true) (h10 : nown t10 = true) (h11 : canSets (some t11) = true) (h12 : canSets (some t12) = true) (h13 : canSets (some t13) = true) (h14 : canSets (some t14) = true) (h15 : canSets (some t15) = true) (h16 : canSets (some t16) = true) (h17 : canSets (some t17) = true) (hp : Po k po) (hk : k < 500000) (kk : ∀ po t16 t17, Po (k + 160) po → canSets (some t16) = true → canSets (some t17) = true → K.nx [.val (.scr ns), .val (.lst odd06), .val (.int z), .own false po, .val (.int (w : Int)), .val (rowsQ rs), .val (ptQ xs), .val (.bl g), t8, t9, t10, t11, t12, t13, t14, t15, t16, t17, .no, .no]) : wps b_law_f6 K [.val (.scr ns), .val (.lst odd06), .val (.int z), .own false po, .val (.int (w : Int)), .val (rowsQ rs), .val (ptQ xs), .val (.bl g), t8, t9, t10, t11, t12, t13, t14, t15, t16, t17, .no, .no] := by
  unfold b_law_f6
  walk_at "wg"
  refine cal_bent (n := 39) rfl (dpt_rows 35 rs) c.bdr (by decide) odd_ok hp (by omega) fun x po hb hp => ?_
  have hb : Bdd 1000 x := hb.mono (by decide)
  walk_at "wn"
  walk_at "wg"
  refine same_40 rfl (pl_bl _ _) ?_
  walk_at "wg"
  refine Br.both (fun e => ?_) (fun e => ?_)
  · walk_at "wg"
    exact kk _ _ _ hp rfl rfl
  · walk_at "wg"
    refine words_of_n hb (by unfold Bdd; trivial) e ?_
    walk_at "wg"
    rw [show (List.replicate (Int.toNat 3) [D.str (Str.ofString "rows")]).flatten = [D.str (Str.ofString "rows"), D.str (Str.ofString "rows"), D.str (Str.ofString "rows")] from rfl]
    refine som_i (neD_refl (n := 1) (pl_lst (by simp) fun y hy => by
      simp only [List.mem_cons, List.not_mem_nil, or_false] at hy
      rcases hy with rfl | rfl | rfl <;> exact pl_str _ so_rows) (by decide)) ?_
    walk_at "wg"
    exact kk _ _ _ hp rfl rfl
theorem k10_ok (c : Cell w rs xs kr kx) (h8 : nown t8 = true) (h9 : canSets (some t9) = true) (h10 : nown t10 = true) (h11 : canSets (some t11) = true) (h12 : canSets (some t12) = true) (h13 : canSets (some t13) = true) (h14 : canSets (some t14) = true) (h15 : canSets (some t15) = true) (h16 : canSets (some t16) = true) (h17 : canSets (some t17) = true) (hp : Po k po) (hk : k < 100000) (kk : ∀ η', Turn ns η' → K.nx η') : wps b_law_k10 K [.val (.scr ns), .val (.lst odd06), .val (.int z), .own false po, .val (.int (w : Int)), .val (rowsQ rs), .val (ptQ xs), .val (.bl g), t8, t9, t10, t11, t12, t13, t14, t15, t16, t17, .no, .no] := by
  unfold b_law_k10
  walk_at "wg"
  rw [show rangeL 0 (Int.toNat 6) = (List.range 6).map (fun i : Nat => D.int (i : Int)) from range0 6]
  refine wps_forn (fun i η => ∃ po t15 t16 t17, Po (k + 160 * i) po ∧ canSets (some t15) = true ∧ canSets (some t16) = true ∧ canSets (some t17) = true ∧ η = [.val (.scr ns), .val (.lst odd06), .val (.int z), .own false po, .val (.int (w : Int)), .val (rowsQ rs), .val (ptQ xs), .val (.bl g), t8, t9, t10, t11, t12, t13, t14, t15, t16, t17, .no, .no]) ⟨_, _, _, _, hp, h15, h16, h17, rfl⟩ ?_ ?_
  · rintro i η' hi ⟨po, t15, t16, t17, hp, h15, h16, h17, rfl⟩
    walk_at "wg"
    exact f6_ok c h8 h9 h10 h11 h12 h13 h14 (t15 := .val (.int (i : Int))) rfl h16 h17 hp (by omega) fun po t16 t17 hp h16 h17 => ⟨_, _, _, _, hp, rfl, h16, h17, rfl⟩
  · rintro η' ⟨po, t15, t16, t17, hp, h15, h16, h17, rfl⟩
    exact k9_ok c h8 h9 h10 h11 h12 h13 h14 h15 h16 h17 kk
theorem isSome_rows (h : rs ≠ []) : isSome (rowsQ rs) = true := by
  cases rs with
  | nil => exact absurd rfl h
  | cons _ _ => rfl
theorem isMu_pt2 {es : List D} (h : (∃ d ∈ es, toQ d = some (qo (-1) 2)) ∨ (es.length : Int) ≠ i) : isMu (.tup es) (i : Int) = false := by
  cases e : isMu (.tup es) (i : Int) with
  | false => rfl
  | true =>
    exfalso
    have e : (decide ((es.length : Int) = i) && es.all fun x => match toQ x with | some q => decide (0 ≤ q) | none => false) = true := e
    rw [Bool.and_eq_true, decide_eq_true_eq, List.all_eq_true] at e
    rcases h with ⟨d, hd, hq⟩ | h
    · have := e.2 d hd
      rw [hq] at this
      have : 0 ≤ qo (-1) 2 := of_decide_eq_true this
      exact absurd this (by decide)
    · exact h e.1
theorem e5_ok (c : Cell w rs xs kr kx) (h8 : nown t8 = true) (h9 : canSets (some t9) = true) (h10 : nown t10 = true) (h11 : canSets (some t11) = true) (h12 : canSets (some t12) = true) (h13 : canSets (some t13) = true) (h14 : canSets (some t14) = true) (h15 : canSets (some t15) = true) (h16 : canSets (some t16) = true) (h17 : canSets (some t17) = true) (hr : rs = []) (kk : K.nx [.val (.scr ns), .val (.lst odd06), .val (.int z), .own false po, .val (.int (w : Int)), .val (rowsQ rs), .val (ptQ xs), .val (.bl g), t8, t9, t10, t11, t12, t13, t14, t15, t16, t17, .no, .no]) : wps b_law_e5 K [.val (.scr ns), .val (.lst odd06), .val (.int z), .own false po, .val (.int (w : Int)), .val (rowsQ rs), .val (ptQ xs), .val (.bl g), t8, t9, t10, t11, t12, t13, t14, t15, t16, t17, .no, .no] := by
  subst hr
  have e0 : (isRs (rowsQ []) && isSome (rowsQ [])) = false := rfl
  unfold b_law_e5
  walk_at "wg"
  refine word_of2 (c.bdr.mono (by decide)) (bdd_tup (by simp) (by simp)) (fun _ => ?_) (fun e => ?_) (by rw [e0]; rfl)
  · walk_at "wg"
    refine som_i (neD_refl (n := 0) (pl_str 0 so_rows) (by decide)) ?_
    walk_at "wg"
    exact kk
  · rw [e0] at e
    cases e
/-- factors -/
def sixL : List D := [frQ 0, frQ 1, frQ (1/2), frQ 0, frQ (7/3), frQ ((10^29+1)/3)]
theorem told_sz (c : Cell w rs xs kr kx) (hs : AllSq 98 ms) (hl : ms.length = rs.length) : RowSq (9 + 8 * (98 + kr)) (sumQ w (rs.zip ms)) := (sumQ_sq (k := kr) (m := 98) fun p hp => by
  have := List.of_mem_zip (a := p.1) (b := p.2) hp
  exact ⟨c.sr _ this.1, hs _ this.2⟩).mono (by
    have h1 : (rs.zip ms).length ≤ 8 := by rw [List.length_zip]; have := c.rl; omega
    have := Nat.mul_le_mul_right (98 + kr + 1) h1
    omega)
theorem told_len (c : Cell w rs xs kr kx) : (sumQ w (rs.zip ms)).1.length = w := sumQ_len fun p hp => c.wr _ (List.of_mem_zip (a := p.1) (b := p.2) hp).1
theorem told_pair (c : Cell w rs xs kr kx) (hs : AllSq 98 ms) (hl : ms.length = rs.length) : Pair w [sumQ w (rs.zip ms)] xs := by
  have h1 := told_sz c hs hl
  have h2 := told_len (ms := ms) c
  have hw := c.w1
  have hk := c.k1
  have hk3 := c.k3
  have hd : DotOk' (9 + 8 * (98 + kr)) kx (sumQ w (rs.zip ms)).1 xs := ⟨h1.a, c.sx, by
    rw [h2]
    have := Nat.mul_le_mul hw.2 (show 9 + 8 * (98 + kr) + kx + 1 ≤ 1608 by omega)
    omega, by omega⟩
  refine ⟨⟨hw.1, by intro r hr; rw [List.mem_singleton] at hr; rw [hr]; exact h2⟩, c.xl, bdd_rows (k := 1593) (by decide) ⟨fun r hr => ?_, by simp⟩ (by decide), c.bdx.mono (by decide), fun r hr => ?_⟩
  · rw [List.mem_singleton] at hr
    rw [hr]
    exact ⟨h1.a.mono (by omega), h1.b.mono (by omega), by omega⟩
  · rw [List.mem_singleton] at hr
    rw [hr]
    refine ⟨⟨_, _, hd⟩, ⟨6500, 1593, (dot_sq h1.a c.sx).mono ?_, h1.b.mono (by omega), by decide⟩⟩
    rw [h2]
    have := Nat.mul_le_mul hw.2 (show 9 + 8 * (98 + kr) + kx + 1 ≤ 1608 by omega)
    omega
theorem told_hold (c : Cell w rs xs kr kx) (h0 : ∀ m ∈ ms, 0 ≤ m) (hl : ms.length = rs.length) (h : rs.all (rowAt xs) = true) : rowAt xs (sumQ w (rs.zip ms)) = true := by
  rw [rowAt_slk, slk_sum c.wr hl.symm]
  refine decide_eq_true (dot_nn h0 fun b hb => ?_)
  obtain ⟨r, hr, rfl⟩ := List.mem_map.mp hb
  rw [List.all_eq_true] at h
  have := h r hr
  rw [rowAt_slk] at this
  exact of_decide_eq_true this
end
end K06

namespace K06
open PySem L2 Pd Rq F Sp
section
variable {K : Kt} {ns : List Int} {z : Int} {g bb : Bool} {po d : D} {w k kr kx i : Nat} {xs ms : List Rat} {rs : List Row} {t8 t9 t10 t11 t12 t13 t14 t15 t16 t17 : Slot}
theorem dot_take : ∀ {as bs : List Rat} {i : Nat} (h1 : i < as.length) (h2 : i < bs.length), dotQ (as.take (i + 1)) (bs.take (i + 1)) = dotQ (as.take i) (bs.take i) + as[i] * bs[i]
  | [], _, _, h, _ => by simp at h
  | _ :: _, [], _, _, h => by simp at h
  | a :: as, b :: bs, 0, _, _ => by
    rw [List.take_succ_cons, List.take_succ_cons, dotQ_cons, List.take_zero, List.take_zero, List.take_zero, List.take_zero, dotQ_nil]
    simp only [List.getElem_cons_zero]
    grind
  | a :: as, b :: bs, i + 1, h1, h2 => by
    rw [List.take_succ_cons, List.take_succ_cons, dotQ_cons, dot_take (by simpa using h1) (by simpa using h2), List.take_succ_cons, List.take_succ_cons, dotQ_cons]
    simp only [List.getElem_cons_succ]
    grind
theorem due_sq (c : Cell w rs xs kr kx) : AllSq 522 (rs.map (slk xs)) := fun x hx => by
  obtain ⟨r, hr, rfl⟩ := List.mem_map.mp hx
  exact c.ssq hr
theorem rest_sq (c : Cell w rs xs kr kx) (hs : AllSq 98 ms) (hl : ms.length = rs.length) : Sq 4969 (dotQ (ms.take i) ((rs.map (slk xs)).take i)) := by
  have h1 : AllSq 98 (ms.take i) := fun x hx => hs x (List.mem_of_mem_take hx)
  have h2 : AllSq 522 ((rs.map (slk xs)).take i) := fun x hx => due_sq c x (List.mem_of_mem_take hx)
  refine (dot_sq h1 h2).mono ?_
  have h3 : (ms.take i).length ≤ 8 := by rw [List.length_take]; have := c.rl; omega
  have := Nat.mul_le_mul_right (98 + 522 + 1) h3
  omega
theorem f3_ok (c : Cell w rs xs kr kx) (h8 : nown t8 = true) (h9 : canSets (some t9) = true) (h10 : nown t10 = true) (h11 : canSets (some t11) = true) (h12 : canSets (some t12) = true) (h13 : canSets (some t13) = true) (h14 : canSets (some t14) = true) (h15 : canSets (some t15) = true) (h16 : canSets (some t16) = true) (h17 : canSets (some t17) = true) (hs : AllSq 98 ms) (hl : ms.length = rs.length) (hi : i < rs.length) (kk : K.nx [.val (.scr ns), .val (.lst odd06), .val (.int z), .own false po, .val (.int (w : Int)), .val (rowsQ rs), .val (ptQ xs), .val (.bl g), t8, t9, .val (.int (i : Int)), .val (frQ (dotQ (ms.take (i + 1)) ((rs.map (slk xs)).take (i + 1)))), .val (ptQ (rs.map (slk xs))), .val (ptQ ms), t14, t15, t16, t17, .no, .no]) :
    wps b_law_f3 K [.val (.scr ns), .val (.lst odd06), .val (.int z), .own false po, .val (.int (w : Int)), .val (rowsQ rs), .val (ptQ xs), .val (.bl g), t8, t9, .val (.int (i : Int)), .val (frQ (dotQ (ms.take i) ((rs.map (slk xs)).take i))), .val (ptQ (rs.map (slk xs))), .val (ptQ ms), t14, t15, t16, t17, .no, .no] := by
  have hm : i < ms.length := by omega
  have hd : i < (rs.map (slk xs)).length := by rw [List.length_map]; exact hi
  have h1 := hs _ (List.getElem_mem hm)
  have h2 := due_sq c _ (List.getElem_mem hd)
  have h3 := rest_sq (i := i) c hs hl
  rw [dot_take hm hd] at kk
  generalize dotQ (ms.take i) ((rs.map (slk xs)).take i) = q at *
  generalize rs.map (slk xs) = due at *
  have hz : Two ms[i] due[i] := two h1 h2 (by decide)
  have hz2 : Two q (ms[i] * due[i]) := two h3 (h1.mul h2) (by decide)
  unfold b_law_f3
  walk_at "wg"
  exact kk
theorem ms_bdd (c : Cell w rs xs kr kx) (hs : AllSq 98 ms) (hl : ms.length = rs.length) : Bdd 1000 (ptQ ms) := bdd_pt (by decide) (by have := c.rl; omega) (hs.mono (by decide))
theorem sum_ok (c : Cell w rs xs kr kx) (hs : AllSq 98 ms) (hl : ms.length = rs.length) : SumOk kr 98 w rs ms := ⟨fun r hr => ⟨c.sr r hr, c.wr r hr⟩, hs, by
  have h1 := c.rl
  have h2 := c.k1
  have := Nat.mul_le_mul h1 (show 98 + kr + 1 ≤ 199 by omega)
  omega, by have := c.w1; omega⟩
theorem t4_ok (c : Cell w rs xs kr kx) (h8 : nown t8 = true) (h9 : canSets (some t9) = true) (h10 : nown t10 = true) (h11 : canSets (some t11) = true) (h12 : canSets (some t12) = true) (h13 : canSets (some t13) = true) (h14 : canSets (some t14) = true) (h15 : canSets (some t15) = true) (h16 : canSets (some t16) = true) (h17 : canSets (some t17) = true) (hr : rs ≠ []) (hs : AllSq 98 ms) (h0 : ∀ m ∈ ms, 0 ≤ m) (hl : ms.length = rs.length) (kk : ∀ t10 t11 t14, nown t10 = true → canSets (some t11) = true → canSets (some t14) = true → K.nx [.val (.scr ns), .val (.lst odd06), .val (.int z), .own false po, .val (.int (w : Int)), .val (rowsQ rs), .val (ptQ xs), .val (.bl g), t8, t9, t10, t11, .val (ptQ (rs.map (slk xs))), .val (ptQ ms), t14, t15, t16, t17, .no, .no]) :
    wps b_law_t4 K [.val (.scr ns), .val (.lst odd06), .val (.int z), .own false po, .val (.int (w : Int)), .val (rowsQ rs), .val (ptQ xs), .val (.bl g), t8, t9, t10, t11, .val (ptQ (rs.map (slk xs))), .val (ptQ ms), t14, t15, t16, t17, .no, .no] := by
  have hw := c.w1
  have hb : Bdd 1000 (rowsQ rs) := c.bdr.mono (by decide)
  have hm := ms_bdd c hs hl
  have so := sum_ok c hs hl
  have hp := told_pair c hs hl
  have hl8 := c.rl
  have hn : 0 < rs.length := List.length_pos_iff.mpr hr
  have hR : (isRs (rowsQ rs) && isSome (rowsQ rs)) = true := by rw [isRs_rows c.wrs, isSome_rows hr]; rfl
  have cn := nown_can h10
  have e4 : cutL (ms.map frQ) (some 1) none = (ms.drop 1).map frQ := by
    show cutL (ms.map frQ) (some ((1 : Nat) : Int)) none = _
    rw [cut_from, ← List.map_drop]
  have e2 : cutL (ms.map frQ) none (some (-1)) = (ms.take (rs.length - 1)).map frQ := by
    rw [cut_last, List.length_map, ← List.map_take, hl]
  have tl : tlen (rowsQ rs) = rs.length := by
    show (rs.map rowQ).length = _
    rw [List.length_map]
  unfold b_law_t4
  walk_at "wg"
  refine sum_of_rows c.wrs hr hb hm hl h0 so ?_
  walk_at "wg"
  refine lsummed so (by omega) ?_
  walk_at "wg"
  refine same_40 rfl (pl_row 36 (by rw [told_len c]; omega)) ?_
  walk_at "wg"
  refine wps_forn (fun i η => ∃ t10, nown t10 = true ∧ η = [.val (.scr ns), .val (.lst odd06), .val (.int z), .own false po, .val (.int (w : Int)), .val (rowsQ rs), .val (ptQ xs), .val (.bl g), t8, t9, t10, .val (frQ (dotQ (ms.take i) ((rs.map (slk xs)).take i))), .val (ptQ (rs.map (slk xs))), .val (ptQ ms), .val (rowQ (sumQ w (rs.zip ms))), t15, t16, t17, .no, .no]) ⟨_, h10, rfl⟩ ?_ ?_
  · rintro i η' hi ⟨t10, h10, rfl⟩
    have cn := nown_can h10
    walk_at "wg"
    exact f3_ok c h8 h9 (t10 := .no) rfl (t11 := .no) rfl (t12 := .no) rfl (t13 := .no) rfl rfl h15 h16 h17 hs hl hi ⟨_, rfl, rfl⟩
  · rintro η' ⟨t10, h10, rfl⟩
    have er : dotQ (ms.take rs.length) ((rs.map (slk xs)).take rs.length) = slk xs (sumQ w (rs.zip ms)) := by
      rw [List.take_of_length_le (by omega), List.take_of_length_le (by simp), slk_sum c.wr hl.symm]
    rw [er]
    have hh := fun h => told_hold c h0 hl h
    walk_at "wg"
    refine slack hp ?_
    walk_at "wg"
    refine same_40 (d := ptQ [slk xs (sumQ w (rs.zip ms))]) rfl (pl_pt 37 (by simp)) ?_
    walk_at "wg"
    refine holds c.pair ?_
    walk_at "wg"
    have last : wps (ifS (orT (cmT neD (cal 3 (r__law_word_of) none (csV (vlV (cD (.int 2))) (csV (vlV (getV 5)) (csV (vlV (slD (getV 13) (smI (cD (.int 1))) noI)) nlV)))) (cD (.str "point"))) (cmT neD (cal 3 (r__law_word_of) none (csV (vlV (cD (.int 2))) (csV (vlV (getV 5)) (csV (vlV (opD addD (slD (getV 13) noI (smI (unD negD (cD (.int 1))))) (tpD (csD (tpD (csD (unD negD (cD (.int 1))) (csD (cD (.int 2)) nlD))) nlD)))) nlV)))) (cD (.str "point"))))
  (rtS (cD (.bl false)))
  nxS) K [.val (.scr ns), .val (.lst odd06), .val (.int z), .own false po, .val (.int (w : Int)), .val (rowsQ rs), .val (ptQ xs), .val (.bl g), t8, t9, t10, .val (frQ (slk xs (sumQ w (rs.zip ms)))), .val (ptQ (rs.map (slk xs))), .val (ptQ ms), .val (rowQ (sumQ w (rs.zip ms))), t15, t16, t17, .no, .no] := by
      walk_at "wg"
      rw [e4]
      have mu1 : isMu (.tup ((ms.drop 1).map frQ)) ((tlen (rowsQ rs) : Nat) : Int) = false := by
        refine isMu_pt2 (.inr ?_)
        rw [tl, List.length_map, List.length_drop]
        omega
      have b1 : Bdd 1000 (.tup ((ms.drop 1).map frQ)) := bdd_pt (by decide) (by rw [List.length_drop]; omega) fun x hx => (hs x (List.mem_of_mem_drop hx)).mono (by decide)
      refine word_of2 hb b1 (fun e => ?_) (fun _ _ => ?_) (by rw [hR, mu1]; rfl)
      · rw [hR] at e
        cases e
      walk_at "wg"
      refine som_i (neD_refl (n := 0) (pl_str 0 so_point) (by decide)) ?_
      walk_at "wg"
      rw [e2]
      refine rf_i (decide_eq_true (by rw [List.length_map, List.length_take, List.length_singleton]; omega)) ?_
      walk_at "wg"
      have mu2 : isMu (.tup ((ms.take (rs.length - 1)).map frQ ++ [.tup [.int (-1), .int 2]])) ((tlen (rowsQ rs) : Nat) : Int) = false := isMu_pt2 (.inl ⟨.tup [.int (-1), .int 2], by simp, if_pos (by decide)⟩)
      have b2 : Bdd 1000 (.tup ((ms.take (rs.length - 1)).map frQ ++ [.tup [.int (-1), .int 2]])) := bdd_tup (by rw [List.length_append, List.length_map, List.length_take, List.length_singleton]; omega) fun d hd => by
        rw [List.mem_append, List.mem_singleton] at hd
        rcases hd with hd | rfl
        · obtain ⟨q, hq, rfl⟩ := List.mem_map.mp hd
          exact bdd_fr (by decide) ((hs q (List.mem_of_mem_take hq)).mono (by decide))
        · exact bdd_of _ (by decide)
      refine word_of2 hb b2 (fun e => ?_) (fun _ _ => ?_) (by rw [hR, mu2]; rfl)
      · rw [hR] at e
        cases e
      walk_at "wg"
      refine som_i (neD_refl (n := 0) (pl_str 0 so_point) (by decide)) ?_
      walk_at "wg"
      exact kk _ _ _ h10 rfl rfl
    refine Br.both (fun e => ?_) (fun e => ?_)
    · walk_at "wg"
      refine holds hp ?_
      walk_at "wg"
      refine Br.is (by rw [List.all_cons, hh e]; rfl) ?_
      refine Pd.pr ?_
      exact last
    · repeat (first | exact last | refine Pd.pr ?_)
end
end K06

namespace K06
open PySem L2 Pd Rq F Sp
theorem rest_at {η η3 : Sto} {i : Nat} {s : Slot} (e : η[i]? = some s) : restS η η3 [i] = η3.set i s := by
  unfold restS
  apply List.ext_getElem?
  intro j
  rw [List.getElem?_mapIdx, List.getElem?_set]
  by_cases hj : i = j
  · subst hj
    rw [if_pos rfl, e]
    by_cases hl : i < η3.length
    · rw [if_pos hl, List.getElem?_eq_getElem hl]
      simp
    · rw [if_neg hl, List.getElem?_eq_none (by omega)]
      rfl
  · rw [if_neg hj]
    have : [i].contains j = false := by simp; omega
    rw [this]
    cases η3[j]? with
    | none => rfl
    | some s => rfl
section
variable {K : Kt} {ns : List Int} {z : Int} {g bb : Bool} {po d : D} {w k kr kx i : Nat} {xs ms : List Rat} {rs : List Row} {t8 t9 t10 t11 t12 t13 t14 t15 t16 t17 : Slot}
def sixes : List D := [.tup [.int 0, .int 1], .tup [.int 1, .int 1], .tup [.int 1, .int 2], .tup [.int 0, .int 1], .tup [.int 7, .int 3], .tup [.int (10 ^ (29 : Int).toNat + 1), .int 3]]
theorem sixes_ok (h : d ∈ sixes) : ∃ x, d = frQ x ∧ Sq 98 x ∧ 0 ≤ x := by
  have key : ∀ {a b : Int}, 1 ≤ b → Nat.gcd a.natAbs b.natAbs = 1 → 0 ≤ a → Sm 98 a → Sm 98 b → ∃ x, D.tup [.int a, .int b] = frQ x ∧ Sq 98 x ∧ 0 ≤ x := fun {a b} hb hg h0 ha hs => by
    have e := frQ_qo hb hg
    refine ⟨_, e, Sq.qo (by omega) ha hs, ?_⟩
    rw [← Rat.num_nonneg]
    have : a = (qo a b).num := by
      unfold frQ at e
      injection e with e
      injection e with e1 e2
      injection e1
    omega
  unfold sixes at h
  simp only [List.mem_cons, List.not_mem_nil, or_false] at h
  rcases h with rfl | rfl | rfl | rfl | rfl | rfl <;> exact key (by decide) (by decide) (by decide) (by unfold Sm; decide) (by unfold Sm; decide)
theorem k11_ok (c : Cell w rs xs kr kx) (h8 : nown t8 = true) (h9 : canSets (some t9) = true) (h10 : nown t10 = true) (h11 : canSets (some t11) = true) (h12 : canSets (some t12) = true) (h13 : canSets (some t13) = true) (h14 : canSets (some t14) = true) (h15 : canSets (some t15) = true) (h16 : canSets (some t16) = true) (h17 : canSets (some t17) = true) (hp : Po k po) (hk : k < 50000) (kk : ∀ η', Turn ns η' → K.nx η') : wps b_law_k11 K [.val (.scr ns), .val (.lst odd06), .val (.int z), .own false po, .val (.int (w : Int)), .val (rowsQ rs), .val (ptQ xs), .val (.bl g), t8, t9, t10, t11, .val (ptQ (rs.map (slk xs))), t13, t14, t15, t16, t17, .no, .no] := by
  have hl8 := c.rl
  unfold b_law_k11
  walk_at "wg"
  refine wp_cst (fun acc η => (∀ y ∈ acc, ∃ x, y = frQ x ∧ (Sq 98 x ∧ 0 ≤ x)) ∧ ∃ po, Po (k + acc.length) po ∧ η = [.val (.scr ns), .val (.lst odd06), .val (.int z), .own false po, .val (.int (w : Int)), .val (rowsQ rs), .val (ptQ xs), .val (.bl g), t8, t9, t10, t11, .val (ptQ (rs.map (slk xs))), t13, t14, t15, t16, t17, .no, .no]) (by omega) ⟨by simp, po, hp, rfl⟩ ?_ ?_
  · rintro pre x post acc η' he hl ⟨hacc, po, hp, rfl⟩
    have hlen := congrArg List.length he
    rw [List.length_append, List.length_cons] at hlen
    walk_at "wg"
    refine rf_i (nown_at rfl h8) ?_
    walk_at "wn"
    walk_at "wg"
    refine cal_one (ds := sixes) rfl hp (by omega) (by decide) (by decide) fun d po hd hp => ?_
    refine ⟨d, rfl, fun y hy => ?_, po, by rw [List.length_append]; exact hp, ?_⟩
    · rw [List.mem_append, List.mem_singleton] at hy
      rcases hy with hy | rfl
      · exact hacc y hy
      · obtain ⟨x, h1, h2, h3⟩ := sixes_ok hd
        exact ⟨x, h1, h2, h3⟩
    · rw [rest_at (s := t8) rfl]
      rfl
  · rintro acc η' hl2 ⟨hacc, po, hp, rfl⟩
    obtain ⟨ms, rfl, hy⟩ := exists_map hacc
    rw [List.length_map] at hl2
    have hs : AllSq 98 ms := fun x hx => (hy x hx).1
    have h0 : ∀ m ∈ ms, 0 ≤ m := fun x hx => (hy x hx).2
    walk_at "wg"
    rw [List.length_map] at hp
    refine Br.both (fun e => ?_) (fun e => ?_)
    · refine e5_ok c h8 h9 h10 h11 (t12 := .val (ptQ (rs.map (slk xs)))) rfl (t13 := .val (ptQ ms)) rfl h14 h15 h16 h17 (List.isEmpty_iff.mp e) ?_
      exact k10_ok c h8 h9 h10 h11 (t12 := .val (ptQ (rs.map (slk xs)))) rfl (t13 := .val (ptQ ms)) rfl h14 h15 h16 h17 hp (by omega) kk
    · refine t4_ok c h8 h9 h10 h11 (t12 := .no) rfl (t13 := .no) rfl h14 h15 h16 h17 (by intro e2; rw [e2] at e; cases e) hs h0 hl2 fun t10 t11 t14 h10 h11 h14 => ?_
      exact k10_ok c h8 h9 h10 h11 (t12 := .val (ptQ (rs.map (slk xs)))) rfl (t13 := .val (ptQ ms)) rfl h14 h15 h16 h17 hp (by omega) kk
theorem all_ge : ((rs.map (slk xs)).all fun q => decide (0 ≤ q.num)) = rs.all (rowAt xs) := by
  rw [List.all_map]
  congr 1
  funext r
  rw [rowAt_slk]
  show decide (0 ≤ (slk xs r).num) = _
  rw [decide_eq_decide]
  exact Rat.num_nonneg
theorem k12_ok (c : Cell w rs xs kr kx) (h8 : nown t8 = true) (h9 : canSets (some t9) = true) (h10 : nown t10 = true) (h11 : canSets (some t11) = true) (h12 : canSets (some t12) = true) (h13 : canSets (some t13) = true) (h14 : canSets (some t14) = true) (h15 : canSets (some t15) = true) (h16 : canSets (some t16) = true) (h17 : canSets (some t17) = true) (hp : Po k po) (hk : k < 50000) (kk : ∀ η', Turn ns η' → K.nx η') : wps b_law_k12 K [.val (.scr ns), .val (.lst odd06), .val (.int z), .own false po, .val (.int (w : Int)), .val (rowsQ rs), .val (ptQ xs), .val (.bl g), t8, t9, t10, t11, t12, t13, t14, t15, t16, t17, .no, .no] := by
  have hl8 := c.rl
  have hw := c.w1
  unfold b_law_k12
  walk_at "wg"
  refine wp_cmap (fun r => frQ (slk xs r)) (by omega) (fun r hr => ?_) ?_
  · walk_at "wg"
    refine rf_i (nown_at rfl h8) ?_
    walk_at "wn"
    walk_at "wg"
    have hl2 := c.wr r hr
    have h3 := Nat.mul_le_mul hw.2 (show kr + kx + 1 ≤ 105 by have := c.k3; omega)
    refine ldot (c.dok hr) (by rw [hl2, c.xl]; exact Nat.le_refl _) (by have := c.k3; omega) (by rw [hl2]; have := c.k3; omega) ?_
    walk_at "wg"
    refine sd_i (two (c.sr r hr).b (c.dsq hr) (by have := c.k1; omega)) ?_
    exact ⟨rfl, rest_set (Nat.le_of_ble_eq_true rfl) rfl⟩
  · rw [show (rs.map fun r => frQ (slk xs r)) = (rs.map (slk xs)).map frQ by rw [List.map_map]; rfl]
    walk_at "wg"
    have hb : Bdd 1000 (rowsQ rs) := c.bdr.mono (by decide)
    walk_at "wg"
    refine holds c.pair ?_
    walk_at "wg"
    refine slack c.pair ?_
    walk_at "wg"
    refine wp_cmap (fun q => .bl (decide (0 ≤ q.num))) (by rw [List.length_map]; omega) (fun q hq => ?_) ?_
    · walk_at "wg"
      exact ⟨rfl, rest_set (Nat.le_of_ble_eq_true rfl) rfl⟩
    · walk_at "wg"
      rw [all_ge, isRs_rows c.wrs]
      refine same_40 rfl (pl_lst (by simp) fun y hy => ?_) ?_
      · simp only [List.mem_cons, List.not_mem_nil, or_false] at hy
        rcases hy with rfl | rfl | rfl
        · exact pl_bl _ _
        · exact pl_bl _ _
        · exact pl_pt 36 (by rw [List.length_map]; omega)
      walk_at "wg"
      exact k11_ok c h8 h9 h10 h11 (t12 := .no) rfl h13 h14 h15 h16 h17 hp hk kk
end
end K06

set_option exponentiation.threshold 500
namespace K06
open PySem L2 Pd Rq F Sp
section
variable {K : Kt} {ns : List Int} {z : Int} {g bb : Bool} {po d : D} {w k kr kx i j : Nat} {xs ms : List Rat} {rs : List Row} {r : Row} {ks : List Nat} {t8 t9 t10 t11 t12 t13 t14 t15 t16 t17 : Slot}
/-- rows and a point before the draws of the law -/
structure Bef (w : Nat) (rs : List Row) (xs : List Rat) : Prop where
  w1 : 0 < w ∧ w ≤ 4
  wr : ∀ r ∈ rs, r.1.length = w
  rl : rs.length ≤ 8
  xl : xs.length = w
  sa : ∀ r ∈ rs, AllSq 2 r.1
  sb : ∀ r ∈ rs, Sq 10 r.2
  sx : AllSq 4 xs
theorem Bef.cell (c : Bef w rs xs) {ys : List Rat} (hl : ys.length = w) (hs : AllSq 42 ys) : Cell w rs ys 10 42 := ⟨c.w1, c.wr, c.rl, hl, by decide, by decide, by decide, fun r hr => ⟨(c.sa r hr).mono (by decide), c.sb r hr⟩, hs⟩
def put (xs : List Rat) (j : Nat) (q : Rat) : List Rat := xs.take j ++ [q] ++ xs.drop (j + 1)
theorem put_len {q : Rat} (hj : j < xs.length) : (put xs j q).length = xs.length := by
  unfold put
  simp
  omega
theorem put_sq {m : Nat} {q : Rat} (hs : AllSq m xs) (hq : Sq m q) : AllSq m (put xs j q) := fun x hx => by
  unfold put at hx
  rw [List.mem_append, List.mem_append, List.mem_singleton] at hx
  rcases hx with (hx | rfl) | hx
  · exact hs x (List.mem_of_mem_take hx)
  · exact hq
  · exact hs x (List.mem_of_mem_drop hx)
theorem put_map {q : Rat} : (xs.map frQ).take j ++ [frQ q] ++ (xs.map frQ).drop (j + 1) = (put xs j q).map frQ := by
  unfold put
  rw [List.map_append, List.map_append, ← List.map_take, ← List.map_drop]
  rfl
theorem cut_f1 (ds : List D) (j : Nat) : cutL ds (some ((j : Int) + 1)) none = ds.drop (j + 1) := by
  rw [show (j : Int) + 1 = ((j + 1 : Nat) : Int) by omega, cut_from]
theorem put_tup {q : Rat} {d : D} (h : d = frQ q) : D.tup ((xs.map frQ).take j ++ [d] ++ (xs.map frQ).drop (j + 1)) = ptQ (put xs j q) := by
  rw [h, put_map]
  rfl
theorem t1_ok (c : Bef w rs xs) (hr : r ∈ rs) (h10 : nown t10 = true) (h11 : canSets (some t11) = true) (hk1 : 0 < ks.length) (hk2 : ks.length ≤ 4) (hks : ∀ j ∈ ks, j < w ∧ r.1.getD j 0 ≠ 0) (hp : Po k po) (hk : k < 50000) (kk : ∀ ys po t10 t11, Cell w rs ys 10 42 → Po (k + 1) po → nown t10 = true → canSets (some t11) = true → K.nx [.val (.scr ns), .val (.lst odd06), .val (.int z), .own false po, .val (.int (w : Int)), .val (rowsQ rs), .val (ptQ ys), .val (.bl g), .val (rowQ r), .val (.lst (ks.map fun i : Nat => D.int (i : Int))), t10, t11, t12, t13, t14, t15, t16, t17, .no, .no]) :
    wps b_law_t1 K [.val (.scr ns), .val (.lst odd06), .val (.int z), .own false po, .val (.int (w : Int)), .val (rowsQ rs), .val (ptQ xs), .val (.bl g), .val (rowQ r), .val (.lst (ks.map fun i : Nat => D.int (i : Int))), t10, t11, t12, t13, t14, t15, t16, t17, .no, .no] := by
  have hw := c.w1
  have hx := c.xl
  have c10 := nown_can h10
  have hrl := c.wr r hr
  unfold b_law_t1
  walk_at "wg"
  refine cal_one rfl hp (by omega) (by rw [List.length_map]; exact hk1) (by rw [List.length_map]; omega) fun d po hd hp => ?_
  obtain ⟨j, hj, rfl⟩ := List.mem_map.mp hd
  obtain ⟨hjw, hj0⟩ := hks j hj
  have hjx : j < xs.length := by omega
  have hjr : j < r.1.length := by omega
  rw [getD_el hjr] at hj0
  walk_at "wn"
  walk_at "wg"
  rw [cut_to]
  refine rf_i (decide_eq_true (by rw [List.length_take, List.length_map, List.length_singleton]; omega)) ?_
  walk_at "wg"
  rw [cut_f1]
  refine rf_i (decide_eq_true (by rw [List.length_append, List.length_take, List.length_drop, List.length_map, List.length_singleton]; omega)) ?_
  rw [put_tup (show D.tup [.int 0, .int 1] = frQ 0 from rfl)]
  have h0 : AllSq 4 (put xs j 0) := put_sq c.sx (sq0.mono (by decide))
  have hl0 : (put xs j 0).length = w := by rw [put_len hjx, hx]
  have hdq : Sq 29 (dotQ r.1 (put xs j 0)) := (dot_sq (c.sa r hr) h0).mono (by rw [hrl]; omega)
  have hrq : Sq 40 (r.2 - dotQ r.1 (put xs j 0)) := ((c.sb r hr).sub hdq).mono (by decide)
  have haq : Sq 2 r.1[j] := c.sa r hr _ (List.getElem_mem hjr)
  walk_at "wg"
  refine ldot (k := 2) (l := 4) ⟨c.sa r hr, h0, by rw [hrl]; omega, by omega⟩ (by rw [hrl, hl0]; exact Nat.le_refl _) (by decide) (by rw [hrl]; omega) ?_
  walk_at "wg"
  refine sd_i (two (c.sb r hr) hdq (by decide)) ?_
  walk_at "wg"
  refine lmade (Int.mul_ne_zero (den_ne _) (fun e => hj0 (num_zero.mp e))) ((hrq.n.mul haq.d).mono (by decide)) ((hrq.d.mul haq.n).mono (by decide)) ?_
  rw [qo_div]
  have hq := hrq.div haq hj0
  generalize (r.2 - dotQ r.1 (put xs j 0)) / r.1[j] = q at *
  walk_at "wg"
  rw [cut_to]
  refine rf_i (decide_eq_true (by rw [List.length_take, List.length_map, List.length_singleton]; omega)) ?_
  walk_at "wg"
  rw [cut_f1]
  refine rf_i (decide_eq_true (by rw [List.length_append, List.length_take, List.length_drop, List.length_map, List.length_singleton]; omega)) ?_
  rw [put_tup rfl]
  walk_at "wg"
  exact kk _ _ _ _ (c.cell (by rw [put_len hjx, hx]) (put_sq (c.sx.mono (by decide)) hq)) hp rfl rfl
def nz (r : Row) (w : Nat) : List Nat := (List.range w).filter fun j => !decide (r.1.getD j 0 = 0)
theorem t2_ok (c : Bef w rs xs) (hr : rs ≠ []) (h8 : nown t8 = true) (h9 : canSets (some t9) = true) (h10 : nown t10 = true) (h11 : canSets (some t11) = true) (h12 : canSets (some t12) = true) (h13 : canSets (some t13) = true) (h14 : canSets (some t14) = true) (h15 : canSets (some t15) = true) (h16 : canSets (some t16) = true) (h17 : canSets (some t17) = true) (hp : Po k po) (hk : k < 40000) (kk : ∀ ys po t8 t9 t10 t11, Cell w rs ys 10 42 → Po (k + 2) po → nown t8 = true → canSets (some t9) = true → nown t10 = true → canSets (some t11) = true → K.nx [.val (.scr ns), .val (.lst odd06), .val (.int z), .own false po, .val (.int (w : Int)), .val (rowsQ rs), .val (ptQ ys), .val (.bl g), t8, t9, t10, t11, t12, t13, t14, t15, t16, t17, .no, .no]) :
    wps b_law_t2 K [.val (.scr ns), .val (.lst odd06), .val (.int z), .own false po, .val (.int (w : Int)), .val (rowsQ rs), .val (ptQ xs), .val (.bl g), t8, t9, t10, t11, t12, t13, t14, t15, t16, t17, .no, .no] := by
  have hw := c.w1
  have hx := c.xl
  have c8 := nown_can h8
  unfold b_law_t2
  walk_at "wg"
  refine cal_one_t rfl hp (by omega) (by rw [List.length_map]; exact List.length_pos_iff.mpr hr) (by rw [List.length_map]; have := c.rl; omega) fun d po hd hp => ?_
  obtain ⟨r, hr, rfl⟩ := List.mem_map.mp hd
  have hrl := c.wr r hr
  walk_at "wn"
  walk_at "wg"
  refine wp_cfil (fun j : Nat => if (!decide (r.1.getD j 0 = 0)) = true then some (.int (j : Int)) else none) (by simp; omega) (fun j hj => ?_) ?_
  · have hjw := List.mem_range.mp hj
    have hjr : j < r.1.length := by omega
    rw [getD_el hjr]
    walk_at "wg"
    refine rf_i (nown_at rfl h10) ?_
    walk_at "wn"
    walk_at "wg"
    refine BrD.dec (fun e => ?_) (fun e => ?_)
    · refine ⟨?_, rest_set (Nat.le_of_ble_eq_true rfl) rfl⟩
      rw [decide_eq_true (num_zero.mp e)]
      rfl
    · walk_at "wg"
      refine ⟨?_, rest_set (Nat.le_of_ble_eq_true rfl) rfl⟩
      rw [decide_eq_false (fun e2 => e (num_zero.mpr e2))]
      rfl
  · rw [filterMap_if]
    walk_at "wg"
    have hn : ∀ j ∈ nz r w, j < w ∧ r.1.getD j 0 ≠ 0 := fun j hj => by
      unfold nz at hj
      rw [List.mem_filter] at hj
      refine ⟨List.mem_range.mp hj.1, fun e => ?_⟩
      have := hj.2
      rw [decide_eq_true e] at this
      cases this
    have hn2 : (nz r w).length ≤ w := by
      have := List.length_filter_le (fun j => !decide (r.1.getD j 0 = 0)) (List.range w)
      rw [List.length_range] at this
      exact this
    change Br (List.map _ (nz r w)).isEmpty _ _
    refine Br.both (fun e => ?_) (fun e => ?_)
    · walk_at "wg"
      exact kk _ _ _ _ _ _ (c.cell hx (c.sx.mono (by decide))) (hp.mono (by omega)) rfl rfl h10 h11
    · refine t1_ok (ks := nz r w) c hr h10 h11 (List.length_pos_iff.mpr fun e2 => by rw [e2] at e; cases e) (by omega) hn hp (by omega) fun ys po t10 t11 hc hp h10 h11 => ?_
      exact kk _ _ _ _ _ _ hc hp rfl rfl h10 h11
theorem f13_ok {s3 s4 s5 s6 s7 : Slot} (hz : Sm 1048577 z) (j3 : canSets (some s3) = true) (j4 : canSets (some s4) = true) (j5 : canSets (some s5) = true) (j6 : canSets (some s6) = true) (j7 : canSets (some s7) = true) (h8 : nown t8 = true) (h9 : canSets (some t9) = true) (h10 : nown t10 = true) (h11 : canSets (some t11) = true) (h12 : canSets (some t12) = true) (h13 : canSets (some t13) = true) (h14 : canSets (some t14) = true) (h15 : canSets (some t15) = true) (h16 : canSets (some t16) = true) (h17 : canSets (some t17) = true) (kk : ∀ η', Turn ns η' → K.nx η') :
    wps b_law_f13 K [.val (.scr ns), .val (.lst odd06), .val (.int z), s3, s4, s5, s6, s7, t8, t9, t10, t11, t12, t13, t14, t15, t16, t17, .no, .no] := by
  unfold b_law_f13
  walk_at "wg"
  refine pool hz fun po hp => ?_
  walk_at "wn"
  walk_at "wg"
  refine cal_next rfl hp (by omega) (by decide) (by walk_at "sm") fun v po hv0 hv1 hp => ?_
  walk_at "wn"
  obtain ⟨w, hw⟩ : ∃ w : Nat, 1 + v = (w : Int) := ⟨(1 + v).toNat, by omega⟩
  have hw1 : 0 < w ∧ w ≤ 4 := by omega
  walk_at "wg"
  rw [hw]
  refine cal_rows (most := 8) rfl hp (by omega) (by omega) (by decide) fun rs po hwr hrs hl hp => ?_
  walk_at "wn"
  walk_at "wg"
  refine cal_wide_point rfl hp (by omega) (by omega) fun xs po hx hsx hp => ?_
  walk_at "wn"
  walk_at "wg"
  refine cal_next rfl hp (by omega) (by decide) (by walk_at "sm") fun v2 po _ _ hp => ?_
  walk_at "wn"
  walk_at "wg"
  have hB : Bef w rs xs := ⟨hw1, hwr.2, hl, hx, fun r hr => (hrs r hr).a, fun r hr => (hrs r hr).b.sq (by decide) (by decide), hsx⟩
  refine BrD.dec (fun hv => ?_) (fun hv => ?_)
  · rw [decide_eq_true hv]
    walk_at "wg"
    refine cal_great_rows rfl hp (by omega) (by omega) (by omega) (fun r hr => ⟨hwr.2 r hr, (hB.sa r hr).mono (by decide), (hB.sb r hr).mono (by decide)⟩) fun rs' po hl' hrs' hp => ?_
    walk_at "wn"
    walk_at "wg"
    exact k12_ok (kr := 100) (kx := 4) ⟨hw1, fun r hr => (hrs' r hr).1, by omega, hx, by decide, by decide, by decide, fun r hr => (hrs' r hr).2, hsx⟩ h8 h9 h10 h11 h12 h13 h14 h15 h16 h17 hp (by omega) kk
  · rw [decide_eq_false hv]
    walk_at "wg"
    refine Br.both (fun e => ?_) (fun e => ?_)
    · walk_at "wg"
      exact k12_ok (hB.cell hx (hsx.mono (by decide))) h8 h9 h10 h11 h12 h13 h14 h15 h16 h17 hp (by omega) kk
    · walk_at "wg"
      refine t2_ok hB (by intro e2; rw [e2] at e; cases e) h8 h9 h10 h11 h12 h13 h14 h15 h16 h17 hp (by omega) fun ys po t8 t9 t10 t11 hc hp h8 h9 h10 h11 => ?_
      exact k12_ok hc h8 h9 h10 h11 h12 h13 h14 h15 h16 h17 hp (by omega) kk
end
theorem wp_done {m : M D} {η : Sto} {a : D} (h : wp m (fun d _ => d = a) NvE η) : ∃ η', m η = .ok a η' := by
  unfold wp at h
  cases q : m η with
  | ok b η' => rw [q] at h; cases (show b = a from h); exact ⟨_, rfl⟩
  | exc c η' => rw [q] at h; exact h.elim
  | bad => rw [q] at h; exact h.elim
def oddL : List D := [.non, .bl true, .bl false, .int 0, .int 1, .int (-1), .int 2, .str "", .str "a", .str "none", .str "all", .str "x", .tup [], .lst [], .dct [] [], .tup [.tup []], .tup [.int 0], .tup [.int 0, .int 0], .tup [.int 2, .int 4], .tup [.int 1, .int 0], .tup [.int 1, .int (-1)], .tup [.bl true, .int 1], .tup [.int 0, .int 1], .tup [.int (-1), .int 1], .tup [.int 1, .int 2], .tup [.tup [.int 0, .int 1]], .tup [.tup [.int 1, .int 1], .tup [.int 0, .int 1]]]
theorem lodd {Q : D → Sto → Prop} {E : Str → Sto → Prop} (h : Q (.lst oddL) []) : wp r__law_odd Q E [] := by
  refine wp_fnM rfl rfl ?_
  walk_at "wn"
  unfold b__law_odd
  walk_at "wg"
  exact h
theorem law_wp {ns : List Int} (hl : ns.length ≤ 63) (hb : ∀ z ∈ ns, Builtin.Int.intBits z ≤ 1048576) : wp r_law (fun d _ => d = .bl true) NvE [.val (.scr ns)] := by
  refine wp_fnM rfl rfl ?_
  walk_at "wn"
  unfold b_law
  walk_at "wg"
  refine lodd ?_
  walk_at "wg"
  refine som_i (x := .lst ([.int 1709] ++ ns.map D.int)) ?_ ?_
  · show (if lenOk (1 + ns.length) = true then some (D.lst ([.int 1709] ++ ns.map D.int)) else none) = _
    rw [if_pos (show lenOk (1 + ns.length) = true from decide_eq_true (by omega))]
  walk_at "wg"
  refine wps_for (fun i η => Turn ns η) ⟨.no, .no, .no, .no, .no, .no, .no, .no, .no, .no, .no, .no, .no, .no, .no, .no, rfl, rfl, rfl, rfl, rfl, rfl, rfl, rfl, rfl, rfl, rfl, rfl, rfl, rfl, rfl, rfl, rfl⟩ ?_ ?_
  · rintro i d η' hi ⟨s2, s3, s4, s5, s6, s7, t8, t9, t10, t11, t12, t13, t14, t15, t16, t17, rfl, j2, j3, j4, j5, j6, j7, h8, h9, h10, h11, h12, h13, h14, h15, h16, h17⟩
    have hz : ∃ z : Int, d = .int z ∧ Sm 1048577 z := by
      have hm := List.mem_of_getElem? hi
      unfold cutL at hm
      have hm := List.mem_of_mem_drop (List.mem_of_mem_take hm)
      rcases List.mem_cons.mp hm with hm | hm
      · exact ⟨1709, hm, (show Sm 64 1709 by unfold Sm; decide).mono (by decide)⟩
      · obtain ⟨z, hz, rfl⟩ := List.mem_map.mp hm
        exact ⟨z, rfl, Sm.bits (hb z hz)⟩
    obtain ⟨z, rfl, hz⟩ := hz
    walk_at "wg"
    exact f13_ok hz j3 j4 j5 j6 j7 h8 h9 h10 h11 h12 h13 h14 h15 h16 h17 fun η' h => h
  · rintro η' ⟨s2, s3, s4, s5, s6, s7, t8, t9, t10, t11, t12, t13, t14, t15, t16, t17, rfl, _⟩
    walk_at "wg"
    rfl
theorem law_plain : ∀ ns : List Int, ns.length ≤ 63 → (∀ z ∈ ns, Builtin.Int.intBits z ≤ 1048576) → ∃ as', r_law [.val (.scr ns)] = .ok (.bl true) as' := fun ns hl hb => wp_done (law_wp hl hb)
end K06

namespace K06
open PySem L2 Pd F
def topS (i : Nat) : Stmt := PySem.Challenge.pw_leastbounds_k06_rows_and_points.main.body.getD i (.Pass ⟨0, 0, 0, 0⟩)
abbrev s_made : Stmt := topS 7
theorem sc_made : FnScope ["n", "d", "common"] ["n", "d"] (defScope s_made) := ⟨rfl, rfl, rfl, by decide +kernel, rfl, by decide +kernel, by decide +kernel⟩
theorem bn_made : BindsAll "made" s_made ["n", "d"] := fun _ _ _ _ _ _ us hl => match us, hl with | [_, _], _ => rfl
abbrev s_plus : Stmt := topS 8
theorem sc_plus : FnScope ["one", "other"] ["one", "other"] (defScope s_plus) := ⟨rfl, rfl, rfl, by decide +kernel, rfl, by decide +kernel, by decide +kernel⟩
theorem bn_plus : BindsAll "plus" s_plus ["one", "other"] := fun _ _ _ _ _ _ us hl => match us, hl with | [_, _], _ => rfl
abbrev s_minus : Stmt := topS 9
theorem sc_minus : FnScope ["one", "other"] ["one", "other"] (defScope s_minus) := ⟨rfl, rfl, rfl, by decide +kernel, rfl, by decide +kernel, by decide +kernel⟩
theorem bn_minus : BindsAll "minus" s_minus ["one", "other"] := fun _ _ _ _ _ _ us hl => match us, hl with | [_, _], _ => rfl
abbrev s_mult : Stmt := topS 10
theorem sc_mult : FnScope ["one", "other"] ["one", "other"] (defScope s_mult) := ⟨rfl, rfl, rfl, by decide +kernel, rfl, by decide +kernel, by decide +kernel⟩
theorem bn_mult : BindsAll "mult" s_mult ["one", "other"] := fun _ _ _ _ _ _ us hl => match us, hl with | [_, _], _ => rfl
abbrev s_at_most : Stmt := topS 11
theorem sc_at_most : FnScope ["one", "other"] ["one", "other"] (defScope s_at_most) := ⟨rfl, rfl, rfl, by decide +kernel, rfl, by decide +kernel, by decide +kernel⟩
theorem bn_at_most : BindsAll "at_most" s_at_most ["one", "other"] := fun _ _ _ _ _ _ us hl => match us, hl with | [_, _], _ => rfl
abbrev s_added_up : Stmt := topS 12
theorem sc_added_up : FnScope ["row", "n", "d", "one"] ["row"] (defScope s_added_up) := ⟨rfl, rfl, rfl, by decide +kernel, rfl, by decide +kernel, by decide +kernel⟩
theorem bn_added_up : BindsAll "added_up" s_added_up ["row"] := fun _ _ _ _ _ _ us hl => match us, hl with | [_], _ => rfl
abbrev s_dot : Stmt := topS 13
theorem sc_dot : FnScope ["one", "other", "a", "b"] ["one", "other"] (defScope s_dot) := ⟨rfl, rfl, rfl, by decide +kernel, rfl, by decide +kernel, by decide +kernel⟩
theorem bn_dot : BindsAll "dot" s_dot ["one", "other"] := fun _ _ _ _ _ _ us hl => match us, hl with | [_, _], _ => rfl
abbrev s_is_int : Stmt := topS 15
theorem sc_is_int : FnScope ["value"] ["value"] (defScope s_is_int) := ⟨rfl, rfl, rfl, by decide +kernel, rfl, by decide +kernel, by decide +kernel⟩
theorem bn_is_int : BindsAll "is_int" s_is_int ["value"] := fun _ _ _ _ _ _ us hl => match us, hl with | [_], _ => rfl
abbrev s_is_row : Stmt := topS 16
theorem sc_is_row : FnScope ["value", "size"] ["value", "size"] (defScope s_is_row) := ⟨rfl, rfl, rfl, by decide +kernel, rfl, by decide +kernel, by decide +kernel⟩
theorem bn_is_row : BindsAll "is_row" s_is_row ["value", "size"] := fun _ _ _ _ _ _ us hl => match us, hl with | [_, _], _ => rfl
abbrev s_fits_fraction : Stmt := topS 17
theorem sc_fits_fraction : FnScope ["value"] ["value"] (defScope s_fits_fraction) := ⟨rfl, rfl, rfl, by decide +kernel, rfl, by decide +kernel, by decide +kernel⟩
theorem bn_fits_fraction : BindsAll "fits_fraction" s_fits_fraction ["value"] := fun _ _ _ _ _ _ us hl => match us, hl with | [_], _ => rfl
abbrev s_fits_point : Stmt := topS 18
theorem sc_fits_point : FnScope ["value", "one"] ["value"] (defScope s_fits_point) := ⟨rfl, rfl, rfl, by decide +kernel, rfl, by decide +kernel, by decide +kernel⟩
theorem bn_fits_point : BindsAll "fits_point" s_fits_point ["value"] := fun _ _ _ _ _ _ us hl => match us, hl with | [_], _ => rfl
abbrev s_fits_wide_point : Stmt := topS 19
theorem sc_fits_wide_point : FnScope ["value", "width"] ["value", "width"] (defScope s_fits_wide_point) := ⟨rfl, rfl, rfl, by decide +kernel, rfl, by decide +kernel, by decide +kernel⟩
theorem bn_fits_wide_point : BindsAll "fits_wide_point" s_fits_wide_point ["value", "width"] := fun _ _ _ _ _ _ us hl => match us, hl with | [_, _], _ => rfl
abbrev s_fits_line : Stmt := topS 20
theorem sc_fits_line : FnScope ["value", "width"] ["value", "width"] (defScope s_fits_line) := ⟨rfl, rfl, rfl, by decide +kernel, rfl, by decide +kernel, by decide +kernel⟩
theorem bn_fits_line : BindsAll "fits_line" s_fits_line ["value", "width"] := fun _ _ _ _ _ _ us hl => match us, hl with | [_, _], _ => rfl
abbrev s_fits_wide_rows : Stmt := topS 21
theorem sc_fits_wide_rows : FnScope ["value", "width", "row"] ["value", "width"] (defScope s_fits_wide_rows) := ⟨rfl, rfl, rfl, by decide +kernel, rfl, by decide +kernel, by decide +kernel⟩
theorem bn_fits_wide_rows : BindsAll "fits_wide_rows" s_fits_wide_rows ["value", "width"] := fun _ _ _ _ _ _ us hl => match us, hl with | [_, _], _ => rfl
abbrev s_fits_rows : Stmt := topS 22
theorem sc_fits_rows : FnScope ["value", "row"] ["value"] (defScope s_fits_rows) := ⟨rfl, rfl, rfl, by decide +kernel, rfl, by decide +kernel, by decide +kernel⟩
theorem bn_fits_rows : BindsAll "fits_rows" s_fits_rows ["value"] := fun _ _ _ _ _ _ us hl => match us, hl with | [_], _ => rfl
abbrev s_fits_multipliers : Stmt := topS 23
theorem sc_fits_multipliers : FnScope ["value", "count", "one"] ["value", "count"] (defScope s_fits_multipliers) := ⟨rfl, rfl, rfl, by decide +kernel, rfl, by decide +kernel, by decide +kernel⟩
theorem bn_fits_multipliers : BindsAll "fits_multipliers" s_fits_multipliers ["value", "count"] := fun _ _ _ _ _ _ us hl => match us, hl with | [_, _], _ => rfl
abbrev s_row_holds : Stmt := topS 24
theorem sc_row_holds : FnScope ["row", "point"] ["row", "point"] (defScope s_row_holds) := ⟨rfl, rfl, rfl, by decide +kernel, rfl, by decide +kernel, by decide +kernel⟩
theorem bn_row_holds : BindsAll "row_holds" s_row_holds ["row", "point"] := fun _ _ _ _ _ _ us hl => match us, hl with | [_, _], _ => rfl
abbrev s_rows_hold : Stmt := topS 25
theorem sc_rows_hold : FnScope ["rows", "point", "row"] ["rows", "point"] (defScope s_rows_hold) := ⟨rfl, rfl, rfl, by decide +kernel, rfl, by decide +kernel, by decide +kernel⟩
theorem bn_rows_hold : BindsAll "rows_hold" s_rows_hold ["rows", "point"] := fun _ _ _ _ _ _ us hl => match us, hl with | [_, _], _ => rfl
abbrev s_summed : Stmt := topS 26
theorem sc_summed : FnScope ["rows", "multipliers", "width", "coefficients", "bound", "row", "right", "factor", "one", "other"] ["rows", "multipliers", "width"] (defScope s_summed) := ⟨rfl, rfl, rfl, by decide +kernel, rfl, by decide +kernel, by decide +kernel⟩
theorem bn_summed : BindsAll "summed" s_summed ["rows", "multipliers", "width"] := fun _ _ _ _ _ _ us hl => match us, hl with | [_, _, _], _ => rfl
abbrev s_check_rows : Stmt := topS 28
theorem sc_check_rows : FnScope ["rows"] ["rows"] (defScope s_check_rows) := ⟨rfl, rfl, rfl, by decide +kernel, rfl, by decide +kernel, by decide +kernel⟩
theorem bn_check_rows : BindsAll "check_rows" s_check_rows ["rows"] := fun _ _ _ _ _ _ us hl => match us, hl with | [_], _ => rfl
abbrev s_check_some_rows : Stmt := topS 29
theorem sc_check_some_rows : FnScope ["rows"] ["rows"] (defScope s_check_some_rows) := ⟨rfl, rfl, rfl, by decide +kernel, rfl, by decide +kernel, by decide +kernel⟩
theorem bn_check_some_rows : BindsAll "check_some_rows" s_check_some_rows ["rows"] := fun _ _ _ _ _ _ us hl => match us, hl with | [_], _ => rfl
abbrev s_check_points : Stmt := topS 30
theorem sc_check_points : FnScope ["rows", "point"] ["rows", "point"] (defScope s_check_points) := ⟨rfl, rfl, rfl, by decide +kernel, rfl, by decide +kernel, by decide +kernel⟩
theorem bn_check_points : BindsAll "check_points" s_check_points ["rows", "point"] := fun _ _ _ _ _ _ us hl => match us, hl with | [_, _], _ => rfl
abbrev s_is_rows : Stmt := topS 32
theorem sc_is_rows : FnScope ["value"] ["value"] (defScope s_is_rows) := ⟨rfl, rfl, rfl, by decide +kernel, rfl, by decide +kernel, by decide +kernel⟩
theorem bn_is_rows : BindsAll "is_rows" s_is_rows ["value"] := fun _ _ _ _ _ _ us hl => match us, hl with | [_], _ => rfl
theorem kb_is_rows_0 : KBAll "is_rows" s_is_rows ["value"] 0 := fun _ _ _ _ _ _ us ws h1 h2 => match us, ws, h1, h2 with | [], [_], _, _ => rfl
abbrev s_holds : Stmt := topS 33
theorem sc_holds : FnScope ["rows", "point"] ["rows", "point"] (defScope s_holds) := ⟨rfl, rfl, rfl, by decide +kernel, rfl, by decide +kernel, by decide +kernel⟩
theorem bn_holds : BindsAll "holds" s_holds ["rows", "point"] := fun _ _ _ _ _ _ us hl => match us, hl with | [_, _], _ => rfl
abbrev s_slack : Stmt := topS 34
theorem sc_slack : FnScope ["rows", "point", "row", "bound"] ["rows", "point"] (defScope s_slack) := ⟨rfl, rfl, rfl, by decide +kernel, rfl, by decide +kernel, by decide +kernel⟩
theorem bn_slack : BindsAll "slack" s_slack ["rows", "point"] := fun _ _ _ _ _ _ us hl => match us, hl with | [_, _], _ => rfl
abbrev s_sum_of_rows : Stmt := topS 35
theorem sc_sum_of_rows : FnScope ["rows", "multipliers"] ["rows", "multipliers"] (defScope s_sum_of_rows) := ⟨rfl, rfl, rfl, by decide +kernel, rfl, by decide +kernel, by decide +kernel⟩
theorem bn_sum_of_rows : BindsAll "sum_of_rows" s_sum_of_rows ["rows", "multipliers"] := fun _ _ _ _ _ _ us hl => match us, hl with | [_, _], _ => rfl
abbrev s__law_pool : Stmt := topS 37
theorem sc__law_pool : FnScope ["cell"] ["cell"] (defScope s__law_pool) := ⟨rfl, rfl, rfl, by decide +kernel, rfl, by decide +kernel, by decide +kernel⟩
theorem bn__law_pool : BindsAll "_law_pool" s__law_pool ["cell"] := fun _ _ _ _ _ _ us hl => match us, hl with | [_], _ => rfl
abbrev s__law_next : Stmt := topS 38
theorem sc__law_next : FnScope ["pool", "many", "found"] ["pool", "many"] (defScope s__law_next) := ⟨rfl, rfl, rfl, by decide +kernel, rfl, by decide +kernel, by decide +kernel⟩
theorem bn__law_next : BindsAll "_law_next" s__law_next ["pool", "many"] := fun _ _ _ _ _ _ us hl => match us, hl with | [_, _], _ => rfl
abbrev s__law_one_of : Stmt := topS 39
theorem sc__law_one_of : FnScope ["pool", "row"] ["pool", "row"] (defScope s__law_one_of) := ⟨rfl, rfl, rfl, by decide +kernel, rfl, by decide +kernel, by decide +kernel⟩
theorem bn__law_one_of : BindsAll "_law_one_of" s__law_one_of ["pool", "row"] := fun _ _ _ _ _ _ us hl => match us, hl with | [_, _], _ => rfl
abbrev s__law_same : Stmt := topS 40
theorem sc__law_same : FnScope ["found", "due", "k"] ["found", "due"] (defScope s__law_same) := ⟨rfl, rfl, rfl, by decide +kernel, rfl, by decide +kernel, by decide +kernel⟩
theorem bn__law_same : BindsAll "_law_same" s__law_same ["found", "due"] := fun _ _ _ _ _ _ us hl => match us, hl with | [_, _], _ => rfl
abbrev s__law_bent : Stmt := topS 41
theorem sc__law_bent : FnScope ["pool", "value", "odd", "k", "way"] ["pool", "value", "odd"] (defScope s__law_bent) := ⟨rfl, rfl, rfl, by decide +kernel, rfl, by decide +kernel, by decide +kernel⟩
theorem bn__law_bent : BindsAll "_law_bent" s__law_bent ["pool", "value", "odd"] := fun _ _ _ _ _ _ us hl => match us, hl with | [_, _, _], _ => rfl
abbrev s__law_odd : Stmt := topS 42
theorem sc__law_odd : FnScope [] [] (defScope s__law_odd) := ⟨rfl, rfl, rfl, by decide +kernel, rfl, by decide +kernel, by decide +kernel⟩
theorem bn__law_odd : BindsAll "_law_odd" s__law_odd [] := fun _ _ _ _ _ _ us hl => match us, hl with | [], _ => rfl
abbrev s__law_gcd : Stmt := topS 43
theorem sc__law_gcd : FnScope ["a", "b", "turn"] ["a", "b"] (defScope s__law_gcd) := ⟨rfl, rfl, rfl, by decide +kernel, rfl, by decide +kernel, by decide +kernel⟩
theorem bn__law_gcd : BindsAll "_law_gcd" s__law_gcd ["a", "b"] := fun _ _ _ _ _ _ us hl => match us, hl with | [_, _], _ => rfl
abbrev s__law_made : Stmt := topS 44
theorem sc__law_made : FnScope ["n", "d", "common"] ["n", "d"] (defScope s__law_made) := ⟨rfl, rfl, rfl, by decide +kernel, rfl, by decide +kernel, by decide +kernel⟩
theorem bn__law_made : BindsAll "_law_made" s__law_made ["n", "d"] := fun _ _ _ _ _ _ us hl => match us, hl with | [_, _], _ => rfl
abbrev s__law_plus : Stmt := topS 45
theorem sc__law_plus : FnScope ["one", "other"] ["one", "other"] (defScope s__law_plus) := ⟨rfl, rfl, rfl, by decide +kernel, rfl, by decide +kernel, by decide +kernel⟩
theorem bn__law_plus : BindsAll "_law_plus" s__law_plus ["one", "other"] := fun _ _ _ _ _ _ us hl => match us, hl with | [_, _], _ => rfl
abbrev s__law_turned : Stmt := topS 46
theorem sc__law_turned : FnScope ["one"] ["one"] (defScope s__law_turned) := ⟨rfl, rfl, rfl, by decide +kernel, rfl, by decide +kernel, by decide +kernel⟩
theorem bn__law_turned : BindsAll "_law_turned" s__law_turned ["one"] := fun _ _ _ _ _ _ us hl => match us, hl with | [_], _ => rfl
abbrev s__law_minus : Stmt := topS 47
theorem sc__law_minus : FnScope ["one", "other"] ["one", "other"] (defScope s__law_minus) := ⟨rfl, rfl, rfl, by decide +kernel, rfl, by decide +kernel, by decide +kernel⟩
theorem bn__law_minus : BindsAll "_law_minus" s__law_minus ["one", "other"] := fun _ _ _ _ _ _ us hl => match us, hl with | [_, _], _ => rfl
abbrev s__law_times : Stmt := topS 48
theorem sc__law_times : FnScope ["one", "other"] ["one", "other"] (defScope s__law_times) := ⟨rfl, rfl, rfl, by decide +kernel, rfl, by decide +kernel, by decide +kernel⟩
theorem bn__law_times : BindsAll "_law_times" s__law_times ["one", "other"] := fun _ _ _ _ _ _ us hl => match us, hl with | [_, _], _ => rfl
abbrev s__law_dot : Stmt := topS 49
theorem sc__law_dot : FnScope ["one", "other", "found", "k"] ["one", "other"] (defScope s__law_dot) := ⟨rfl, rfl, rfl, by decide +kernel, rfl, by decide +kernel, by decide +kernel⟩
theorem bn__law_dot : BindsAll "_law_dot" s__law_dot ["one", "other"] := fun _ _ _ _ _ _ us hl => match us, hl with | [_, _], _ => rfl
abbrev s__law_is_int : Stmt := topS 50
theorem sc__law_is_int : FnScope ["value"] ["value"] (defScope s__law_is_int) := ⟨rfl, rfl, rfl, by decide +kernel, rfl, by decide +kernel, by decide +kernel⟩
theorem bn__law_is_int : BindsAll "_law_is_int" s__law_is_int ["value"] := fun _ _ _ _ _ _ us hl => match us, hl with | [_], _ => rfl
abbrev s__law_is_tuple : Stmt := topS 51
theorem sc__law_is_tuple : FnScope ["value", "size"] ["value", "size"] (defScope s__law_is_tuple) := ⟨rfl, rfl, rfl, by decide +kernel, rfl, by decide +kernel, by decide +kernel⟩
theorem bn__law_is_tuple : BindsAll "_law_is_tuple" s__law_is_tuple ["value", "size"] := fun _ _ _ _ _ _ us hl => match us, hl with | [_, _], _ => rfl
abbrev s__law_is_fraction : Stmt := topS 52
theorem sc__law_is_fraction : FnScope ["value"] ["value"] (defScope s__law_is_fraction) := ⟨rfl, rfl, rfl, by decide +kernel, rfl, by decide +kernel, by decide +kernel⟩
theorem bn__law_is_fraction : BindsAll "_law_is_fraction" s__law_is_fraction ["value"] := fun _ _ _ _ _ _ us hl => match us, hl with | [_], _ => rfl
abbrev s__law_is_point : Stmt := topS 53
theorem sc__law_is_point : FnScope ["value", "width", "one"] ["value", "width"] (defScope s__law_is_point) := ⟨rfl, rfl, rfl, by decide +kernel, rfl, by decide +kernel, by decide +kernel⟩
theorem bn__law_is_point : BindsAll "_law_is_point" s__law_is_point ["value", "width"] := fun _ _ _ _ _ _ us hl => match us, hl with | [_, _], _ => rfl
abbrev s__law_is_line : Stmt := topS 54
theorem sc__law_is_line : FnScope ["value", "width"] ["value", "width"] (defScope s__law_is_line) := ⟨rfl, rfl, rfl, by decide +kernel, rfl, by decide +kernel, by decide +kernel⟩
theorem bn__law_is_line : BindsAll "_law_is_line" s__law_is_line ["value", "width"] := fun _ _ _ _ _ _ us hl => match us, hl with | [_, _], _ => rfl
abbrev s__law_is_rows : Stmt := topS 55
theorem sc__law_is_rows : FnScope ["value", "width", "one"] ["value", "width"] (defScope s__law_is_rows) := ⟨rfl, rfl, rfl, by decide +kernel, rfl, by decide +kernel, by decide +kernel⟩
theorem bn__law_is_rows : BindsAll "_law_is_rows" s__law_is_rows ["value", "width"] := fun _ _ _ _ _ _ us hl => match us, hl with | [_, _], _ => rfl
abbrev s__law_summed : Stmt := topS 56
theorem sc__law_summed : FnScope ["rows", "multipliers", "width", "found", "bound", "k", "j"] ["rows", "multipliers", "width"] (defScope s__law_summed) := ⟨rfl, rfl, rfl, by decide +kernel, rfl, by decide +kernel, by decide +kernel⟩
theorem bn__law_summed : BindsAll "_law_summed" s__law_summed ["rows", "multipliers", "width"] := fun _ _ _ _ _ _ us hl => match us, hl with | [_, _, _], _ => rfl
abbrev s__law_zeros : Stmt := topS 57
theorem sc__law_zeros : FnScope ["width"] ["width"] (defScope s__law_zeros) := ⟨rfl, rfl, rfl, by decide +kernel, rfl, by decide +kernel, by decide +kernel⟩
theorem bn__law_zeros : BindsAll "_law_zeros" s__law_zeros ["width"] := fun _ _ _ _ _ _ us hl => match us, hl with | [_], _ => rfl
abbrev s__law_unit : Stmt := topS 58
theorem sc__law_unit : FnScope ["width", "k", "n", "j"] ["width", "k", "n"] (defScope s__law_unit) := ⟨rfl, rfl, rfl, by decide +kernel, rfl, by decide +kernel, by decide +kernel⟩
theorem bn__law_unit : BindsAll "_law_unit" s__law_unit ["width", "k", "n"] := fun _ _ _ _ _ _ us hl => match us, hl with | [_, _, _], _ => rfl
abbrev s__law_small : Stmt := topS 59
theorem sc__law_small : FnScope ["pool"] ["pool"] (defScope s__law_small) := ⟨rfl, rfl, rfl, by decide +kernel, rfl, by decide +kernel, by decide +kernel⟩
theorem bn__law_small : BindsAll "_law_small" s__law_small ["pool"] := fun _ _ _ _ _ _ us hl => match us, hl with | [_], _ => rfl
abbrev s__law_great : Stmt := topS 60
theorem sc__law_great : FnScope ["pool", "sizes", "size", "n", "d"] ["pool", "sizes"] (defScope s__law_great) := ⟨rfl, rfl, rfl, by decide +kernel, rfl, by decide +kernel, by decide +kernel⟩
theorem bn__law_great : BindsAll "_law_great" s__law_great ["pool", "sizes"] := fun _ _ _ _ _ _ us hl => match us, hl with | [_, _], _ => rfl
abbrev s__law_coefficients : Stmt := topS 61
theorem sc__law_coefficients : FnScope ["pool", "width", "k"] ["pool", "width"] (defScope s__law_coefficients) := ⟨rfl, rfl, rfl, by decide +kernel, rfl, by decide +kernel, by decide +kernel⟩
theorem bn__law_coefficients : BindsAll "_law_coefficients" s__law_coefficients ["pool", "width"] := fun _ _ _ _ _ _ us hl => match us, hl with | [_, _], _ => rfl
abbrev s__law_row : Stmt := topS 62
theorem sc__law_row : FnScope ["pool", "width"] ["pool", "width"] (defScope s__law_row) := ⟨rfl, rfl, rfl, by decide +kernel, rfl, by decide +kernel, by decide +kernel⟩
theorem bn__law_row : BindsAll "_law_row" s__law_row ["pool", "width"] := fun _ _ _ _ _ _ us hl => match us, hl with | [_, _], _ => rfl
abbrev s__law_rows : Stmt := topS 63
theorem sc__law_rows : FnScope ["pool", "width", "most", "found", "turn", "row", "other", "one"] ["pool", "width", "most"] (defScope s__law_rows) := ⟨rfl, rfl, rfl, by decide +kernel, rfl, by decide +kernel, by decide +kernel⟩
theorem bn__law_rows : BindsAll "_law_rows" s__law_rows ["pool", "width", "most"] := fun _ _ _ _ _ _ us hl => match us, hl with | [_, _, _], _ => rfl
abbrev s__law_wide_point : Stmt := topS 64
theorem sc__law_wide_point : FnScope ["pool", "width", "k"] ["pool", "width"] (defScope s__law_wide_point) := ⟨rfl, rfl, rfl, by decide +kernel, rfl, by decide +kernel, by decide +kernel⟩
theorem bn__law_wide_point : BindsAll "_law_wide_point" s__law_wide_point ["pool", "width"] := fun _ _ _ _ _ _ us hl => match us, hl with | [_, _], _ => rfl
abbrev s__law_word_of : Stmt := topS 65
theorem sc__law_word_of : FnScope ["which", "rows", "point", "word", "e"] ["which", "rows", "point"] (defScope s__law_word_of) := ⟨rfl, rfl, rfl, by decide +kernel, rfl, by decide +kernel, by decide +kernel⟩
theorem bn__law_word_of : BindsAll "_law_word_of" s__law_word_of ["which", "rows", "point"] := fun _ _ _ _ _ _ us hl => match us, hl with | [_, _, _], _ => rfl
abbrev s__law_words_of : Stmt := topS 66
theorem sc__law_words_of : FnScope ["rows", "point", "which"] ["rows", "point"] (defScope s__law_words_of) := ⟨rfl, rfl, rfl, by decide +kernel, rfl, by decide +kernel, by decide +kernel⟩
theorem bn__law_words_of : BindsAll "_law_words_of" s__law_words_of ["rows", "point"] := fun _ _ _ _ _ _ us hl => match us, hl with | [_, _], _ => rfl
abbrev s__law_great_rows : Stmt := topS 67
theorem sc__law_great_rows : FnScope ["pool", "rows", "found", "row", "one"] ["pool", "rows"] (defScope s__law_great_rows) := ⟨rfl, rfl, rfl, by decide +kernel, rfl, by decide +kernel, by decide +kernel⟩
theorem bn__law_great_rows : BindsAll "_law_great_rows" s__law_great_rows ["pool", "rows"] := fun _ _ _ _ _ _ us hl => match us, hl with | [_, _], _ => rfl
abbrev s_law : Stmt := topS 68
theorem sc_law : FnScope ["script", "odd", "cell", "pool", "width", "rows", "point", "is_great", "row", "some", "k", "rest", "due", "factors", "told", "turn", "thing", "good", "one", "which"] ["script"] (defScope s_law) := ⟨rfl, rfl, rfl, by decide +kernel, rfl, by decide +kernel, by decide +kernel⟩
theorem bn_law : BindsAll "law" s_law ["script"] := fun _ _ _ _ _ _ us hl => match us, hl with | [_], _ => rfl
/-- what the module has made -/
structure Txt (K : PySem.W.Frag) (mg : Str → Option Value) : Prop where
  f_made : FunX K mg "made" s_made ["n", "d"] []
  f_plus : FunX K mg "plus" s_plus ["one", "other"] []
  f_minus : FunX K mg "minus" s_minus ["one", "other"] []
  f_mult : FunX K mg "mult" s_mult ["one", "other"] []
  f_at_most : FunX K mg "at_most" s_at_most ["one", "other"] []
  f_added_up : FunX K mg "added_up" s_added_up ["row"] []
  f_dot : FunX K mg "dot" s_dot ["one", "other"] []
  f_is_int : FunX K mg "is_int" s_is_int ["value"] []
  f_is_row : FunX K mg "is_row" s_is_row ["value", "size"] []
  f_fits_fraction : FunX K mg "fits_fraction" s_fits_fraction ["value"] []
  f_fits_point : FunX K mg "fits_point" s_fits_point ["value"] []
  f_fits_wide_point : FunX K mg "fits_wide_point" s_fits_wide_point ["value", "width"] []
  f_fits_line : FunX K mg "fits_line" s_fits_line ["value", "width"] []
  f_fits_wide_rows : FunX K mg "fits_wide_rows" s_fits_wide_rows ["value", "width"] []
  f_fits_rows : FunX K mg "fits_rows" s_fits_rows ["value"] []
  f_fits_multipliers : FunX K mg "fits_multipliers" s_fits_multipliers ["value", "count"] []
  f_row_holds : FunX K mg "row_holds" s_row_holds ["row", "point"] []
  f_rows_hold : FunX K mg "rows_hold" s_rows_hold ["rows", "point"] []
  f_summed : FunX K mg "summed" s_summed ["rows", "multipliers", "width"] []
  f_check_rows : FunX K mg "check_rows" s_check_rows ["rows"] []
  f_check_some_rows : FunX K mg "check_some_rows" s_check_some_rows ["rows"] []
  f_check_points : FunX K mg "check_points" s_check_points ["rows", "point"] []
  f_is_rows : FunX K mg "is_rows" s_is_rows ["value"] [0]
  f_holds : FunX K mg "holds" s_holds ["rows", "point"] []
  f_slack : FunX K mg "slack" s_slack ["rows", "point"] []
  f_sum_of_rows : FunX K mg "sum_of_rows" s_sum_of_rows ["rows", "multipliers"] []
  f__law_pool : FunX K mg "_law_pool" s__law_pool ["cell"] []
  f__law_next : FunX K mg "_law_next" s__law_next ["pool", "many"] []
  f__law_one_of : FunX K mg "_law_one_of" s__law_one_of ["pool", "row"] []
  f__law_same : FunX K mg "_law_same" s__law_same ["found", "due"] []
  f__law_bent : FunX K mg "_law_bent" s__law_bent ["pool", "value", "odd"] []
  f__law_odd : FunX K mg "_law_odd" s__law_odd [] []
  f__law_gcd : FunX K mg "_law_gcd" s__law_gcd ["a", "b"] []
  f__law_made : FunX K mg "_law_made" s__law_made ["n", "d"] []
  f__law_plus : FunX K mg "_law_plus" s__law_plus ["one", "other"] []
  f__law_turned : FunX K mg "_law_turned" s__law_turned ["one"] []
  f__law_minus : FunX K mg "_law_minus" s__law_minus ["one", "other"] []
  f__law_times : FunX K mg "_law_times" s__law_times ["one", "other"] []
  f__law_dot : FunX K mg "_law_dot" s__law_dot ["one", "other"] []
  f__law_is_int : FunX K mg "_law_is_int" s__law_is_int ["value"] []
  f__law_is_tuple : FunX K mg "_law_is_tuple" s__law_is_tuple ["value", "size"] []
  f__law_is_fraction : FunX K mg "_law_is_fraction" s__law_is_fraction ["value"] []
  f__law_is_point : FunX K mg "_law_is_point" s__law_is_point ["value", "width"] []
  f__law_is_line : FunX K mg "_law_is_line" s__law_is_line ["value", "width"] []
  f__law_is_rows : FunX K mg "_law_is_rows" s__law_is_rows ["value", "width"] []
  f__law_summed : FunX K mg "_law_summed" s__law_summed ["rows", "multipliers", "width"] []
  f__law_zeros : FunX K mg "_law_zeros" s__law_zeros ["width"] []
  f__law_unit : FunX K mg "_law_unit" s__law_unit ["width", "k", "n"] []
  f__law_small : FunX K mg "_law_small" s__law_small ["pool"] []
  f__law_great : FunX K mg "_law_great" s__law_great ["pool", "sizes"] []
  f__law_coefficients : FunX K mg "_law_coefficients" s__law_coefficients ["pool", "width"] []
  f__law_row : FunX K mg "_law_row" s__law_row ["pool", "width"] []
  f__law_rows : FunX K mg "_law_rows" s__law_rows ["pool", "width", "most"] []
  f__law_wide_point : FunX K mg "_law_wide_point" s__law_wide_point ["pool", "width"] []
  f__law_word_of : FunX K mg "_law_word_of" s__law_word_of ["which", "rows", "point"] []
  f__law_words_of : FunX K mg "_law_words_of" s__law_words_of ["rows", "point"] []
  f__law_great_rows : FunX K mg "_law_great_rows" s__law_great_rows ["pool", "rows"] []
  f_law : FunX K mg "law" s_law ["script"] []
  z_abs : mg "abs" = none
  z_all : mg "all" = none
  z_bool : mg "bool" = none
  z_gcd : mg "gcd" = some (.builtin "math.gcd")
  z_int : mg "int" = none
  z_isinstance : mg "isinstance" = none
  z_len : mg "len" = none
  z_list : mg "list" = none
  z_max : mg "max" = none
  z_range : mg "range" = none
  z_set : mg "set" = none
  z_str : mg "str" = none
  z_tuple : mg "tuple" = none
  z_zip : mg "zip" = none
  g_ZERO : GlobX K mg "ZERO" (.tup [.int 0, .int 1])
  x_InvalidPoint : ExcX K mg "InvalidPoint"
  x_InvalidRows : ExcX K mg "InvalidRows"
  m_InvalidPoint_InvalidPoint : ExmX K mg "InvalidPoint" "InvalidPoint" true
  m_InvalidPoint_InvalidRows : ExmX K mg "InvalidPoint" "InvalidRows" false
  m_InvalidRows_InvalidPoint : ExmX K mg "InvalidRows" "InvalidPoint" false
  m_InvalidRows_InvalidRows : ExmX K mg "InvalidRows" "InvalidRows" true
  k_InvalidPoint_BoundError : KitX K mg "InvalidPoint" "BoundError" true
  k_InvalidPoint_InvalidPoint : KitX K mg "InvalidPoint" "InvalidPoint" true
  k_InvalidRows_BoundError : KitX K mg "InvalidRows" "BoundError" true
  k_InvalidRows_InvalidPoint : KitX K mg "InvalidRows" "InvalidPoint" false
section
variable {P : Program} {w : World} {K : PySem.W.Frag} {mg : Str → Option Value} {base : Heap}
theorem ok_made (T : Txt K mg) : Def P w K mg base "made" ["n", "d"] [] 1 (spD K mg 2 r_made) :=
  def_ok T.f_made sc_made (fun f cdv A outer s H E S hr => by
    have hu := hr.units
    have sc := sc_made
    exact (psd_cons (psd_set 2 sc.nd (pd_callM cr_gcd gcd_ok (by rfl) T.z_gcd (pad_cons (pd_var 0) (pad_cons (pd_var 1) pad_nil))))
  (psd_cons (psd_if (ptd_lt (pd_var 1) pd_int)
  (psd_one (psd_set 2 sc.nd (pd_neg (pd_var 2))))
  psd_nil)
  (psd_one (psd_ret (pd_tup (pad_cons (pd_fdiv (pd_var 0) (pd_var 2)) (pad_cons (pd_fdiv (pd_var 1) (pd_var 2)) pad_nil))))))))
theorem ok_plus (T : Txt K mg) : Def P w K mg base "plus" ["one", "other"] [] 2 (spD K mg 2 r_plus) :=
  def_ok T.f_plus sc_plus (fun f cdv A outer s H E S hr => by
    have hu := hr.units
    have sc := sc_plus
    exact (psd_cons (psd_if (PWd.pt (pwd_and (ptd_eq hu (pd_ix (pd_var 0) pd_int) pd_int) (pwd_and1 (ptd_eq hu (pd_ix (pd_var 1) pd_int) pd_int))))
  (psd_one (psd_ret (pd_tup (pad_cons (pd_add (pd_ix (pd_var 0) pd_int) (pd_ix (pd_var 1) pd_int)) (pad_cons pd_int pad_nil)))))
  psd_nil)
  (psd_one (psd_ret (pd_cal (ok_made T) none (takes_of rfl rfl rfl rfl) hr (by decide) (by rfl) (pva_cons (PEd.v (pd_add (pd_mul (pd_ix (pd_var 0) pd_int) (pd_ix (pd_var 1) pd_int)) (pd_mul (pd_ix (pd_var 1) pd_int) (pd_ix (pd_var 0) pd_int)))) (pva_cons (PEd.v (pd_mul (pd_ix (pd_var 0) pd_int) (pd_ix (pd_var 1) pd_int))) pva_nil)))))))
theorem ok_minus (T : Txt K mg) : Def P w K mg base "minus" ["one", "other"] [] 3 (spD K mg 2 r_minus) :=
  def_ok T.f_minus sc_minus (fun f cdv A outer s H E S hr => by
    have hu := hr.units
    have sc := sc_minus
    exact (psd_one (psd_ret (pd_cal (ok_plus T) none (takes_of rfl rfl rfl rfl) hr (by decide) (by rfl) (pva_cons (PEd.v (pd_var 0)) (pva_cons (PEd.v (pd_tup (pad_cons (pd_neg (pd_ix (pd_var 1) pd_int)) (pad_cons (pd_ix (pd_var 1) pd_int) pad_nil)))) pva_nil))))))
theorem ok_mult (T : Txt K mg) : Def P w K mg base "mult" ["one", "other"] [] 2 (spD K mg 2 r_mult) :=
  def_ok T.f_mult sc_mult (fun f cdv A outer s H E S hr => by
    have hu := hr.units
    have sc := sc_mult
    exact (psd_cons (psd_if (PWd.pt (pwd_and (ptd_eq hu (pd_ix (pd_var 0) pd_int) pd_int) (pwd_and1 (ptd_eq hu (pd_ix (pd_var 1) pd_int) pd_int))))
  (psd_one (psd_ret (pd_tup (pad_cons (pd_mul (pd_ix (pd_var 0) pd_int) (pd_ix (pd_var 1) pd_int)) (pad_cons pd_int pad_nil)))))
  psd_nil)
  (psd_one (psd_ret (pd_cal (ok_made T) none (takes_of rfl rfl rfl rfl) hr (by decide) (by rfl) (pva_cons (PEd.v (pd_mul (pd_ix (pd_var 0) pd_int) (pd_ix (pd_var 1) pd_int))) (pva_cons (PEd.v (pd_mul (pd_ix (pd_var 0) pd_int) (pd_ix (pd_var 1) pd_int))) pva_nil)))))))
theorem ok_at_most (T : Txt K mg) : Def P w K mg base "at_most" ["one", "other"] [] 1 (spD K mg 2 r_at_most) :=
  def_ok T.f_at_most sc_at_most (fun f cdv A outer s H E S hr => by
    have hu := hr.units
    have sc := sc_at_most
    exact (psd_one (psd_ret (pd_le (pd_mul (pd_ix (pd_var 0) pd_int) (pd_ix (pd_var 1) pd_int)) (pd_mul (pd_ix (pd_var 1) pd_int) (pd_ix (pd_var 0) pd_int))))))
theorem ok_added_up (T : Txt K mg) : Def P w K mg base "added_up" ["row"] [] 2 (spD K mg 1 r_added_up) :=
  def_ok T.f_added_up sc_added_up (fun f cdv A outer s H E S hr => by
    have hu := hr.units
    have sc := sc_added_up
    exact (psd_cons (psd_asg (pd_tup (pad_cons pd_int (pad_cons pd_int pad_nil))) (pgd_tup (n := 2) rfl (pgsd_cons (pgd_name 1 sc.nd) (pgsd_cons (pgd_name 2 sc.nd) pgsd_nil))))
  (psd_cons (psd_for (passes_of rfl) rfl (pid_seq (pd_var 0)) (pgd_name 3 sc.nd)
  (psd_one (psd_if (ptd_eq hu (pd_ix (pd_var 3) pd_int) (pd_var 2))
  (psd_one (psd_set 1 sc.nd (pd_add (pd_var 1) (pd_ix (pd_var 3) pd_int))))
  (psd_one (psd_if (ptd_ne hu (pd_ix (pd_var 3) pd_int) pd_int)
  (psd_one (psd_par 1 2 rfl sc.nd (pad_cons (pd_add (pd_mul (pd_var 1) (pd_ix (pd_var 3) pd_int)) (pd_mul (pd_ix (pd_var 3) pd_int) (pd_var 2))) (pad_cons (pd_mul (pd_var 2) (pd_ix (pd_var 3) pd_int)) pad_nil))))
  psd_nil)))))
  (psd_one (psd_ret (pd_cal (ok_made T) none (takes_of rfl rfl rfl rfl) hr (by decide) (by rfl) (pva_cons (PEd.v (pd_var 1)) (pva_cons (PEd.v (pd_var 2)) pva_nil))))))))
theorem ok_dot (T : Txt K mg) : Def P w K mg base "dot" ["one", "other"] [] 3 (spD K mg 2 r_dot) :=
  def_ok T.f_dot sc_dot (fun f cdv A outer s H E S hr => by
    have hu := hr.units
    have sc := sc_dot
    exact (psd_one (psd_ret (pd_cal (ok_added_up T) none (takes_of rfl rfl rfl rfl) hr (by decide) (by rfl) (pva_cons (PEd.v ((pf_comp (own := [("a", 2), ("b", 3)]) rfl sc.nd (pid_zip T.z_zip (pad_cons (pd_var 0) (pad_cons (pd_var 1) pad_nil))) (blkOk_by (by rfl)) (fun s0 H0 C0 cl0 fp0 => (pgd_tup (n := 2) rfl (pgsd_cons (pgd_name 2 sc.nd) (pgsd_cons (pgd_name 3 sc.nd) pgsd_nil)))) (fun s0 H0 C0 cl0 fp0 => (ptsd_one (PWd.pt (pwd_and (ptd_ne hu (pd_ix (pd_var 2) pd_int) pd_int) (pwd_and1 (ptd_ne hu (pd_ix (pd_var 3) pd_int) pd_int)))))) (fun s0 H0 C0 cl0 fp0 => (pd_cal (ok_mult T) none takesN hr (by decide) (by rfl) (pva_cons (PEd.v (pd_var 2)) (pva_cons (PEd.v (pd_var 3)) pva_nil)))))).plain) pva_nil)))))
theorem ok_is_int (T : Txt K mg) : Def P w K mg base "is_int" ["value"] [] 1 (spD K mg 1 r_is_int) :=
  def_ok T.f_is_int sc_is_int (fun f cdv A outer s H E S hr => by
    have hu := hr.units
    have sc := sc_is_int
    exact (psd_one (psd_ret (pd_and (pd_isi (T := "int") (pd_var 0) (by rfl) T.z_isinstance (by rfl) T.z_int (by decide +kernel)) (pd_one (pd_not (pd_isi (T := "bool") (pd_var 0) (by rfl) T.z_isinstance (by rfl) T.z_bool (by decide +kernel))))))))
theorem ok_is_row (T : Txt K mg) : Def P w K mg base "is_row" ["value", "size"] [] 1 (spD K mg 2 r_is_row) :=
  def_ok T.f_is_row sc_is_row (fun f cdv A outer s H E S hr => by
    have hu := hr.units
    have sc := sc_is_row
    exact (psd_one (psd_ret (pd_and (pd_isi (T := "tuple") (pd_var 0) (by rfl) T.z_isinstance (by rfl) T.z_tuple (by decide +kernel)) (pd_one (pd_eq hu (pd_callB call_len len_ok (by rfl) T.z_len (by decide +kernel) (pad_cons (pd_var 0) pad_nil)) (pd_var 1)))))))
theorem ok_fits_fraction (T : Txt K mg) : Def P w K mg base "fits_fraction" ["value"] [] 2 (spD K mg 1 r_fits_fraction) :=
  def_ok T.f_fits_fraction sc_fits_fraction (fun f cdv A outer s H E S hr => by
    have hu := hr.units
    have sc := sc_fits_fraction
    exact (psd_cons (psd_if (PWd.pt (pwd_or (ptd_not (ptd_val (pd_cal (ok_is_row T) none (takes_of rfl rfl rfl rfl) hr (by decide) (by rfl) (pva_cons (PEd.v (pd_var 0)) (pva_cons (PEd.v pd_int) pva_nil))))) (pwd_or (ptd_not (ptd_val (pd_cal (ok_is_int T) none (takes_of rfl rfl rfl rfl) hr (by decide) (by rfl) (pva_cons (PEd.v (pd_ix (pd_var 0) pd_int)) pva_nil)))) (pwd_or1 (ptd_not (ptd_val (pd_cal (ok_is_int T) none (takes_of rfl rfl rfl rfl) hr (by decide) (by rfl) (pva_cons (PEd.v (pd_ix (pd_var 0) pd_int)) pva_nil))))))))
  (psd_one (psd_ret pd_bl))
  psd_nil)
  (psd_one (psd_ret (pd_and (pd_ge (pd_ix (pd_var 0) pd_int) pd_int) (pd_one (pd_eq hu (pd_callM cr_gcd gcd_ok (by rfl) T.z_gcd (pad_cons (pd_ix (pd_var 0) pd_int) (pad_cons (pd_ix (pd_var 0) pd_int) pad_nil))) pd_int)))))))
theorem ok_fits_point (T : Txt K mg) : Def P w K mg base "fits_point" ["value"] [] 3 (spD K mg 1 r_fits_point) :=
  def_ok T.f_fits_point sc_fits_point (fun f cdv A outer s H E S hr => by
    have hu := hr.units
    have sc := sc_fits_point
    exact (psd_one (psd_ret (pd_and (pd_isi (T := "tuple") (pd_var 0) (by rfl) T.z_isinstance (by rfl) T.z_tuple (by decide +kernel)) (pd_and (pd_ne hu (pd_var 0) (pd_tup pad_nil)) (pd_one (pd_callB (cr_all rfl) all_ok (by rfl) T.z_all (by decide +kernel) (pad_cons ((pf_comp (own := [("one", 1)]) rfl sc.nd (pid_seq (pd_var 0)) (blkOk_by (by rfl)) (fun s0 H0 C0 cl0 fp0 => (pgd_name 1 sc.nd)) (fun s0 H0 C0 cl0 fp0 => ptsd_nil) (fun s0 H0 C0 cl0 fp0 => (pd_cal (ok_fits_fraction T) none takesN hr (by decide) (by rfl) (pva_cons (PEd.v (pd_var 1)) pva_nil))))).plain pad_nil))))))))
theorem ok_fits_wide_point (T : Txt K mg) : Def P w K mg base "fits_wide_point" ["value", "width"] [] 4 (spD K mg 2 r_fits_wide_point) :=
  def_ok T.f_fits_wide_point sc_fits_wide_point (fun f cdv A outer s H E S hr => by
    have hu := hr.units
    have sc := sc_fits_wide_point
    exact (psd_one (psd_ret (pd_and (pd_cal (ok_fits_point T) none (takes_of rfl rfl rfl rfl) hr (by decide) (by rfl) (pva_cons (PEd.v (pd_var 0)) pva_nil)) (pd_one (pd_eq hu (pd_callB call_len len_ok (by rfl) T.z_len (by decide +kernel) (pad_cons (pd_var 0) pad_nil)) (pd_var 1)))))))
theorem ok_fits_line (T : Txt K mg) : Def P w K mg base "fits_line" ["value", "width"] [] 5 (spD K mg 2 r_fits_line) :=
  def_ok T.f_fits_line sc_fits_line (fun f cdv A outer s H E S hr => by
    have hu := hr.units
    have sc := sc_fits_line
    exact (psd_one (psd_ret (pd_and (pd_cal (ok_is_row T) none (takes_of rfl rfl rfl rfl) hr (by decide) (by rfl) (pva_cons (PEd.v (pd_var 0)) (pva_cons (PEd.v pd_int) pva_nil))) (pd_and (pd_cal (ok_fits_wide_point T) none (takes_of rfl rfl rfl rfl) hr (by decide) (by rfl) (pva_cons (PEd.v (pd_ix (pd_var 0) pd_int)) (pva_cons (PEd.v (pd_var 1)) pva_nil))) (pd_one (pd_cal (ok_fits_fraction T) none (takes_of rfl rfl rfl rfl) hr (by decide) (by rfl) (pva_cons (PEd.v (pd_ix (pd_var 0) pd_int)) pva_nil))))))))
theorem ok_fits_wide_rows (T : Txt K mg) : Def P w K mg base "fits_wide_rows" ["value", "width"] [] 6 (spD K mg 2 r_fits_wide_rows) :=
  def_ok T.f_fits_wide_rows sc_fits_wide_rows (fun f cdv A outer s H E S hr => by
    have hu := hr.units
    have sc := sc_fits_wide_rows
    exact (psd_one (psd_ret (pd_and (pd_isi (T := "tuple") (pd_var 0) (by rfl) T.z_isinstance (by rfl) T.z_tuple (by decide +kernel)) (pd_one (pd_callB (cr_all rfl) all_ok (by rfl) T.z_all (by decide +kernel) (pad_cons ((pf_comp (own := [("row", 2)]) rfl sc.nd (pid_seq (pd_var 0)) (blkOk_by (by rfl)) (fun s0 H0 C0 cl0 fp0 => (pgd_name 2 sc.nd)) (fun s0 H0 C0 cl0 fp0 => ptsd_nil) (fun s0 H0 C0 cl0 fp0 => (pd_cal (ok_fits_line T) none takesN hr (by decide) (by rfl) (pva_cons (PEd.v (pd_var 2)) (pva_cons (PEd.v (pd_var 1)) pva_nil)))))).plain pad_nil)))))))
theorem ok_fits_rows (T : Txt K mg) : Def P w K mg base "fits_rows" ["value"] [] 7 (spD K mg 1 r_fits_rows) :=
  def_ok T.f_fits_rows sc_fits_rows (fun f cdv A outer s H E S hr => by
    have hu := hr.units
    have sc := sc_fits_rows
    exact (psd_cons (psd_if (PWd.pt (pwd_or (ptd_not (ptd_val (pd_isi (T := "tuple") (pd_var 0) (by rfl) T.z_isinstance (by rfl) T.z_tuple (by decide +kernel)))) (pwd_or1 (ptd_not (ptd_val (pd_callB (cr_all rfl) all_ok (by rfl) T.z_all (by decide +kernel) (pad_cons ((pf_comp (own := [("row", 1)]) rfl sc.nd (pid_seq (pd_var 0)) (blkOk_by (by rfl)) (fun s0 H0 C0 cl0 fp0 => (pgd_name 1 sc.nd)) (fun s0 H0 C0 cl0 fp0 => ptsd_nil) (fun s0 H0 C0 cl0 fp0 => (pd_and (pd_cal (ok_is_row T) none takesN hr (by decide) (by rfl) (pva_cons (PEd.v (pd_var 1)) (pva_cons (PEd.v pd_int) pva_nil))) (pd_one (pd_isi (T := "tuple") (pd_ix (pd_var 1) pd_int) (by rfl) T.z_isinstance (by rfl) T.z_tuple (by decide +kernel))))))).plain pad_nil)))))))
  (psd_one (psd_ret pd_bl))
  psd_nil)
  (psd_one (psd_ret (pd_or (pd_eq hu (pd_var 0) (pd_tup pad_nil)) (pd_one (pd_cal (ok_fits_wide_rows T) none (takes_of rfl rfl rfl rfl) hr (by decide) (by rfl) (pva_cons (PEd.v (pd_var 0)) (pva_cons (PEd.v (pd_callB call_len len_ok (by rfl) T.z_len (by decide +kernel) (pad_cons (pd_ix (pd_ix (pd_var 0) pd_int) pd_int) pad_nil))) pva_nil)))))))))
theorem ok_fits_multipliers (T : Txt K mg) : Def P w K mg base "fits_multipliers" ["value", "count"] [] 3 (spD K mg 2 r_fits_multipliers) :=
  def_ok T.f_fits_multipliers sc_fits_multipliers (fun f cdv A outer s H E S hr => by
    have hu := hr.units
    have sc := sc_fits_multipliers
    exact (psd_cons (psd_if (PWd.pt (pwd_or (ptd_not (ptd_val (pd_cal (ok_is_row T) none (takes_of rfl rfl rfl rfl) hr (by decide) (by rfl) (pva_cons (PEd.v (pd_var 0)) (pva_cons (PEd.v (pd_var 1)) pva_nil))))) (pwd_or1 (ptd_not (ptd_val (pd_callB (cr_all rfl) all_ok (by rfl) T.z_all (by decide +kernel) (pad_cons ((pf_comp (own := [("one", 2)]) rfl sc.nd (pid_seq (pd_var 0)) (blkOk_by (by rfl)) (fun s0 H0 C0 cl0 fp0 => (pgd_name 2 sc.nd)) (fun s0 H0 C0 cl0 fp0 => ptsd_nil) (fun s0 H0 C0 cl0 fp0 => (pd_cal (ok_fits_fraction T) none takesN hr (by decide) (by rfl) (pva_cons (PEd.v (pd_var 2)) pva_nil))))).plain pad_nil)))))))
  (psd_one (psd_ret pd_bl))
  psd_nil)
  (psd_one (psd_ret (pd_callB (cr_all rfl) all_ok (by rfl) T.z_all (by decide +kernel) (pad_cons ((pf_comp (own := [("one", 2)]) rfl sc.nd (pid_seq (pd_var 0)) (blkOk_by (by rfl)) (fun s0 H0 C0 cl0 fp0 => (pgd_name 2 sc.nd)) (fun s0 H0 C0 cl0 fp0 => ptsd_nil) (fun s0 H0 C0 cl0 fp0 => (pd_ge (pd_ix (pd_var 2) pd_int) pd_int)))).plain pad_nil))))))
theorem ok_row_holds (T : Txt K mg) : Def P w K mg base "row_holds" ["row", "point"] [] 4 (spD K mg 2 r_row_holds) :=
  def_ok T.f_row_holds sc_row_holds (fun f cdv A outer s H E S hr => by
    have hu := hr.units
    have sc := sc_row_holds
    exact (psd_one (psd_ret (pd_cal (ok_at_most T) none (takes_of rfl rfl rfl rfl) hr (by decide) (by rfl) (pva_cons (PEd.v (pd_cal (ok_dot T) none (takes_of rfl rfl rfl rfl) hr (by decide) (by rfl) (pva_cons (PEd.v (pd_ix (pd_var 0) pd_int)) (pva_cons (PEd.v (pd_var 1)) pva_nil)))) (pva_cons (PEd.v (pd_ix (pd_var 0) pd_int)) pva_nil))))))
theorem ok_rows_hold (T : Txt K mg) : Def P w K mg base "rows_hold" ["rows", "point"] [] 5 (spD K mg 2 r_rows_hold) :=
  def_ok T.f_rows_hold sc_rows_hold (fun f cdv A outer s H E S hr => by
    have hu := hr.units
    have sc := sc_rows_hold
    exact (psd_one (psd_ret (pd_callB (cr_all rfl) all_ok (by rfl) T.z_all (by decide +kernel) (pad_cons ((pf_comp (own := [("row", 2)]) rfl sc.nd (pid_seq (pd_var 0)) (blkOk_by (by rfl)) (fun s0 H0 C0 cl0 fp0 => (pgd_name 2 sc.nd)) (fun s0 H0 C0 cl0 fp0 => ptsd_nil) (fun s0 H0 C0 cl0 fp0 => (pd_cal (ok_row_holds T) none takesN hr (by decide) (by rfl) (pva_cons (PEd.v (pd_var 2)) (pva_cons (PEd.v (pd_var 1)) pva_nil)))))).plain pad_nil)))))
theorem ok_summed (T : Txt K mg) : Def P w K mg base "summed" ["rows", "multipliers", "width"] [] 3 (spD K mg 3 r_summed) :=
  def_ok T.f_summed sc_summed (fun f cdv A outer s H E S hr => by
    have hu := hr.units
    have sc := sc_summed
    exact (psd_cons (psd_par 3 4 rfl sc.nd (pad_cons (pd_mul (pd_tup (pad_cons (pd_globX T.g_ZERO (by rfl)) pad_nil)) (pd_var 2)) (pad_cons (pd_globX T.g_ZERO (by rfl)) pad_nil)))
  (psd_cons (psd_for (passes_of rfl) rfl (pid_zip T.z_zip (pad_cons (pd_var 0) (pad_cons (pd_var 1) pad_nil))) (pgd_tup (n := 2) rfl (pgsd_cons (pgd_tup (n := 2) rfl (pgsd_cons (pgd_name 5 sc.nd) (pgsd_cons (pgd_name 6 sc.nd) pgsd_nil))) (pgsd_cons (pgd_name 7 sc.nd) pgsd_nil)))
  (psd_one (psd_if (ptd_ne hu (pd_ix (pd_var 7) pd_int) pd_int)
  (psd_cons (psd_set 3 sc.nd (pd_callTy call_tuple_of tuple_ok (by rfl) T.z_tuple (by decide +kernel) (pad_cons ((pf_comp (own := [("one", 8), ("other", 9)]) rfl sc.nd (pid_zip T.z_zip (pad_cons (pd_var 3) (pad_cons (pd_var 5) pad_nil))) (blkOk_by (by rfl)) (fun s0 H0 C0 cl0 fp0 => (pgd_tup (n := 2) rfl (pgsd_cons (pgd_name 8 sc.nd) (pgsd_cons (pgd_name 9 sc.nd) pgsd_nil)))) (fun s0 H0 C0 cl0 fp0 => ptsd_nil) (fun s0 H0 C0 cl0 fp0 => (pd_cal (ok_plus T) none takesN hr (by decide) (by rfl) (pva_cons (PEd.v (pd_var 8)) (pva_cons (PEd.v (pd_cal (ok_mult T) none takesN hr (by decide) (by rfl) (pva_cons (PEd.v (pd_var 7)) (pva_cons (PEd.v (pd_var 9)) pva_nil)))) pva_nil)))))).plain pad_nil)))
  (psd_one (psd_set 4 sc.nd (pd_cal (ok_plus T) none (takes_of rfl rfl rfl rfl) hr (by decide) (by rfl) (pva_cons (PEd.v (pd_var 4)) (pva_cons (PEd.v (pd_cal (ok_mult T) none (takes_of rfl rfl rfl rfl) hr (by decide) (by rfl) (pva_cons (PEd.v (pd_var 7)) (pva_cons (PEd.v (pd_var 6)) pva_nil)))) pva_nil))))))
  psd_nil)))
  (psd_one (psd_ret (pd_tup (pad_cons (pd_var 3) (pad_cons (pd_var 4) pad_nil))))))))
theorem ok_check_rows (T : Txt K mg) : Def P w K mg base "check_rows" ["rows"] [] 8 (spD K mg 1 r_check_rows) :=
  def_ok T.f_check_rows sc_check_rows (fun f cdv A outer s H E S hr => by
    have hu := hr.units
    have sc := sc_check_rows
    exact (psd_one (psd_if (ptd_not (ptd_val (pd_cal (ok_fits_rows T) none (takes_of rfl rfl rfl rfl) hr (by decide) (by rfl) (pva_cons (PEd.v (pd_var 0)) pva_nil))))
  (psd_one (psd_raiseX T.x_InvalidRows rfl (takes_of rfl rfl rfl rfl)))
  psd_nil)))
theorem ok_check_some_rows (T : Txt K mg) : Def P w K mg base "check_some_rows" ["rows"] [] 8 (spD K mg 1 r_check_some_rows) :=
  def_ok T.f_check_some_rows sc_check_some_rows (fun f cdv A outer s H E S hr => by
    have hu := hr.units
    have sc := sc_check_some_rows
    exact (psd_one (psd_if (PWd.pt (pwd_or (ptd_not (ptd_val (pd_cal (ok_fits_rows T) none (takes_of rfl rfl rfl rfl) hr (by decide) (by rfl) (pva_cons (PEd.v (pd_var 0)) pva_nil)))) (pwd_or1 (ptd_eq hu (pd_var 0) (pd_tup pad_nil)))))
  (psd_one (psd_raiseX T.x_InvalidRows rfl (takes_of rfl rfl rfl rfl)))
  psd_nil)))
theorem ok_check_points (T : Txt K mg) : Def P w K mg base "check_points" ["rows", "point"] [] 9 (spD K mg 2 r_check_points) :=
  def_ok T.f_check_points sc_check_points (fun f cdv A outer s H E S hr => by
    have hu := hr.units
    have sc := sc_check_points
    exact (psd_cons (psd_expr (pd_cal (ok_check_rows T) none (takes_of rfl rfl rfl rfl) hr (by decide) (by rfl) (pva_cons (PEd.v (pd_var 0)) pva_nil)))
  (psd_one (psd_if (PWd.pt (pwd_or (ptd_not (ptd_val (pd_cal (ok_fits_point T) none (takes_of rfl rfl rfl rfl) hr (by decide) (by rfl) (pva_cons (PEd.v (pd_var 1)) pva_nil)))) (pwd_or1 (PWd.pt (pwd_and (ptd_ne hu (pd_var 0) (pd_tup pad_nil)) (pwd_and1 (ptd_ne hu (pd_callB call_len len_ok (by rfl) T.z_len (by decide +kernel) (pad_cons (pd_var 1) pad_nil)) (pd_callB call_len len_ok (by rfl) T.z_len (by decide +kernel) (pad_cons (pd_ix (pd_ix (pd_var 0) pd_int) pd_int) pad_nil)))))))))
  (psd_one (psd_raiseX T.x_InvalidPoint rfl (takes_of rfl rfl rfl rfl)))
  psd_nil))))
theorem ok_is_rows (T : Txt K mg) : Def P w K mg base "is_rows" ["value"] [0] 8 (spD K mg 1 r_is_rows) :=
  def_ok T.f_is_rows sc_is_rows (fun f cdv A outer s H E S hr => by
    have hu := hr.units
    have sc := sc_is_rows
    exact (psd_one (psd_ret (pd_cal (ok_fits_rows T) none (takes_of rfl rfl rfl rfl) hr (by decide) (by rfl) (pva_cons (PEd.v (pd_var 0)) pva_nil)))))
theorem ok_holds (T : Txt K mg) : Def P w K mg base "holds" ["rows", "point"] [] 10 (spD K mg 2 r_holds) :=
  def_ok T.f_holds sc_holds (fun f cdv A outer s H E S hr => by
    have hu := hr.units
    have sc := sc_holds
    exact (psd_cons (psd_expr (pd_cal (ok_check_points T) none (takes_of rfl rfl rfl rfl) hr (by decide) (by rfl) (pva_cons (PEd.v (pd_var 0)) (pva_cons (PEd.v (pd_var 1)) pva_nil))))
  (psd_one (psd_ret (pd_cal (ok_rows_hold T) none (takes_of rfl rfl rfl rfl) hr (by decide) (by rfl) (pva_cons (PEd.v (pd_var 0)) (pva_cons (PEd.v (pd_var 1)) pva_nil)))))))
theorem ok_slack (T : Txt K mg) : Def P w K mg base "slack" ["rows", "point"] [] 10 (spD K mg 2 r_slack) :=
  def_ok T.f_slack sc_slack (fun f cdv A outer s H E S hr => by
    have hu := hr.units
    have sc := sc_slack
    exact (psd_cons (psd_expr (pd_cal (ok_check_points T) none (takes_of rfl rfl rfl rfl) hr (by decide) (by rfl) (pva_cons (PEd.v (pd_var 0)) (pva_cons (PEd.v (pd_var 1)) pva_nil))))
  (psd_one (psd_ret (pd_callTy call_tuple_of tuple_ok (by rfl) T.z_tuple (by decide +kernel) (pad_cons ((pf_comp (own := [("row", 2), ("bound", 3)]) rfl sc.nd (pid_seq (pd_var 0)) (blkOk_by (by rfl)) (fun s0 H0 C0 cl0 fp0 => (pgd_tup (n := 2) rfl (pgsd_cons (pgd_name 2 sc.nd) (pgsd_cons (pgd_name 3 sc.nd) pgsd_nil)))) (fun s0 H0 C0 cl0 fp0 => ptsd_nil) (fun s0 H0 C0 cl0 fp0 => (pd_cal (ok_minus T) none takesN hr (by decide) (by rfl) (pva_cons (PEd.v (pd_var 3)) (pva_cons (PEd.v (pd_cal (ok_dot T) none takesN hr (by decide) (by rfl) (pva_cons (PEd.v (pd_var 2)) (pva_cons (PEd.v (pd_var 1)) pva_nil)))) pva_nil)))))).plain pad_nil))))))
theorem ok_sum_of_rows (T : Txt K mg) : Def P w K mg base "sum_of_rows" ["rows", "multipliers"] [] 9 (spD K mg 2 r_sum_of_rows) :=
  def_ok T.f_sum_of_rows sc_sum_of_rows (fun f cdv A outer s H E S hr => by
    have hu := hr.units
    have sc := sc_sum_of_rows
    exact (psd_cons (psd_expr (pd_cal (ok_check_some_rows T) none (takes_of rfl rfl rfl rfl) hr (by decide) (by rfl) (pva_cons (PEd.v (pd_var 0)) pva_nil)))
  (psd_cons (psd_if (ptd_not (ptd_val (pd_cal (ok_fits_multipliers T) none (takes_of rfl rfl rfl rfl) hr (by decide) (by rfl) (pva_cons (PEd.v (pd_var 1)) (pva_cons (PEd.v (pd_callB call_len len_ok (by rfl) T.z_len (by decide +kernel) (pad_cons (pd_var 0) pad_nil))) pva_nil)))))
  (psd_one (psd_raiseX T.x_InvalidPoint rfl (takes_of rfl rfl rfl rfl)))
  psd_nil)
  (psd_one (psd_ret (pd_cal (ok_summed T) none (takes_of rfl rfl rfl rfl) hr (by decide) (by rfl) (pva_cons (PEd.v (pd_var 0)) (pva_cons (PEd.v (pd_var 1)) (pva_cons (PEd.v (pd_callB call_len len_ok (by rfl) T.z_len (by decide +kernel) (pad_cons (pd_ix (pd_ix (pd_var 0) pd_int) pd_int) pad_nil))) pva_nil)))))))))
theorem ok__law_pool (T : Txt K mg) : Def P w K mg base "_law_pool" ["cell"] [] 1 (spF K mg 1 r__law_pool) :=
  defF_ok T.f__law_pool sc__law_pool (fun f cdv A outer s H E S hr => by
    have hu := hr.units
    have sc := sc__law_pool
    exact (psd_cons (psd_set 0 sc.nd (pd_callTy call_int1 int_ok (by rfl) T.z_int (by decide +kernel) (pad_cons (pd_var 0) pad_nil)))
  (psd_one (psf_ret (pf_lst (x1 := 0) (pad_cons (pd_callB (call_max2 rfl) max2_ok (by rfl) T.z_max (by decide +kernel) (pad_cons pd_int (pad_cons (pd_sub (pd_var 0) (pd_pow pd_int pd_int)) pad_nil))) (pad_cons (pd_mod (pd_callTy call_int1 int_ok (by rfl) T.z_int (by decide +kernel) (pad_cons (pd_add (pd_mul (pd_var 0) pd_int) pd_int) pad_nil)) pd_int) (pad_cons pd_int pad_nil))))))))
theorem ok__law_next (T : Txt K mg) : Def P w K mg base "_law_next" ["pool", "many"] [] 1 (spD K mg 2 r__law_next) :=
  def_ok T.f__law_next sc__law_next (fun f cdv A outer s H E S hr => by
    have hu := hr.units
    have sc := sc__law_next
    exact (psd_cons (psd_store 0 (pd_add (pv_ix (pv_own 0) (PEd.v pd_int)) pd_int) pd_int)
  (psd_cons (psd_if (ptd_gt (pv_ix (pv_own 0) (PEd.v pd_int)) pd_int)
  (psd_cons (psd_set 2 sc.nd (pd_mod (pd_callTy call_int1 int_ok (by rfl) T.z_int (by decide +kernel) (pad_cons (pv_ix (pv_own 0) (PEd.v pd_int)) pad_nil)) (pd_var 1)))
  (psd_cons (psd_store 0 (pd_fdiv (pd_callTy call_int1 int_ok (by rfl) T.z_int (by decide +kernel) (pad_cons (pv_ix (pv_own 0) (PEd.v pd_int)) pad_nil)) (pd_var 1)) pd_int)
  (psd_one (psd_ret (pd_var 2)))))
  psd_nil)
  (psd_cons (psd_store 0 (pd_mod (pd_callTy call_int1 int_ok (by rfl) T.z_int (by decide +kernel) (pad_cons (pd_add (pd_add (pd_mul (pv_ix (pv_own 0) (PEd.v pd_int)) pd_int) (pd_mul (pd_mul (pv_ix (pv_own 0) (PEd.v pd_int)) (pv_ix (pv_own 0) (PEd.v pd_int))) pd_int)) pd_int) pad_nil)) pd_int) pd_int)
  (psd_one (psd_ret (pd_mod (pd_fdiv (pd_callTy call_int1 int_ok (by rfl) T.z_int (by decide +kernel) (pad_cons (pv_ix (pv_own 0) (PEd.v pd_int)) pad_nil)) pd_int) (pd_var 1))))))))
theorem ok__law_one_of (T : Txt K mg) : Def P w K mg base "_law_one_of" ["pool", "row"] [] 2 (spD K mg 2 r__law_one_of) :=
  def_ok T.f__law_one_of sc__law_one_of (fun f cdv A outer s H E S hr => by
    have hu := hr.units
    have sc := sc__law_one_of
    exact (psd_one (psd_ret (pd_ix (pd_var 1) (pd_cal (ok__law_next T) (some 0) (takes_of rfl rfl rfl rfl) hr (by decide) (by rfl) (pva_cons (pv_own 0) (pva_cons (PEd.v (pd_callB call_len len_ok (by rfl) T.z_len (by decide +kernel) (pad_cons (pd_var 1) pad_nil))) pva_nil)))))))
theorem okr__law_same (T : Txt K mg) {k : Nat} (hk : 0 ≤ k) {rc : M D} (D0 : Def P w K mg base "_law_same" ["found", "due"] [] k (spD K mg 2 rc)) : Def P w K mg base "_law_same" ["found", "due"] [] (k + 1) (spD K mg 2 (fnM 2 3 (b__law_same rc))) :=
  def_ok T.f__law_same sc__law_same (fun f cdv A outer s H E S hr => by
    have hu := hr.units
    have sc := sc__law_same
    exact (psd_cons (psd_if (PWd.pt (pwd_or (ptd_val (pd_isi (T := "tuple") (pd_var 1) (by rfl) T.z_isinstance (by rfl) T.z_tuple (by decide +kernel))) (pwd_or1 (ptd_val (pd_isi (T := "list") (pd_var 1) (by rfl) T.z_isinstance (by rfl) T.z_list (by decide +kernel))))))
  (psd_cons (psd_if (PWd.pt (pwd_or (ptd_ne hu (pd_isi (T := "tuple") (pd_var 0) (by rfl) T.z_isinstance (by rfl) T.z_tuple (by decide +kernel)) (pd_isi (T := "tuple") (pd_var 1) (by rfl) T.z_isinstance (by rfl) T.z_tuple (by decide +kernel))) (pwd_or1 (ptd_ne hu (pd_isi (T := "list") (pd_var 0) (by rfl) T.z_isinstance (by rfl) T.z_list (by decide +kernel)) (pd_isi (T := "list") (pd_var 1) (by rfl) T.z_isinstance (by rfl) T.z_list (by decide +kernel))))))
  (psd_one (psd_ret pd_bl))
  psd_nil)
  (psd_one (psd_ret (pd_and (pd_eq hu (pd_callB call_len len_ok (by rfl) T.z_len (by decide +kernel) (pad_cons (pd_var 0) pad_nil)) (pd_callB call_len len_ok (by rfl) T.z_len (by decide +kernel) (pad_cons (pd_var 1) pad_nil))) (pd_one (pd_callB (cr_all rfl) all_ok (by rfl) T.z_all (by decide +kernel) (pad_cons ((pf_comp (own := [("k", 2)]) rfl sc.nd (pid_range1 T.z_range (pad_cons (pd_callB call_len len_ok (by rfl) T.z_len (by decide +kernel) (pad_cons (pd_var 1) pad_nil)) pad_nil)) (blkOk_by (by rfl)) (fun s0 H0 C0 cl0 fp0 => (pgd_name 2 sc.nd)) (fun s0 H0 C0 cl0 fp0 => ptsd_nil) (fun s0 H0 C0 cl0 fp0 => (pd_cal D0 none takesN hr (Nat.le_refl _) (by rfl) (pva_cons (PEd.v (pd_ix (pd_var 0) (pd_var 2))) (pva_cons (PEd.v (pd_ix (pd_var 1) (pd_var 2))) pva_nil)))))).plain pad_nil)))))))
  psd_nil)
  (psd_cons (psd_if (ptd_is (pd_var 1) pd_non)
  (psd_one (psd_ret (pd_is (pd_var 0) pd_non)))
  psd_nil)
  (psd_cons (psd_if (ptd_val (pd_isi (T := "bool") (pd_var 1) (by rfl) T.z_isinstance (by rfl) T.z_bool (by decide +kernel)))
  (psd_one (psd_ret (pd_and (pd_isi (T := "bool") (pd_var 0) (by rfl) T.z_isinstance (by rfl) T.z_bool (by decide +kernel)) (pd_one (pd_eq hu (pd_var 0) (pd_var 1))))))
  psd_nil)
  (psd_cons (psd_if (ptd_val (pd_isi (T := "int") (pd_var 1) (by rfl) T.z_isinstance (by rfl) T.z_int (by decide +kernel)))
  (psd_one (psd_ret (pd_and (pd_isi (T := "int") (pd_var 0) (by rfl) T.z_isinstance (by rfl) T.z_int (by decide +kernel)) (pd_and (pd_not (pd_isi (T := "bool") (pd_var 0) (by rfl) T.z_isinstance (by rfl) T.z_bool (by decide +kernel))) (pd_one (pd_eq hu (pd_var 0) (pd_var 1)))))))
  psd_nil)
  (psd_one (psd_ret (pd_and (pd_isi (T := "str") (pd_var 0) (by rfl) T.z_isinstance (by rfl) T.z_str (by decide +kernel)) (pd_one (pd_eq hu (pd_var 0) (pd_var 1)))))))))))
theorem ok__law_same (T : Txt K mg) : ∀ i : Nat, Def P w K mg base "_law_same" ["found", "due"] [] (0 + i) (spD K mg 2 (r__law_same i))
  | 0 => def_bad T.f__law_same 0
  | i + 1 => okr__law_same T (Nat.le_add_right _ _) (ok__law_same T i)
theorem okr__law_bent (T : Txt K mg) {k : Nat} (hk : 2 ≤ k) {rc : M D} (D0 : Def P w K mg base "_law_bent" ["pool", "value", "odd"] [] k (spD K mg 3 rc)) : Def P w K mg base "_law_bent" ["pool", "value", "odd"] [] (k + 1) (spD K mg 3 (fnM 3 5 (b__law_bent rc))) :=
  def_ok T.f__law_bent sc__law_bent (fun f cdv A outer s H E S hr => by
    have hu := hr.units
    have sc := sc__law_bent
    exact (psd_cons (psd_if (PWd.pt (pwd_or (ptd_not (ptd_val (pd_isi (T := "tuple") (pd_var 1) (by rfl) T.z_isinstance (by rfl) T.z_tuple (by decide +kernel)))) (pwd_or (ptd_eq hu (pd_var 1) (pd_tup pad_nil)) (pwd_or1 (ptd_eq hu (pd_cal (ok__law_next T) (some 0) (takes_of rfl rfl rfl rfl) hr (Nat.le_trans (by decide) hk) (by rfl) (pva_cons (pv_own 0) (pva_cons (PEd.v pd_int) pva_nil))) pd_int)))))
  (psd_one (psd_ret (pd_cal (ok__law_one_of T) (some 0) (takes_of rfl rfl rfl rfl) hr (Nat.le_trans (by decide) hk) (by rfl) (pva_cons (pv_own 0) (pva_cons (PEd.v (pd_var 2)) pva_nil)))))
  psd_nil)
  (psd_cons (psd_par 3 4 rfl sc.nd (pad_cons (pd_cal (ok__law_next T) (some 0) (takes_of rfl rfl rfl rfl) hr (Nat.le_trans (by decide) hk) (by rfl) (pva_cons (pv_own 0) (pva_cons (PEd.v (pd_callB call_len len_ok (by rfl) T.z_len (by decide +kernel) (pad_cons (pd_var 1) pad_nil))) pva_nil))) (pad_cons (pd_cal (ok__law_next T) (some 0) (takes_of rfl rfl rfl rfl) hr (Nat.le_trans (by decide) hk) (by rfl) (pva_cons (pv_own 0) (pva_cons (PEd.v pd_int) pva_nil))) pad_nil)))
  (psd_cons (psd_if (ptd_eq hu (pd_var 4) pd_int)
  (psd_one (psd_ret (pd_add (pd_slice (pd_var 1) pod_none (pod_some (pd_var 3))) (pd_slice (pd_var 1) (pod_some (pd_add (pd_var 3) pd_int)) pod_none))))
  psd_nil)
  (psd_cons (psd_if (ptd_eq hu (pd_var 4) pd_int)
  (psd_one (psd_ret (pd_add (pd_slice (pd_var 1) pod_none (pod_some (pd_add (pd_var 3) pd_int))) (pd_slice (pd_var 1) (pod_some (pd_var 3)) pod_none))))
  psd_nil)
  (psd_cons (psd_if (ptd_eq hu (pd_var 4) pd_int)
  (psd_one (psd_ret (pd_add (pd_slice (pd_var 1) (pod_some (pd_var 3)) pod_none) (pd_slice (pd_var 1) pod_none (pod_some (pd_var 3))))))
  psd_nil)
  (psd_cons (psd_if (ptd_eq hu (pd_var 4) pd_int)
  (psd_one (psd_ret (pd_callTy call_list_of list_ok (by rfl) T.z_list (by decide +kernel) (pad_cons (pd_var 1) pad_nil))))
  psd_nil)
  (psd_one (psd_ret (pd_add (pd_add (pd_slice (pd_var 1) pod_none (pod_some (pd_var 3))) (pd_tup (pad_cons (pd_cal D0 (some 0) (takes_of rfl rfl rfl rfl) hr (Nat.le_refl _) (by rfl) (pva_cons (pv_own 0) (pva_cons (PEd.v (pd_ix (pd_var 1) (pd_var 3))) (pva_cons (PEd.v (pd_var 2)) pva_nil)))) pad_nil))) (pd_slice (pd_var 1) (pod_some (pd_add (pd_var 3) pd_int)) pod_none)))))))))))
theorem ok__law_bent (T : Txt K mg) : ∀ i : Nat, Def P w K mg base "_law_bent" ["pool", "value", "odd"] [] (2 + i) (spD K mg 3 (r__law_bent i))
  | 0 => def_bad T.f__law_bent 2
  | i + 1 => okr__law_bent T (Nat.le_add_right _ _) (ok__law_bent T i)
theorem ok__law_odd (T : Txt K mg) : Def P w K mg base "_law_odd" [] [] 1 (spD K mg 0 r__law_odd) :=
  def_ok T.f__law_odd sc__law_odd (fun f cdv A outer s H E S hr => by
    have hu := hr.units
    have sc := sc__law_odd
    exact (psd_one (psd_ret ((pf_lst (x1 := 0) (pad_cons pd_non (pad_cons pd_bl (pad_cons pd_bl (pad_cons pd_int (pad_cons pd_int (pad_cons (pd_neg pd_int) (pad_cons pd_int (pad_cons pd_str (pad_cons pd_str (pad_cons pd_str (pad_cons pd_str (pad_cons pd_str (pad_cons (pd_tup pad_nil) (pad_cons ((pf_lst (x1 := 0) pad_nil)).plain (pad_cons (pf_emp).plain (pad_cons (pd_tup (pad_cons (pd_tup pad_nil) pad_nil)) (pad_cons (pd_tup (pad_cons pd_int pad_nil)) (pad_cons (pd_tup (pad_cons pd_int (pad_cons pd_int pad_nil))) (pad_cons (pd_tup (pad_cons pd_int (pad_cons pd_int pad_nil))) (pad_cons (pd_tup (pad_cons pd_int (pad_cons pd_int pad_nil))) (pad_cons (pd_tup (pad_cons pd_int (pad_cons (pd_neg pd_int) pad_nil))) (pad_cons (pd_tup (pad_cons pd_bl (pad_cons pd_int pad_nil))) (pad_cons (pd_tup (pad_cons pd_int (pad_cons pd_int pad_nil))) (pad_cons (pd_tup (pad_cons (pd_neg pd_int) (pad_cons pd_int pad_nil))) (pad_cons (pd_tup (pad_cons pd_int (pad_cons pd_int pad_nil))) (pad_cons (pd_tup (pad_cons (pd_tup (pad_cons pd_int (pad_cons pd_int pad_nil))) pad_nil)) (pad_cons (pd_tup (pad_cons (pd_tup (pad_cons pd_int (pad_cons pd_int pad_nil))) (pad_cons (pd_tup (pad_cons pd_int (pad_cons pd_int pad_nil))) pad_nil))) pad_nil))))))))))))))))))))))))))))).plain)))
theorem ok__law_gcd (T : Txt K mg) : Def P w K mg base "_law_gcd" ["a", "b"] [] 1 (spD K mg 2 r__law_gcd) :=
  def_ok T.f__law_gcd sc__law_gcd (fun f cdv A outer s H E S hr => by
    have hu := hr.units
    have sc := sc__law_gcd
    exact (psd_cons (psd_par 0 1 rfl sc.nd (pad_cons (pd_callB call_abs abs_ok (by rfl) T.z_abs (by decide +kernel) (pad_cons (pd_var 0) pad_nil)) (pad_cons (pd_callB call_abs abs_ok (by rfl) T.z_abs (by decide +kernel) (pad_cons (pd_var 1) pad_nil)) pad_nil)))
  (psd_cons (psd_for (passes_of rfl) rfl (pid_range1 T.z_range (pad_cons pd_int pad_nil)) (pgd_name 2 sc.nd)
  (psd_cons (psd_if (ptd_eq hu (pd_var 1) pd_int)
  (psd_one psd_break)
  psd_nil)
  (psd_one (psd_par 0 1 rfl sc.nd (pad_cons (pd_var 1) (pad_cons (pd_mod (pd_callTy call_int1 int_ok (by rfl) T.z_int (by decide +kernel) (pad_cons (pd_var 0) pad_nil)) (pd_var 1)) pad_nil))))))
  (psd_one (psd_ret (pd_var 0))))))
theorem ok__law_made (T : Txt K mg) : Def P w K mg base "_law_made" ["n", "d"] [] 2 (spD K mg 2 r__law_made) :=
  def_ok T.f__law_made sc__law_made (fun f cdv A outer s H E S hr => by
    have hu := hr.units
    have sc := sc__law_made
    exact (psd_cons (psd_set 2 sc.nd (pd_cal (ok__law_gcd T) none (takes_of rfl rfl rfl rfl) hr (by decide) (by rfl) (pva_cons (PEd.v (pd_var 0)) (pva_cons (PEd.v (pd_var 1)) pva_nil))))
  (psd_cons (psd_if (ptd_lt (pd_var 1) pd_int)
  (psd_one (psd_set 2 sc.nd (pd_neg (pd_var 2))))
  psd_nil)
  (psd_one (psd_ret (pd_tup (pad_cons (pd_fdiv (pd_var 0) (pd_var 2)) (pad_cons (pd_fdiv (pd_var 1) (pd_var 2)) pad_nil))))))))
theorem ok__law_plus (T : Txt K mg) : Def P w K mg base "_law_plus" ["one", "other"] [] 3 (spD K mg 2 r__law_plus) :=
  def_ok T.f__law_plus sc__law_plus (fun f cdv A outer s H E S hr => by
    have hu := hr.units
    have sc := sc__law_plus
    exact (psd_cons (psd_if (ptd_chain (op_eqX hu) (op_eqX hu) eq_ok eq_ok (pd_ix (pd_var 0) pd_int) (pd_ix (pd_var 1) pd_int) pd_int)
  (psd_one (psd_ret (pd_tup (pad_cons (pd_add (pd_ix (pd_var 0) pd_int) (pd_ix (pd_var 1) pd_int)) (pad_cons pd_int pad_nil)))))
  psd_nil)
  (psd_one (psd_ret (pd_cal (ok__law_made T) none (takes_of rfl rfl rfl rfl) hr (by decide) (by rfl) (pva_cons (PEd.v (pd_add (pd_mul (pd_ix (pd_var 0) pd_int) (pd_ix (pd_var 1) pd_int)) (pd_mul (pd_ix (pd_var 1) pd_int) (pd_ix (pd_var 0) pd_int)))) (pva_cons (PEd.v (pd_mul (pd_ix (pd_var 0) pd_int) (pd_ix (pd_var 1) pd_int))) pva_nil)))))))
theorem ok__law_turned (T : Txt K mg) : Def P w K mg base "_law_turned" ["one"] [] 1 (spD K mg 1 r__law_turned) :=
  def_ok T.f__law_turned sc__law_turned (fun f cdv A outer s H E S hr => by
    have hu := hr.units
    have sc := sc__law_turned
    exact (psd_one (psd_ret (pd_tup (pad_cons (pd_neg (pd_ix (pd_var 0) pd_int)) (pad_cons (pd_ix (pd_var 0) pd_int) pad_nil))))))
theorem ok__law_minus (T : Txt K mg) : Def P w K mg base "_law_minus" ["one", "other"] [] 4 (spD K mg 2 r__law_minus) :=
  def_ok T.f__law_minus sc__law_minus (fun f cdv A outer s H E S hr => by
    have hu := hr.units
    have sc := sc__law_minus
    exact (psd_one (psd_ret (pd_cal (ok__law_plus T) none (takes_of rfl rfl rfl rfl) hr (by decide) (by rfl) (pva_cons (PEd.v (pd_var 0)) (pva_cons (PEd.v (pd_tup (pad_cons (pd_neg (pd_ix (pd_var 1) pd_int)) (pad_cons (pd_ix (pd_var 1) pd_int) pad_nil)))) pva_nil))))))
theorem ok__law_times (T : Txt K mg) : Def P w K mg base "_law_times" ["one", "other"] [] 3 (spD K mg 2 r__law_times) :=
  def_ok T.f__law_times sc__law_times (fun f cdv A outer s H E S hr => by
    have hu := hr.units
    have sc := sc__law_times
    exact (psd_cons (psd_if (ptd_chain (op_eqX hu) (op_eqX hu) eq_ok eq_ok (pd_ix (pd_var 0) pd_int) (pd_ix (pd_var 1) pd_int) pd_int)
  (psd_one (psd_ret (pd_tup (pad_cons (pd_mul (pd_ix (pd_var 0) pd_int) (pd_ix (pd_var 1) pd_int)) (pad_cons pd_int pad_nil)))))
  psd_nil)
  (psd_one (psd_ret (pd_cal (ok__law_made T) none (takes_of rfl rfl rfl rfl) hr (by decide) (by rfl) (pva_cons (PEd.v (pd_mul (pd_ix (pd_var 0) pd_int) (pd_ix (pd_var 1) pd_int))) (pva_cons (PEd.v (pd_mul (pd_ix (pd_var 0) pd_int) (pd_ix (pd_var 1) pd_int))) pva_nil)))))))
theorem ok__law_dot (T : Txt K mg) : Def P w K mg base "_law_dot" ["one", "other"] [] 4 (spD K mg 2 r__law_dot) :=
  def_ok T.f__law_dot sc__law_dot (fun f cdv A outer s H E S hr => by
    have hu := hr.units
    have sc := sc__law_dot
    exact (psd_cons (psd_set 2 sc.nd (pd_tup (pad_cons pd_int (pad_cons pd_int pad_nil))))
  (psd_cons (psd_for (passes_of rfl) rfl (pid_range1 T.z_range (pad_cons (pd_callB call_len len_ok (by rfl) T.z_len (by decide +kernel) (pad_cons (pd_var 0) pad_nil)) pad_nil)) (pgd_name 3 sc.nd)
  (psd_one (psd_if (PWd.pt (pwd_and (ptd_ne hu (pd_ix (pd_ix (pd_var 0) (pd_var 3)) pd_int) pd_int) (pwd_and1 (ptd_ne hu (pd_ix (pd_ix (pd_var 1) (pd_var 3)) pd_int) pd_int))))
  (psd_one (psd_set 2 sc.nd (pd_cal (ok__law_plus T) none (takes_of rfl rfl rfl rfl) hr (by decide) (by rfl) (pva_cons (PEd.v (pd_var 2)) (pva_cons (PEd.v (pd_cal (ok__law_times T) none (takes_of rfl rfl rfl rfl) hr (by decide) (by rfl) (pva_cons (PEd.v (pd_ix (pd_var 0) (pd_var 3))) (pva_cons (PEd.v (pd_ix (pd_var 1) (pd_var 3))) pva_nil)))) pva_nil)))))
  psd_nil)))
  (psd_one (psd_ret (pd_var 2))))))
theorem ok__law_is_int (T : Txt K mg) : Def P w K mg base "_law_is_int" ["value"] [] 1 (spD K mg 1 r__law_is_int) :=
  def_ok T.f__law_is_int sc__law_is_int (fun f cdv A outer s H E S hr => by
    have hu := hr.units
    have sc := sc__law_is_int
    exact (psd_one (psd_ret (pd_and (pd_isi (T := "int") (pd_var 0) (by rfl) T.z_isinstance (by rfl) T.z_int (by decide +kernel)) (pd_one (pd_not (pd_isi (T := "bool") (pd_var 0) (by rfl) T.z_isinstance (by rfl) T.z_bool (by decide +kernel))))))))
theorem ok__law_is_tuple (T : Txt K mg) : Def P w K mg base "_law_is_tuple" ["value", "size"] [] 1 (spD K mg 2 r__law_is_tuple) :=
  def_ok T.f__law_is_tuple sc__law_is_tuple (fun f cdv A outer s H E S hr => by
    have hu := hr.units
    have sc := sc__law_is_tuple
    exact (psd_one (psd_ret (pd_and (pd_isi (T := "tuple") (pd_var 0) (by rfl) T.z_isinstance (by rfl) T.z_tuple (by decide +kernel)) (pd_one (pd_eq hu (pd_callB call_len len_ok (by rfl) T.z_len (by decide +kernel) (pad_cons (pd_var 0) pad_nil)) (pd_var 1)))))))
theorem ok__law_is_fraction (T : Txt K mg) : Def P w K mg base "_law_is_fraction" ["value"] [] 2 (spD K mg 1 r__law_is_fraction) :=
  def_ok T.f__law_is_fraction sc__law_is_fraction (fun f cdv A outer s H E S hr => by
    have hu := hr.units
    have sc := sc__law_is_fraction
    exact (psd_cons (psd_if (PWd.pt (pwd_or (ptd_not (ptd_val (pd_cal (ok__law_is_tuple T) none (takes_of rfl rfl rfl rfl) hr (by decide) (by rfl) (pva_cons (PEd.v (pd_var 0)) (pva_cons (PEd.v pd_int) pva_nil))))) (pwd_or (ptd_not (ptd_val (pd_cal (ok__law_is_int T) none (takes_of rfl rfl rfl rfl) hr (by decide) (by rfl) (pva_cons (PEd.v (pd_ix (pd_var 0) pd_int)) pva_nil)))) (pwd_or1 (ptd_not (ptd_val (pd_cal (ok__law_is_int T) none (takes_of rfl rfl rfl rfl) hr (by decide) (by rfl) (pva_cons (PEd.v (pd_ix (pd_var 0) pd_int)) pva_nil))))))))
  (psd_one (psd_ret pd_bl))
  psd_nil)
  (psd_one (psd_ret (pd_and (pd_gt (pd_ix (pd_var 0) pd_int) pd_int) (pd_one (pd_eq hu (pd_cal (ok__law_gcd T) none (takes_of rfl rfl rfl rfl) hr (by decide) (by rfl) (pva_cons (PEd.v (pd_ix (pd_var 0) pd_int)) (pva_cons (PEd.v (pd_ix (pd_var 0) pd_int)) pva_nil))) pd_int)))))))
theorem ok__law_is_point (T : Txt K mg) : Def P w K mg base "_law_is_point" ["value", "width"] [] 3 (spD K mg 2 r__law_is_point) :=
  def_ok T.f__law_is_point sc__law_is_point (fun f cdv A outer s H E S hr => by
    have hu := hr.units
    have sc := sc__law_is_point
    exact (psd_cons (psd_if (PWd.pt (pwd_or (ptd_not (ptd_val (pd_isi (T := "tuple") (pd_var 0) (by rfl) T.z_isinstance (by rfl) T.z_tuple (by decide +kernel)))) (pwd_or (ptd_eq hu (pd_var 0) (pd_tup pad_nil)) (pwd_or1 (ptd_not (ptd_val (pd_callB (cr_all rfl) all_ok (by rfl) T.z_all (by decide +kernel) (pad_cons ((pf_comp (own := [("one", 2)]) rfl sc.nd (pid_seq (pd_var 0)) (blkOk_by (by rfl)) (fun s0 H0 C0 cl0 fp0 => (pgd_name 2 sc.nd)) (fun s0 H0 C0 cl0 fp0 => ptsd_nil) (fun s0 H0 C0 cl0 fp0 => (pd_cal (ok__law_is_fraction T) none takesN hr (by decide) (by rfl) (pva_cons (PEd.v (pd_var 2)) pva_nil))))).plain pad_nil))))))))
  (psd_one (psd_ret pd_bl))
  psd_nil)
  (psd_one (psd_ret (pd_or (pd_eq hu (pd_var 1) pd_int) (pd_one (pd_eq hu (pd_callB call_len len_ok (by rfl) T.z_len (by decide +kernel) (pad_cons (pd_var 0) pad_nil)) (pd_var 1))))))))
theorem ok__law_is_line (T : Txt K mg) : Def P w K mg base "_law_is_line" ["value", "width"] [] 4 (spD K mg 2 r__law_is_line) :=
  def_ok T.f__law_is_line sc__law_is_line (fun f cdv A outer s H E S hr => by
    have hu := hr.units
    have sc := sc__law_is_line
    exact (psd_one (psd_ret (pd_and (pd_cal (ok__law_is_tuple T) none (takes_of rfl rfl rfl rfl) hr (by decide) (by rfl) (pva_cons (PEd.v (pd_var 0)) (pva_cons (PEd.v pd_int) pva_nil))) (pd_and (pd_cal (ok__law_is_point T) none (takes_of rfl rfl rfl rfl) hr (by decide) (by rfl) (pva_cons (PEd.v (pd_ix (pd_var 0) pd_int)) (pva_cons (PEd.v (pd_var 1)) pva_nil))) (pd_one (pd_cal (ok__law_is_fraction T) none (takes_of rfl rfl rfl rfl) hr (by decide) (by rfl) (pva_cons (PEd.v (pd_ix (pd_var 0) pd_int)) pva_nil))))))))
theorem ok__law_is_rows (T : Txt K mg) : Def P w K mg base "_law_is_rows" ["value", "width"] [] 5 (spD K mg 2 r__law_is_rows) :=
  def_ok T.f__law_is_rows sc__law_is_rows (fun f cdv A outer s H E S hr => by
    have hu := hr.units
    have sc := sc__law_is_rows
    exact (psd_cons (psd_if (PWd.pt (pwd_or (ptd_not (ptd_val (pd_isi (T := "tuple") (pd_var 0) (by rfl) T.z_isinstance (by rfl) T.z_tuple (by decide +kernel)))) (pwd_or1 (ptd_not (ptd_val (pd_callB (cr_all rfl) all_ok (by rfl) T.z_all (by decide +kernel) (pad_cons ((pf_comp (own := [("one", 2)]) rfl sc.nd (pid_seq (pd_var 0)) (blkOk_by (by rfl)) (fun s0 H0 C0 cl0 fp0 => (pgd_name 2 sc.nd)) (fun s0 H0 C0 cl0 fp0 => ptsd_nil) (fun s0 H0 C0 cl0 fp0 => (pd_cal (ok__law_is_line T) none takesN hr (by decide) (by rfl) (pva_cons (PEd.v (pd_var 2)) (pva_cons (PEd.v (pd_var 1)) pva_nil)))))).plain pad_nil)))))))
  (psd_one (psd_ret pd_bl))
  psd_nil)
  (psd_one (psd_ret (pd_lt (pd_lenSet T.z_len T.z_set ((pf_comp (own := [("one", 2)]) rfl sc.nd (pid_seq (pd_var 0)) (blkOk_by (by rfl)) (fun s0 H0 C0 cl0 fp0 => (pgd_name 2 sc.nd)) (fun s0 H0 C0 cl0 fp0 => ptsd_nil) (fun s0 H0 C0 cl0 fp0 => (pd_callB call_len len_ok (by rfl) T.z_len (by decide +kernel) (pad_cons (pd_ix (pd_var 2) pd_int) pad_nil))))).plain) pd_int)))))
theorem ok__law_summed (T : Txt K mg) : Def P w K mg base "_law_summed" ["rows", "multipliers", "width"] [] 4 (spD K mg 3 r__law_summed) :=
  def_ok T.f__law_summed sc__law_summed (fun f cdv A outer s H E S hr => by
    have hu := hr.units
    have sc := sc__law_summed
    exact (psd_cons (psd_asg (pd_tup (pad_cons (pd_mul ((pf_lst (x1 := 0) (pad_cons (pd_tup (pad_cons pd_int (pad_cons pd_int pad_nil))) pad_nil))).plain (pd_var 2)) (pad_cons (pd_tup (pad_cons pd_int (pad_cons pd_int pad_nil))) pad_nil))) (pgd_tup (n := 2) rfl (pgsd_cons (pgd_name 3 sc.nd) (pgsd_cons (pgd_name 4 sc.nd) pgsd_nil))))
  (psd_cons (psd_for (passes_of rfl) rfl (pid_range1 T.z_range (pad_cons (pd_callB call_len len_ok (by rfl) T.z_len (by decide +kernel) (pad_cons (pd_var 0) pad_nil)) pad_nil)) (pgd_name 5 sc.nd)
  (psd_one (psd_if (ptd_ne hu (pd_ix (pd_ix (pd_var 1) (pd_var 5)) pd_int) pd_int)
  (psd_cons (psd_set 3 sc.nd ((pf_comp (own := [("j", 6)]) rfl sc.nd (pid_range1 T.z_range (pad_cons (pd_var 2) pad_nil)) (blkOk_by (by rfl)) (fun s0 H0 C0 cl0 fp0 => (pgd_name 6 sc.nd)) (fun s0 H0 C0 cl0 fp0 => ptsd_nil) (fun s0 H0 C0 cl0 fp0 => (pd_cal (ok__law_plus T) none takesN hr (by decide) (by rfl) (pva_cons (PEd.v (pd_ix (pd_var 3) (pd_var 6))) (pva_cons (PEd.v (pd_cal (ok__law_times T) none takesN hr (by decide) (by rfl) (pva_cons (PEd.v (pd_ix (pd_var 1) (pd_var 5))) (pva_cons (PEd.v (pd_ix (pd_ix (pd_ix (pd_var 0) (pd_var 5)) pd_int) (pd_var 6))) pva_nil)))) pva_nil)))))).plain)
  (psd_one (psd_set 4 sc.nd (pd_cal (ok__law_plus T) none (takes_of rfl rfl rfl rfl) hr (by decide) (by rfl) (pva_cons (PEd.v (pd_var 4)) (pva_cons (PEd.v (pd_cal (ok__law_times T) none (takes_of rfl rfl rfl rfl) hr (by decide) (by rfl) (pva_cons (PEd.v (pd_ix (pd_var 1) (pd_var 5))) (pva_cons (PEd.v (pd_ix (pd_ix (pd_var 0) (pd_var 5)) pd_int)) pva_nil)))) pva_nil))))))
  psd_nil)))
  (psd_one (psd_ret (pd_tup (pad_cons (pd_callTy call_tuple_of tuple_ok (by rfl) T.z_tuple (by decide +kernel) (pad_cons (pd_var 3) pad_nil)) (pad_cons (pd_var 4) pad_nil))))))))
theorem ok__law_zeros (T : Txt K mg) : Def P w K mg base "_law_zeros" ["width"] [] 1 (spD K mg 1 r__law_zeros) :=
  def_ok T.f__law_zeros sc__law_zeros (fun f cdv A outer s H E S hr => by
    have hu := hr.units
    have sc := sc__law_zeros
    exact (psd_one (psd_ret (pd_mul (pd_tup (pad_cons (pd_tup (pad_cons pd_int (pad_cons pd_int pad_nil))) pad_nil)) (pd_var 0)))))
theorem ok__law_unit (T : Txt K mg) : Def P w K mg base "_law_unit" ["width", "k", "n"] [] 1 (spD K mg 3 r__law_unit) :=
  def_ok T.f__law_unit sc__law_unit (fun f cdv A outer s H E S hr => by
    have hu := hr.units
    have sc := sc__law_unit
    exact (psd_one (psd_ret (pd_callTy call_tuple_of tuple_ok (by rfl) T.z_tuple (by decide +kernel) (pad_cons ((pf_comp (own := [("j", 3)]) rfl sc.nd (pid_range1 T.z_range (pad_cons (pd_var 0) pad_nil)) (blkOk_by (by rfl)) (fun s0 H0 C0 cl0 fp0 => (pgd_name 3 sc.nd)) (fun s0 H0 C0 cl0 fp0 => ptsd_nil) (fun s0 H0 C0 cl0 fp0 => (pd_tup (pad_cons (pd_if (ptd_eq hu (pd_var 3) (pd_var 1)) (pd_var 2) pd_int) (pad_cons pd_int pad_nil)))))).plain pad_nil)))))
theorem ok__law_small (T : Txt K mg) : Def P w K mg base "_law_small" ["pool"] [] 3 (spD K mg 1 r__law_small) :=
  def_ok T.f__law_small sc__law_small (fun f cdv A outer s H E S hr => by
    have hu := hr.units
    have sc := sc__law_small
    exact (psd_one (psd_ret (pd_cal (ok__law_made T) none (takes_of rfl rfl rfl rfl) hr (by decide) (by rfl) (pva_cons (PEd.v (pd_cal (ok__law_one_of T) (some 0) (takes_of rfl rfl rfl rfl) hr (by decide) (by rfl) (pva_cons (pv_own 0) (pva_cons (PEd.v ((pf_lst (x1 := 0) (pad_cons pd_int (pad_cons pd_int (pad_cons (pd_neg pd_int) (pad_cons pd_int (pad_cons (pd_neg pd_int) (pad_cons pd_int (pad_cons pd_int (pad_cons pd_int (pad_cons (pd_neg pd_int) (pad_cons pd_int (pad_cons pd_int (pad_cons pd_int pad_nil)))))))))))))).plain) pva_nil)))) (pva_cons (PEd.v (pd_cal (ok__law_one_of T) (some 0) (takes_of rfl rfl rfl rfl) hr (by decide) (by rfl) (pva_cons (pv_own 0) (pva_cons (PEd.v ((pf_lst (x1 := 0) (pad_cons pd_int (pad_cons pd_int (pad_cons pd_int (pad_cons pd_int (pad_cons pd_int (pad_cons pd_int pad_nil)))))))).plain) pva_nil)))) pva_nil))))))
theorem ok__law_great (T : Txt K mg) : Def P w K mg base "_law_great" ["pool", "sizes"] [] 3 (spD K mg 2 r__law_great) :=
  def_ok T.f__law_great sc__law_great (fun f cdv A outer s H E S hr => by
    have hu := hr.units
    have sc := sc__law_great
    exact (psd_cons (psd_set 2 sc.nd (pd_cal (ok__law_one_of T) (some 0) (takes_of rfl rfl rfl rfl) hr (by decide) (by rfl) (pva_cons (pv_own 0) (pva_cons (PEd.v (pd_var 1)) pva_nil))))
  (psd_cons (psd_set 3 sc.nd (pd_mod (pd_callTy call_int1 int_ok (by rfl) T.z_int (by decide +kernel) (pad_cons (pd_add (pd_add (pd_mul (pd_cal (ok__law_next T) (some 0) (takes_of rfl rfl rfl rfl) hr (by decide) (by rfl) (pva_cons (pv_own 0) (pva_cons (PEd.v (pd_pow pd_int pd_int)) pva_nil))) (pd_pow pd_int pd_int)) (pd_mul (pd_cal (ok__law_next T) (some 0) (takes_of rfl rfl rfl rfl) hr (by decide) (by rfl) (pva_cons (pv_own 0) (pva_cons (PEd.v (pd_pow pd_int pd_int)) pva_nil))) (pd_pow pd_int pd_int))) (pd_cal (ok__law_next T) (some 0) (takes_of rfl rfl rfl rfl) hr (by decide) (by rfl) (pva_cons (pv_own 0) (pva_cons (PEd.v (pd_pow pd_int pd_int)) pva_nil)))) pad_nil)) (pd_var 2)))
  (psd_cons (psd_set 4 sc.nd (pd_add pd_int (pd_mod (pd_callTy call_int1 int_ok (by rfl) T.z_int (by decide +kernel) (pad_cons (pd_add (pd_add (pd_mul (pd_cal (ok__law_next T) (some 0) (takes_of rfl rfl rfl rfl) hr (by decide) (by rfl) (pva_cons (pv_own 0) (pva_cons (PEd.v (pd_pow pd_int pd_int)) pva_nil))) (pd_pow pd_int pd_int)) (pd_mul (pd_cal (ok__law_next T) (some 0) (takes_of rfl rfl rfl rfl) hr (by decide) (by rfl) (pva_cons (pv_own 0) (pva_cons (PEd.v (pd_pow pd_int pd_int)) pva_nil))) (pd_pow pd_int pd_int))) (pd_cal (ok__law_next T) (some 0) (takes_of rfl rfl rfl rfl) hr (by decide) (by rfl) (pva_cons (pv_own 0) (pva_cons (PEd.v (pd_pow pd_int pd_int)) pva_nil)))) pad_nil)) (pd_sub (pd_var 2) pd_int))))
  (psd_one (psd_ret (pd_cal (ok__law_made T) none (takes_of rfl rfl rfl rfl) hr (by decide) (by rfl) (pva_cons (PEd.v (pd_if (ptd_eq hu (pd_cal (ok__law_next T) (some 0) (takes_of rfl rfl rfl rfl) hr (by decide) (by rfl) (pva_cons (pv_own 0) (pva_cons (PEd.v pd_int) pva_nil))) pd_int) (pd_var 3) (pd_neg (pd_var 3)))) (pva_cons (PEd.v (pd_if (ptd_gt (pd_cal (ok__law_next T) (some 0) (takes_of rfl rfl rfl rfl) hr (by decide) (by rfl) (pva_cons (pv_own 0) (pva_cons (PEd.v pd_int) pva_nil))) pd_int) (pd_var 4) pd_int)) pva_nil)))))))))
theorem ok__law_coefficients (T : Txt K mg) : Def P w K mg base "_law_coefficients" ["pool", "width"] [] 3 (spD K mg 2 r__law_coefficients) :=
  def_ok T.f__law_coefficients sc__law_coefficients (fun f cdv A outer s H E S hr => by
    have hu := hr.units
    have sc := sc__law_coefficients
    exact (psd_one (psd_ret (pd_callTy call_tuple_of tuple_ok (by rfl) T.z_tuple (by decide +kernel) (pad_cons ((pf_comp (own := [("k", 2)]) rfl sc.nd (pid_range1 T.z_range (pad_cons (pd_var 1) pad_nil)) (blkOk_by (by rfl)) (fun s0 H0 C0 cl0 fp0 => (pgd_name 2 sc.nd)) (fun s0 H0 C0 cl0 fp0 => ptsd_nil) (fun s0 H0 C0 cl0 fp0 => (pd_cal (ok__law_one_of T) (some 0) takesN hr (by decide) (by rfl) (pva_cons (pv_own 0) (pva_cons (PEd.v ((pf_lst (x1 := 0) (pad_cons (pd_tup (pad_cons pd_int (pad_cons pd_int pad_nil))) (pad_cons (pd_tup (pad_cons pd_int (pad_cons pd_int pad_nil))) (pad_cons (pd_tup (pad_cons (pd_neg pd_int) (pad_cons pd_int pad_nil))) (pad_cons (pd_tup (pad_cons pd_int (pad_cons pd_int pad_nil))) (pad_cons (pd_tup (pad_cons (pd_neg pd_int) (pad_cons pd_int pad_nil))) (pad_cons (pd_tup (pad_cons pd_int (pad_cons pd_int pad_nil))) (pad_cons (pd_tup (pad_cons (pd_neg pd_int) (pad_cons pd_int pad_nil))) (pad_cons (pd_tup (pad_cons pd_int (pad_cons pd_int pad_nil))) (pad_cons (pd_tup (pad_cons pd_int (pad_cons pd_int pad_nil))) (pad_cons (pd_tup (pad_cons pd_int (pad_cons pd_int pad_nil))) pad_nil)))))))))))).plain) pva_nil)))))).plain pad_nil)))))
theorem ok__law_row (T : Txt K mg) : Def P w K mg base "_law_row" ["pool", "width"] [] 4 (spD K mg 2 r__law_row) :=
  def_ok T.f__law_row sc__law_row (fun f cdv A outer s H E S hr => by
    have hu := hr.units
    have sc := sc__law_row
    exact (psd_one (psd_ret (pd_tup (pad_cons (pd_cal (ok__law_coefficients T) (some 0) (takes_of rfl rfl rfl rfl) hr (by decide) (by rfl) (pva_cons (pv_own 0) (pva_cons (PEd.v (pd_var 1)) pva_nil))) (pad_cons (pd_cal (ok__law_small T) (some 0) (takes_of rfl rfl rfl rfl) hr (by decide) (by rfl) (pva_cons (pv_own 0) pva_nil)) pad_nil))))))
theorem ok__law_rows (T : Txt K mg) : Def P w K mg base "_law_rows" ["pool", "width", "most"] [] 5 (spD K mg 3 r__law_rows) :=
  def_ok T.f__law_rows sc__law_rows (fun f cdv A outer s H E S hr => by
    have hu := hr.units
    have sc := sc__law_rows
    exact (psd_cons (psd_own 3 sc.nd (pf_lst (x1 := 0) pad_nil))
  (psd_cons (psd_for (passes_of rfl) rfl (pid_range1 T.z_range (pad_cons (pd_cal (ok__law_next T) (some 0) (takes_of rfl rfl rfl rfl) hr (by decide) (by rfl) (pva_cons (pv_own 0) (pva_cons (PEd.v (pd_add (pd_var 2) pd_int)) pva_nil))) pad_nil)) (pgd_name 4 sc.nd)
  (psd_cons (psd_set 5 sc.nd (pd_cal (ok__law_row T) (some 0) (takes_of rfl rfl rfl rfl) hr (by decide) (by rfl) (pva_cons (pv_own 0) (pva_cons (PEd.v (pd_var 1)) pva_nil))))
  (psd_cons (psd_if (PWd.pt (pwd_and (ptv_cmp (op_neX hu) ne_ok (pv_own 3) (PEd.v ((pf_lst (x1 := 0) pad_nil)).plain) (nomark _)) (pwd_and1 (ptd_eq hu (pd_cal (ok__law_next T) (some 0) (takes_of rfl rfl rfl rfl) hr (by decide) (by rfl) (pva_cons (pv_own 0) (pva_cons (PEd.v pd_int) pva_nil))) pd_int))))
  (psd_cons (psd_set 6 sc.nd (pd_cal (ok__law_one_of T) (some 0) (takes_of rfl rfl rfl rfl) hr (by decide) (by rfl) (pva_cons (pv_own 0) (pva_cons (pv_own 3) pva_nil))))
  (psd_one (psd_set 5 sc.nd (pd_tup (pad_cons (pd_callTy call_tuple_of tuple_ok (by rfl) T.z_tuple (by decide +kernel) (pad_cons ((pf_comp (own := [("one", 7)]) rfl sc.nd (pid_seq (pd_ix (pd_var 6) pd_int)) (blkOk_by (by rfl)) (fun s0 H0 C0 cl0 fp0 => (pgd_name 7 sc.nd)) (fun s0 H0 C0 cl0 fp0 => ptsd_nil) (fun s0 H0 C0 cl0 fp0 => (pd_cal (ok__law_turned T) none takesN hr (by decide) (by rfl) (pva_cons (PEd.v (pd_var 7)) pva_nil))))).plain pad_nil)) (pad_cons (pd_cal (ok__law_plus T) none (takes_of rfl rfl rfl rfl) hr (by decide) (by rfl) (pva_cons (PEd.v (pd_cal (ok__law_turned T) none (takes_of rfl rfl rfl rfl) hr (by decide) (by rfl) (pva_cons (PEd.v (pd_ix (pd_var 6) pd_int)) pva_nil))) (pva_cons (PEd.v (pd_cal (ok__law_small T) (some 0) (takes_of rfl rfl rfl rfl) hr (by decide) (by rfl) (pva_cons (pv_own 0) pva_nil))) pva_nil))) pad_nil))))))
  psd_nil)
  (psd_cons (psd_if (ptd_eq hu (pd_cal (ok__law_next T) (some 0) (takes_of rfl rfl rfl rfl) hr (by decide) (by rfl) (pva_cons (pv_own 0) (pva_cons (PEd.v pd_int) pva_nil))) pd_int)
  (psd_one (psd_set 5 sc.nd (pd_tup (pad_cons (pd_cal (ok__law_unit T) none (takes_of rfl rfl rfl rfl) hr (by decide) (by rfl) (pva_cons (PEd.v (pd_var 1)) (pva_cons (PEd.v (pd_cal (ok__law_next T) (some 0) (takes_of rfl rfl rfl rfl) hr (by decide) (by rfl) (pva_cons (pv_own 0) (pva_cons (PEd.v (pd_var 1)) pva_nil)))) (pva_cons (PEd.v (pd_cal (ok__law_one_of T) (some 0) (takes_of rfl rfl rfl rfl) hr (by decide) (by rfl) (pva_cons (pv_own 0) (pva_cons (PEd.v ((pf_lst (x1 := 0) (pad_cons pd_int (pad_cons (pd_neg pd_int) pad_nil)))).plain) pva_nil)))) pva_nil)))) (pad_cons (pd_cal (ok__law_small T) (some 0) (takes_of rfl rfl rfl rfl) hr (by decide) (by rfl) (pva_cons (pv_own 0) pva_nil)) pad_nil)))))
  psd_nil)
  (psd_one (psd_append 3 (pd_var 5)))))))
  (psd_one (psd_ret (pv_callTy call_tuple_of tuple_ok (by rfl) T.z_tuple (by decide +kernel) (pva_cons (pv_own 3) pva_nil)))))))
theorem ok__law_wide_point (T : Txt K mg) : Def P w K mg base "_law_wide_point" ["pool", "width"] [] 4 (spD K mg 2 r__law_wide_point) :=
  def_ok T.f__law_wide_point sc__law_wide_point (fun f cdv A outer s H E S hr => by
    have hu := hr.units
    have sc := sc__law_wide_point
    exact (psd_one (psd_ret (pd_callTy call_tuple_of tuple_ok (by rfl) T.z_tuple (by decide +kernel) (pad_cons ((pf_comp (own := [("k", 2)]) rfl sc.nd (pid_range1 T.z_range (pad_cons (pd_var 1) pad_nil)) (blkOk_by (by rfl)) (fun s0 H0 C0 cl0 fp0 => (pgd_name 2 sc.nd)) (fun s0 H0 C0 cl0 fp0 => ptsd_nil) (fun s0 H0 C0 cl0 fp0 => (pd_cal (ok__law_small T) (some 0) takesN hr (by decide) (by rfl) (pva_cons (pv_own 0) pva_nil))))).plain pad_nil)))))
theorem ok__law_word_of (T : Txt K mg) : Def P w K mg base "_law_word_of" ["which", "rows", "point"] [] 11 (spD K mg 3 r__law_word_of) :=
  def_ok T.f__law_word_of sc__law_word_of (fun f cdv A outer s H E S hr => by
    have hu := hr.units
    have sc := sc__law_word_of
    exact (psd_cons (psd_set 3 sc.nd pd_str)
  (psd_cons (psd_tryM rfl rfl sc.nd (takes_of rfl rfl rfl rfl) (fun W1 pn1 xe1 tkt hpt => (psd_one (psd_if (ptd_eq hu (pd_var 0) pd_int)
  (psd_one (psd_expr (pd_cal (ok_holds T) none tkt hr (by decide) (by rfl) (pva_cons (PEd.v (pd_var 1)) (pva_cons (PEd.v (pd_var 2)) pva_nil)))))
  (psd_one (psd_if (ptd_eq hu (pd_var 0) pd_int)
  (psd_one (psd_expr (pd_cal (ok_slack T) none tkt hr (by decide) (by rfl) (pva_cons (PEd.v (pd_var 1)) (pva_cons (PEd.v (pd_var 2)) pva_nil)))))
  (psd_one (psd_expr (pd_cal (ok_sum_of_rows T) none tkt hr (by decide) (by rfl) (pva_cons (PEd.v (pd_var 1)) (pva_cons (PEd.v (pd_var 2)) pva_nil))))))))))
  (HOk.cons1 (all_cons T.m_InvalidPoint_InvalidRows (all_cons T.m_InvalidRows_InvalidRows all_nil)) T.x_InvalidRows rfl (by decide) rfl rfl rfl (fun a1 oe1 pn1 c D1 hz1 hf1 hm1 => (pxs_set 3 sc.nd (px_if (PXW.pt (px_tand (px_tst (px_kit [("InvalidPoint", true), ("InvalidRows", true)] (all_cons T.k_InvalidPoint_BoundError (all_cons T.k_InvalidRows_BoundError all_nil)) hm1 hz1 hf1 T.z_isinstance)) (px_tand1 (px_tnot (px_tst (px_kit [("InvalidPoint", true), ("InvalidRows", false)] (all_cons T.k_InvalidPoint_InvalidPoint (all_cons T.k_InvalidRows_InvalidPoint all_nil)) hm1 hz1 hf1 T.z_isinstance)))))) (PEd.x pd_str) (PEd.x pd_str))))
  (HOk.cons1 (all_cons T.m_InvalidPoint_InvalidPoint (all_cons T.m_InvalidRows_InvalidPoint all_nil)) T.x_InvalidPoint rfl (by decide) rfl rfl rfl (fun a1 oe1 pn1 c D1 hz1 hf1 hm1 => (pxs_set 3 sc.nd (px_if (px_tst (px_kit [("InvalidPoint", true), ("InvalidRows", true)] (all_cons T.k_InvalidPoint_BoundError (all_cons T.k_InvalidRows_BoundError all_nil)) hm1 hz1 hf1 T.z_isinstance)) (PEd.x pd_str) (PEd.x pd_str))))
  HOk.nil)))
  (psd_one (psd_ret (pd_var 3))))))
theorem ok__law_words_of (T : Txt K mg) : Def P w K mg base "_law_words_of" ["rows", "point"] [] 12 (spD K mg 2 r__law_words_of) :=
  def_ok T.f__law_words_of sc__law_words_of (fun f cdv A outer s H E S hr => by
    have hu := hr.units
    have sc := sc__law_words_of
    exact (psd_one (psd_ret ((pf_comp (own := [("which", 2)]) rfl sc.nd (pid_range1 T.z_range (pad_cons pd_int pad_nil)) (blkOk_by (by rfl)) (fun s0 H0 C0 cl0 fp0 => (pgd_name 2 sc.nd)) (fun s0 H0 C0 cl0 fp0 => ptsd_nil) (fun s0 H0 C0 cl0 fp0 => (pd_cal (ok__law_word_of T) none takesN hr (by decide) (by rfl) (pva_cons (PEd.v (pd_var 2)) (pva_cons (PEd.v (pd_var 0)) (pva_cons (PEd.v (pd_var 1)) pva_nil))))))).plain)))
theorem ok__law_great_rows (T : Txt K mg) : Def P w K mg base "_law_great_rows" ["pool", "rows"] [] 4 (spD K mg 2 r__law_great_rows) :=
  def_ok T.f__law_great_rows sc__law_great_rows (fun f cdv A outer s H E S hr => by
    have hu := hr.units
    have sc := sc__law_great_rows
    exact (psd_cons (psd_own 2 sc.nd (pf_lst (x1 := 0) pad_nil))
  (psd_cons (psd_for (passes_of rfl) rfl (pid_seq (pd_var 1)) (pgd_name 3 sc.nd)
  (psd_cons (psd_if (ptd_eq hu (pd_cal (ok__law_next T) (some 0) (takes_of rfl rfl rfl rfl) hr (by decide) (by rfl) (pva_cons (pv_own 0) (pva_cons (PEd.v pd_int) pva_nil))) pd_int)
  (psd_one (psd_set 3 sc.nd (pd_tup (pad_cons (pd_callTy call_tuple_of tuple_ok (by rfl) T.z_tuple (by decide +kernel) (pad_cons ((pf_comp (own := [("one", 4)]) rfl sc.nd (pid_seq (pd_ix (pd_var 3) pd_int)) (blkOk_by (by rfl)) (fun s0 H0 C0 cl0 fp0 => (pgd_name 4 sc.nd)) (fun s0 H0 C0 cl0 fp0 => ptsd_nil) (fun s0 H0 C0 cl0 fp0 => (pd_cal (ok__law_great T) (some 0) takesN hr (by decide) (by rfl) (pva_cons (pv_own 0) (pva_cons (PEd.v ((pf_lst (x1 := 0) (pad_cons pd_int (pad_cons (pd_pow pd_int pd_int) pad_nil)))).plain) pva_nil)))))).plain pad_nil)) (pad_cons (pd_cal (ok__law_great T) (some 0) (takes_of rfl rfl rfl rfl) hr (by decide) (by rfl) (pva_cons (pv_own 0) (pva_cons (PEd.v ((pf_lst (x1 := 0) (pad_cons pd_int (pad_cons (pd_pow pd_int pd_int) pad_nil)))).plain) pva_nil))) pad_nil)))))
  psd_nil)
  (psd_one (psd_append 2 (pd_var 3)))))
  (psd_one (psd_ret (pv_callTy call_tuple_of tuple_ok (by rfl) T.z_tuple (by decide +kernel) (pva_cons (pv_own 2) pva_nil)))))))
theorem ok_law (T : Txt K mg) : Def P w K mg base "law" ["script"] [] 43 (spD K mg 1 r_law) :=
  def_ok T.f_law sc_law (fun f cdv A outer s H E S hr => by
    have hu := hr.units
    have sc := sc_law
    exact (psd_cons (psd_set 1 sc.nd (pd_add (pd_cal0 (ok__law_odd T) hr (by decide) (by rfl)) ((pf_lst (x1 := 0) (pad_cons (pd_tup (pad_cons (pd_tup (pad_cons pd_int (pad_cons pd_int pad_nil))) (pad_cons (pd_tup (pad_cons pd_int (pad_cons pd_int pad_nil))) pad_nil))) (pad_cons (pd_tup (pad_cons (pd_tup (pad_cons (pd_tup (pad_cons pd_int (pad_cons pd_int pad_nil))) pad_nil)) (pad_cons (pd_tup (pad_cons pd_int (pad_cons pd_int pad_nil))) pad_nil))) pad_nil)))).plain))
  (psd_cons (psd_for (passes_of rfl) rfl (pid_seq (pd_slice (pd_add ((pf_lst (x1 := 0) (pad_cons pd_int pad_nil))).plain (pd_var 0)) pod_none (pod_some pd_int))) (pgd_name 2 sc.nd)
  (psd_cons (psd_own 3 sc.nd (pf_cal (ok__law_pool T) none (takes_of rfl rfl rfl rfl) hr (by decide) (by rfl) (pva_cons (PEd.v (pd_var 2)) pva_nil)))
  (psd_cons (psd_set 4 sc.nd (pd_add pd_int (pd_cal (ok__law_next T) (some 0) (takes_of rfl rfl rfl rfl) hr (by decide) (by rfl) (pva_cons (pv_own 3) (pva_cons (PEd.v pd_int) pva_nil)))))
  (psd_cons (psd_set 5 sc.nd (pd_cal (ok__law_rows T) (some 0) (takes_of rfl rfl rfl rfl) hr (by decide) (by rfl) (pva_cons (pv_own 3) (pva_cons (PEd.v (pd_var 4)) (pva_cons (PEd.v pd_int) pva_nil)))))
  (psd_cons (psd_asg (pd_tup (pad_cons (pd_cal (ok__law_wide_point T) (some 0) (takes_of rfl rfl rfl rfl) hr (by decide) (by rfl) (pva_cons (pv_own 3) (pva_cons (PEd.v (pd_var 4)) pva_nil))) (pad_cons (pd_eq hu (pd_cal (ok__law_next T) (some 0) (takes_of rfl rfl rfl rfl) hr (by decide) (by rfl) (pva_cons (pv_own 3) (pva_cons (PEd.v pd_int) pva_nil))) pd_int) pad_nil))) (pgd_tup (n := 2) rfl (pgsd_cons (pgd_name 6 sc.nd) (pgsd_cons (pgd_name 7 sc.nd) pgsd_nil))))
  (psd_cons (psd_set 5 sc.nd (pd_if (ptd_val (pd_var 7)) (pd_cal (ok__law_great_rows T) (some 0) (takes_of rfl rfl rfl rfl) hr (by decide) (by rfl) (pva_cons (pv_own 3) (pva_cons (PEd.v (pd_var 5)) pva_nil))) (pd_var 5)))
  (psd_cons (psd_if (PWd.pt (pwd_and (ptd_not (ptd_val (pd_var 7))) (pwd_and1 (ptd_ne hu (pd_var 5) (pd_tup pad_nil)))))
  (psd_cons (psd_set 8 sc.nd (pd_cal (ok__law_one_of T) (some 0) (takes_of rfl rfl rfl rfl) hr (by decide) (by rfl) (pva_cons (pv_own 3) (pva_cons (PEd.v (pd_var 5)) pva_nil))))
  (psd_cons (psd_setC 9 (own := [("k", 10)]) rfl sc.nd rfl (pid_range1 T.z_range (pad_cons (pd_var 4) pad_nil)) (blkOk_by (by rfl)) (fun s0 H0 C0 cl0 fp0 => (pgd_name 10 sc.nd)) (fun s0 H0 C0 cl0 fp0 => (ptsd_one (ptd_ne hu (pd_ix (pd_ix (pd_ix (pd_var 8) pd_int) (pd_var 10)) pd_int) pd_int))) (fun s0 H0 C0 cl0 fp0 => (pd_var 10)))
  (psd_one (psd_if (ptd_ne hu (pd_var 9) ((pf_lst (x1 := 0) pad_nil)).plain)
  (psd_cons (psd_set 10 sc.nd (pd_cal (ok__law_one_of T) (some 0) (takes_of rfl rfl rfl rfl) hr (by decide) (by rfl) (pva_cons (pv_own 3) (pva_cons (PEd.v (pd_var 9)) pva_nil))))
  (psd_cons (psd_set 11 sc.nd (pd_cal (ok__law_minus T) none (takes_of rfl rfl rfl rfl) hr (by decide) (by rfl) (pva_cons (PEd.v (pd_ix (pd_var 8) pd_int)) (pva_cons (PEd.v (pd_cal (ok__law_dot T) none (takes_of rfl rfl rfl rfl) hr (by decide) (by rfl) (pva_cons (PEd.v (pd_ix (pd_var 8) pd_int)) (pva_cons (PEd.v (pd_add (pd_add (pd_slice (pd_var 6) pod_none (pod_some (pd_var 10))) (pd_tup (pad_cons (pd_tup (pad_cons pd_int (pad_cons pd_int pad_nil))) pad_nil))) (pd_slice (pd_var 6) (pod_some (pd_add (pd_var 10) pd_int)) pod_none))) pva_nil)))) pva_nil))))
  (psd_one (psd_set 6 sc.nd (pd_add (pd_add (pd_slice (pd_var 6) pod_none (pod_some (pd_var 10))) (pd_tup (pad_cons (pd_cal (ok__law_made T) none (takes_of rfl rfl rfl rfl) hr (by decide) (by rfl) (pva_cons (PEd.v (pd_mul (pd_ix (pd_var 11) pd_int) (pd_ix (pd_ix (pd_ix (pd_var 8) pd_int) (pd_var 10)) pd_int))) (pva_cons (PEd.v (pd_mul (pd_ix (pd_var 11) pd_int) (pd_ix (pd_ix (pd_ix (pd_var 8) pd_int) (pd_var 10)) pd_int))) pva_nil))) pad_nil))) (pd_slice (pd_var 6) (pod_some (pd_add (pd_var 10) pd_int)) pod_none))))))
  psd_nil))))
  psd_nil)
  (psd_cons (psd_set 12 sc.nd (pd_callTy call_tuple_of tuple_ok (by rfl) T.z_tuple (by decide +kernel) (pad_cons ((pf_comp (own := [("row", 8)]) rfl sc.nd (pid_seq (pd_var 5)) (blkOk_by (by rfl)) (fun s0 H0 C0 cl0 fp0 => (pgd_name 8 sc.nd)) (fun s0 H0 C0 cl0 fp0 => ptsd_nil) (fun s0 H0 C0 cl0 fp0 => (pd_cal (ok__law_minus T) none takesN hr (by decide) (by rfl) (pva_cons (PEd.v (pd_ix (pd_var 8) pd_int)) (pva_cons (PEd.v (pd_cal (ok__law_dot T) none takesN hr (by decide) (by rfl) (pva_cons (PEd.v (pd_ix (pd_var 8) pd_int)) (pva_cons (PEd.v (pd_var 6)) pva_nil)))) pva_nil)))))).plain pad_nil)))
  (psd_cons (psd_if (ptd_not (ptd_val (pd_cal (ok__law_same T 40) none (takes_of rfl rfl rfl rfl) hr (by decide) (by rfl) (pva_cons (PEd.v ((pf_lst (x1 := 0) (pad_cons (pd_cal (ok_is_rows T) none (takes_of rfl rfl rfl rfl) hr (by decide) (by rfl) (pva_cons (PEd.v (pd_var 5)) pva_nil)) (pad_cons (pd_cal (ok_holds T) none (takes_of rfl rfl rfl rfl) hr (by decide) (by rfl) (pva_cons (PEd.v (pd_var 5)) (pva_cons (PEd.v (pd_var 6)) pva_nil))) (pad_cons (pd_cal (ok_slack T) none (takes_of rfl rfl rfl rfl) hr (by decide) (by rfl) (pva_cons (PEd.v (pd_var 5)) (pva_cons (PEd.v (pd_var 6)) pva_nil))) pad_nil))))).plain) (pva_cons (PEd.v ((pf_lst (x1 := 0) (pad_cons pd_bl (pad_cons (pd_callB (cr_all rfl) all_ok (by rfl) T.z_all (by decide +kernel) (pad_cons ((pf_comp (own := [("one", 18)]) rfl sc.nd (pid_seq (pd_var 12)) (blkOk_by (by rfl)) (fun s0 H0 C0 cl0 fp0 => (pgd_name 18 sc.nd)) (fun s0 H0 C0 cl0 fp0 => ptsd_nil) (fun s0 H0 C0 cl0 fp0 => (pd_ge (pd_ix (pd_var 18) pd_int) pd_int)))).plain pad_nil)) (pad_cons (pd_var 12) pad_nil))))).plain) pva_nil)))))
  (psd_one (psd_ret pd_bl))
  psd_nil)
  (psd_cons (psd_set 13 sc.nd (pd_callTy call_tuple_of tuple_ok (by rfl) T.z_tuple (by decide +kernel) (pad_cons ((pf_comp (own := [("row", 8)]) rfl sc.nd (pid_seq (pd_var 5)) (blkOk_by (by rfl)) (fun s0 H0 C0 cl0 fp0 => (pgd_name 8 sc.nd)) (fun s0 H0 C0 cl0 fp0 => ptsd_nil) (fun s0 H0 C0 cl0 fp0 => (pd_cal (ok__law_one_of T) (some 0) takesN hr (by decide) (by rfl) (pva_cons (pv_own 3) (pva_cons (PEd.v ((pf_lst (x1 := 0) (pad_cons (pd_tup (pad_cons pd_int (pad_cons pd_int pad_nil))) (pad_cons (pd_tup (pad_cons pd_int (pad_cons pd_int pad_nil))) (pad_cons (pd_tup (pad_cons pd_int (pad_cons pd_int pad_nil))) (pad_cons (pd_tup (pad_cons pd_int (pad_cons pd_int pad_nil))) (pad_cons (pd_tup (pad_cons pd_int (pad_cons pd_int pad_nil))) (pad_cons (pd_tup (pad_cons (pd_add (pd_pow pd_int pd_int) pd_int) (pad_cons pd_int pad_nil))) pad_nil)))))))).plain) pva_nil)))))).plain pad_nil)))
  (psd_cons (psd_if (ptd_ne hu (pd_var 5) (pd_tup pad_nil))
  (psd_cons (psd_set 14 sc.nd (pd_cal (ok_sum_of_rows T) none (takes_of rfl rfl rfl rfl) hr (by decide) (by rfl) (pva_cons (PEd.v (pd_var 5)) (pva_cons (PEd.v (pd_var 13)) pva_nil))))
  (psd_cons (psd_if (ptd_not (ptd_val (pd_cal (ok__law_same T 40) none (takes_of rfl rfl rfl rfl) hr (by decide) (by rfl) (pva_cons (PEd.v (pd_var 14)) (pva_cons (PEd.v (pd_cal (ok__law_summed T) none (takes_of rfl rfl rfl rfl) hr (by decide) (by rfl) (pva_cons (PEd.v (pd_var 5)) (pva_cons (PEd.v (pd_var 13)) (pva_cons (PEd.v (pd_var 4)) pva_nil))))) pva_nil)))))
  (psd_one (psd_ret pd_bl))
  psd_nil)
  (psd_cons (psd_set 11 sc.nd (pd_tup (pad_cons pd_int (pad_cons pd_int pad_nil))))
  (psd_cons (psd_for (passes_of rfl) rfl (pid_range1 T.z_range (pad_cons (pd_callB call_len len_ok (by rfl) T.z_len (by decide +kernel) (pad_cons (pd_var 5) pad_nil)) pad_nil)) (pgd_name 10 sc.nd)
  (psd_one (psd_set 11 sc.nd (pd_cal (ok__law_plus T) none (takes_of rfl rfl rfl rfl) hr (by decide) (by rfl) (pva_cons (PEd.v (pd_var 11)) (pva_cons (PEd.v (pd_cal (ok__law_times T) none (takes_of rfl rfl rfl rfl) hr (by decide) (by rfl) (pva_cons (PEd.v (pd_ix (pd_var 13) (pd_var 10))) (pva_cons (PEd.v (pd_ix (pd_var 12) (pd_var 10))) pva_nil)))) pva_nil))))))
  (psd_cons (psd_if (PWd.pt (pwd_or (ptd_not (ptd_val (pd_cal (ok__law_same T 40) none (takes_of rfl rfl rfl rfl) hr (by decide) (by rfl) (pva_cons (PEd.v (pd_cal (ok_slack T) none (takes_of rfl rfl rfl rfl) hr (by decide) (by rfl) (pva_cons (PEd.v (pd_tup (pad_cons (pd_var 14) pad_nil))) (pva_cons (PEd.v (pd_var 6)) pva_nil)))) (pva_cons (PEd.v (pd_tup (pad_cons (pd_var 11) pad_nil))) pva_nil))))) (pwd_or1 (PWd.pt (pwd_and (ptd_val (pd_cal (ok_holds T) none (takes_of rfl rfl rfl rfl) hr (by decide) (by rfl) (pva_cons (PEd.v (pd_var 5)) (pva_cons (PEd.v (pd_var 6)) pva_nil)))) (pwd_and1 (ptd_not (ptd_val (pd_cal (ok_holds T) none (takes_of rfl rfl rfl rfl) hr (by decide) (by rfl) (pva_cons (PEd.v (pd_tup (pad_cons (pd_var 14) pad_nil))) (pva_cons (PEd.v (pd_var 6)) pva_nil)))))))))))
  (psd_one (psd_ret pd_bl))
  psd_nil)
  (psd_one (psd_if (PWd.pt (pwd_or (ptd_ne hu (pd_cal (ok__law_word_of T) none (takes_of rfl rfl rfl rfl) hr (by decide) (by rfl) (pva_cons (PEd.v pd_int) (pva_cons (PEd.v (pd_var 5)) (pva_cons (PEd.v (pd_slice (pd_var 13) (pod_some pd_int) pod_none)) pva_nil)))) pd_str) (pwd_or1 (ptd_ne hu (pd_cal (ok__law_word_of T) none (takes_of rfl rfl rfl rfl) hr (by decide) (by rfl) (pva_cons (PEd.v pd_int) (pva_cons (PEd.v (pd_var 5)) (pva_cons (PEd.v (pd_add (pd_slice (pd_var 13) pod_none (pod_some (pd_neg pd_int))) (pd_tup (pad_cons (pd_tup (pad_cons (pd_neg pd_int) (pad_cons pd_int pad_nil))) pad_nil)))) pva_nil)))) pd_str))))
  (psd_one (psd_ret pd_bl))
  psd_nil)))))))
  (psd_one (psd_if (ptd_ne hu (pd_cal (ok__law_word_of T) none (takes_of rfl rfl rfl rfl) hr (by decide) (by rfl) (pva_cons (PEd.v pd_int) (pva_cons (PEd.v (pd_var 5)) (pva_cons (PEd.v (pd_tup pad_nil)) pva_nil)))) pd_str)
  (psd_one (psd_ret pd_bl))
  psd_nil)))
  (psd_cons (psd_for (passes_of rfl) rfl (pid_range1 T.z_range (pad_cons pd_int pad_nil)) (pgd_name 15 sc.nd)
  (psd_cons (psd_set 16 sc.nd (pd_cal (ok__law_bent T 40) (some 0) (takes_of rfl rfl rfl rfl) hr (by decide) (by rfl) (pva_cons (pv_own 3) (pva_cons (PEd.v (pd_var 5)) (pva_cons (PEd.v (pd_var 1)) pva_nil)))))
  (psd_cons (psd_set 17 sc.nd (pd_cal (ok__law_is_rows T) none (takes_of rfl rfl rfl rfl) hr (by decide) (by rfl) (pva_cons (PEd.v (pd_var 16)) (pva_cons (PEd.v pd_int) pva_nil))))
  (psd_one (psd_if (PWd.pt (pwd_or (ptd_not (ptd_val (pd_cal (ok__law_same T 40) none (takes_of rfl rfl rfl rfl) hr (by decide) (by rfl) (pva_cons (PEd.v (pd_calK0 (ok_is_rows T) none (takes_of rfl rfl rfl rfl) hr (by decide) (by rfl) (pvk_cons (PEd.v (pd_var 16)) pvk_nil))) (pva_cons (PEd.v (pd_var 17)) pva_nil))))) (pwd_or1 (PWd.pt (pwd_and (ptd_not (ptd_val (pd_var 17))) (pwd_and1 (ptd_ne hu (pd_cal (ok__law_words_of T) none (takes_of rfl rfl rfl rfl) hr (by decide) (by rfl) (pva_cons (PEd.v (pd_var 16)) (pva_cons (PEd.v pd_non) pva_nil))) (pd_mul ((pf_lst (x1 := 0) (pad_cons pd_str pad_nil))).plain pd_int))))))))
  (psd_one (psd_ret pd_bl))
  psd_nil)))))
  (psd_cons (psd_for (passes_of rfl) rfl (pid_seq ((pf_lst (x1 := 0) (pad_cons (pd_add (pd_var 6) (pd_tup (pad_cons (pd_tup (pad_cons pd_int (pad_cons pd_int pad_nil))) pad_nil))) (pad_cons (pd_slice (pd_var 6) pod_none (pod_some (pd_neg pd_int))) (pad_cons (pd_callTy call_list_of list_ok (by rfl) T.z_list (by decide +kernel) (pad_cons (pd_var 6) pad_nil)) (pad_cons pd_non (pad_cons (pd_add (pd_tup (pad_cons (pd_tup (pad_cons pd_int (pad_cons pd_int pad_nil))) pad_nil)) (pd_slice (pd_var 6) (pod_some pd_int) pod_none)) (pad_cons (pd_tup pad_nil) pad_nil)))))))).plain) (pgd_name 16 sc.nd)
  (psd_cons (psd_set 12 sc.nd (pd_if (ptd_val (pd_cal (ok__law_is_point T) none (takes_of rfl rfl rfl rfl) hr (by decide) (by rfl) (pva_cons (PEd.v (pd_var 16)) (pva_cons (PEd.v (pd_if (ptd_ne hu (pd_var 5) (pd_tup pad_nil)) (pd_var 4) pd_int)) pva_nil)))) pd_str pd_str))
  (psd_one (psd_if (ptd_ne hu ((pf_comp (own := [("which", 19)]) rfl sc.nd (pid_range1 T.z_range (pad_cons pd_int pad_nil)) (blkOk_by (by rfl)) (fun s0 H0 C0 cl0 fp0 => (pgd_name 19 sc.nd)) (fun s0 H0 C0 cl0 fp0 => ptsd_nil) (fun s0 H0 C0 cl0 fp0 => (pd_cal (ok__law_word_of T) none takesN hr (by decide) (by rfl) (pva_cons (PEd.v (pd_var 19)) (pva_cons (PEd.v (pd_var 5)) (pva_cons (PEd.v (pd_var 16)) pva_nil))))))).plain (pd_mul ((pf_lst (x1 := 0) (pad_cons (pd_var 12) pad_nil))).plain pd_int))
  (psd_one (psd_ret pd_bl))
  psd_nil))))
  (psd_one (psd_if (ptd_not (ptd_val (pd_cal (ok__law_same T 40) none (takes_of rfl rfl rfl rfl) hr (by decide) (by rfl) (pva_cons (PEd.v (pd_cal (ok_is_rows T) none (takes_of rfl rfl rfl rfl) hr (by decide) (by rfl) (pva_cons (PEd.v (pd_add (pd_var 5) (pd_tup (pad_cons (pd_tup (pad_cons (pd_cal (ok__law_zeros T) none (takes_of rfl rfl rfl rfl) hr (by decide) (by rfl) (pva_cons (PEd.v (pd_add (pd_var 4) pd_int)) pva_nil)) (pad_cons (pd_tup (pad_cons pd_int (pad_cons pd_int pad_nil))) pad_nil))) pad_nil)))) pva_nil))) (pva_cons (PEd.v (pd_eq hu (pd_var 5) (pd_tup pad_nil))) pva_nil)))))
  (psd_one (psd_ret pd_bl))
  psd_nil)))))))))))))))
  (psd_one (psd_ret pd_bl)))))
end
end K06

open PySem PySem.W PyProof.Rows
set_option maxRecDepth 100000 in
set_option maxHeartbeats 0 in
theorem PySem.Challenge.cw_leastbounds_k06_rows_and_points_holds : PySem.Challenge.rw_leastbounds_k06_rows_and_points.Holds := by
  w_on; o_law; k_head; (case hw => w_witness2)
  k_fill
  refine Pd.walk (l := PySem.Challenge.rw_leastbounds_k06_rows_and_points) (k := 43) (m := F.r_law) (st := K06.s_law) (kn := []) rfl rfl ⟨rfl, by decide, by decide⟩ rfl (fun w h Y => PySem.W.kIn_of Y) K06.law_plain K06.bn_law ?F
  case F =>
    intro w mg h KX G
    have f_made : Pd.FunXT KX mg "made" K06.s_made ["n", "d"] [] := by
      refine' Pd.funX_mk KX G ?a1 ?l1 ?c1 ?k1 K06.bn_made Pd.all_nil
      (case a1 => k_is); (case l1 => k_is); (case c1 => k_is); (case k1 => k_is)
    have f_plus : Pd.FunXT KX mg "plus" K06.s_plus ["one", "other"] [] := by
      refine' Pd.funX_mk KX G ?a2 ?l2 ?c2 ?k2 K06.bn_plus Pd.all_nil
      (case a2 => k_is); (case l2 => k_is); (case c2 => k_is); (case k2 => k_is)
    have f_minus : Pd.FunXT KX mg "minus" K06.s_minus ["one", "other"] [] := by
      refine' Pd.funX_mk KX G ?a3 ?l3 ?c3 ?k3 K06.bn_minus Pd.all_nil
      (case a3 => k_is); (case l3 => k_is); (case c3 => k_is); (case k3 => k_is)
    have f_mult : Pd.FunXT KX mg "mult" K06.s_mult ["one", "other"] [] := by
      refine' Pd.funX_mk KX G ?a4 ?l4 ?c4 ?k4 K06.bn_mult Pd.all_nil
      (case a4 => k_is); (case l4 => k_is); (case c4 => k_is); (case k4 => k_is)
    have f_at_most : Pd.FunXT KX mg "at_most" K06.s_at_most ["one", "other"] [] := by
      refine' Pd.funX_mk KX G ?a5 ?l5 ?c5 ?k5 K06.bn_at_most Pd.all_nil
      (case a5 => k_is); (case l5 => k_is); (case c5 => k_is); (case k5 => k_is)
    have f_added_up : Pd.FunXT KX mg "added_up" K06.s_added_up ["row"] [] := by
      refine' Pd.funX_mk KX G ?a6 ?l6 ?c6 ?k6 K06.bn_added_up Pd.all_nil
      (case a6 => k_is); (case l6 => k_is); (case c6 => k_is); (case k6 => k_is)
    have f_dot : Pd.FunXT KX mg "dot" K06.s_dot ["one", "other"] [] := by
      refine' Pd.funX_mk KX G ?a7 ?l7 ?c7 ?k7 K06.bn_dot Pd.all_nil
      (case a7 => k_is); (case l7 => k_is); (case c7 => k_is); (case k7 => k_is)
    have f_is_int : Pd.FunXT KX mg "is_int" K06.s_is_int ["value"] [] := by
      refine' Pd.funX_mk KX G ?a8 ?l8 ?c8 ?k8 K06.bn_is_int Pd.all_nil
      (case a8 => k_is); (case l8 => k_is); (case c8 => k_is); (case k8 => k_is)
    have f_is_row : Pd.FunXT KX mg "is_row" K06.s_is_row ["value", "size"] [] := by
      refine' Pd.funX_mk KX G ?a9 ?l9 ?c9 ?k9 K06.bn_is_row Pd.all_nil
      (case a9 => k_is); (case l9 => k_is); (case c9 => k_is); (case k9 => k_is)
    have f_fits_fraction : Pd.FunXT KX mg "fits_fraction" K06.s_fits_fraction ["value"] [] := by
      refine' Pd.funX_mk KX G ?a10 ?l10 ?c10 ?k10 K06.bn_fits_fraction Pd.all_nil
      (case a10 => k_is); (case l10 => k_is); (case c10 => k_is); (case k10 => k_is)
    have f_fits_point : Pd.FunXT KX mg "fits_point" K06.s_fits_point ["value"] [] := by
      refine' Pd.funX_mk KX G ?a11 ?l11 ?c11 ?k11 K06.bn_fits_point Pd.all_nil
      (case a11 => k_is); (case l11 => k_is); (case c11 => k_is); (case k11 => k_is)
    have f_fits_wide_point : Pd.FunXT KX mg "fits_wide_point" K06.s_fits_wide_point ["value", "width"] [] := by
      refine' Pd.funX_mk KX G ?a12 ?l12 ?c12 ?k12 K06.bn_fits_wide_point Pd.all_nil
      (case a12 => k_is); (case l12 => k_is); (case c12 => k_is); (case k12 => k_is)
    have f_fits_line : Pd.FunXT KX mg "fits_line" K06.s_fits_line ["value", "width"] [] := by
      refine' Pd.funX_mk KX G ?a13 ?l13 ?c13 ?k13 K06.bn_fits_line Pd.all_nil
      (case a13 => k_is); (case l13 => k_is); (case c13 => k_is); (case k13 => k_is)
    have f_fits_wide_rows : Pd.FunXT KX mg "fits_wide_rows" K06.s_fits_wide_rows ["value", "width"] [] := by
      refine' Pd.funX_mk KX G ?a14 ?l14 ?c14 ?k14 K06.bn_fits_wide_rows Pd.all_nil
      (case a14 => k_is); (case l14 => k_is); (case c14 => k_is); (case k14 => k_is)
    have f_fits_rows : Pd.FunXT KX mg "fits_rows" K06.s_fits_rows ["value"] [] := by
      refine' Pd.funX_mk KX G ?a15 ?l15 ?c15 ?k15 K06.bn_fits_rows Pd.all_nil
      (case a15 => k_is); (case l15 => k_is); (case c15 => k_is); (case k15 => k_is)
    have f_fits_multipliers : Pd.FunXT KX mg "fits_multipliers" K06.s_fits_multipliers ["value", "count"] [] := by
      refine' Pd.funX_mk KX G ?a16 ?l16 ?c16 ?k16 K06.bn_fits_multipliers Pd.all_nil
      (case a16 => k_is); (case l16 => k_is); (case c16 => k_is); (case k16 => k_is)
    have f_row_holds : Pd.FunXT KX mg "row_holds" K06.s_row_holds ["row", "point"] [] := by
      refine' Pd.funX_mk KX G ?a17 ?l17 ?c17 ?k17 K06.bn_row_holds Pd.all_nil
      (case a17 => k_is); (case l17 => k_is); (case c17 => k_is); (case k17 => k_is)
    have f_rows_hold : Pd.FunXT KX mg "rows_hold" K06.s_rows_hold ["rows", "point"] [] := by
      refine' Pd.funX_mk KX G ?a18 ?l18 ?c18 ?k18 K06.bn_rows_hold Pd.all_nil
      (case a18 => k_is); (case l18 => k_is); (case c18 => k_is); (case k18 => k_is)
    have f_summed : Pd.FunXT KX mg "summed" K06.s_summed ["rows", "multipliers", "width"] [] := by
      refine' Pd.funX_mk KX G ?a19 ?l19 ?c19 ?k19 K06.bn_summed Pd.all_nil
      (case a19 => k_is); (case l19 => k_is); (case c19 => k_is); (case k19 => k_is)
    have f_check_rows : Pd.FunXT KX mg "check_rows" K06.s_check_rows ["rows"] [] := by
      refine' Pd.funX_mk KX G ?a20 ?l20 ?c20 ?k20 K06.bn_check_rows Pd.all_nil
      (case a20 => k_is); (case l20 => k_is); (case c20 => k_is); (case k20 => k_is)
    have f_check_some_rows : Pd.FunXT KX mg "check_some_rows" K06.s_check_some_rows ["rows"] [] := by
      refine' Pd.funX_mk KX G ?a21 ?l21 ?c21 ?k21 K06.bn_check_some_rows Pd.all_nil
      (case a21 => k_is); (case l21 => k_is); (case c21 => k_is); (case k21 => k_is)
    have f_check_points : Pd.FunXT KX mg "check_points" K06.s_check_points ["rows", "point"] [] := by
      refine' Pd.funX_mk KX G ?a22 ?l22 ?c22 ?k22 K06.bn_check_points Pd.all_nil
      (case a22 => k_is); (case l22 => k_is); (case c22 => k_is); (case k22 => k_is)
    have f_is_rows : Pd.FunXT KX mg "is_rows" K06.s_is_rows ["value"] [0] := by
      refine' Pd.funX_mk KX G ?a23 ?l23 ?c23 ?k23 K06.bn_is_rows (Pd.all_cons K06.kb_is_rows_0 Pd.all_nil)
      (case a23 => k_is); (case l23 => k_is); (case c23 => k_is); (case k23 => k_is)
    have f_holds : Pd.FunXT KX mg "holds" K06.s_holds ["rows", "point"] [] := by
      refine' Pd.funX_mk KX G ?a24 ?l24 ?c24 ?k24 K06.bn_holds Pd.all_nil
      (case a24 => k_is); (case l24 => k_is); (case c24 => k_is); (case k24 => k_is)
    have f_slack : Pd.FunXT KX mg "slack" K06.s_slack ["rows", "point"] [] := by
      refine' Pd.funX_mk KX G ?a25 ?l25 ?c25 ?k25 K06.bn_slack Pd.all_nil
      (case a25 => k_is); (case l25 => k_is); (case c25 => k_is); (case k25 => k_is)
    have f_sum_of_rows : Pd.FunXT KX mg "sum_of_rows" K06.s_sum_of_rows ["rows", "multipliers"] [] := by
      refine' Pd.funX_mk KX G ?a26 ?l26 ?c26 ?k26 K06.bn_sum_of_rows Pd.all_nil
      (case a26 => k_is); (case l26 => k_is); (case c26 => k_is); (case k26 => k_is)
    have f__law_pool : Pd.FunXT KX mg "_law_pool" K06.s__law_pool ["cell"] [] := by
      refine' Pd.funX_mk KX G ?a27 ?l27 ?c27 ?k27 K06.bn__law_pool Pd.all_nil
      (case a27 => k_is); (case l27 => k_is); (case c27 => k_is); (case k27 => k_is)
    have f__law_next : Pd.FunXT KX mg "_law_next" K06.s__law_next ["pool", "many"] [] := by
      refine' Pd.funX_mk KX G ?a28 ?l28 ?c28 ?k28 K06.bn__law_next Pd.all_nil
      (case a28 => k_is); (case l28 => k_is); (case c28 => k_is); (case k28 => k_is)
    have f__law_one_of : Pd.FunXT KX mg "_law_one_of" K06.s__law_one_of ["pool", "row"] [] := by
      refine' Pd.funX_mk KX G ?a29 ?l29 ?c29 ?k29 K06.bn__law_one_of Pd.all_nil
      (case a29 => k_is); (case l29 => k_is); (case c29 => k_is); (case k29 => k_is)
    have f__law_same : Pd.FunXT KX mg "_law_same" K06.s__law_same ["found", "due"] [] := by
      refine' Pd.funX_mk KX G ?a30 ?l30 ?c30 ?k30 K06.bn__law_same Pd.all_nil
      (case a30 => k_is); (case l30 => k_is); (case c30 => k_is); (case k30 => k_is)
    have f__law_bent : Pd.FunXT KX mg "_law_bent" K06.s__law_bent ["pool", "value", "odd"] [] := by
      refine' Pd.funX_mk KX G ?a31 ?l31 ?c31 ?k31 K06.bn__law_bent Pd.all_nil
      (case a31 => k_is); (case l31 => k_is); (case c31 => k_is); (case k31 => k_is)
    have f__law_odd : Pd.FunXT KX mg "_law_odd" K06.s__law_odd [] [] := by
      refine' Pd.funX_mk KX G ?a32 ?l32 ?c32 ?k32 K06.bn__law_odd Pd.all_nil
      (case a32 => k_is); (case l32 => k_is); (case c32 => k_is); (case k32 => k_is)
    have f__law_gcd : Pd.FunXT KX mg "_law_gcd" K06.s__law_gcd ["a", "b"] [] := by
      refine' Pd.funX_mk KX G ?a33 ?l33 ?c33 ?k33 K06.bn__law_gcd Pd.all_nil
      (case a33 => k_is); (case l33 => k_is); (case c33 => k_is); (case k33 => k_is)
    have f__law_made : Pd.FunXT KX mg "_law_made" K06.s__law_made ["n", "d"] [] := by
      refine' Pd.funX_mk KX G ?a34 ?l34 ?c34 ?k34 K06.bn__law_made Pd.all_nil
      (case a34 => k_is); (case l34 => k_is); (case c34 => k_is); (case k34 => k_is)
    have f__law_plus : Pd.FunXT KX mg "_law_plus" K06.s__law_plus ["one", "other"] [] := by
      refine' Pd.funX_mk KX G ?a35 ?l35 ?c35 ?k35 K06.bn__law_plus Pd.all_nil
      (case a35 => k_is); (case l35 => k_is); (case c35 => k_is); (case k35 => k_is)
    have f__law_turned : Pd.FunXT KX mg "_law_turned" K06.s__law_turned ["one"] [] := by
      refine' Pd.funX_mk KX G ?a36 ?l36 ?c36 ?k36 K06.bn__law_turned Pd.all_nil
      (case a36 => k_is); (case l36 => k_is); (case c36 => k_is); (case k36 => k_is)
    have f__law_minus : Pd.FunXT KX mg "_law_minus" K06.s__law_minus ["one", "other"] [] := by
      refine' Pd.funX_mk KX G ?a37 ?l37 ?c37 ?k37 K06.bn__law_minus Pd.all_nil
      (case a37 => k_is); (case l37 => k_is); (case c37 => k_is); (case k37 => k_is)
    have f__law_times : Pd.FunXT KX mg "_law_times" K06.s__law_times ["one", "other"] [] := by
      refine' Pd.funX_mk KX G ?a38 ?l38 ?c38 ?k38 K06.bn__law_times Pd.all_nil
      (case a38 => k_is); (case l38 => k_is); (case c38 => k_is); (case k38 => k_is)
    have f__law_dot : Pd.FunXT KX mg "_law_dot" K06.s__law_dot ["one", "other"] [] := by
      refine' Pd.funX_mk KX G ?a39 ?l39 ?c39 ?k39 K06.bn__law_dot Pd.all_nil
      (case a39 => k_is); (case l39 => k_is); (case c39 => k_is); (case k39 => k_is)
    have f__law_is_int : Pd.FunXT KX mg "_law_is_int" K06.s__law_is_int ["value"] [] := by
      refine' Pd.funX_mk KX G ?a40 ?l40 ?c40 ?k40 K06.bn__law_is_int Pd.all_nil
      (case a40 => k_is); (case l40 => k_is); (case c40 => k_is); (case k40 => k_is)
    have f__law_is_tuple : Pd.FunXT KX mg "_law_is_tuple" K06.s__law_is_tuple ["value", "size"] [] := by
      refine' Pd.funX_mk KX G ?a41 ?l41 ?c41 ?k41 K06.bn__law_is_tuple Pd.all_nil
      (case a41 => k_is); (case l41 => k_is); (case c41 => k_is); (case k41 => k_is)
    have f__law_is_fraction : Pd.FunXT KX mg "_law_is_fraction" K06.s__law_is_fraction ["value"] [] := by
      refine' Pd.funX_mk KX G ?a42 ?l42 ?c42 ?k42 K06.bn__law_is_fraction Pd.all_nil
      (case a42 => k_is); (case l42 => k_is); (case c42 => k_is); (case k42 => k_is)
    have f__law_is_point : Pd.FunXT KX mg "_law_is_point" K06.s__law_is_point ["value", "width"] [] := by
      refine' Pd.funX_mk KX G ?a43 ?l43 ?c43 ?k43 K06.bn__law_is_point Pd.all_nil
      (case a43 => k_is); (case l43 => k_is); (case c43 => k_is); (case k43 => k_is)
    have f__law_is_line : Pd.FunXT KX mg "_law_is_line" K06.s__law_is_line ["value", "width"] [] := by
      refine' Pd.funX_mk KX G ?a44 ?l44 ?c44 ?k44 K06.bn__law_is_line Pd.all_nil
      (case a44 => k_is); (case l44 => k_is); (case c44 => k_is); (case k44 => k_is)
    have f__law_is_rows : Pd.FunXT KX mg "_law_is_rows" K06.s__law_is_rows ["value", "width"] [] := by
      refine' Pd.funX_mk KX G ?a45 ?l45 ?c45 ?k45 K06.bn__law_is_rows Pd.all_nil
      (case a45 => k_is); (case l45 => k_is); (case c45 => k_is); (case k45 => k_is)
    have f__law_summed : Pd.FunXT KX mg "_law_summed" K06.s__law_summed ["rows", "multipliers", "width"] [] := by
      refine' Pd.funX_mk KX G ?a46 ?l46 ?c46 ?k46 K06.bn__law_summed Pd.all_nil
      (case a46 => k_is); (case l46 => k_is); (case c46 => k_is); (case k46 => k_is)
    have f__law_zeros : Pd.FunXT KX mg "_law_zeros" K06.s__law_zeros ["width"] [] := by
      refine' Pd.funX_mk KX G ?a47 ?l47 ?c47 ?k47 K06.bn__law_zeros Pd.all_nil
      (case a47 => k_is); (case l47 => k_is); (case c47 => k_is); (case k47 => k_is)
    have f__law_unit : Pd.FunXT KX mg "_law_unit" K06.s__law_unit ["width", "k", "n"] [] := by
      refine' Pd.funX_mk KX G ?a48 ?l48 ?c48 ?k48 K06.bn__law_unit Pd.all_nil
      (case a48 => k_is); (case l48 => k_is); (case c48 => k_is); (case k48 => k_is)
    have f__law_small : Pd.FunXT KX mg "_law_small" K06.s__law_small ["pool"] [] := by
      refine' Pd.funX_mk KX G ?a49 ?l49 ?c49 ?k49 K06.bn__law_small Pd.all_nil
      (case a49 => k_is); (case l49 => k_is); (case c49 => k_is); (case k49 => k_is)
    have f__law_great : Pd.FunXT KX mg "_law_great" K06.s__law_great ["pool", "sizes"] [] := by
      refine' Pd.funX_mk KX G ?a50 ?l50 ?c50 ?k50 K06.bn__law_great Pd.all_nil
      (case a50 => k_is); (case l50 => k_is); (case c50 => k_is); (case k50 => k_is)
    have f__law_coefficients : Pd.FunXT KX mg "_law_coefficients" K06.s__law_coefficients ["pool", "width"] [] := by
      refine' Pd.funX_mk KX G ?a51 ?l51 ?c51 ?k51 K06.bn__law_coefficients Pd.all_nil
      (case a51 => k_is); (case l51 => k_is); (case c51 => k_is); (case k51 => k_is)
    have f__law_row : Pd.FunXT KX mg "_law_row" K06.s__law_row ["pool", "width"] [] := by
      refine' Pd.funX_mk KX G ?a52 ?l52 ?c52 ?k52 K06.bn__law_row Pd.all_nil
      (case a52 => k_is); (case l52 => k_is); (case c52 => k_is); (case k52 => k_is)
    have f__law_rows : Pd.FunXT KX mg "_law_rows" K06.s__law_rows ["pool", "width", "most"] [] := by
      refine' Pd.funX_mk KX G ?a53 ?l53 ?c53 ?k53 K06.bn__law_rows Pd.all_nil
      (case a53 => k_is); (case l53 => k_is); (case c53 => k_is); (case k53 => k_is)
    have f__law_wide_point : Pd.FunXT KX mg "_law_wide_point" K06.s__law_wide_point ["pool", "width"] [] := by
      refine' Pd.funX_mk KX G ?a54 ?l54 ?c54 ?k54 K06.bn__law_wide_point Pd.all_nil
      (case a54 => k_is); (case l54 => k_is); (case c54 => k_is); (case k54 => k_is)
    have f__law_word_of : Pd.FunXT KX mg "_law_word_of" K06.s__law_word_of ["which", "rows", "point"] [] := by
      refine' Pd.funX_mk KX G ?a55 ?l55 ?c55 ?k55 K06.bn__law_word_of Pd.all_nil
      (case a55 => k_is); (case l55 => k_is); (case c55 => k_is); (case k55 => k_is)
    have f__law_words_of : Pd.FunXT KX mg "_law_words_of" K06.s__law_words_of ["rows", "point"] [] := by
      refine' Pd.funX_mk KX G ?a56 ?l56 ?c56 ?k56 K06.bn__law_words_of Pd.all_nil
      (case a56 => k_is); (case l56 => k_is); (case c56 => k_is); (case k56 => k_is)
    have f__law_great_rows : Pd.FunXT KX mg "_law_great_rows" K06.s__law_great_rows ["pool", "rows"] [] := by
      refine' Pd.funX_mk KX G ?a57 ?l57 ?c57 ?k57 K06.bn__law_great_rows Pd.all_nil
      (case a57 => k_is); (case l57 => k_is); (case c57 => k_is); (case k57 => k_is)
    have f_law : Pd.FunXT KX mg "law" K06.s_law ["script"] [] := by
      refine' Pd.funX_mk KX G ?a58 ?l58 ?c58 ?k58 K06.bn_law Pd.all_nil
      (case a58 => k_is); (case l58 => k_is); (case c58 => k_is); (case k58 => k_is)
    have z_abs : mg "abs" = none := by
      refine' PySem.W.mg_none_of KX G ?a59
      (case a59 => k_is)
    have z_all : mg "all" = none := by
      refine' PySem.W.mg_none_of KX G ?a60
      (case a60 => k_is)
    have z_bool : mg "bool" = none := by
      refine' PySem.W.mg_none_of KX G ?a61
      (case a61 => k_is)
    have z_gcd : mg "gcd" = some (.builtin "math.gcd") := by
      refine' PySem.W.mg_of KX G ?a62
      (case a62 => k_is)
    have z_int : mg "int" = none := by
      refine' PySem.W.mg_none_of KX G ?a63
      (case a63 => k_is)
    have z_isinstance : mg "isinstance" = none := by
      refine' PySem.W.mg_none_of KX G ?a64
      (case a64 => k_is)
    have z_len : mg "len" = none := by
      refine' PySem.W.mg_none_of KX G ?a65
      (case a65 => k_is)
    have z_list : mg "list" = none := by
      refine' PySem.W.mg_none_of KX G ?a66
      (case a66 => k_is)
    have z_max : mg "max" = none := by
      refine' PySem.W.mg_none_of KX G ?a67
      (case a67 => k_is)
    have z_range : mg "range" = none := by
      refine' PySem.W.mg_none_of KX G ?a68
      (case a68 => k_is)
    have z_set : mg "set" = none := by
      refine' PySem.W.mg_none_of KX G ?a69
      (case a69 => k_is)
    have z_str : mg "str" = none := by
      refine' PySem.W.mg_none_of KX G ?a70
      (case a70 => k_is)
    have z_tuple : mg "tuple" = none := by
      refine' PySem.W.mg_none_of KX G ?a71
      (case a71 => k_is)
    have z_zip : mg "zip" = none := by
      refine' PySem.W.mg_none_of KX G ?a72
      (case a72 => k_is)
    have g_ZERO : Pd.GlobXT KX mg "ZERO" (.tup [.int 0, .int 1]) := by
      refine' Pd.globX_mk KX G ?a73 ?v73
      (case a73 => k_is)
      (case v73 =>
        refine' Pd.gval_tup ?l74 ?z74 ?g74
        (case l74 => k_is); (case z74 => first | decide | (rw [sizeLine_eq]; decide) | decide +kernel)
        (case g74 => exact ⟨_, _, rfl, ⟨_, rfl⟩, _, _, rfl, ⟨_, rfl⟩, rfl⟩))
    have x_InvalidPoint : Pd.ExcXT KX mg "InvalidPoint" := by
      refine' Pd.excX_mk KX G PySem.F.excBase_ValueError ?a75 ?q75 ?k75 ?b75 ?t75
      (case a75 => k_is); (case q75 => k_exc); (case k75 => k_is); (case b75 => k_is); (case t75 => k_is)
    have x_InvalidRows : Pd.ExcXT KX mg "InvalidRows" := by
      refine' Pd.excX_mk KX G PySem.F.excBase_ValueError ?a76 ?q76 ?k76 ?b76 ?t76
      (case a76 => k_is); (case q76 => k_exc); (case k76 => k_is); (case b76 => k_is); (case t76 => k_is)
    have m_InvalidPoint_InvalidPoint : Pd.ExmXT KX mg "InvalidPoint" "InvalidPoint" true := by
      refine' Pd.exmX_mk KX G ?u77 ?v77 ?b77 ?i77 ?t77 ?s77
      (case u77 => k_is); (case v77 => k_is); (case b77 => k_is); (case i77 => k_is); (case t77 => k_is); (case s77 => first | rfl | k_is)
    have m_InvalidPoint_InvalidRows : Pd.ExmXT KX mg "InvalidPoint" "InvalidRows" false := by
      refine' Pd.exmX_mk KX G ?u78 ?v78 ?b78 ?i78 ?t78 ?s78
      (case u78 => k_is); (case v78 => k_is); (case b78 => k_is); (case i78 => k_is); (case t78 => k_is); (case s78 => first | rfl | k_is)
    have m_InvalidRows_InvalidPoint : Pd.ExmXT KX mg "InvalidRows" "InvalidPoint" false := by
      refine' Pd.exmX_mk KX G ?u79 ?v79 ?b79 ?i79 ?t79 ?s79
      (case u79 => k_is); (case v79 => k_is); (case b79 => k_is); (case i79 => k_is); (case t79 => k_is); (case s79 => first | rfl | k_is)
    have m_InvalidRows_InvalidRows : Pd.ExmXT KX mg "InvalidRows" "InvalidRows" true := by
      refine' Pd.exmX_mk KX G ?u80 ?v80 ?b80 ?i80 ?t80 ?s80
      (case u80 => k_is); (case v80 => k_is); (case b80 => k_is); (case i80 => k_is); (case t80 => k_is); (case s80 => first | rfl | k_is)
    have k_InvalidPoint_BoundError : Pd.KitXT KX mg "InvalidPoint" "BoundError" true := by
      refine' Pd.kitX_cls KX G ⟨?e1_81, ?e2_81, ?e3_81, ?e4_81, ?e5_81, ?e6_81, ?e7_81, ?e8_81⟩ ?u81 ?v81 ?i81 ?t81 ?s81 ?n81
      (case u81 => k_is); (case v81 => k_is); (case i81 => k_is); (case t81 => k_is); (case s81 => first | rfl | k_is); (case n81 => first | exact .inr rfl | exact .inl (by decide +kernel))
      (case e1_81 => k_is); (case e2_81 => k_is); (case e3_81 => k_is); (case e4_81 => k_is); (case e5_81 => k_is); (case e6_81 => k_is); (case e7_81 => k_is); (case e8_81 => k_is)
    have k_InvalidPoint_InvalidPoint : Pd.KitXT KX mg "InvalidPoint" "InvalidPoint" true := by
      refine' Pd.kitX_cls KX G ⟨?e1_82, ?e2_82, ?e3_82, ?e4_82, ?e5_82, ?e6_82, ?e7_82, ?e8_82⟩ ?u82 ?v82 ?i82 ?t82 ?s82 ?n82
      (case u82 => k_is); (case v82 => k_is); (case i82 => k_is); (case t82 => k_is); (case s82 => first | rfl | k_is); (case n82 => first | exact .inr rfl | exact .inl (by decide +kernel))
      (case e1_82 => k_is); (case e2_82 => k_is); (case e3_82 => k_is); (case e4_82 => k_is); (case e5_82 => k_is); (case e6_82 => k_is); (case e7_82 => k_is); (case e8_82 => k_is)
    have k_InvalidRows_BoundError : Pd.KitXT KX mg "InvalidRows" "BoundError" true := by
      refine' Pd.kitX_cls KX G ⟨?e1_83, ?e2_83, ?e3_83, ?e4_83, ?e5_83, ?e6_83, ?e7_83, ?e8_83⟩ ?u83 ?v83 ?i83 ?t83 ?s83 ?n83
      (case u83 => k_is); (case v83 => k_is); (case i83 => k_is); (case t83 => k_is); (case s83 => first | rfl | k_is); (case n83 => first | exact .inr rfl | exact .inl (by decide +kernel))
      (case e1_83 => k_is); (case e2_83 => k_is); (case e3_83 => k_is); (case e4_83 => k_is); (case e5_83 => k_is); (case e6_83 => k_is); (case e7_83 => k_is); (case e8_83 => k_is)
    have k_InvalidRows_InvalidPoint : Pd.KitXT KX mg "InvalidRows" "InvalidPoint" false := by
      refine' Pd.kitX_cls KX G ⟨?e1_84, ?e2_84, ?e3_84, ?e4_84, ?e5_84, ?e6_84, ?e7_84, ?e8_84⟩ ?u84 ?v84 ?i84 ?t84 ?s84 ?n84
      (case u84 => k_is); (case v84 => k_is); (case i84 => k_is); (case t84 => k_is); (case s84 => first | rfl | k_is); (case n84 => first | exact .inr rfl | exact .inl (by decide +kernel))
      (case e1_84 => k_is); (case e2_84 => k_is); (case e3_84 => k_is); (case e4_84 => k_is); (case e5_84 => k_is); (case e6_84 => k_is); (case e7_84 => k_is); (case e8_84 => k_is)
    exact ⟨f_law, fun base => K06.ok_law { f_made := f_made, f_plus := f_plus, f_minus := f_minus, f_mult := f_mult, f_at_most := f_at_most, f_added_up := f_added_up, f_dot := f_dot, f_is_int := f_is_int, f_is_row := f_is_row, f_fits_fraction := f_fits_fraction, f_fits_point := f_fits_point, f_fits_wide_point := f_fits_wide_point, f_fits_line := f_fits_line, f_fits_wide_rows := f_fits_wide_rows, f_fits_rows := f_fits_rows, f_fits_multipliers := f_fits_multipliers, f_row_holds := f_row_holds, f_rows_hold := f_rows_hold, f_summed := f_summed, f_check_rows := f_check_rows, f_check_some_rows := f_check_some_rows, f_check_points := f_check_points, f_is_rows := f_is_rows, f_holds := f_holds, f_slack := f_slack, f_sum_of_rows := f_sum_of_rows, f__law_pool := f__law_pool, f__law_next := f__law_next, f__law_one_of := f__law_one_of, f__law_same := f__law_same, f__law_bent := f__law_bent, f__law_odd := f__law_odd, f__law_gcd := f__law_gcd, f__law_made := f__law_made, f__law_plus := f__law_plus, f__law_turned := f__law_turned, f__law_minus := f__law_minus, f__law_times := f__law_times, f__law_dot := f__law_dot, f__law_is_int := f__law_is_int, f__law_is_tuple := f__law_is_tuple, f__law_is_fraction := f__law_is_fraction, f__law_is_point := f__law_is_point, f__law_is_line := f__law_is_line, f__law_is_rows := f__law_is_rows, f__law_summed := f__law_summed, f__law_zeros := f__law_zeros, f__law_unit := f__law_unit, f__law_small := f__law_small, f__law_great := f__law_great, f__law_coefficients := f__law_coefficients, f__law_row := f__law_row, f__law_rows := f__law_rows, f__law_wide_point := f__law_wide_point, f__law_word_of := f__law_word_of, f__law_words_of := f__law_words_of, f__law_great_rows := f__law_great_rows, f_law := f_law, z_abs := z_abs, z_all := z_all, z_bool := z_bool, z_gcd := z_gcd, z_int := z_int, z_isinstance := z_isinstance, z_len := z_len, z_list := z_list, z_max := z_max, z_range := z_range, z_set := z_set, z_str := z_str, z_tuple := z_tuple, z_zip := z_zip, g_ZERO := g_ZERO, x_InvalidPoint := x_InvalidPoint, x_InvalidRows := x_InvalidRows, m_InvalidPoint_InvalidPoint := m_InvalidPoint_InvalidPoint, m_InvalidPoint_InvalidRows := m_InvalidPoint_InvalidRows, m_InvalidRows_InvalidPoint := m_InvalidRows_InvalidPoint, m_InvalidRows_InvalidRows := m_InvalidRows_InvalidRows, k_InvalidPoint_BoundError := k_InvalidPoint_BoundError, k_InvalidPoint_InvalidPoint := k_InvalidPoint_InvalidPoint, k_InvalidRows_BoundError := k_InvalidRows_BoundError, k_InvalidRows_InvalidPoint := k_InvalidRows_InvalidPoint }⟩
