import PyProof.Rows.All
import Wide.All
import OpenK.AllK
import Wide.FinOn
import HandS.ForMost
import HandS.ForExc
import HandS.Wide
import HandS.TupAny
import HandS.TupMul
import KE.DataEq
import HandS.Dict
import HandS.Text
import HandS.More
import HandS.IsInst
import HandS.Flow
import HandS.TupLe
import HandS.WrittenGet
import HandS.FStr
import HandS.OwnEq
import HandS.Walk
import HandS.Zip
import KE.GoesEnum
import HandS.DictComp
import HandS.Style
import HandS.Small
import KE.KStateDown
import HandS.Ends
import HandS.Words
import HandS.WordsExc
import HandS.Defaults
import HandS.Head0
import HandS.Head1
import HandS.Head2
import HandS.HeadEnd
import HandS.HeadHook1
import HandS.HeadHook2
import PySem.Challenge.RW_pipeshocks_k06_whole_reciprocity
section
set_option Elab.async false
set_option linter.all false
set_option maxRecDepth 100000
/-! Rf1: values as data, what stands for them in an abstract heap, cells, steps, states. -/
namespace Pf
open PySem PySem.Spec PyProof.Rows L2

/-- data -/
inductive D where
  | non
  | bl (b : Bool)
  | int (i : Int)
  | str (s : Str)
  | tup (l : List D)
  | lst (l : List D)
  | dic (ks : List Key) (l : List D)
  | ins (c : Nat) (l : List D)
  /-- the script: ints, read alone -/
  | scr (ns : List Int)

/-- what the layer knows of the written part: classes by number -/
structure Tab where
  K : PySem.W.Frag
  cls : Nat → Addr
  flds : Nat → List Str
  own : Str → Option Nat

mutual
def Rep (T : Tab) (G : Hp) : D → V → Prop
  | .non, v => v = .non
  | .bl b, v => v = .bl b
  | .int i, v => v = .int i
  | .str s, v => v = .str s
  | .tup l, v => ∃ a vs, v = .ref a ∧ SqT T.K G a vs ∧ RepL T G l vs
  | .lst l, v => ∃ a vs, v = .ref a ∧ G a = some (.lst vs) ∧ RepL T G l vs
  | .dic ks l, v => ∃ a kvs, v = .ref a ∧ Rd G a (.dK kvs) ∧ kvs.map (·.1) = ks ∧ RepL T G l (kvs.map (·.2))
  | .ins c l, v => ∃ a dx fs, v = .ref a ∧ G a = some (.ins (T.cls c) dx fs) ∧ fs.map (·.1) = (T.flds c).take l.length ∧ RepL T G l (fs.map (·.2))
  | .scr ns, v => ∃ a, v = .ref a ∧ SqL T.K G a (ns.map V.int)
def RepL (T : Tab) (G : Hp) : List D → List V → Prop
  | [], vs => vs = []
  | d :: l, vs => ∃ v r, vs = v :: r ∧ Rep T G d v ∧ RepL T G l r
end

/-- G' has all that G has, a dict perhaps locked -/
def Ex (G G' : Hp) : Prop := ∀ a o, G a = some o → G' a = some o ∨ ∃ od kvs, o = .dK kvs ∧ G' a = some (.frz od (.dK kvs))
theorem Ex.refl (G : Hp) : Ex G G := fun _ _ h => .inl h
theorem Ex.trans {G H I : Hp} (a : Ex G H) (b : Ex H I) : Ex G I := fun x o h => by
  rcases a x o h with h2 | ⟨od, kvs, e1, h2⟩
  · exact b x o h2
  · rcases b x _ h2 with h3 | ⟨_, _, e, _⟩
    · exact .inr ⟨od, kvs, e1, h3⟩
    · cases e
theorem Ex.new {H : Hp} {p : Addr} {o : HO} (h : H p = none) : Ex H (upd H p o) := fun a u e => by
  rw [upd_ne (ne_of_none e h)]
  exact .inl e
theorem Ex.rd {G H : Hp} (e : Ex G H) {a : Addr} {u : HO} (h : Rd G a u) : Rd H a u := by
  rcases h with h | ⟨o, h⟩
  · rcases e a u h with h2 | ⟨od, kvs, e1, h2⟩
    · exact .inl h2
    · subst e1
      exact .inr ⟨od, h2⟩
  · rcases e a _ h with h2 | ⟨_, _, e2, _⟩
    · exact .inr ⟨o, h2⟩
    · cases e2
theorem Ex.sqL {K : PySem.W.Frag} {G H : Hp} (e : Ex G H) {a : Addr} {xs : List V} (h : SqL K G a xs) : SqL K H a xs := by
  rcases h with h | h
  · exact .inl (e.rd h)
  · exact .inr h
theorem Ex.sqT {K : PySem.W.Frag} {G H : Hp} (e : Ex G H) {a : Addr} {xs : List V} (h : SqT K G a xs) : SqT K H a xs := by
  rcases h with h | h
  · exact .inl (e.rd h)
  · exact .inr h
theorem Ex.lst {G H : Hp} (e : Ex G H) {a : Addr} {xs : List V} (h : G a = some (.lst xs)) : H a = some (.lst xs) := by
  rcases e a _ h with h | ⟨_, _, e2, _⟩
  · exact h
  · cases e2
theorem Ex.ins {G H : Hp} (e : Ex G H) {a C dx : Addr} {fs : List (Str × V)} (h : G a = some (.ins C dx fs)) : H a = some (.ins C dx fs) := by
  rcases e a _ h with h | ⟨_, _, e2, _⟩
  · exact h
  · cases e2
theorem Ex.some {G H : Hp} (e : Ex G H) {a : Addr} (h : G a ≠ none) : H a ≠ none := fun q => by
  cases g : G a with
  | none => exact h g
  | some o =>
    rcases e a o g with z | ⟨_, _, _, z⟩ <;> rw [q] at z <;> cases z
theorem Ex.none {G H : Hp} (e : Ex G H) {a : Addr} (h : H a = none) : G a = none := by
  cases g : G a with
  | none => rfl
  | some o => exact absurd h (e.some (by rw [g]; exact fun z => nomatch z))

mutual
theorem Rep.mono {T : Tab} {G H : Hp} (e : Ex G H) : ∀ {d : D} {v : V}, Rep T G d v → Rep T H d v
  | .non, _, h => h
  | .bl _, _, h => h
  | .int _, _, h => h
  | .str _, _, h => h
  | .tup l, _, h => by
    obtain ⟨a, vs, h1, h2, h3⟩ := h
    exact ⟨a, vs, h1, e.sqT h2, RepL.mono e h3⟩
  | .lst l, _, h => by
    obtain ⟨a, vs, h1, h2, h3⟩ := h
    exact ⟨a, vs, h1, e.lst h2, RepL.mono e h3⟩
  | .dic ks l, _, h => by
    obtain ⟨a, kvs, h1, h2, h3, h4⟩ := h
    exact ⟨a, kvs, h1, e.rd h2, h3, RepL.mono e h4⟩
  | .ins c l, _, h => by
    obtain ⟨a, dx, fs, h1, h2, h3, h4⟩ := h
    exact ⟨a, dx, fs, h1, e.ins h2, h3, RepL.mono e h4⟩
  | .scr ns, _, h => by
    obtain ⟨a, h1, h2⟩ := h
    exact ⟨a, h1, e.sqL h2⟩
theorem RepL.mono {T : Tab} {G H : Hp} (e : Ex G H) : ∀ {l : List D} {vs : List V}, RepL T G l vs → RepL T H l vs
  | [], _, h => h
  | d :: l, _, h => by
    obtain ⟨v, r, h1, h2, h3⟩ := h
    exact ⟨v, r, h1, Rep.mono e h2, RepL.mono e h3⟩
end
section
variable {T : Tab} {G H : Hp}
theorem RepL.nil : RepL T G [] [] := by
  unfold RepL
  rfl
theorem RepL.cons {d : D} {l : List D} {v : V} {vs : List V} (h : Rep T G d v) (r : RepL T G l vs) : RepL T G (d :: l) (v :: vs) := by
  unfold RepL
  exact ⟨v, vs, rfl, h, r⟩
theorem RepL.length : ∀ {l : List D} {vs : List V}, RepL T G l vs → vs.length = l.length
  | [], _, h => by
    unfold RepL at h
    subst h
    rfl
  | d :: l, _, h => by
    unfold RepL at h
    obtain ⟨v, r, rfl, _, h3⟩ := h
    rw [List.length_cons, List.length_cons, RepL.length h3]
theorem RepL.get : ∀ {l : List D} {vs : List V} {i : Nat} {d : D}, RepL T G l vs → l[i]? = some d → ∃ v, vs[i]? = some v ∧ Rep T G d v
  | [], _, i, d, h, e => by simp at e
  | x :: l, _, 0, d, h, e => by
    unfold RepL at h
    obtain ⟨v, r, rfl, h2, h3⟩ := h
    simp at e
    subst e
    exact ⟨v, rfl, h2⟩
  | x :: l, _, i + 1, d, h, e => by
    unfold RepL at h
    obtain ⟨v, r, rfl, h2, h3⟩ := h
    obtain ⟨v', h4, h5⟩ := RepL.get (i := i) h3 (by simpa using e)
    exact ⟨v', by simpa using h4, h5⟩
theorem RepL.got : ∀ {l : List D} {vs : List V} {i : Nat} {v : V}, RepL T G l vs → vs[i]? = some v → ∃ d, l[i]? = some d ∧ Rep T G d v
  | [], _, i, v, h, e => by
    unfold RepL at h
    subst h
    simp at e
  | x :: l, _, 0, v, h, e => by
    unfold RepL at h
    obtain ⟨w, r, rfl, h2, h3⟩ := h
    simp at e
    subst e
    exact ⟨x, rfl, h2⟩
  | x :: l, _, i + 1, v, h, e => by
    unfold RepL at h
    obtain ⟨w, r, rfl, h2, h3⟩ := h
    obtain ⟨d, h4, h5⟩ := RepL.got (i := i) h3 (by simpa using e)
    exact ⟨d, by simpa using h4, h5⟩
theorem RepL.append : ∀ {l m : List D} {vs ws : List V}, RepL T G l vs → RepL T G m ws → RepL T G (l ++ m) (vs ++ ws)
  | [], _, _, _, h, k => by
    unfold RepL at h
    subst h
    exact k
  | d :: l, _, _, _, h, k => by
    unfold RepL at h
    obtain ⟨v, r, rfl, h2, h3⟩ := h
    exact RepL.cons h2 (RepL.append h3 k)
theorem RepL.take : ∀ {l : List D} {vs : List V} (n : Nat), RepL T G l vs → RepL T G (l.take n) (vs.take n)
  | _, _, 0, _ => by simpa using RepL.nil
  | [], _, _ + 1, h => by
    unfold RepL at h
    subst h
    exact RepL.nil
  | d :: l, _, n + 1, h => by
    unfold RepL at h
    obtain ⟨v, r, rfl, h2, h3⟩ := h
    exact RepL.cons h2 (RepL.take n h3)
theorem RepL.drop : ∀ {l : List D} {vs : List V} (n : Nat), RepL T G l vs → RepL T G (l.drop n) (vs.drop n)
  | _, _, 0, h => by simpa using h
  | [], _, _ + 1, h => by
    unfold RepL at h
    subst h
    exact RepL.nil
  | d :: l, _, n + 1, h => by
    unfold RepL at h
    obtain ⟨v, r, rfl, h2, h3⟩ := h
    exact RepL.drop n h3
theorem RepL.set : ∀ {l : List D} {vs : List V} {d : D} {v : V} (n : Nat), RepL T G l vs → Rep T G d v → RepL T G (l.set n d) (vs.set n v)
  | [], _, _, _, _, h, _ => by
    unfold RepL at h
    subst h
    exact RepL.nil
  | x :: l, _, d, v, 0, h, k => by
    unfold RepL at h
    obtain ⟨w, r, rfl, h2, h3⟩ := h
    exact RepL.cons k h3
  | x :: l, _, d, v, n + 1, h, k => by
    unfold RepL at h
    obtain ⟨w, r, rfl, h2, h3⟩ := h
    exact RepL.cons h2 (RepL.set n h3 k)
theorem RepL.reverse : ∀ {l : List D} {vs : List V}, RepL T G l vs → RepL T G l.reverse vs.reverse
  | [], _, h => by
    unfold RepL at h
    subst h
    exact RepL.nil
  | d :: l, _, h => by
    unfold RepL at h
    obtain ⟨v, r, rfl, h2, h3⟩ := h
    rw [List.reverse_cons, List.reverse_cons]
    exact RepL.append (RepL.reverse h3) (RepL.cons h2 RepL.nil)
theorem RepL.eraseIdx : ∀ {l : List D} {vs : List V} (n : Nat), RepL T G l vs → RepL T G (l.eraseIdx n) (vs.eraseIdx n)
  | [], _, _, h => by
    unfold RepL at h
    subst h
    exact RepL.nil
  | x :: l, _, 0, h => by
    unfold RepL at h
    obtain ⟨w, r, rfl, h2, h3⟩ := h
    exact h3
  | x :: l, _, n + 1, h => by
    unfold RepL at h
    obtain ⟨w, r, rfl, h2, h3⟩ := h
    exact RepL.cons h2 (RepL.eraseIdx n h3)
theorem RepL.replicate {d : D} {v : V} (h : Rep T G d v) : ∀ n, RepL T G (List.replicate n d) (List.replicate n v)
  | 0 => RepL.nil
  | n + 1 => RepL.cons h (RepL.replicate h n)
end

/-! ### cells: what is mutable, owned by a slot -/
def Cell (T : Tab) (H G : Hp) (p : Addr) : D → Prop
  | .lst l => G p = none ∧ ∃ vs, H p = some (.lst vs) ∧ RepL T G l vs
  | .dic ks l => G p = none ∧ ∃ kvs, H p = some (.dK kvs) ∧ kvs.map (·.1) = ks ∧ RepL T G l (kvs.map (·.2))
  | .ins c l => G p = none ∧ ∃ dx fs, H p = some (.ins (T.cls c) dx fs) ∧ fs.map (·.1) = (T.flds c).take l.length ∧ RepL T G l (fs.map (·.2))
  | _ => False
theorem Cell.free {T : Tab} {H G : Hp} {p : Addr} {d : D} (h : Cell T H G p d) : G p = none := by
  cases d <;> first | exact h.1 | exact h.elim
theorem Cell.there {T : Tab} {H G : Hp} {p : Addr} {d : D} (h : Cell T H G p d) : H p ≠ none := by
  cases d with
  | lst l => obtain ⟨_, vs, h, _⟩ := h; rw [h]; exact fun z => nomatch z
  | dic ks l => obtain ⟨_, vs, h, _⟩ := h; rw [h]; exact fun z => nomatch z
  | ins c l => obtain ⟨_, dx, vs, h, _⟩ := h; rw [h]; exact fun z => nomatch z
  | _ => exact h.elim
theorem Cell.move {T : Tab} {H G H' G' : Hp} {p : Addr} {d : D} (h : Cell T H G p d) (e : Ex G G') (k : ∀ o, H p = some o → H' p = some o) (n : G' p = none) : Cell T H' G' p d := by
  cases d with
  | lst l => obtain ⟨_, vs, h, r⟩ := h; exact ⟨n, vs, k _ h, r.mono e⟩
  | dic ks l => obtain ⟨_, vs, h, q, r⟩ := h; exact ⟨n, vs, k _ h, q, r.mono e⟩
  | ins c l => obtain ⟨_, dx, fs, h, q, r⟩ := h; exact ⟨n, dx, fs, k _ h, q, r.mono e⟩
  | _ => exact h.elim
/-- a cell's object joins the frozen heap -/
theorem Cell.frz {T : Tab} {H G : Hp} {p : Addr} {d : D} (h : Cell T H G p d) (e : Ex G H) : ∃ o, H p = some o ∧ Ex (upd G p o) H ∧ Ex G (upd G p o) ∧ Rep T (upd G p o) d (.ref p) := by
  have new : ∀ o, Ex G (upd G p o) := fun o => Ex.new h.free
  have inH : ∀ o, H p = some o → Ex (upd G p o) H := fun o ho a u q => by
    by_cases ha : a = p
    · subst ha
      rw [upd_same] at q
      cases q
      exact .inl ho
    · rw [upd_ne ha] at q
      exact e a u q
  cases d with
  | lst l =>
    obtain ⟨_, vs, ho, r⟩ := h
    exact ⟨_, ho, inH _ ho, new _, by unfold Rep; exact ⟨p, vs, rfl, upd_same, r.mono (new _)⟩⟩
  | dic ks l =>
    obtain ⟨_, kvs, ho, q, r⟩ := h
    exact ⟨_, ho, inH _ ho, new _, by unfold Rep; exact ⟨p, kvs, rfl, .inl upd_same, q, r.mono (new _)⟩⟩
  | ins c l =>
    obtain ⟨_, dx, fs, ho, q, r⟩ := h
    exact ⟨_, ho, inH _ ho, new _, by unfold Rep; exact ⟨p, dx, fs, rfl, upd_same, q, r.mono (new _)⟩⟩
  | _ => exact h.elim

/-! ### a step: what changed between two heaps with their frozen parts; cs: the cells that may change -/
structure Stp (cs : Addr → Prop) (H G H' G' : Hp) : Prop where
  g : Ex G G'
  k : ∀ a o, H a = some o → ¬ cs a → H' a = some o
  n : ∀ a, G a = none → H a ≠ none → ¬ cs a → G' a = none
  t : ∀ a, H a ≠ none → H' a ≠ none
theorem Stp.refl {cs : Addr → Prop} {H G : Hp} : Stp cs H G H G := ⟨Ex.refl G, fun _ _ h _ => h, fun _ h _ _ => h, fun _ h => h⟩
theorem Stp.trans {cs : Addr → Prop} {H G H1 G1 H2 G2 : Hp} (a : Stp cs H G H1 G1) (b : Stp cs H1 G1 H2 G2) : Stp cs H G H2 G2 :=
  ⟨a.g.trans b.g, fun x o h c => b.k x o (a.k x o h c) c, fun x h c q => b.n x (a.n x h c q) (a.t x c) q, fun x h => b.t x (a.t x h)⟩
/-- a step whose cells were cells before, or new -/
theorem Stp.then {cs cs' : Addr → Prop} {H G H1 G1 H2 G2 : Hp} (a : Stp cs H G H1 G1) (b : Stp cs' H1 G1 H2 G2) (c : ∀ x, cs' x → cs x ∨ H x = none) : Stp cs H G H2 G2 :=
  ⟨a.g.trans b.g, fun x o h q => b.k x o (a.k x o h q) (fun z => (c x z).elim q fun e => by rw [e] at h; cases h), fun x h q r => b.n x (a.n x h q r) (a.t x q) (fun z => (c x z).elim r q), fun x h => b.t x (a.t x h)⟩
theorem Stp.imp {cs cs' : Addr → Prop} {H G H' G' : Hp} (a : Stp cs H G H' G') (c : ∀ x, cs x → H x ≠ none → cs' x) : Stp cs' H G H' G' :=
  ⟨a.g, fun x o h q => a.k x o h fun z => q (c x z (by rw [h]; exact fun e => nomatch e)), fun x h q r => a.n x h q fun z => r (c x z q), a.t⟩

/-! ### slots -/
/-- what a slot holds: a value; a cell, that is an object of its own which may change; b: it was passed in by the caller -/
inductive Sl where
  | val (b : Bool) (d : D)
  | cel (b : Bool) (d : D)
def Sl.d : Sl → D
  | .val _ d => d
  | .cel _ d => d
def Sl.bor : Sl → Bool
  | .val b _ => b
  | .cel b _ => b
abbrev Rho := List (Option Sl)
/-- where a body began: the heaps, the cells that it may change, its parameters -/
structure Base where
  H : Hp
  G : Hp
  cs : Addr → Prop
  vs : List V
  /-- cells that were owned, not borrowed, when the body began -/
  ow : Addr → Prop
structure Sta (T : Tab) (B : Base) (σ : L2.St) (H G : Hp) (ρ : Rho) : Prop where
  ex : Ex G H
  ln : ρ.length = σ.length
  st : Stp B.cs B.H B.G H G
  vl : ∀ (i : Nat) b d, ρ[i]? = some (some (Sl.val b d)) → ∃ v, σ[i]? = some (some v) ∧ Rep T G d v
  cl : ∀ (i : Nat) b d, ρ[i]? = some (some (Sl.cel b d)) → ∃ p, σ[i]? = some (some (V.ref p)) ∧ Cell T H G p d ∧ (B.cs p ∨ B.H p = none)
  dj : ∀ (i j : Nat) b b' d d' p, ρ[i]? = some (some (Sl.cel b d)) → ρ[j]? = some (some (Sl.cel b' d')) → σ[i]? = some (some (V.ref p)) → σ[j]? = some (some (V.ref p)) → i = j
  bo : ∀ (i : Nat) s, ρ[i]? = some (some s) → s.bor = true → ∃ v, B.vs[i]? = some v ∧ σ[i]? = some (some v)
  nw : ∀ (i : Nat) d p, ρ[i]? = some (some (Sl.cel false d)) → σ[i]? = some (some (V.ref p)) → B.ow p ∨ B.H p = none
/-- an address that no slot's cell has -/
def NoSl (σ : L2.St) (ρ : Rho) (p : Addr) : Prop := ∀ (i : Nat) b d, ρ[i]? = some (some (Sl.cel b d)) → σ[i]? ≠ some (some (V.ref p))
/-- a result: a value, or a new cell that no slot has -/
def RR (T : Tab) (B : Base) (σ : L2.St) (H G : Hp) (ρ : Rho) : Bool → D → V → Prop
  | false, d, v => Rep T G d v
  | true, d, v => ∃ p, v = .ref p ∧ Cell T H G p d ∧ B.H p = none ∧ NoSl σ ρ p
section
variable {T : Tab} {B : Base} {σ : L2.St} {H G H' G' : Hp} {ρ : Rho}
theorem Sta.nosl (S : Sta T B σ H G ρ) {p : Addr} (h : H p = none) : NoSl σ ρ p := fun i b d e q => by
  obtain ⟨p', h1, h2, _⟩ := S.cl i b d e
  rw [h1] at q
  cases q
  exact h2.there h
theorem Sta.baseNone (S : Sta T B σ H G ρ) {p : Addr} (h : H p = none) : B.H p = none := Classical.byContradiction fun q => S.st.t p q h
/-- nothing that stood changed -/
theorem Sta.step (S : Sta T B σ H G ρ) (e : Ex G' H') (t : Stp (fun _ => False) H G H' G') : Sta T B σ H' G' ρ where
  ex := e
  ln := S.ln
  st := S.st.trans (t.imp fun _ z => z.elim)
  vl := fun i b d h => by
    obtain ⟨v, h1, h2⟩ := S.vl i b d h
    exact ⟨v, h1, h2.mono t.g⟩
  cl := fun i b d h => by
    obtain ⟨p, h1, h2, h3⟩ := S.cl i b d h
    exact ⟨p, h1, h2.move t.g (fun o q => t.k p o q fun z => z) (t.n p h2.free h2.there fun z => z), h3⟩
  dj := S.dj
  bo := S.bo
  nw := S.nw
/-- a cell of no slot joins the frozen heap -/
theorem Sta.freeze {p : Addr} {d : D} (S : Sta T B σ H G ρ) (c : Cell T H G p d) (n : NoSl σ ρ p) (hb : B.cs p ∨ B.H p = none) : ∃ G', Ex G G' ∧ Sta T B σ H G' ρ ∧ Rep T G' d (.ref p) := by
  obtain ⟨o, ho, e1, e2, r⟩ := c.frz S.ex
  refine ⟨upd G p o, e2, ⟨e1, S.ln, ⟨S.st.g.trans e2, S.st.k, fun a h q nc => ?_, S.st.t⟩, fun i b d h => ?_, fun i b d h => ?_, S.dj, S.bo, S.nw⟩, r⟩
  · by_cases ha : a = p
    · subst ha
      exact (hb.elim nc q).elim
    · rw [upd_ne ha]
      exact S.st.n a h q nc
  · obtain ⟨v, h1, h2⟩ := S.vl i b d h
    exact ⟨v, h1, h2.mono e2⟩
  · obtain ⟨q, h1, h2, h3⟩ := S.cl i b d h
    have hne : q ≠ p := fun z => n i b d h (by rw [← z]; exact h1)
    exact ⟨q, h1, h2.move e2 (fun o q => q) (by rw [upd_ne hne]; exact h2.free), h3⟩
/-- a result is frozen -/
theorem Sta.frzR {fr : Bool} {d : D} {v : V} (S : Sta T B σ H G ρ) (r : RR T B σ H G ρ fr d v) : ∃ G', Ex G G' ∧ Sta T B σ H G' ρ ∧ Rep T G' d v := by
  cases fr with
  | false => exact ⟨G, Ex.refl G, S, r⟩
  | true =>
    obtain ⟨p, rfl, c, hn, n⟩ := r
    exact S.freeze c n (.inr hn)
theorem get_set_eq {α : Type} {l : List α} {i : Nat} {a b : α} (h : (l.set i a)[i]? = some b) : b = a := by
  rw [List.getElem?_set] at h
  by_cases z : i < l.length
  · simp [z] at h
    exact h.symm
  · simp [z] at h
theorem get_set_ne {α : Type} {l : List α} {i j : Nat} {a : α} (h : j ≠ i) : (l.set i a)[j]? = l[j]? := List.getElem?_set_ne (Ne.symm h)
/-- a slot's cell is frozen -/
theorem Sta.frz {i : Nat} {b : Bool} {d : D} (S : Sta T B σ H G ρ) (h : ρ[i]? = some (some (Sl.cel b d))) : ∃ p G', σ[i]? = some (some (V.ref p)) ∧ Ex G G' ∧ Sta T B σ H G' (ρ.set i (some (Sl.val b d))) ∧ Rep T G' d (.ref p) := by
  obtain ⟨p, h1, c, hc⟩ := S.cl i b d h
  have S' : Sta T B σ H G (ρ.set i none) := ⟨S.ex, by rw [List.length_set]; exact S.ln, S.st, fun j b d e => by
      by_cases z : j = i
      · subst z
        cases get_set_eq e
      · rw [get_set_ne z] at e
        exact S.vl j b d e, fun j b d e => by
      by_cases z : j = i
      · subst z
        cases get_set_eq e
      · rw [get_set_ne z] at e
        exact S.cl j b d e, fun j k b b' d d' p e e' => by
      by_cases z : j = i
      · subst z
        cases get_set_eq e
      · by_cases z' : k = i
        · subst z'
          cases get_set_eq e'
        · rw [get_set_ne z] at e
          rw [get_set_ne z'] at e'
          exact S.dj j k b b' d d' p e e', fun j s e => by
      by_cases z : j = i
      · subst z
        cases get_set_eq e
      · rw [get_set_ne z] at e
        exact S.bo j s e, fun j d p e => by
      by_cases z : j = i
      · subst z
        cases get_set_eq e
      · rw [get_set_ne z] at e
        exact S.nw j d p e⟩
  obtain ⟨G', e1, S2, r⟩ := S'.freeze c (fun j b' d' e q => by
    by_cases z : j = i
    · subst z
      cases get_set_eq e
    · rw [get_set_ne z] at e
      exact z (S.dj j i b' b d' d p e h q h1)) hc
  refine ⟨p, G', h1, e1, ⟨S2.ex, by rw [List.length_set]; exact S.ln, S2.st, fun j b' d' e => ?_, fun j b' d' e => ?_, fun j k c c' d1 d2 q e e' => ?_, fun j s e => ?_, fun j d' q e => ?_⟩, r⟩
  · by_cases z : j = i
    · subst z
      cases get_set_eq e
      exact ⟨_, h1, r⟩
    · rw [get_set_ne z] at e
      exact S2.vl j b' d' (by rw [get_set_ne z]; exact e)
  · by_cases z : j = i
    · subst z
      cases get_set_eq e
    · rw [get_set_ne z] at e
      exact S2.cl j b' d' (by rw [get_set_ne z]; exact e)
  · by_cases z : j = i
    · subst z
      cases get_set_eq e
    · by_cases z' : k = i
      · subst z'
        cases get_set_eq e'
      · rw [get_set_ne z] at e
        rw [get_set_ne z'] at e'
        exact S2.dj j k c c' d1 d2 q (by rw [get_set_ne z]; exact e) (by rw [get_set_ne z']; exact e')
  · by_cases z : j = i
    · subst z
      cases get_set_eq e
      exact S.bo j (Sl.cel b d) h
    · rw [get_set_ne z] at e
      exact S2.bo j s (by rw [get_set_ne z]; exact e)
  · by_cases z : j = i
    · subst z
      cases get_set_eq e
    · rw [get_set_ne z] at e
      exact S2.nw j d' q (by rw [get_set_ne z]; exact e)
/-- slots forgotten -/
theorem Sta.drop {σ' : L2.St} {ρ' : Rho} (S : Sta T B σ H G ρ) (hl : ρ'.length = σ'.length) (h : ∀ (i : Nat) s, ρ'[i]? = some (some s) → ρ[i]? = some (some s) ∧ σ'[i]? = σ[i]?) : Sta T B σ' H G ρ' where
  ex := S.ex
  ln := hl
  st := S.st
  vl := fun i b d e => by
    obtain ⟨h1, h2⟩ := h i _ e
    rw [h2]
    exact S.vl i b d h1
  cl := fun i b d e => by
    obtain ⟨h1, h2⟩ := h i _ e
    rw [h2]
    exact S.cl i b d h1
  dj := fun i j b b' d d' p e e' q q' => by
    obtain ⟨h1, h2⟩ := h i _ e
    obtain ⟨h3, h4⟩ := h j _ e'
    exact S.dj i j b b' d d' p h1 h3 (by rw [← h2]; exact q) (by rw [← h4]; exact q')
  bo := fun i s e k => by
    obtain ⟨h1, h2⟩ := h i _ e
    rw [h2]
    exact S.bo i s h1 k
  nw := fun i d p e q => by
    obtain ⟨h1, h2⟩ := h i _ e
    rw [h2] at q
    exact S.nw i d p h1 q
/-- a slot is written -/
theorem Sta.put {i : Nat} {fr : Bool} {d : D} {v : V} (S : Sta T B σ H G ρ) (r : RR T B σ H G ρ fr d v) (hi : i < σ.length) : Sta T B (σ.set i (some v)) H G (ρ.set i (some (if fr then Sl.cel false d else Sl.val false d))) where
  ex := S.ex
  ln := by rw [List.length_set, List.length_set]; exact S.ln
  st := S.st
  vl := fun j b d' e => by
    by_cases z : j = i
    · subst z
      have := get_set_eq e
      cases fr with
      | true => cases this
      | false =>
        cases this
        exact ⟨v, by rw [List.getElem?_set_self hi], r⟩
    · rw [get_set_ne z] at e ⊢
      exact S.vl j b d' e
  cl := fun j b d' e => by
    by_cases z : j = i
    · subst z
      have := get_set_eq e
      cases fr with
      | true =>
        cases this
        obtain ⟨p, rfl, c, hn, _⟩ := r
        exact ⟨p, by rw [List.getElem?_set_self hi], c, .inr hn⟩
      | false => cases this
    · rw [get_set_ne z] at e ⊢
      exact S.cl j b d' e
  dj := fun j k b b' d1 d2 p e e' q q' => by
    by_cases z : j = i
    · by_cases z' : k = i
      · rw [z, z']
      · subst z
        rw [get_set_ne z'] at e' q'
        have := get_set_eq e
        cases fr with
        | true =>
          obtain ⟨p', rfl, c, hn, nn⟩ := r
          have := get_set_eq q
          cases this
          exact (nn k b' d2 e' q').elim
        | false => cases this
    · by_cases z' : k = i
      · subst z'
        rw [get_set_ne z] at e q
        have := get_set_eq e'
        cases fr with
        | true =>
          obtain ⟨p', rfl, c, hn, nn⟩ := r
          have := get_set_eq q'
          cases this
          exact (nn j b d1 e q).elim
        | false => cases this
      · rw [get_set_ne z] at e q
        rw [get_set_ne z'] at e' q'
        exact S.dj j k b b' d1 d2 p e e' q q'
  bo := fun j s e k => by
    by_cases z : j = i
    · subst z
      have := get_set_eq e
      cases fr <;> (cases this; cases k)
    · rw [get_set_ne z] at e ⊢
      exact S.bo j s e k
  nw := fun j d' p e q => by
    by_cases z : j = i
    · subst z
      have := get_set_eq e
      cases fr with
      | true =>
        obtain ⟨p', rfl, c, hn, nn⟩ := r
        have := get_set_eq q
        cases this
        exact .inr hn
      | false => cases this
    · rw [get_set_ne z] at e q
      exact S.nw j d' p e q
/-- a slot's cell has new contents -/
theorem Sta.mut {i : Nat} {b : Bool} {d d' : D} {p : Addr} {o : HO} (S : Sta T B σ H G ρ) (h : ρ[i]? = some (some (Sl.cel b d))) (hp : σ[i]? = some (some (V.ref p))) (c : Cell T (upd H p o) G p d') : Sta T B σ (upd H p o) G (ρ.set i (some (Sl.cel b d'))) := by
  obtain ⟨p', h1, c0, hc⟩ := S.cl i b d h
  rw [hp] at h1
  cases h1
  have hex : Ex G (upd H p o) := fun a u q => by
    have : a ≠ p := fun z => by rw [z, c0.free] at q; cases q
    rw [upd_ne this]
    exact S.ex a u q
  have hi : i < ρ.length := by
    obtain ⟨z, _⟩ := List.getElem?_eq_some_iff.mp h
    exact z
  refine ⟨hex, by rw [List.length_set]; exact S.ln, ⟨S.st.g, fun a u q r => ?_, S.st.n, fun a q => ?_⟩, fun j b' d1 e => ?_, fun j b' d1 e => ?_, fun j k b1 b2 d1 d2 q e e' => ?_, fun j s e k => ?_, fun j d1 q e r => ?_⟩
  · have : a ≠ p := fun z => by
      subst z
      rcases hc with hc | hc
      · exact r hc
      · rw [q] at hc
        cases hc
    rw [upd_ne this]
    exact S.st.k a u q r
  · by_cases z : a = p
    · rw [z, upd_same]
      exact fun z => nomatch z
    · rw [upd_ne z]
      exact S.st.t a q
  · by_cases z : j = i
    · subst z
      cases get_set_eq e
    · rw [get_set_ne z] at e
      exact S.vl j b' d1 e
  · by_cases z : j = i
    · subst z
      cases get_set_eq e
      exact ⟨p, hp, c, hc⟩
    · rw [get_set_ne z] at e
      obtain ⟨q, h2, h3, h4⟩ := S.cl j b' d1 e
      have : q ≠ p := fun y => z (S.dj j i b' b d1 d p e h (by rw [← y]; exact h2) hp)
      exact ⟨q, h2, h3.move (Ex.refl G) (fun u y => by rw [upd_ne this]; exact y) h3.free, h4⟩
  · have ec : ∀ {j : Nat} {b' d1}, (ρ.set i (some (Sl.cel b d')))[j]? = some (some (Sl.cel b' d1)) → ∃ d2, ρ[j]? = some (some (Sl.cel b' d2)) := fun {j b' d1} e => by
      by_cases z : j = i
      · subst z
        cases get_set_eq e
        exact ⟨d, h⟩
      · rw [get_set_ne z] at e
        exact ⟨d1, e⟩
    obtain ⟨e1, he1⟩ := ec e
    obtain ⟨e2, he2⟩ := ec e'
    exact S.dj j k b1 b2 e1 e2 q he1 he2
  · by_cases z : j = i
    · subst z
      cases get_set_eq e
      exact S.bo j (Sl.cel b d) h k
    · rw [get_set_ne z] at e
      exact S.bo j s e k
  · by_cases z : j = i
    · subst z
      cases get_set_eq e
      exact S.nw j d q h r
    · rw [get_set_ne z] at e
      exact S.nw j d1 q e r
end
end Pf
end
section
set_option Elab.async false
set_option linter.all false
set_option maxRecDepth 100000
/-! Rf2: the small language and its pure interpreter. -/
namespace Pf
open PySem PySem.Spec PyProof.Rows L2

/-! ### data: equality, truth -/
mutual
def D.plain : D → Bool
  | .non => true
  | .bl _ => true
  | .int _ => true
  | .str _ => true
  | .tup l => D.plainL l
  | .lst l => D.plainL l
  | .dic _ _ => false
  | .ins _ _ => false
  | .scr _ => false
def D.plainL : List D → Bool
  | [] => true
  | d :: l => d.plain && D.plainL l
end
mutual
def D.py : D → PyData
  | .non => .none
  | .bl b => .bool b
  | .int i => .int i
  | .str s => .str s
  | .tup l => .tuple (D.pyL l)
  | .lst l => .list (D.pyL l)
  | .dic _ _ => .none
  | .ins _ _ => .none
  | .scr _ => .none
def D.pyL : List D → List PyData
  | [] => []
  | d :: l => d.py :: D.pyL l
end
mutual
def D.eqv : D → D → Bool
  | .non, y => match y with
    | .non => true
    | _ => false
  | .bl a, y => match y with
    | .bl b => a == b
    | .int j => (if a then 1 else 0) == j
    | _ => false
  | .int i, y => match y with
    | .bl b => i == (if b then 1 else 0)
    | .int j => i == j
    | _ => false
  | .str x, y => match y with
    | .str z => x == z
    | _ => false
  | .tup xs, y => match y with
    | .tup ys => D.eqvL xs ys
    | _ => false
  | .lst xs, y => match y with
    | .lst ys => D.eqvL xs ys
    | _ => false
  | .dic _ _, _ => false
  | .ins _ _, _ => false
  | .scr _, _ => false
def D.eqvL : List D → List D → Bool
  | [], ys => match ys with
    | [] => true
    | _ :: _ => false
  | x :: xs, ys => match ys with
    | [] => false
    | y :: ys => x.eqv y && D.eqvL xs ys
end
def eqOk (x y : D) : Bool := x.plain && y.plain && decide (min x.py.depth y.py.depth ≤ 60)
def inOk (x : D) (l : List D) : Bool := x.plain && D.plainL l && decide (min (PyData.depthAll (D.pyL l)) x.py.depth ≤ 60)
def D.truth : D → Option Bool
  | .non => some false
  | .bl b => some b
  | .int i => some (i != 0)
  | .str s => if s.length ≤ 1000000 then some (s.length != 0) else none
  | .tup l => some (!l.isEmpty)
  | .lst l => some (!l.isEmpty)
  | .dic _ _ => none
  | .ins _ _ => none
  | .scr l => some (!l.isEmpty)
def D.key : D → Option Key
  | .int i => some (.inl i)
  | .str s => some (.inr s)
  | _ => none
def keyD : Key → D
  | .inl i => .int i
  | .inr s => .str s
/-- a dict's item -/
def look (k : Key) : List Key → List D → Option D
  | [], _ => none
  | _ :: _, [] => none
  | j :: ks, d :: l => if j = k then some d else look k ks l
def repl (k : Key) (d : D) : List Key → List D → List D
  | j :: ks, e :: l => (if j = k then d else e) :: repl k d ks l
  | _, _ => []
def stow (k : Key) (d : D) (ks : List Key) (l : List D) : List Key × List D := if (ks.any fun j => decide (j = k)) = true then (ks, repl k d ks l) else (ks ++ [k], l ++ [d])

/-! ### operators -/
inductive Bop where
  | add | sub | mul | fdiv | mod | pow
  deriving DecidableEq
inductive Cop where
  | eq | ne | lt | le | gt | ge | isin | notin
  deriving DecidableEq
def szl (n : Nat) : Bool := decide (n ≤ 1000000)
def bop : Bop → D → D → Option D
  | .add, .int i, .int j => some (.int (i + j))
  | .add, .int i, .bl b => some (.int (i + b2i b))
  | .add, .str x, .str y => if szl (x.length + y.length) = true then some (.str (x ++ y)) else none
  | .add, .tup x, .tup y => if szl (x.length + y.length) = true then some (.tup (x ++ y)) else none
  | .add, .lst x, .lst y => if szl (x.length + y.length) = true then some (.lst (x ++ y)) else none
  | .sub, .int i, .int j => some (.int (i - j))
  | .mul, .int i, .int j => if i.natAbs.log2 + j.natAbs.log2 < 1000000 then some (.int (i * j)) else none
  | .mul, .str x, .int j => if 0 ≤ j ∧ j ≤ 1000 ∧ x.length ≤ 1000 then some (.str (Txt.mul x j)) else none
  | .mul, .tup x, .int j => if 1 ≤ j ∧ j ≤ 1000 ∧ x.isEmpty = false ∧ x.length ≤ 1000 then some (.tup (List.replicate j.toNat x).flatten) else none
  | .mul, .lst x, .int j => if 0 ≤ j ∧ j ≤ 1000 ∧ x.length ≤ 1000 then some (.lst (List.replicate j.toNat x).flatten) else none
  | .fdiv, .int i, .int j => if j ≠ 0 ∧ Builtin.divisionGoesByPylong i j = false then some (.int (i.fdiv j)) else none
  | .mod, .int i, .int j => if j ≠ 0 then some (.int (i.fmod j)) else none
  | .pow, .int i, .int j => if 0 ≤ j ∧ j ≤ 1000000 ∧ i.natAbs < 2 ^ 64 then some (.int (i ^ j.toNat)) else none
  | _, _, _ => none
def inStr (x y : Str) : Bool := !(Builtin.Str.occurrences y x 0 y.length 1).isEmpty
def D.isIn : D → D → Option Bool
  | x, .lst l => if inOk x l = true then some (l.any fun y => y.eqv x) else none
  | x, .tup l => if inOk x l = true then some (l.any fun y => y.eqv x) else none
  | .str x, .str y => some (inStr x y)
  | x, .dic ks l => match x.key with
    | some k => some (look k ks l).isSome
    | none => none
  | _, _ => none
def cop : Cop → D → D → Option Bool
  | .eq, x, y => if eqOk x y = true then some (x.eqv y) else none
  | .ne, x, y => if eqOk x y = true then some (!x.eqv y) else none
  | .lt, .int i, .int j => some (decide (i < j))
  | .le, .int i, .int j => some (decide (i ≤ j))
  | .gt, .int i, .int j => some (decide (j < i))
  | .ge, .int i, .int j => some (decide (j ≤ i))
  | .isin, x, y => x.isIn y
  | .notin, x, y => (x.isIn y).map (!·)
  | _, _, _ => none
def idx : D → D → Option D
  | .lst l, .int i => atI l i
  | .scr l, .int i => (atI l i).map D.int
  | .tup l, .int i => atI l i
  | .str s, .int i => if szl s.length = true then (atI s.cps.toList i).map fun c => .str ⟨#[c]⟩ else none
  | .dic ks l, x => match x.key with
    | some k => look k ks l
    | none => none
  | _, _ => none
def ipart : D → Option (Option Int)
  | .non => some none
  | .int i => some (some i)
  | _ => none
def cutL {α : Type} (xs : List α) (lo hi : Option Int) : List α := (xs.drop (HT.sIx xs.length 0 lo)).take (HT.sIx xs.length xs.length hi - HT.sIx xs.length 0 lo)
def slcO : D → Option Int → Option Int → Option D
  | .lst l, a, b => some (.lst (cutL l a b))
  | .tup l, a, b => some (.tup (cutL l a b))
  | .str s, a, b => if szl s.length = true then some (.str (cutS s a b)) else none
  | _, _, _ => none
def slc (d lo hi : D) : Option D := match ipart lo, ipart hi with
  | some a, some b => slcO d a b
  | _, _ => none
/-- kinds for isinstance -/
inductive Ty where
  | int | bool | str | list | tuple | dict | own (c : Nat)
  deriving DecidableEq
def D.isa : D → Ty → Bool
  | .int _, .int => true
  | .bl _, .int => true
  | .bl _, .bool => true
  | .str _, .str => true
  | .lst _, .list => true
  | .tup _, .tuple => true
  | .dic _ _, .dict => true
  | .ins c _, .own k => decide (c = k)
  | _, _ => false
def D.ints : List D → Option (List Int)
  | [] => some []
  | .int i :: l => (D.ints l).map (i :: ·)
  | _ :: _ => none
def D.bls : List D → Option (List Bool)
  | [] => some []
  | .bl i :: l => (D.bls l).map (i :: ·)
  | _ :: _ => none
/-- built-in functions of one or two values -/
inductive Bi where
  | len | abs | int | str | tuple | list | sum | min | max | min2 | max2 | all | any | dictc
  deriving DecidableEq
/-- texts in a row -/
def D.strs : List D → Option (List Str)
  | [] => some []
  | .str s :: l => (D.strs l).map (s :: ·)
  | _ :: _ => none
/-- a text's methods of one value -/
def txD (m : Str) (x : Str) : List D → Option D
  | [.str b] => if m = "split" ∧ (b.length == 0) = false ∧ x.length ≤ 1000000 then some (.lst ((Txt.split x b).map D.str)) else none
  | [.lst l] => if m = "join" then (match D.strs l with
    | some ys => if (ys.map (·.length)).sum + ys.length * x.length ≤ 1000000 then some (.str (Txt.join x ys)) else none
    | none => none) else none
  | _ => none
/-- where it stands first -/
def findD (x : D) : List D → Option Nat
  | [] => none
  | y :: l => if y.eqv x = true then some 0 else (findD x l).map (· + 1)
def flatD : D → Bool
  | .int _ => true
  | .str _ => true
  | _ => false
def ixD (l : List D) : List D → Option D
  | [x] => if flatD x = true ∧ l.all flatD = true then (findD x l).map fun j => .int j else none
  | _ => none
/-- a value in an f-string -/
def fmtD : D → Option Str
  | .str y => if szl y.length = true then some y else none
  | .int i => if i.natAbs.log2 < 1920 then some (toString i : Str) else none
  | _ => none
def fmtO (acc : Str) (d : D) : Option Str := match fmtD d with
  | some y => if szl (acc ++ y).length = true then some (acc ++ y) else none
  | none => none
def D.items : D → Option (List D)
  | .lst l => some l
  | .tup l => some l
  | _ => none
def bi : Bi → List D → Option D
  | .len, [.lst l] => some (.int l.length)
  | .len, [.scr l] => some (.int l.length)
  | .len, [.tup l] => some (.int l.length)
  | .len, [.str s] => if szl s.length = true then some (.int s.length) else none
  | .len, [.dic ks _] => some (.int ks.length)
  | .abs, [.int i] => some (.int (if i < 0 then -i else i))
  | .int, [.int i] => some (.int i)
  | .int, [.str x] => if x.length ≤ 640 then (PySem.intText? x).map D.int else none
  | .str, [.int i] => if i.natAbs.log2 < 1920 then some (.str (toString i)) else none
  | .tuple, [.lst l] => some (.tup l)
  | .tuple, [.tup l] => some (.tup l)
  | .list, [.lst l] => some (.lst l)
  | .list, [.tup l] => some (.lst l)
  | .sum, [.lst l] => (D.ints l).map fun ns => .int ns.sum
  | .min2, [.int i, .int j] => some (.int (if j < i then j else i))
  | .min, [.lst l] => ((D.ints l).bind fun ns => ns.min?).map D.int
  | .max, [.lst l] => ((D.ints l).bind fun ns => ns.max?).map D.int
  | .max2, [.int i, .int j] => some (.int (if j > i then j else i))
  | .all, [.lst l] => (D.bls l).map fun bs => .bl (bs.all id)
  | .any, [.lst l] => (D.bls l).map fun bs => .bl (bs.any id)
  | .dictc, [.dic ks l] => some (.dic ks l)
  | _, _ => none

/-! ### sameness -/
mutual
def D.same : D → D → Bool
  | .non, y => match y with
    | .non => true
    | _ => false
  | .bl a, y => match y with
    | .bl b => a == b
    | _ => false
  | .int i, y => match y with
    | .int j => decide (i = j)
    | _ => false
  | .str x, y => match y with
    | .str z => decide (x = z)
    | _ => false
  | .tup xs, y => match y with
    | .tup ys => D.sameL xs ys
    | _ => false
  | .lst xs, y => match y with
    | .lst ys => D.sameL xs ys
    | _ => false
  | .dic ks xs, y => match y with
    | .dic js ys => decide (ks = js) && D.sameL xs ys
    | _ => false
  | .ins c xs, y => match y with
    | .ins k ys => decide (c = k) && D.sameL xs ys
    | _ => false
  | .scr ns, y => match y with
    | .scr ms => decide (ns = ms)
    | _ => false
def D.sameL : List D → List D → Bool
  | [], ys => match ys with
    | [] => true
    | _ :: _ => false
  | x :: xs, ys => match ys with
    | [] => false
    | y :: ys => x.same y && D.sameL xs ys
end
mutual
theorem D.same_refl : ∀ x : D, x.same x = true
  | .non => rfl
  | .bl a => by simp [D.same]
  | .int i => by simp [D.same]
  | .str x => by simp [D.same]
  | .tup xs => by simp [D.same, D.sameL_refl xs]
  | .lst xs => by simp [D.same, D.sameL_refl xs]
  | .dic ks xs => by simp [D.same, D.sameL_refl xs]
  | .ins c xs => by simp [D.same, D.sameL_refl xs]
  | .scr ns => by simp [D.same]
theorem D.sameL_refl : ∀ xs : List D, D.sameL xs xs = true
  | [] => rfl
  | x :: xs => by simp [D.sameL, D.same_refl x, D.sameL_refl xs]
end
mutual
theorem D.same_eq : ∀ x y : D, x.same y = true → x = y
  | .non, y, h => by cases y <;> simp [D.same] at h ⊢
  | .bl a, y, h => by cases y <;> simp [D.same] at h ⊢; exact h
  | .int i, y, h => by cases y <;> simp [D.same] at h ⊢; exact h
  | .str x, y, h => by cases y <;> simp [D.same] at h ⊢; exact h
  | .tup xs, y, h => by
    cases y with
    | tup ys => rw [D.sameL_eq xs ys (by simpa [D.same] using h)]
    | _ => simp [D.same] at h
  | .lst xs, y, h => by
    cases y with
    | lst ys => rw [D.sameL_eq xs ys (by simpa [D.same] using h)]
    | _ => simp [D.same] at h
  | .dic ks xs, y, h => by
    cases y with
    | dic js ys =>
      simp [D.same] at h
      rw [h.1, D.sameL_eq xs ys h.2]
    | _ => simp [D.same] at h
  | .ins c xs, y, h => by
    cases y with
    | ins js ys =>
      simp [D.same] at h
      rw [h.1, D.sameL_eq xs ys h.2]
    | _ => simp [D.same] at h
  | .scr ns, y, h => by cases y <;> simp [D.same] at h ⊢; exact h
theorem D.sameL_eq : ∀ xs ys : List D, D.sameL xs ys = true → xs = ys
  | [], ys, h => by cases ys <;> simp [D.sameL] at h ⊢
  | x :: xs, ys, h => by
    cases ys with
    | nil => simp [D.sameL] at h
    | cons y ys =>
      simp [D.sameL] at h
      rw [D.same_eq x y h.1, D.sameL_eq xs ys h.2]
end

/-! ### the language -/
/-- targets -/
inductive Tg where
  | nm (i : Nat)
  | tp (l : List Tg)
  | bad
/-- what is walked -/
inductive Ik where
  | seq | rng | enm | zip | itm | rev
  deriving DecidableEq
/-- operations -/
inductive Op where
  | bin (o : Bop) | neg | cmp (o : Cop) | idx | fld (x : Str) | bi (b : Bi) | isi (t : List Ty) | isn (n : Bool) | isb (n k : Bool)
  deriving DecidableEq
inductive E where
  | bad
  | var (i : Nat)
  /-- a name's value, frozen as an operand too -/
  | fz (i : Nat)
  | cst (d : D)
  | glo (x : Str)
  | tup (l : List E)
  | lst (l : List E)
  /-- keys and values by turns -/
  | dic (l : List E)
  | ap (o : Op) (l : List E)
  | chn (o q : Cop) (a b c : E)
  | and (l : List E)
  | or (l : List E)
  | not (a : E)
  | ife (t a b : E)
  | call (f : Str) (l : List E)
  | slc (a lo hi : E)
  /-- an f-string -/
  | fst (l : List E)
  /-- == and != where an own __eq__ may stand -/
  | oeq (n : Bool) (l : List E)
  | get (a k d : E)
  | meth (f : Str) (a : E) (l : List E)
  | comp (own : List Nat) (t : Tg) (k : Ik) (src : List E) (ifs : List E) (e : E)
  | dcmp (own : List Nat) (t : Tg) (k : Ik) (src : List E) (ifs : List E) (ke e : E)
/-- what changes a cell -/
inductive Mt where
  | append | extend | pop | popAt | reverse | insert | remove | clear | sort
  deriving DecidableEq
inductive S where
  | bad
  | ex (e : E)
  | set (i : Nat) (e : E)
  | tgt (t : Tg) (e : E)
  | par (is : List Nat) (es : List E)
  | aug (i : Nat) (o : Bop) (e : E)
  | sti (i : Nat) (k e : E)
  | stf (i : Nat) (x : Str) (e : E)
  | mt (i : Nat) (m : Mt) (l : List E)
  | iff (t : E) (a b : List S)
  | whl (t : E) (b : List S)
  | for_ (t : Tg) (k : Ik) (src : List E) (b : List S)
  | ret (e : E)
  | retN
  | brk
  | cnt
  | pass

/-! ### results -/
inductive Out (α : Type) where
  | ok (a : α) (ρ : Rho)
  | exc (c : Nat) (l : List D) (ρ : Rho)
  | bad
def Out.bnd {α β : Type} (o : Out α) (f : α → Rho → Out β) : Out β := match o with
  | .ok a ρ => f a ρ
  | .exc c l ρ => .exc c l ρ
  | .bad => .bad
/-- no exceptions -/
def Out.nox {α : Type} (o : Out α) : Out α := match o with
  | .exc _ _ _ => .bad
  | o => o
def lift {α : Type} (x : Option α) (ρ : Rho) : Out α := match x with
  | some a => .ok a ρ
  | none => .bad
/-- a result: new (a cell of no slot), or a value -/
abbrev Res := Bool × D
/-- what a call gives: the value, the parameters' last states -/
inductive FOut where
  | ok (r : Res) (ps : List (Option Sl))
  | exc (c : Nat) (l : List D) (ps : List (Option Sl))
  | bad
structure Ga where
  glo : Str → Option D
  /-- the defs and classes that may be called; the classes whose instances never change -/
  has : Str → Bool
  frz : Str → Bool
  cal : Str → List Sl → FOut
  hasM : Nat → Str → Bool
  met : Nat → Str → List Sl → FOut
  flds : Nat → List Str
  wf : Nat
/-- a statement's end -/
inductive SO where
  | nx (ρ : Rho)
  | ret (r : Res) (ρ : Rho)
  | brk (ρ : Rho)
  | cnt (ρ : Rho)
  | exc (c : Nat) (l : List D) (ρ : Rho)
  | bad
def SO.of {α : Type} (o : Out α) (f : α → Rho → SO) : SO := match o with
  | .ok a ρ => f a ρ
  | .exc c l ρ => .exc c l ρ
  | .bad => .bad
def SO.thn (o : SO) (f : Rho → SO) : SO := match o with
  | .nx ρ => f ρ
  | o => o

/-! ### slots -/
def slot (ρ : Rho) (i : Nat) : Option Sl := match ρ[i]? with
  | some o => o
  | none => none
/-- an operand: a value, or what a slot has at the end -/
inductive Ag where
  | val (d : D)
  | slot (i : Nat)
def Ag.get (ρ : Rho) : Ag → Option Sl
  | .val d => some (.val false d)
  | .slot i => match Pf.slot ρ i with
    | some (.cel _ d) => some (.cel true d)
    | some (.val _ d) => some (.val false d)
    | none => none
def fill (ρ : Rho) : List Ag → Option (List Sl)
  | [] => some []
  | a :: l => match a.get ρ, fill ρ l with
    | some s, some r => some (s :: r)
    | _, _ => none
def fillD (ρ : Rho) (l : List Ag) : Option (List D) := (fill ρ l).map (·.map Sl.d)
/-- the slots of the operands -/
def slots : List Ag → List Nat
  | [] => []
  | .slot i :: l => i :: slots l
  | .val _ :: l => slots l
/-- the slots' new states behind a call -/
def back (ρ : Rho) : List Ag → List (Option Sl) → Option Rho
  | [], _ => some ρ
  | .val _ :: l, _ :: ps => back ρ l ps
  | .slot i :: l, p :: ps => match Pf.slot ρ i with
    | some (.cel b _) => (match p with
      | some (.cel true d) => back (ρ.set i (some (.cel b d))) l ps
      | some (.val true d) => back (ρ.set i (some (.val b d))) l ps
      | _ => none)
    | some (.val _ _) => back ρ l ps
    | none => none
  | _ :: _, [] => none
def outF (ρ : Rho) (l : List Ag) (o : FOut) : Out Res := match o with
  | .ok r ps => lift ((back ρ l ps).map fun _ => r) ((back ρ l ps).getD ρ)
  | .exc c e ps => match back ρ l ps with
    | some ρ' => .exc c e ρ'
    | none => .bad
  | .bad => .bad
def put (i : Nat) (r : Res) (ρ : Rho) : Option Rho :=
  if ((slot ρ i).map Sl.bor).getD false then none else some (ρ.set i (some (if r.1 then .cel false r.2 else .val false r.2)))
mutual
def bind1 : Tg → D → Rho → Option Rho
  | .nm i, d, ρ => put i (false, d) ρ
  | .tp ts, d, ρ => match d with
    | .tup l => bindL1 ts l ρ
    | _ => none
  | .bad, _, _ => none
def bindL1 : List Tg → List D → Rho → Option Rho
  | [], l, ρ => match l with
    | [] => some ρ
    | _ :: _ => none
  | t :: ts, l, ρ => match l with
    | [] => none
    | d :: l => (bind1 t d ρ).bind (bindL1 ts l)
end

/-! ### walks -/
def rangeD (lo : Int) : Nat → List D
  | 0 => []
  | n + 1 => .int lo :: rangeD (lo + 1) n
def enumD (i : Nat) : List D → List D
  | [] => []
  | d :: l => .tup [.int i, d] :: enumD (i + 1) l
def zipD : List D → List D → List D
  | a :: l, b :: m => .tup [a, b] :: zipD l m
  | _, _ => []
def itemsD : List Key → List D → List D
  | k :: ks, d :: l => .tup [keyD k, d] :: itemsD ks l
  | _, _ => []
def signs (s : Str) : List D := s.cps.toList.map fun c => .str ⟨#[c]⟩
def walk : Ik → List D → Option (List D)
  | .seq, [.lst l] => some l
  | .seq, [.tup l] => some l
  | .seq, [.str s] => some (signs s)
  | .seq, [.scr l] => some (l.map D.int)
  | .rng, [.int n] => if -1000000 ≤ n ∧ n ≤ 1000000 then some (rangeD 0 n.toNat) else none
  | .rng, [.int a, .int b] => if (-1000000 ≤ a ∧ a ≤ 1000000) ∧ -1000000 ≤ b ∧ b ≤ 1000000 then some (rangeD a (b - a).toNat) else none
  | .enm, [.lst l] => some (enumD 0 l)
  | .enm, [.tup l] => some (enumD 0 l)
  | .zip, [.lst x, .lst y] => some (zipD x y)
  | .zip, [.tup x, .tup y] => some (zipD x y)
  | _, _ => none
/-- no more than so many -/
def walkS (k : Ik) (ds : List D) : Option (List D) := match walk k ds with
  | some xs => if szl xs.length = true then some xs else none
  | none => none
def wipeR (ρ : Rho) : List Nat → Rho
  | [] => ρ
  | i :: is => (wipeR ρ is).set i none
def restore (ρ₀ ρ : Rho) : List Nat → Rho
  | [] => ρ
  | i :: is => (restore ρ₀ ρ is).set i (match slot ρ₀ i with
    | some (.val b d) => some (.val b d)
    | _ => none)
/-- what is walked stands as it was -/
def held (ρ : Rho) (l : List Ag) (ds : List D) : Bool := match fillD ρ l with
  | some es => D.sameL es ds
  | none => false
/-- a comprehension's turns -/
def turns (hd : Rho → Bool) (f : D → Rho → Out (Option D)) : List D → Rho → Out (List D)
  | [], ρ => if hd ρ then .ok [] ρ else .bad
  | x :: xs, ρ => if hd ρ then (match f x ρ with
    | .ok (some y) ρ1 => (turns hd f xs ρ1).bnd fun ys ρ2 => .ok (y :: ys) ρ2
    | .ok none ρ1 => turns hd f xs ρ1
    | _ => .bad) else .bad
def dturns (hd : Rho → Bool) (f : D → Rho → Out (Option (Key × D))) : List D → List Key → List D → Rho → Out D
  | [], ks, l, ρ => if hd ρ then .ok (.dic ks l) ρ else .bad
  | x :: xs, ks, l, ρ => if hd ρ then (match f x ρ with
    | .ok (some (k, d)) ρ1 => let r := stow k d ks l; dturns hd f xs r.1 r.2 ρ1
    | .ok none ρ1 => dturns hd f xs ks l ρ1
    | _ => .bad) else .bad
def stowAll : List D → List Key → List D → Option D
  | [], ks, l => some (.dic ks l)
  | k :: d :: r, ks, l => match k.key with
    | some j => stowAll r (stow j d ks l).1 (stow j d ks l).2
    | none => none
  | [_], _, _ => none

/-! ### operations by data -/
def negD : D → Option D
  | .int i => some (.int (-i))
  | _ => none
def isiD (ts : List Ty) (d : D) : Option D := match d with
  | .scr _ => none
  | .ins _ [] => none
  | d => some (.bl (ts.any d.isa))
def isnD (n : Bool) : D → D
  | .non => .bl n
  | _ => .bl (!n)
def isbD (n k : Bool) : D → Option D
  | .bl b => some (.bl (decide (b = k) != n))
  | _ => none
/-- where a name stands -/
def ixOf (f : Str) : List Str → Option Nat
  | [] => none
  | x :: l => if x = f then some 0 else (ixOf f l).map (· + 1)
def fldD (fl : Nat → List Str) (x : Str) : D → Option D
  | .ins c l => (ixOf x (fl c)).bind fun k => l[k]?
  | _ => none
def getD' : D → D → D → Option D
  | .dic ks vs, k, d => k.key.map fun j => (look j ks vs).getD d
  | _, _, _ => none
def op1 (f : D → Option D) : List D → Option D
  | [a] => f a
  | _ => none
def op2 (f : D → D → Option D) : List D → Option D
  | [a, b] => f a b
  | _ => none
def op3 (f : D → D → D → Option D) : List D → Option D
  | [a, b, c] => f a b c
  | _ => none
def Op.ap (fl : Nat → List Str) : Op → List D → Option D
  | .bin o => op2 (bop o)
  | .neg => op1 negD
  | .cmp o => op2 fun a b => (cop o a b).map D.bl
  | .idx => op2 Pf.idx
  | .fld x => op1 (fldD fl x)
  | .bi b => Pf.bi b
  | .isi t => op1 (isiD t)
  | .isn n => op1 fun d => some (isnD n d)
  | .isb n k => op1 (isbD n k)
def D.obj : D → Bool
  | .lst _ => true
  | .dic _ _ => true
  | _ => false
/-- operations that make new lists and dicts -/
def Op.new : Op → Bool
  | .bin _ => true
  | .bi .list => true
  | .bi .dictc => true
  | _ => false
/-- a test's result from a value's -/
def tr (m : Bool) (o : Out Res) : Out Res := match m with
  | true => o.bnd fun r ρ => lift (r.2.truth.map fun b => (false, D.bl b)) ρ
  | false => o
/-- an operand: a name's slot, or the value -/
def opd (e : E) (r : Out Res) (ρ : Rho) : Out Ag := match e with
  | .var i => (match slot ρ i with
    | some (.val _ d) => .ok (Ag.val d) ρ
    | some (.cel _ _) => .ok (Ag.slot i) ρ
    | none => .bad)
  | _ => r.bnd fun r ρ1 => .ok (Ag.val r.2) ρ1
def E.noPart : E → Bool
  | .cst .non => true
  | _ => false
/-- a slice's part -/
def partO (e : E) (r : Out Res) (ρ : Rho) : Out (Option Int) := match e.noPart with
  | true => .ok none ρ
  | false => r.bnd fun r ρ1 => match r.2 with
    | .int i => .ok (some i) ρ1
    | _ => .bad
def eqC : D → D → Option Nat
  | .ins c (_ :: _), .ins k _ => if c = k then some c else none
  | _, _ => none
def getO (x : Ag) (k : Out Res) (d : Rho → Out Res) : Out Res := k.bnd fun k ρ2 => (d ρ2).bnd fun d ρ3 => match x.get ρ3 with
  | some s => (lift (getD' s.d k.2 d.2) ρ3).bnd fun d ρ4 => .ok (false, d) ρ4
  | none => .bad
variable (Γ : Ga)
mutual
/-- the value; m: the test -/
def ev : E → Bool → Rho → Out Res
  | .bad, _, _ => .bad
  | .var i, m, ρ => match slot ρ i with
    | some (.val _ d) => tr m (.ok (false, d) ρ)
    | some (.cel b d) => (match m with
      | true => tr true (.ok (false, d) ρ)
      | false => .ok (false, d) (ρ.set i (some (.val b d))))
    | none => .bad
  | .fz i, m, ρ => match slot ρ i with
    | some (.val _ d) => tr m (.ok (false, d) ρ)
    | some (.cel b d) => (match m with
      | true => tr true (.ok (false, d) ρ)
      | false => .ok (false, d) (ρ.set i (some (.val b d))))
    | none => .bad
  | .cst d, m, ρ => tr m (.ok (false, d) ρ)
  | .glo x, m, ρ => tr m ((lift (Γ.glo x) ρ).bnd fun d ρ => .ok (false, d) ρ)
  | .tup l, m, ρ => tr m ((evv l ρ).bnd fun ds ρ => .ok (false, .tup ds) ρ)
  | .lst l, m, ρ => tr m ((evv l ρ).bnd fun ds ρ => .ok (true, .lst ds) ρ)
  | .dic l, m, ρ => tr m ((evv l ρ).nox.bnd fun ds ρ1 => (lift (stowAll ds [] []) ρ1).bnd fun d ρ2 => .ok (true, d) ρ2)
  | .ap o l, m, ρ => tr m ((evs l ρ).bnd fun as ρ1 => match fillD ρ1 as with
    | some ds => (lift (o.ap Γ.flds ds) ρ1).bnd fun d ρ2 => .ok (o.new && d.obj, d) ρ2
    | none => .bad)
  | .chn o q a b c, m, ρ => tr m ((ev a false ρ).bnd fun x ρ1 => (ev b false ρ1).bnd fun y ρ2 => match cop o x.2 y.2 with
    | some true => (ev c false ρ2).bnd fun z ρ3 => (lift (cop q y.2 z.2) ρ3).bnd fun k ρ4 => .ok (false, .bl k) ρ4
    | some false => .ok (false, .bl false) ρ2
    | none => .bad)
  | .and l, m, ρ => evAnd l m ρ
  | .or l, m, ρ => evOr l m ρ
  | .not a, m, ρ => (ev a m ρ).bnd fun r ρ1 => lift (r.2.truth.map fun b => (false, D.bl (!b))) ρ1
  | .ife t a b, m, ρ => (ev t true ρ).bnd fun r ρ1 => match r.2 with
    | .bl true => ev a m ρ1
    | .bl false => ev b m ρ1
    | _ => .bad
  | .call f l, m, ρ => tr m (if Γ.has f = true then (evs l ρ).bnd fun as ρ1 => match fill ρ1 as with
    | some ss => if (slots as).Nodup then (outF ρ1 as (Γ.cal f ss)).bnd fun r ρ2 => .ok (r.1 && !Γ.frz f, r.2) ρ2 else .bad
    | none => .bad else .bad)
  | .slc a lo hi, m, ρ => tr m ((opd a (ev a false ρ) ρ).bnd fun x ρ1 => (partO lo (ev lo false ρ1) ρ1).bnd fun l ρ2 => (partO hi (ev hi false ρ2) ρ2).bnd fun u ρ3 => match x.get ρ3 with
    | some s => (lift (slcO s.d l u) ρ3).bnd fun d ρ4 => .ok (d.obj, d) ρ4
    | none => .bad)
  | .fst l, m, ρ => tr m ((evF l Str.empty ρ).bnd fun y ρ1 => .ok (false, .str y) ρ1)
  | .oeq n l, m, ρ => tr m ((evs l ρ).bnd fun as ρ1 => match fill ρ1 as with
    | some [s, u] => (match eqC s.d u.d with
      | some c => if (Γ.hasM c "__eq__" && decide ((slots as).Nodup)) = true then (outF ρ1 as (Γ.met c "__eq__" [s, u])).bnd fun r ρ2 => (match r with
          | (false, .bl k) => .ok (false, .bl (k != n)) ρ2
          | _ => .bad) else .bad
      | none => (lift (cop (if n then .ne else .eq) s.d u.d) ρ1).bnd fun k ρ2 => .ok (false, .bl k) ρ2)
    | _ => .bad)
  | .get a k d, m, ρ => tr m ((opd a (ev a false ρ) ρ).bnd fun x ρ1 => match x.get ρ1 with
    | some (.val _ (.dic _ _)) => getO x (ev k false ρ1) (fun ρ => ev d false ρ)
    | some (.cel _ (.dic _ _)) => getO x (ev k false ρ1) (fun ρ => ev d false ρ)
    | _ => .bad)
  | .meth f a l, m, ρ => tr m ((opd a (ev a false ρ) ρ).bnd fun x ρ1 => match x.get ρ1 with
    | some s => (match s.d with
      | .ins c _ => if ((Γ.flds c).contains f || !Γ.hasM c f) = true then .bad else (evs l ρ1).bnd fun as ρ2 => match fill ρ2 (x :: as) with
        | some ss => if (slots (x :: as)).Nodup then outF ρ2 (x :: as) (Γ.met c f ss) else .bad
        | none => .bad
      | .str z => if (f == "split" || f == "join") = true then (evs l ρ1).bnd fun as ρ2 => match fillD ρ2 as with
        | some ds => (lift (txD f z ds) ρ2).bnd fun d ρ3 => .ok (d.obj, d) ρ3
        | none => .bad else .bad
      | .lst z => if f == "index" then (evs l ρ1).bnd fun as ρ2 => match x.get ρ2 with
        | some s2 => if D.sameL [s2.d] [.lst z] = true then (match fillD ρ2 as with
          | some ds => (lift (ixD z ds) ρ2).bnd fun d ρ3 => .ok (false, d) ρ3
          | none => .bad) else .bad
        | none => .bad else .bad
      | _ => .bad)
    | none => .bad)
  | .comp own t k src ifs e, m, ρ => tr m ((evs src ρ).bnd fun as ρ1 => match fillD ρ1 as with
    | some ds => (match walkS k ds with
      | some xs => (turns (fun ρ => held ρ as ds) (fun x ρ2 => match bind1 t x (wipeR ρ2 own) with
          | some ρ3 => (evAnd ifs true ρ3).bnd fun r ρ4 => (match r.2 with
            | .bl true => (ev e false ρ4).bnd fun y ρ5 => .ok (some y.2) (restore ρ2 ρ5 own)
            | .bl false => .ok none (restore ρ2 ρ4 own)
            | _ => .bad)
          | none => .bad) xs ρ1).bnd fun ys ρ2 => .ok (true, .lst ys) ρ2
      | none => .bad)
    | none => .bad)
  | .dcmp own t k src ifs ke e, m, ρ => tr m ((evs src ρ).bnd fun as ρ1 => match fillD ρ1 as with
    | some ds => (match walkS k ds with
      | some xs => (dturns (fun ρ => held ρ as ds) (fun x ρ2 => match bind1 t x (wipeR ρ2 own) with
          | some ρ3 => (evAnd ifs true ρ3).bnd fun r ρ4 => (match r.2 with
            | .bl true => (ev ke false ρ4).bnd fun y ρ5 => (ev e false ρ5).bnd fun z ρ6 => (match y.2.key with
              | some j => .ok (some (j, z.2)) (restore ρ2 ρ6 own)
              | none => .bad)
            | .bl false => .ok none (restore ρ2 ρ4 own)
            | _ => .bad)
          | none => .bad) xs [] [] ρ1).bnd fun d ρ2 => .ok (true, d) ρ2
      | none => .bad)
    | none => .bad)
/-- operands -/
def evs : List E → Rho → Out (List Ag)
  | [], ρ => .ok [] ρ
  | e :: es, ρ => (opd e (ev e false ρ) ρ).bnd fun a ρ1 => (evs es ρ1).bnd fun l ρ2 => .ok (a :: l) ρ2
/-- values -/
def evv : List E → Rho → Out (List D)
  | [], ρ => .ok [] ρ
  | e :: es, ρ => (ev e false ρ).bnd fun r ρ1 => (evv es ρ1).bnd fun l ρ2 => .ok (r.2 :: l) ρ2
/-- an f-string's parts -/
def evF : List E → Str → Rho → Out Str
  | [], acc, ρ => .ok acc ρ
  | e :: es, acc, ρ => (ev e false ρ).bnd fun r ρ1 => match fmtO acc r.2 with
    | some y => evF es y ρ1
    | none => .bad
/-- and, or: all are bools -/
def evAnd : List E → Bool → Rho → Out Res
  | [], _, ρ => .ok (false, .bl true) ρ
  | e :: es, m, ρ => (ev e m ρ).bnd fun d ρ1 => match d.2 with
    | .bl true => evAnd es m ρ1
    | .bl false => .ok (false, .bl false) ρ1
    | _ => .bad
def evOr : List E → Bool → Rho → Out Res
  | [], _, ρ => .ok (false, .bl false) ρ
  | e :: es, m, ρ => (ev e m ρ).bnd fun d ρ1 => match d.2 with
    | .bl true => .ok (false, .bl true) ρ1
    | .bl false => evOr es m ρ1
    | _ => .bad
end
/-- one operand -/
def evA (e : E) (ρ : Rho) : Out Ag := opd e (ev Γ e false ρ) ρ
theorem evs_cons (e : E) (es : List E) (ρ : Rho) : evs Γ (e :: es) ρ = (evA Γ e ρ).bnd fun a ρ1 => (evs Γ es ρ1).bnd fun l ρ2 => .ok (a :: l) ρ2 := by
  simp only [evs, evA]

/-! ### statements -/
/-- the new contents of a cell behind a method whose value is dropped -/
def mtD : Mt → D → List D → Option D
  | .append, .lst l, [x] => if szl (l.length + 1) = true then some (.lst (l ++ [x])) else none
  | .extend, .lst l, [.lst m] => if szl (l.length + m.length) = true then some (.lst (l ++ m)) else none
  | .pop, .lst l, [] => if l.isEmpty = true then none else some (.lst l.dropLast)
  | .reverse, .lst l, [] => some (.lst l.reverse)
  | .clear, .lst _, [] => some (.lst [])
  | _, _, _ => none
def putAt (i : Nat) (d : D) (ρ : Rho) : Option Rho := match slot ρ i with
  | some (.cel b _) => some (ρ.set i (some (.cel b d)))
  | _ => none
def cellOf (ρ : Rho) (i : Nat) : Option D := match slot ρ i with
  | some (.cel _ d) => some d
  | _ => none
/-- the contents with an item set -/
def setD : D → D → D → Option D
  | .lst l, .int i, x => (ixN l.length i).map fun j => .lst (l.set j x)
  | .dic ks l, k, x => match k.key with
    | some j => if szl ks.length = true then some (.dic (stow j x ks l).1 (stow j x ks l).2) else none
    | none => none
  | _, _, _ => none
def setF (fl : Nat → List Str) (f : Str) : D → D → Option D
  | .ins c l, x => (ixOf f (fl c)).bind fun k => if k < l.length then some (.ins c (l.set k x)) else if k = l.length then some (.ins c (l ++ [x])) else none
  | _, _ => none
def ofOpt (o : Option Rho) : SO := match o with
  | some ρ => .nx ρ
  | none => .bad
def loop (hd : Rho → Bool) (f : D → Rho → SO) : List D → Rho → SO
  | [], ρ => if hd ρ then .nx ρ else .bad
  | x :: xs, ρ => if hd ρ then (match f x ρ with
    | .nx ρ1 => loop hd f xs ρ1
    | .cnt ρ1 => loop hd f xs ρ1
    | .brk ρ1 => .nx ρ1
    | o => o) else .bad
def wloop (t : Rho → Out Res) (f : Rho → SO) : Nat → Rho → SO
  | 0, _ => .bad
  | n + 1, ρ => SO.of (t ρ) fun r ρ1 => match r.2 with
    | .bl true => (match f ρ1 with
      | .nx ρ2 => wloop t f n ρ2
      | .cnt ρ2 => wloop t f n ρ2
      | .brk ρ2 => .nx ρ2
      | o => o)
    | .bl false => .nx ρ1
    | _ => .bad
/-- results in a row, new ones kept new -/
def evr : List E → Rho → Out (List Res)
  | [], ρ => .ok [] ρ
  | e :: es, ρ => (ev Γ e false ρ).bnd fun r ρ1 => (evr es ρ1).bnd fun l ρ2 => .ok (r :: l) ρ2
def putAll : List Nat → List Res → Rho → Option Rho
  | [], [], ρ => some ρ
  | i :: is, r :: rs, ρ => (put i r ρ).bind (putAll is rs)
  | _, _, _ => none
mutual
def ex : S → Rho → SO
  | .bad, _ => .bad
  | .ex e, ρ => SO.of (ev Γ e false ρ) fun _ ρ1 => .nx ρ1
  | .set i e, ρ => SO.of (ev Γ e false ρ) fun r ρ1 => ofOpt (put i r ρ1)
  | .tgt t e, ρ => SO.of (ev Γ e false ρ) fun r ρ1 => ofOpt (bind1 t r.2 ρ1)
  | .par is es, ρ => SO.of (evr Γ es ρ) fun rs ρ1 => ofOpt (putAll is rs ρ1)
  | .aug i o e, ρ => match slot ρ i, o with
    | some (.val _ (.int x)), .add => SO.of (ev Γ e false ρ) fun r ρ1 => (match r.2 with
      | .int y => ofOpt (put i (false, .int (x + y)) ρ1)
      | _ => .bad)
    | _, _ => .bad
  | .sti i k e, ρ => SO.of (ev Γ e false ρ) fun r ρ1 => match cellOf ρ1 i with
    | some _ => SO.of (ev Γ k false ρ1) fun q ρ2 => (match cellOf ρ2 i with
      | some d => (match setD d q.2 r.2 with
        | some d' => ofOpt (putAt i d' ρ2)
        | none => .bad)
      | none => .bad)
    | none => .bad
  | .stf i f e, ρ => SO.of (ev Γ e false ρ) fun r ρ1 => match cellOf ρ1 i with
    | some d => (match setF Γ.flds f d r.2 with
      | some d' => ofOpt (putAt i d' ρ1)
      | none => .bad)
    | none => .bad
  | .mt i m l, ρ => match cellOf ρ i with
    | some (.lst _) => SO.of (evv Γ l ρ) fun ds ρ1 => (match cellOf ρ1 i with
      | some d => (match mtD m d ds with
        | some d' => ofOpt (putAt i d' ρ1)
        | none => .bad)
      | none => .bad)
    | _ => .bad
  | .iff t a b, ρ => SO.of (ev Γ t true ρ) fun r ρ1 => match r.2 with
    | .bl true => exs a ρ1
    | .bl false => exs b ρ1
    | _ => .bad
  | .whl t b, ρ => wloop (fun ρ => ev Γ t true ρ) (fun ρ => exs b ρ) Γ.wf ρ
  | .for_ t k src b, ρ => SO.of (evs Γ src ρ) fun as ρ1 => match fillD ρ1 as with
    | some ds => (match walk k ds with
      | some xs => loop (fun ρ => held ρ as ds) (fun x ρ2 => match bind1 t x ρ2 with
          | some ρ3 => exs b ρ3
          | none => .bad) xs ρ1
      | none => .bad)
    | none => .bad
  | .ret e, ρ => match e with
    | .var i => (match slot ρ i with
      | some (.cel false d) => .ret (true, d) (ρ.set i none)
      | _ => SO.of (ev Γ e false ρ) fun r ρ1 => .ret r ρ1)
    | e => SO.of (ev Γ e false ρ) fun r ρ1 => .ret r ρ1
  | .retN, ρ => .ret (false, .non) ρ
  | .brk, ρ => .brk ρ
  | .cnt, ρ => .cnt ρ
  | .pass, ρ => .nx ρ
def exs : List S → Rho → SO
  | [], ρ => .nx ρ
  | s :: l, ρ => (ex s ρ).thn fun ρ1 => exs l ρ1
end
/-- a def: parameters, slots, body -/
structure Fn where
  np : Nat
  n : Nat
  body : List S
/-- what was passed as a cell is still told of -/
def outsOk : List Sl → List (Option Sl) → Bool
  | [], _ => true
  | .val _ _ :: as, _ :: os => outsOk as os
  | .cel _ _ :: as, some s :: os => s.bor && outsOk as os
  | _, _ => false
def fin (f : Fn) (args : List Sl) (r : Res) (ρ : Rho) : FOut := if outsOk args (ρ.take f.np) = true then .ok r (ρ.take f.np) else .bad
def run1 (f : Fn) (args : List Sl) : FOut :=
  if args.length = f.np then (match exs Γ f.body (args.map some ++ List.replicate (f.n - f.np) none) with
    | .nx ρ => fin f args (false, .non) ρ
    | .ret r ρ => fin f args r ρ
    | .exc c l ρ => if outsOk args (ρ.take f.np) = true then .exc c l (ρ.take f.np) else .bad
    | _ => .bad) else .bad
/-! ### the program -/
structure Prg where
  fns : Str → Option Fn
  clss : Str → Option (Nat × Fn × Bool)
  mets : Nat → Str → Option Fn
  glo : Str → Option D
  flds : Nat → List Str
  wf : Nat
def mkF (c : Nat) (F : List Sl → FOut) (ss : List Sl) : FOut := match F (.cel true (.ins c []) :: ss) with
  | .ok (_, .non) (some (.cel true d) :: ps) => .ok (true, d) ps
  | .exc e l (_ :: ps) => .exc e l ps
  | _ => .bad
def Prg.has (P : Prg) (x : Str) : Bool := (P.fns x).isSome || (P.clss x).isSome
def Prg.fz (P : Prg) (x : Str) : Bool := match P.clss x with
  | some q => q.2.2
  | none => false
def Prg.hasM (P : Prg) (c : Nat) (m : Str) : Bool := (P.mets c m).isSome
def Prg.ga (P : Prg) (cal : Str → List Sl → FOut) (met : Nat → Str → List Sl → FOut) : Ga := ⟨P.glo, P.has, P.fz, cal, P.hasM, met, P.flds, P.wf⟩
/-- L calls deep -/
def ga (P : Prg) : Nat → Ga
  | 0 => P.ga (fun _ _ => .bad) (fun _ _ _ => .bad)
  | L + 1 => P.ga (fun x ss => match P.fns x with
      | some f => run1 (ga P L) f ss
      | none => (match P.clss x with
        | some q => mkF q.1 (run1 (ga P L) q.2.1) ss
        | none => .bad)) (fun c m ss => match P.mets c m with
      | some f => run1 (ga P L) f ss
      | none => .bad)
end Pf
end
section
set_option Elab.async false
set_option linter.all false
set_option maxRecDepth 100000
set_option maxHeartbeats 1000000
/-! Rf3: operators and built-ins, by data. -/
namespace Pf
open PySem PySem.Spec PyProof.Rows L2
/-- a value that stands for d: frozen, or a cell's -/
def BR (T : Tab) (H G : Hp) (d : D) (v : V) : Prop := Rep T G d v ∨ ∃ p, v = .ref p ∧ Cell T H G p d
section
variable {T : Tab} {H G H' G' : Hp} {v : V}
theorem BR.of {d : D} (h : Rep T G d v) : BR T H G d v := .inl h
theorem Rep.non (h : Rep T G .non v) : v = .non := by unfold Rep at h; exact h
theorem Rep.bl {b : Bool} (h : Rep T G (.bl b) v) : v = .bl b := by unfold Rep at h; exact h
theorem Rep.int {i : Int} (h : Rep T G (.int i) v) : v = .int i := by unfold Rep at h; exact h
theorem Rep.str {x : Str} (h : Rep T G (.str x) v) : v = .str x := by unfold Rep at h; exact h
theorem BR.non (h : BR T H G .non v) : v = .non := h.elim Rep.non fun ⟨_, _, z⟩ => z.elim
theorem BR.bl {b : Bool} (h : BR T H G (.bl b) v) : v = .bl b := h.elim Rep.bl fun ⟨_, _, z⟩ => z.elim
theorem BR.int {i : Int} (h : BR T H G (.int i) v) : v = .int i := h.elim Rep.int fun ⟨_, _, z⟩ => z.elim
theorem BR.str {x : Str} (h : BR T H G (.str x) v) : v = .str x := h.elim Rep.str fun ⟨_, _, z⟩ => z.elim
theorem BR.tup {l : List D} (h : BR T H G (.tup l) v) : ∃ a vs, v = .ref a ∧ SqT T.K G a vs ∧ RepL T G l vs := by
  rcases h with h | ⟨_, _, z⟩
  · unfold Rep at h
    exact h
  · exact z.elim
theorem BR.lst {l : List D} (e : Ex G H) (h : BR T H G (.lst l) v) : ∃ a vs, v = .ref a ∧ H a = some (.lst vs) ∧ RepL T G l vs := by
  rcases h with h | ⟨p, rfl, _, vs, h1, h2⟩
  · unfold Rep at h
    obtain ⟨a, vs, h1, h2, h3⟩ := h
    exact ⟨a, vs, h1, e.lst h2, h3⟩
  · exact ⟨p, vs, rfl, h1, h2⟩
theorem BR.dic {ks : List Key} {l : List D} (e : Ex G H) (h : BR T H G (.dic ks l) v) : ∃ a kvs, v = .ref a ∧ Rd H a (.dK kvs) ∧ kvs.map (·.1) = ks ∧ RepL T G l (kvs.map (·.2)) := by
  rcases h with h | ⟨p, rfl, _, kvs, h1, h2⟩
  · unfold Rep at h
    obtain ⟨a, kvs, h1, h2, h3⟩ := h
    exact ⟨a, kvs, h1, e.rd h2, h3⟩
  · exact ⟨p, kvs, rfl, .inl h1, h2⟩
theorem BR.ins {c : Nat} {l : List D} (e : Ex G H) (h : BR T H G (.ins c l) v) : ∃ a dx fs, v = .ref a ∧ H a = some (.ins (T.cls c) dx fs) ∧ fs.map (·.1) = (T.flds c).take l.length ∧ RepL T G l (fs.map (·.2)) := by
  rcases h with h | ⟨p, rfl, _, dx, fs, h1, h2⟩
  · unfold Rep at h
    obtain ⟨a, dx, fs, h1, h2, h3⟩ := h
    exact ⟨a, dx, fs, h1, e.ins h2, h3⟩
  · exact ⟨p, dx, fs, rfl, h1, h2⟩
theorem BR.scr {ns : List Int} (e : Ex G H) (h : BR T H G (.scr ns) v) : ∃ a, v = .ref a ∧ SqL T.K H a (ns.map V.int) := by
  rcases h with h | ⟨_, _, z⟩
  · unfold Rep at h
    obtain ⟨a, h1, h2⟩ := h
    exact ⟨a, h1, e.sqL h2⟩
  · exact z.elim
/-- by the whole heap -/
theorem BR.rep {d : D} (e : Ex G H) (h : BR T H G d v) : Rep T H d v := by
  rcases h with h | ⟨p, rfl, c⟩
  · exact h.mono e
  · obtain ⟨o, ho, e1, _, r⟩ := c.frz e
    exact r.mono e1
end
mutual
theorem Rep.dp {T : Tab} {H : Hp} : ∀ {d : D} {v : V}, d.plain = true → Rep T H d v → Dp T.K H v d.py
  | .non, _, _, h => by
    cases h.non
    exact .non
  | .bl b, _, _, h => by
    cases h.bl
    exact .bl b
  | .int i, _, _, h => by
    cases h.int
    exact .int i
  | .str x, _, _, h => by
    cases h.str
    exact .str x
  | .tup l, _, p, h => by
    unfold Rep at h
    obtain ⟨a, vs, rfl, h2, h3⟩ := h
    unfold D.plain at p
    unfold D.py
    exact .tup h2 (RepL.dp p h3)
  | .lst l, _, p, h => by
    unfold Rep at h
    obtain ⟨a, vs, rfl, h2, h3⟩ := h
    unfold D.plain at p
    unfold D.py
    exact .lst (SqL.of h2) (RepL.dp p h3)
  | .dic _ _, _, p, _ => by
    unfold D.plain at p
    cases p
  | .ins _ _, _, p, _ => by
    unfold D.plain at p
    cases p
  | .scr _, _, p, _ => by
    unfold D.plain at p
    cases p
theorem RepL.dp {T : Tab} {H : Hp} : ∀ {l : List D} {vs : List V}, D.plainL l = true → RepL T H l vs → DpAll T.K H vs (D.pyL l)
  | [], _, _, h => by
    unfold RepL at h
    subst h
    unfold D.pyL
    exact .nil
  | d :: l, _, p, h => by
    unfold RepL at h
    obtain ⟨v, r, rfl, h2, h3⟩ := h
    unfold D.plainL at p
    obtain ⟨p1, p2⟩ := Bool.and_eq_true_iff.mp p
    unfold D.pyL
    exact .cons (Rep.dp p1 h2) (RepL.dp p2 h3)
end
mutual
theorem plain_py : ∀ d : D, d.plain = true → d.py.plain = true
  | .non, _ => rfl
  | .bl _, _ => rfl
  | .int _, _ => rfl
  | .str _, _ => rfl
  | .tup l, h => by
    unfold D.plain at h
    unfold D.py PyData.plain
    exact plainL_py l h
  | .lst l, h => by
    unfold D.plain at h
    unfold D.py PyData.plain
    exact plainL_py l h
  | .dic _ _, _ => rfl
  | .ins _ _, _ => rfl
  | .scr _, _ => rfl
theorem plainL_py : ∀ l : List D, D.plainL l = true → PyData.plainAll (D.pyL l) = true
  | [], _ => rfl
  | d :: l, h => by
    unfold D.plainL at h
    obtain ⟨p1, p2⟩ := Bool.and_eq_true_iff.mp h
    unfold D.pyL PyData.plainAll
    rw [plain_py d p1, plainL_py l p2] <;> rfl
end
mutual
theorem eqv_py : ∀ x y : D, x.plain = true → y.plain = true → x.eqv y = PyData.eqv x.py y.py
  | .non, y, _, h => by cases y <;> first | rfl | (unfold D.plain at h; cases h)
  | .bl a, y, _, h => by cases y <;> first | rfl | (unfold D.plain at h; cases h)
  | .int a, y, _, h => by cases y <;> first | rfl | (unfold D.plain at h; cases h)
  | .str a, y, _, h => by cases y <;> first | rfl | (unfold D.plain at h; cases h)
  | .tup l, y, p, h => by
    cases y with
    | tup m =>
      unfold D.plain at p h
      unfold D.eqv D.py PyData.eqv
      exact eqvL_py l m p h
    | non => rfl
    | bl _ => rfl
    | int _ => rfl
    | str _ => rfl
    | lst _ => rfl
    | _ => unfold D.plain at h; cases h
  | .lst l, y, p, h => by
    cases y with
    | lst m =>
      unfold D.plain at p h
      unfold D.eqv D.py PyData.eqv
      exact eqvL_py l m p h
    | non => rfl
    | bl _ => rfl
    | int _ => rfl
    | str _ => rfl
    | tup _ => rfl
    | _ => unfold D.plain at h; cases h
  | .dic _ _, _, p, _ => by unfold D.plain at p; cases p
  | .ins _ _, _, p, _ => by unfold D.plain at p; cases p
  | .scr _, _, p, _ => by unfold D.plain at p; cases p
theorem eqvL_py : ∀ l m : List D, D.plainL l = true → D.plainL m = true → D.eqvL l m = PyData.eqvAll (D.pyL l) (D.pyL m)
  | [], [], _, _ => rfl
  | [], _ :: _, _, _ => rfl
  | _ :: _, [], _, _ => rfl
  | x :: l, y :: m, p, h => by
    unfold D.plainL at p h
    obtain ⟨p1, p2⟩ := Bool.and_eq_true_iff.mp p
    obtain ⟨q1, q2⟩ := Bool.and_eq_true_iff.mp h
    unfold D.eqvL D.pyL PyData.eqvAll
    dsimp only
    rw [eqv_py x y p1 q1, eqvL_py l m p2 q2]
end
theorem any_py (x : D) (px : x.plain = true) : ∀ l : List D, D.plainL l = true → (l.any fun y => y.eqv x) = (D.pyL l).any fun y => PyData.eqv y x.py
  | [], _ => rfl
  | y :: l, h => by
    unfold D.plainL at h
    obtain ⟨p1, p2⟩ := Bool.and_eq_true_iff.mp h
    unfold D.pyL
    rw [List.any_cons, List.any_cons, any_py x px l p2, eqv_py y x p1 px]

/-- nothing that stood changes -/
abbrev Stp0 (H G H' G' : Hp) : Prop := Stp (fun _ => False) H G H' G'
theorem stp_new {H G : Hp} {p : Addr} {o : HO} (e : Ex G H) (h : H p = none) : Stp0 H G (upd H p o) (upd G p o) :=
  ⟨Ex.new (e.none h), fun a u q _ => by rw [upd_ne (ne_of_none q h)]; exact q, fun a q r _ => by
    rw [upd_ne (fun z => r (by rw [z]; exact h))]
    exact q, fun a r => by
    by_cases z : a = p
    · subst z
      exact absurd h r
    · rw [upd_ne z]
      exact r⟩
theorem ex_new {H G : Hp} {p : Addr} {o : HO} (e : Ex G H) : Ex (upd G p o) (upd H p o) := fun a u q => by
  by_cases z : a = p
  · subst z
    rw [upd_same] at q ⊢
    cases q
    exact .inl rfl
  · rw [upd_ne z] at q
    rw [upd_ne z]
    exact e a u q
/-- a result behind an operation: a value, or a new cell -/
def RN (T : Tab) (H H' G' : Hp) : Bool → D → V → Prop
  | false, d, v => Rep T G' d v
  | true, d, v => ∃ p, v = .ref p ∧ H p = none ∧ Cell T H' G' p d
/-- what is handed on: data, in a grown heap; fr: lists and dicts are new -/
def Hand (T : Tab) (H G : Hp) (fr : Bool) (d : D) (Q : VK) : Prop := ∀ v H' G', Ex G' H' → Stp0 H G H' G' → RN T H H' G' (fr && d.obj) d v → Q v H'
section
variable {T : Tab} {H G : Hp} {Q : VK} {d : D} {v : V} {fr : Bool}
theorem Hand.here (q : Hand T H G fr d Q) (z : (fr && d.obj) = false) (e : Ex G H) (h : Rep T G d v) : Q v H := q v H G e Stp.refl (by rw [z]; exact h)
theorem stp_cell {p : Addr} {o : HO} (e : Ex G H) (h : H p = none) : Stp0 H G (upd H p o) G :=
  ⟨Ex.refl G, fun a u q _ => by rw [upd_ne (ne_of_none q h)]; exact q, fun a q _ _ => q, fun a r => by
    by_cases z : a = p
    · subst z
      exact absurd h r
    · rw [upd_ne z]
      exact r⟩
theorem ex_cell {p : Addr} {o : HO} (e : Ex G H) (h : H p = none) : Ex G (upd H p o) := fun a u q => by
  by_cases z : a = p
  · subst z
    rw [e.none h] at q
    cases q
  · rw [upd_ne z]
    exact e a u q
theorem Hand.lst {l : List D} {vs : List V} {p : Addr} (q : Hand T H G true (.lst l) Q) (e : Ex G H) (h : RepL T G l vs) (n : H p = none) : Q (.ref p) (upd H p (.lst vs)) :=
  q _ _ G (ex_cell e n) (stp_cell e n) ⟨p, rfl, n, e.none n, vs, upd_same, h⟩
theorem Hand.tup {l : List D} {vs : List V} {p : Addr} (q : Hand T H G fr (.tup l) Q) (e : Ex G H) (h : RepL T G l vs) (n : H p = none) : Q (.ref p) (upd H p (.tup vs)) :=
  q _ _ (upd G p (.tup vs)) (ex_new e) (stp_new e n) (by
    have : (fr && (D.tup l).obj) = false := by cases fr <;> rfl
    rw [this]
    show Rep _ _ _ _
    unfold Rep
    exact ⟨p, vs, rfl, SqT.of upd_same, h.mono (Ex.new (e.none n))⟩)
end
/-- an operation of two values, of a list of values, by data -/
def RD2 (T : Tab) (fr : Bool) (f : D → D → Option D) : R2 := fun x y H Q => ∃ G dx dy dz, Ex G H ∧ BR T H G dx x ∧ BR T H G dy y ∧ f dx dy = some dz ∧ Hand T H G fr dz Q
def BRL (T : Tab) (H G : Hp) : List D → List V → Prop
  | [], vs => vs = []
  | d :: l, vs => ∃ v r, vs = v :: r ∧ BR T H G d v ∧ BRL T H G l r
def RDn (T : Tab) (fr : Bool) (f : List D → Option D) : List V → Hp → VK → Prop := fun vs H Q => ∃ G ds dz, Ex G H ∧ BRL T H G ds vs ∧ f ds = some dz ∧ Hand T H G fr dz Q
theorem guard_some {α : Type} {c : Prop} [Decidable c] {a b : α} (h : (if c then some a else none) = some b) : c ∧ a = b := by
  by_cases z : c
  · rw [if_pos z] at h
    exact ⟨z, Option.some.inj h⟩
  · rw [if_neg z] at h
    cases h
theorem szl_le {n : Nat} (h : szl n = true) : n ≤ sizeLine := Nat.le_trans (of_decide_eq_true h) (by decide)
theorem RepL.flat {T : Tab} {G : Hp} {l : List D} {vs : List V} (h : RepL T G l vs) : ∀ k, RepL T G (List.replicate k l).flatten (List.replicate k vs).flatten
  | 0 => by simpa using RepL.nil
  | k + 1 => by
    rw [List.replicate_succ, List.replicate_succ, List.flatten_cons, List.flatten_cons]
    exact h.append (RepL.flat h k)
theorem RepL.isNil {T : Tab} {G : Hp} {l : List D} {vs : List V} (h : RepL T G l vs) : vs = [] ↔ l = [] := by
  have e := h.length
  constructor
  · intro z
    subst z
    exact List.eq_nil_of_length_eq_zero e.symm
  · intro z
    subst z
    exact List.eq_nil_of_length_eq_zero e
section
variable {X : Cx} {T : Tab}
theorem rd_add (hK : X.K = T.K) : OpR X (binaryOp .Add) (RD2 T true (bop .add)) := by
  intro pins s σ H x y v u Q I rx ry h
  obtain ⟨G, dx, dy, dz, e, hx, hy, hf, q⟩ := h
  cases dx with
  | int i =>
    cases hx.int
    cases dy with
    | int j =>
      cases hy.int
      cases hf
      exact op_add pins s σ H _ _ v u Q I rx ry ⟨i, j, rfl, rfl, q.here rfl e (by unfold Rep; rfl)⟩
    | bl b =>
      cases hy.bl
      cases hf
      exact op_add_ib pins s σ H _ _ v u Q I rx ry ⟨i, b, rfl, rfl, q.here rfl e (by unfold Rep; rfl)⟩
    | _ => cases hf
  | str a =>
    cases hx.str
    cases dy with
    | str b =>
      cases hy.str
      obtain ⟨z, rfl⟩ := guard_some (c := szl (a.length + b.length) = true) hf
      exact op_add_str pins s σ H _ _ v u Q I rx ry ⟨a, b, rfl, rfl, szl_le z, q.here rfl e (by unfold Rep; rfl)⟩
    | _ => cases hf
  | tup l =>
    obtain ⟨a, vs, rfl, h1, h2⟩ := hx.tup
    cases dy with
    | tup m =>
      obtain ⟨b, ws, rfl, k1, k2⟩ := hy.tup
      obtain ⟨z, rfl⟩ := guard_some (c := szl (l.length + m.length) = true) hf
      have h1' : SqT X.K H a vs := by rw [hK]; exact e.sqT h1
      have k1' : SqT X.K H b ws := by rw [hK]; exact e.sqT k1
      refine op_catA pins s σ H _ _ v u Q I rx ry ⟨a, b, vs, ws, rfl, rfl, h1', k1', by rw [h2.length, k2.length]; exact szl_le z, fun en => ?_, fun _ en => ?_, fun _ _ p n => q.tup e (h2.append k2) n⟩
      · have := h2.isNil.mp en
        subst this
        exact q.here rfl e (by unfold Rep; exact ⟨b, ws, rfl, k1, k2⟩)
      · have := k2.isNil.mp en
        subst this
        rw [List.append_nil] at q
        exact q.here rfl e (by unfold Rep; exact ⟨a, vs, rfl, h1, h2⟩)
    | _ => cases hf
  | lst l =>
    obtain ⟨a, vs, rfl, h1, h2⟩ := hx.lst e
    cases dy with
    | lst m =>
      obtain ⟨b, ws, rfl, k1, k2⟩ := hy.lst e
      obtain ⟨z, rfl⟩ := guard_some (c := szl (l.length + m.length) = true) hf
      exact op_cat pins s σ H _ _ v u Q I rx ry ⟨a, b, vs, ws, rfl, rfl, h1, k1, by rw [h2.length, k2.length]; exact szl_le z, fun p n => q.lst e (h2.append k2) n⟩
    | _ => cases hf
  | _ => cases hf
theorem rd_sub : OpR X (binaryOp .Sub) (RD2 T true (bop .sub)) := by
  intro pins s σ H x y v u Q I rx ry h
  obtain ⟨G, dx, dy, dz, e, hx, hy, hf, q⟩ := h
  cases dx with
  | int i =>
    cases hx.int
    cases dy with
    | int j =>
      cases hy.int
      cases hf
      exact op_sub pins s σ H _ _ v u Q I rx ry ⟨i, j, rfl, rfl, q.here rfl e (by unfold Rep; rfl)⟩
    | _ => cases hf
  | _ => cases hf
theorem rd_fdiv : OpR X (binaryOp .FloorDiv) (RD2 T true (bop .fdiv)) := by
  intro pins s σ H x y v u Q I rx ry h
  obtain ⟨G, dx, dy, dz, e, hx, hy, hf, q⟩ := h
  cases dx with
  | int i =>
    cases hx.int
    cases dy with
    | int j =>
      cases hy.int
      obtain ⟨z, rfl⟩ := guard_some (c := j ≠ 0 ∧ Builtin.divisionGoesByPylong i j = false) hf
      exact opI (C := fun i j => j ≠ 0 ∧ Builtin.divisionGoesByPylong i j = false) (g := fun i j => i.fdiv j) (fun i j _ _ _ _ _ hc q => floordiv_int hc.1 q (.inl hc.2)) pins s σ H _ _ v u Q I rx ry ⟨i, j, rfl, rfl, z, q.here rfl e (by unfold Rep; rfl)⟩
    | _ => cases hf
  | _ => cases hf
theorem rd_mod : OpR X (binaryOp .Mod) (RD2 T true (bop .mod)) := by
  intro pins s σ H x y v u Q I rx ry h
  obtain ⟨G, dx, dy, dz, e, hx, hy, hf, q⟩ := h
  cases dx with
  | int i =>
    cases hx.int
    cases dy with
    | int j =>
      cases hy.int
      obtain ⟨z, rfl⟩ := guard_some (c := j ≠ 0) hf
      exact op_modN pins s σ H _ _ v u Q I rx ry ⟨i, j, rfl, rfl, z, q.here rfl e (by unfold Rep; rfl)⟩
    | _ => cases hf
  | _ => cases hf
theorem rd_pow : OpR X (binaryOp .Pow) (RD2 T true (bop .pow)) := by
  intro pins s σ H x y v u Q I rx ry h
  obtain ⟨G, dx, dy, dz, e, hx, hy, hf, q⟩ := h
  cases dx with
  | int i =>
    cases hx.int
    cases dy with
    | int j =>
      cases hy.int
      obtain ⟨z, rfl⟩ := guard_some (c := 0 ≤ j ∧ j ≤ 1000000 ∧ i.natAbs < 2 ^ 64) hf
      exact op_pow pins s σ H _ _ v u Q I rx ry ⟨i, j, rfl, rfl, z, q.here rfl e (by unfold Rep; rfl)⟩
    | _ => cases hf
  | _ => cases hf
end
end Pf
end
section
set_option Elab.async false
set_option linter.all false
set_option maxRecDepth 100000
set_option maxHeartbeats 1000000
/-! Rf4: products, comparisons, subscripts, slices, built-ins by data. -/
namespace Pf
open PySem PySem.Spec PyProof.Rows L2
theorem rep_one {α : Type} (l : List α) : (List.replicate (1 : Int).toNat l).flatten = l := by
  show (List.replicate 1 l).flatten = l
  simp [List.replicate_succ]
section
variable {X : Cx} {T : Tab}
theorem tup_one {M : Model} {A : Around} {E : Value → Shared → Prop} {prog : Program} {w : World} {s : Shared} {l : Addr} {its : List Value} {t : Tok} {Q : Value → Shared → Prop} (ht : IsTup s.heap l its.toArray) (hn : its ≠ [])
    (h : Q (.ref l) s) : wpAny (model prog w) A (binaryOp .Mult (.ref l) (.int 1 t)) Q E s := by
  obtain ⟨⟨cls, dd, data, sl⟩, ho, hc, n, hd⟩ := ht
  simp only at hc hd
  subst hc hd
  have hi : its.toArray.isEmpty = false := by
    cases its with
    | nil => exact absurd rfl hn
    | cons a b => rfl
  have W : Meets (Builtin.«tuple.__mul__» ⟨[.ref l, .int 1 t], []⟩) (fun _ R s => s.heap.get? l = some { cls := .type "tuple", dict := dd, data := .seq its.toArray n, slots := sl } ∧ R (.ok (.ret (Value.ref l))) s) :=
    .of_wp fun prog w A R s h => by
      obtain ⟨hp, g, d, tk, os⟩ := s
      obtain ⟨hl, h⟩ := h
      have f1 := AutoSeq1.idx_int
      have c0 : (decide ((1 : Int) < -(2 ^ 63)) || decide ((1 : Int) ≥ 2 ^ 63)) = false := by decide
      have c1 : (its.toArray.isEmpty || (1 : Int) == 1) = true := by rw [hi]; rfl
      wp_walk using AutoSeq1.wpAny_loadPart' hl
      repeat (first
        | (refine wpAny_ite_false (decide_eq_false (by rw [c0]; exact Bool.false_ne_true)) ?_; wp_walk using AutoSeq1.wpAny_loadPart' hl)
        | (refine wpAny_ite_true (decide_eq_true c1) ?_; wp_walk using AutoSeq1.wpAny_loadPart' hl))
      all_goals exact ⟨_, rfl, h⟩
  exact wpAny_binaryOp_repeat_ref (T := "tuple") (U := "int") (by decide) ⟨_, ho, rfl⟩ (fun s' => typeIs_int s' 1 t) noFill_tuple_mul F.fills_int_mul F.slot_int_rmul repeat_tuple F.slot_int_index.lookup
    (call_meets F.slot_int_rmul (typeIs_int s 1 t) F.entry_int_rmul (F.args_int_rmul_2 _ _) (int_rmul_tuple 1 t l its.toArray n dd sl)
      ⟨ho, rfl, ⟨_, ho, rfl⟩, call_meets F.slot_tuple_mul ⟨_, ho, rfl⟩ F.entry_tuple_mul (F.args_tuple_mul_2 _ _) W ⟨ho, h⟩⟩)
theorem rd_mul (hK : X.K = T.K) : OpR X (binaryOp .Mult) (RD2 T true (bop .mul)) := by
  intro pins s σ H x y v u Q I rx ry h
  obtain ⟨G, dx, dy, dz, e, hx, hy, hf, q⟩ := h
  cases dy with
  | int j =>
    cases hy.int
    cases dx with
    | int i =>
      cases hx.int
      obtain ⟨z, rfl⟩ := guard_some (c := i.natAbs.log2 + j.natAbs.log2 < 1000000) hf
      exact op_mulW pins s σ H _ _ v u Q I rx ry ⟨i, j, rfl, rfl, z, q.here rfl e (by unfold Rep; rfl)⟩
    | str a =>
      cases hx.str
      obtain ⟨z, rfl⟩ := guard_some (c := 0 ≤ j ∧ j ≤ 1000 ∧ a.length ≤ 1000) hf
      obtain ⟨t, rfl⟩ := rx
      obtain ⟨t', rfl⟩ := ry
      exact SB.mul (mulOk_of 1000 1000 z.2.2 z.2.1 (by omega) (by decide) (by decide)) fun t2 k => ⟨.str _, H, I.tok _, ⟨_, rfl⟩, q.here rfl e (by unfold Rep; rfl)⟩
    | tup l =>
      obtain ⟨a, vs, rfl, h1, h2⟩ := hx.tup
      obtain ⟨z, rfl⟩ := guard_some (c := 1 ≤ j ∧ j ≤ 1000 ∧ l.isEmpty = false ∧ l.length ≤ 1000) hf
      have h1' : SqT X.K H a vs := by rw [hK]; exact e.sqT h1
      have hne : vs ≠ [] := fun en => by
        have := h2.isNil.mp en
        subst this
        exact absurd z.2.2.1 (by decide)
      by_cases j1 : j = 1
      · subst j1
        cases rx
        obtain ⟨t, rfl⟩ := ry
        obtain ⟨its, r, p, hz⟩ := I.tuple h1'
        rw [rep_one] at q
        exact tup_one (M := model X.prog X.w) p (fun en => by
          subst en
          cases r
          exact hne rfl) ⟨.ref a, H, I, rfl, q.here rfl e (by unfold Rep; exact ⟨a, vs, rfl, h1, h2⟩)⟩
      · exact op_repT pins s σ H _ _ v u Q I rx ry ⟨a, j, vs, rfl, rfl, h1', hne, by omega, z.2.1, by rw [h2.length]; exact z.2.2.2, fun p n => q.tup e (h2.flat _) n⟩
    | lst l =>
      obtain ⟨a, vs, rfl, h1, h2⟩ := hx.lst e
      obtain ⟨z, rfl⟩ := guard_some (c := 0 ≤ j ∧ j ≤ 1000 ∧ l.length ≤ 1000) hf
      refine op_rep pins s σ H _ _ v u Q I rx ry ⟨a, j, vs, rfl, rfl, h1, by omega, by omega, ?_, fun p n => q.lst e (h2.flat _) n⟩
      rw [h2.length, sizeLine_eq]
      have : l.length * j.toNat ≤ 1000 * 1000 := Nat.mul_le_mul z.2.2 (by omega)
      omega
    | _ => cases hf
  | _ => cases dx <;> cases hf
end
def astB : Bop → Operator
  | .add => .Add
  | .sub => .Sub
  | .mul => .Mult
  | .fdiv => .FloorDiv
  | .mod => .Mod
  | .pow => .Pow
theorem rd_bop {X : Cx} {T : Tab} (hK : X.K = T.K) : ∀ o : Bop, OpR X (binaryOp (astB o)) (RD2 T true (bop o))
  | .add => rd_add hK
  | .sub => rd_sub
  | .mul => rd_mul hK
  | .fdiv => rd_fdiv
  | .mod => rd_mod
  | .pow => rd_pow

/-! ### comparisons -/
/-- a comparison of two values, by data -/
def RC2 (T : Tab) (f : D → D → Option Bool) : R2 := fun x y H Q => ∃ G dx dy b, Ex G H ∧ BR T H G dx x ∧ BR T H G dy y ∧ f dx dy = some b ∧ Q (.bl b) H
section
variable {X : Cx} {T : Tab}
theorem BR.dp {H G : Hp} {d : D} {v : V} (e : Ex G H) (p : d.plain = true) (h : BR T H G d v) : Dp T.K H v d.py := (h.rep e).dp p
theorem eqOk_of {x y : D} (h : eqOk x y = true) : x.plain = true ∧ y.plain = true ∧ min x.py.depth y.py.depth ≤ 60 := by
  unfold eqOk at h
  simp only [Bool.and_eq_true, decide_eq_true_eq] at h
  exact ⟨h.1.1, h.1.2, h.2⟩
theorem inOk_of {x : D} {l : List D} (h : inOk x l = true) : x.plain = true ∧ D.plainL l = true ∧ min (PyData.depthAll (D.pyL l)) x.py.depth ≤ 60 := by
  unfold inOk at h
  simp only [Bool.and_eq_true, decide_eq_true_eq] at h
  exact ⟨h.1.1, h.1.2, h.2⟩
theorem rc_eq (hK : X.K = T.K) (hu : X.A.units + 64 < cLine) : OpR X (compareOp .Eq) (RC2 T (cop .eq)) := by
  intro pins s σ H x y v u Q I rx ry h
  obtain ⟨G, dx, dy, b, e, hx, hy, hf, q⟩ := h
  obtain ⟨z, rfl⟩ := guard_some (c := eqOk dx dy = true) hf
  obtain ⟨z1, z2, z3⟩ := eqOk_of z
  obtain ⟨as, r1⟩ := Dp.reads I _ x v (by rw [hK]; exact hx.dp e z1) rx
  obtain ⟨bs, r2⟩ := Dp.reads I _ y u (by rw [hK]; exact hy.dp e z2) ry
  refine SeqAt.eq_plain r1 r2 (plain_py _ z1) (plain_py _ z2) (by omega) ⟨.bl _, H, I, rfl, ?_⟩
  rw [← eqv_py _ _ z1 z2]
  exact q
theorem rc_ne (hK : X.K = T.K) (hu : X.A.units + 64 < cLine) : OpR X (compareOp .NotEq) (RC2 T (cop .ne)) := by
  intro pins s σ H x y v u Q I rx ry h
  obtain ⟨G, dx, dy, b, e, hx, hy, hf, q⟩ := h
  obtain ⟨z, rfl⟩ := guard_some (c := eqOk dx dy = true) hf
  obtain ⟨z1, z2, z3⟩ := eqOk_of z
  obtain ⟨as, r1⟩ := Dp.reads I _ x v (by rw [hK]; exact hx.dp e z1) rx
  obtain ⟨bs, r2⟩ := Dp.reads I _ y u (by rw [hK]; exact hy.dp e z2) ry
  refine SeqAt.ne_plain r1 r2 (plain_py _ z1) (plain_py _ z2) (by omega) ⟨.bl _, H, I, rfl, ?_⟩
  rw [← eqv_py _ _ z1 z2]
  exact q
theorem cmp_ints {op : CmpOp} {f : D → D → Option Bool} {g : Int → Int → Bool} (ho : OpR X (compareOp op) (rI0 fun i j => .bl (g i j))) (hf : ∀ x y b, f x y = some b → ∃ i j, x = .int i ∧ y = .int j ∧ b = g i j) : OpR X (compareOp op) (RC2 T f) := by
  intro pins s σ H x y v u Q I rx ry h
  obtain ⟨G, dx, dy, b, e, hx, hy, h1, q⟩ := h
  obtain ⟨i, j, rfl, rfl, rfl⟩ := hf _ _ _ h1
  cases hx.int
  cases hy.int
  exact ho pins s σ H _ _ v u Q I rx ry ⟨i, j, rfl, rfl, q⟩
theorem rc_lt : OpR X (compareOp .Lt) (RC2 T (cop .lt)) := cmp_ints op_lt fun x y b h => by
  cases x <;> cases y <;> cases h
  exact ⟨_, _, rfl, rfl, rfl⟩
theorem rc_le : OpR X (compareOp .LtE) (RC2 T (cop .le)) := cmp_ints op_le fun x y b h => by
  cases x <;> cases y <;> cases h
  exact ⟨_, _, rfl, rfl, rfl⟩
theorem rc_gt : OpR X (compareOp .Gt) (RC2 T (cop .gt)) := cmp_ints op_gt fun x y b h => by
  cases x <;> cases y <;> cases h
  exact ⟨_, _, rfl, rfl, rfl⟩
theorem rc_ge : OpR X (compareOp .GtE) (RC2 T (cop .ge)) := cmp_ints op_ge fun x y b h => by
  cases x <;> cases y <;> cases h
  exact ⟨_, _, rfl, rfl, rfl⟩
theorem key_kV {T : Tab} {H G : Hp} {d : D} {k : Key} {v : V} (h : d.key = some k) (r : BR T H G d v) : v = kV k := by
  cases d <;> cases h
  · exact r.int
  · exact r.str
theorem look_valV {T : Tab} {G : Hp} (k : Key) : ∀ (kvs : List (Key × V)) (l : List D), RepL T G l (kvs.map (·.2)) → (match look k (kvs.map (·.1)) l with
    | some d => ∃ v, valV kvs k = some v ∧ Rep T G d v
    | none => valV kvs k = none)
  | [], l, _ => by
    unfold look
    rfl
  | (j, v) :: kvs, [], h => by
    unfold RepL at h
    cases h
  | (j, v) :: kvs, d :: l, h => by
    unfold RepL at h
    obtain ⟨v', r, e, h2, h3⟩ := h
    cases e
    have ih := look_valV k kvs l h3
    show match (if j = k then some d else look k (kvs.map (·.1)) l) with
      | some d => ∃ v', valV ((j, v) :: kvs) k = some v' ∧ Rep T G d v'
      | none => valV ((j, v) :: kvs) k = none
    by_cases hj : j = k
    · rw [if_pos hj]
      exact ⟨v, valV_pos hj, h2⟩
    · rw [if_neg hj]
      have e2 : valV ((j, v) :: kvs) k = valV kvs k := valV_neg hj
      rw [e2]
      exact ih
theorem look_some {T : Tab} {G : Hp} {k : Key} {kvs : List (Key × V)} {l : List D} {d : D} (h : RepL T G l (kvs.map (·.2))) (e : look k (kvs.map (·.1)) l = some d) : ∃ v, valV kvs k = some v ∧ Rep T G d v := by
  have z := look_valV k kvs l h
  rw [e] at z
  exact z
theorem look_none {T : Tab} {G : Hp} {k : Key} {kvs : List (Key × V)} {l : List D} (h : RepL T G l (kvs.map (·.2))) (e : look k (kvs.map (·.1)) l = none) : valV kvs k = none := by
  have z := look_valV k kvs l h
  rw [e] at z
  exact z
theorem isSome_look {T : Tab} {G : Hp} {k : Key} {kvs : List (Key × V)} {l : List D} (h : RepL T G l (kvs.map (·.2))) : (valV kvs k).isSome = (look k (kvs.map (·.1)) l).isSome := by
  cases e : look k (kvs.map (·.1)) l with
  | none => rw [look_none h e]; rfl
  | some d =>
    obtain ⟨v, e2, _⟩ := look_some h e
    rw [e2] <;> rfl
theorem in_any (hK : X.K = T.K) (hu : X.A.units + 64 < cLine) (neg : Bool) {op : CmpOp} (hop : op = if neg then .NotIn else .In) {pins : List (Addr × Obj)} {s : Shared} {σ : L2.St} {H G : Hp} {x y : V} {v u : Value} {Q : VK} {dx dy : D} {b : Bool}
    (I : Inv X pins σ H s) (rx : RelV x v) (ry : RelV y u) (e : Ex G H) (hx : BR T H G dx x) (hy : BR T H G dy y) (hf : dx.isIn dy = some b) (q : Q (.bl (if neg then !b else b)) H) :
    wpAny (model X.prog X.w) X.A (compareOp op v u) (EP X pins σ Q) X.xe s := by
  have seq : ∀ (l : List D), inOk dx l = true → b = (l.any fun y => y.eqv dx) → (dy = .lst l ∨ dy = .tup l) → wpAny (model X.prog X.w) X.A (compareOp op v u) (EP X pins σ Q) X.xe s := by
    intro l z eb el
    obtain ⟨z1, z2, z3⟩ := inOk_of z
    have pl : dy.plain = true := by rcases el with rfl | rfl <;> (unfold D.plain; exact z2)
    obtain ⟨as, r1⟩ := Dp.reads I _ x v (by rw [hK]; exact hx.dp e z1) rx
    obtain ⟨bs, r2⟩ := Dp.reads I _ y u (by rw [hK]; exact hy.dp e pl) ry
    subst eb
    rw [any_py dx z1 l z2] at q
    rcases el with rfl | rfl
    · have r2' : Reads s.heap u (.list (D.pyL l)) bs := by
        unfold D.py at r2
        exact r2
      cases neg with
      | true => subst hop; exact SeqAt.notIn_list_data r2' r1 (plainL_py _ z2) (plain_py _ z1) (by omega) ⟨.bl _, H, I, rfl, q⟩
      | false => subst hop; exact SeqAt.in_list_data r2' r1 (plainL_py _ z2) (plain_py _ z1) (by omega) ⟨.bl _, H, I, rfl, q⟩
    · have r2' : Reads s.heap u (.tuple (D.pyL l)) bs := by
        unfold D.py at r2
        exact r2
      cases neg with
      | true => subst hop; exact SeqAt.notIn_tuple_data r2' r1 (plainL_py _ z2) (plain_py _ z1) (by omega) ⟨.bl _, H, I, rfl, q⟩
      | false => subst hop; exact SeqAt.in_tuple_data r2' r1 (plainL_py _ z2) (plain_py _ z1) (by omega) ⟨.bl _, H, I, rfl, q⟩
  cases dy with
  | lst l =>
    obtain ⟨z, rfl⟩ := guard_some (c := inOk dx l = true) (show (if inOk dx l = true then some (l.any fun y => y.eqv dx) else none) = some b by cases dx <;> exact hf)
    exact seq l z rfl (.inl rfl)
  | tup l =>
    obtain ⟨z, rfl⟩ := guard_some (c := inOk dx l = true) (show (if inOk dx l = true then some (l.any fun y => y.eqv dx) else none) = some b by cases dx <;> exact hf)
    exact seq l z rfl (.inr rfl)
  | str y =>
    cases hy.str
    cases dx with
    | str a =>
      cases hx.str
      cases hf
      cases neg with
      | true => subst hop; exact op_notin_str pins s σ H _ _ v u Q I rx ry ⟨a, y, rfl, rfl, q⟩
      | false => subst hop; exact op_in_str pins s σ H _ _ v u Q I rx ry ⟨a, y, rfl, rfl, q⟩
    | _ => cases hf
  | dic ks l =>
    obtain ⟨a, kvs, rfl, h1, h2, h3⟩ := hy.dic e
    subst h2
    have hf' : (match dx.key with
      | some k => some (look k (kvs.map (·.1)) l).isSome
      | none => none) = some b := by cases dx <;> exact hf
    cases hk : dx.key with
    | none => rw [hk] at hf'; cases hf'
    | some k =>
      rw [hk] at hf'
      cases hf'
      rw [key_kV hk hx] at rx
      have g : DGet H a (kV k) (valV kvs k) := .inl ⟨kvs, k, h1, rfl, rfl⟩
      cases ry
      rw [← isSome_look h3] at q
      cases neg with
      | true => subst hop; exact d_notIn (by omega) I g rx fun s' I' => ⟨.bl _, H, I', rfl, q⟩
      | false => subst hop; exact d_in (by omega) I g rx fun s' I' => ⟨.bl _, H, I', rfl, q⟩
  | _ => cases dx <;> cases hf
theorem rc_in (hK : X.K = T.K) (hu : X.A.units + 64 < cLine) : OpR X (compareOp .In) (RC2 T (cop .isin)) := by
  intro pins s σ H x y v u Q I rx ry h
  obtain ⟨G, dx, dy, b, e, hx, hy, hf, q⟩ := h
  exact in_any hK hu false rfl I rx ry e hx hy (show dx.isIn dy = some b from hf) q
theorem rc_notin (hK : X.K = T.K) (hu : X.A.units + 64 < cLine) : OpR X (compareOp .NotIn) (RC2 T (cop .notin)) := by
  intro pins s σ H x y v u Q I rx ry h
  obtain ⟨G, dx, dy, b, e, hx, hy, hf, q⟩ := h
  have hf' : (dx.isIn dy).map (!·) = some b := hf
  cases z : dx.isIn dy with
  | none => rw [z] at hf'; cases hf'
  | some c =>
    rw [z] at hf'
    cases hf'
    exact in_any hK hu true rfl I rx ry e hx hy z q
end
def astC : Cop → CmpOp
  | .eq => .Eq
  | .ne => .NotEq
  | .lt => .Lt
  | .le => .LtE
  | .gt => .Gt
  | .ge => .GtE
  | .isin => .In
  | .notin => .NotIn
theorem rc_cop {X : Cx} {T : Tab} (hK : X.K = T.K) (hu : X.A.units + 64 < cLine) : ∀ o : Cop, OpR X (compareOp (astC o)) (RC2 T (cop o))
  | .eq => rc_eq hK hu
  | .ne => rc_ne hK hu
  | .lt => rc_lt
  | .le => rc_le
  | .gt => rc_gt
  | .ge => rc_ge
  | .isin => rc_in hK hu
  | .notin => rc_notin hK hu
end Pf
end
section
set_option Elab.async false
set_option linter.all false
set_option maxRecDepth 100000
set_option maxHeartbeats 1000000
/-! Rf5: subscripts, slices, built-in functions by data. -/
namespace Pf
open PySem PySem.Spec PyProof.Rows L2
section
variable {X : Cx} {T : Tab}
theorem RepL.atI {G : Hp} {l : List D} {vs : List V} {i : Int} {d : D} (h : RepL T G l vs) (e : L2.atI l i = some d) : ∃ v, L2.atI vs i = some v ∧ Rep T G d v := by
  unfold L2.atI at e ⊢
  rw [h.length]
  cases z : ixN l.length i with
  | none => rw [z] at e; cases e
  | some j =>
    rw [z] at e
    exact h.get e
theorem atI_map {α β : Type} (f : α → β) (l : List α) (i : Int) : L2.atI (l.map f) i = (L2.atI l i).map f := by
  unfold L2.atI
  rw [List.length_map]
  cases ixN l.length i with
  | none => rfl
  | some j => exact List.getElem?_map ..
theorem rd_idx (hK : X.K = T.K) (hu : X.A.units + 1 < cLine) : IxR X (RD2 T false Pf.idx) := by
  intro value slice pins s σ H x y v u Q I rx ry h hs
  obtain ⟨G, dx, dy, dz, e, hx, hy, hf, q⟩ := h
  cases dx with
  | lst l =>
    obtain ⟨a, vs, rfl, h1, h2⟩ := hx.lst e
    cases dy with
    | int i =>
      cases hy.int
      obtain ⟨w, h3, h4⟩ := h2.atI (show L2.atI l i = some dz from hf)
      exact ix_list value slice pins s σ H _ _ v u Q I rx ry ⟨a, vs, i, w, rfl, rfl, SqL.of h1, h3, q.here rfl e h4⟩ hs
    | _ => cases hf
  | tup l =>
    obtain ⟨a, vs, rfl, h1, h2⟩ := hx.tup
    cases dy with
    | int i =>
      cases hy.int
      obtain ⟨w, h3, h4⟩ := h2.atI (show L2.atI l i = some dz from hf)
      exact ix_tup value slice pins s σ H _ _ v u Q I rx ry ⟨a, vs, i, w, rfl, rfl, by rw [hK]; exact e.sqT h1, h3, q.here rfl e h4⟩ hs
    | _ => cases hf
  | scr l =>
    obtain ⟨a, rfl, h1⟩ := hx.scr e
    cases dy with
    | int i =>
      cases hy.int
      have hf' : (L2.atI l i).map D.int = some dz := hf
      cases z : L2.atI l i with
      | none => rw [z] at hf'; cases hf'
      | some n =>
        rw [z] at hf'
        cases hf'
        exact ix_list value slice pins s σ H _ _ v u Q I rx ry ⟨a, l.map V.int, i, .int n, rfl, rfl, by rw [hK]; exact h1, by rw [atI_map, z] <;> rfl, q.here rfl e (by unfold Rep; rfl)⟩ hs
    | _ => cases hf
  | str z =>
    cases hx.str
    cases dy with
    | int i =>
      cases hy.int
      have hf' : (if szl z.length = true then (L2.atI z.cps.toList i).map fun c => D.str ⟨#[c]⟩ else none) = some dz := hf
      by_cases hz : szl z.length = true
      · rw [if_pos hz] at hf'
        cases zc : L2.atI z.cps.toList i with
        | none => rw [zc] at hf'; cases hf'
        | some c =>
          rw [zc] at hf'
          cases hf'
          exact ix_str value slice pins s σ H _ _ v u Q I rx ry ⟨z, i, c, rfl, rfl, szl_le hz, zc, q.here rfl e (by unfold Rep; rfl)⟩ hs
      · rw [if_neg hz] at hf'
        cases hf'
    | _ => cases hf
  | dic ks l =>
    obtain ⟨a, kvs, rfl, h1, h2, h3⟩ := hx.dic e
    subst h2
    have hf' : (match dy.key with
      | some k => look k (kvs.map (·.1)) l
      | none => none) = some dz := by cases dy <;> exact hf
    cases hk : dy.key with
    | none => rw [hk] at hf'; cases hf'
    | some k =>
      rw [hk] at hf'
      obtain ⟨w, h4, h5⟩ := look_some h3 hf'
      rw [key_kV hk hy] at ry
      have g : DGet H a (kV k) (some w) := .inl ⟨kvs, k, h1, rfl, h4.symm⟩
      cases rx
      exact tail_any (dict_typeIs I g) PySem.F.slot_dict_getitem.lookup (d_getItem hu I g ry fun w' s' I' rw' => ⟨w, H, I', rw', q.here rfl e h5⟩) hs
  | _ => cases dy <;> cases hf

theorem cutL_rep {G : Hp} {l : List D} {vs : List V} (h : RepL T G l vs) (lo hi : Option Int) : RepL T G (cutL l lo hi) (cutV vs lo hi) := by
  unfold cutL cutV
  rw [h.length]
  exact (h.drop _).take _
def RDs (T : Tab) : V → Option Int → Option Int → Hp → VK → Prop := fun x lo hi H Q => ∃ G dx dz, Ex G H ∧ BR T H G dx x ∧ slcO dx lo hi = some dz ∧ Hand T H G true dz Q
theorem rd_slc (hK : X.K = T.K) : SlR X (RDs T) := by
  intro pins s σ H x v vl vu lo hi sl Q I rx hs pl pu h
  obtain ⟨G, dx, dz, e, hx, hf, q⟩ := h
  cases dx with
  | lst l =>
    obtain ⟨a, vs, rfl, h1, h2⟩ := hx.lst e
    cases hf
    exact sl_list pins s σ H _ v vl vu lo hi sl Q I rx hs pl pu ⟨a, vs, rfl, SqL.of h1, fun p n => q.lst e (cutL_rep h2 lo hi) n⟩
  | tup l =>
    obtain ⟨a, vs, rfl, h1, h2⟩ := hx.tup
    cases hf
    refine sl_tupA pins s σ H _ v vl vu lo hi sl Q I rx hs pl pu ⟨a, vs, rfl, by rw [hK]; exact e.sqT h1, fun w => ?_, fun _ p n => q.tup e (cutL_rep h2 lo hi) n⟩
    have ec : cutL l lo hi = l := by
      unfold cutL
      rw [← h2.length, w.1, w.2, List.drop_zero, h2.length, Nat.sub_zero, List.take_length]
    rw [ec] at q
    exact q.here rfl e (by unfold Rep; exact ⟨a, vs, rfl, h1, h2⟩)
  | str z =>
    cases hx.str
    obtain ⟨hz, rfl⟩ := guard_some (c := szl z.length = true) hf
    exact sl_str pins s σ H _ v vl vu lo hi sl Q I rx hs pl pu ⟨z, rfl, szl_le hz, q.here rfl e (by unfold Rep; rfl)⟩
  | _ => cases hf

/-! ### built-in functions -/
theorem BRL.one {H G : Hp} {d : D} {vs : List V} (h : BRL T H G [d] vs) : ∃ v, vs = [v] ∧ BR T H G d v := by
  unfold BRL at h
  obtain ⟨v, r, rfl, h1, h2⟩ := h
  unfold BRL at h2
  subst h2
  exact ⟨v, rfl, h1⟩
theorem BRL.two {H G : Hp} {d f : D} {vs : List V} (h : BRL T H G [d, f] vs) : ∃ v w, vs = [v, w] ∧ BR T H G d v ∧ BR T H G f w := by
  unfold BRL at h
  obtain ⟨v, r, rfl, h1, h2⟩ := h
  obtain ⟨w, rfl, h3⟩ := BRL.one h2
  exact ⟨v, w, rfl, h1, h3⟩
theorem rep_int {G : Hp} {i : Int} : Rep T G (.int i) (.int i) := by unfold Rep; rfl
theorem rep_bl {G : Hp} {b : Bool} : Rep T G (.bl b) (.bl b) := by unfold Rep; rfl
theorem rep_str {G : Hp} {x : Str} : Rep T G (.str x) (.str x) := by unfold Rep; rfl
theorem rep_non {G : Hp} : Rep T G .non .non := by unfold Rep; rfl
theorem ints_of : ∀ {G : Hp} {l : List D} {vs : List V} {ns : List Int}, RepL T G l vs → D.ints l = some ns → vs = ns.map V.int
  | G, [], vs, ns, h, e => by
    unfold RepL at h
    cases e
    exact h
  | G, d :: l, vs, ns, h, e => by
    unfold RepL at h
    obtain ⟨v, r, rfl, h1, h2⟩ := h
    cases d with
    | int i =>
      have e' : (D.ints l).map (i :: ·) = some ns := e
      cases z : D.ints l with
      | none => rw [z] at e'; cases e'
      | some m =>
        rw [z] at e'
        cases e'
        rw [h1.int, ints_of h2 z] <;> rfl
    | _ => cases e
theorem bls_of : ∀ {G : Hp} {l : List D} {vs : List V} {ns : List Bool}, RepL T G l vs → D.bls l = some ns → vs = ns.map V.bl
  | G, [], vs, ns, h, e => by
    unfold RepL at h
    cases e
    exact h
  | G, d :: l, vs, ns, h, e => by
    unfold RepL at h
    obtain ⟨v, r, rfl, h1, h2⟩ := h
    cases d with
    | bl i =>
      have e' : (D.bls l).map (i :: ·) = some ns := e
      cases z : D.bls l with
      | none => rw [z] at e'; cases e'
      | some m =>
        rw [z] at e'
        cases e'
        rw [h1.bl, bls_of h2 z] <;> rfl
    | _ => cases e
theorem bi_one {b : Bi} {ds : List D} {dz : D} (h : bi b ds = some dz) (hb : b ≠ .min2) (hb2 : b ≠ .max2) : ∃ d, ds = [d] := by
  rcases ds with _ | ⟨d, _ | ⟨f, l⟩⟩
  · cases b <;> cases h
  · exact ⟨d, rfl⟩
  · cases b <;> first | exact absurd rfl hb | exact absurd rfl hb2 | (cases d <;> cases h)
theorem bi_two {b : Bi} {ds : List D} {dz : D} (h : bi b ds = some dz) (hb : b = .min2 ∨ b = .max2) : ∃ d f, ds = [d, f] := by
  rcases ds with _ | ⟨d, _ | ⟨f, _ | ⟨g, l⟩⟩⟩
  · rcases hb with rfl | rfl <;> cases h
  · rcases hb with rfl | rfl <;> (cases d <;> cases h)
  · exact ⟨d, f, rfl⟩
  · rcases hb with rfl | rfl <;> (cases d <;> cases f <;> cases h)
theorem rn_len (hK : X.K = T.K) : CallR X (.builtin "len") (RDn T false (bi .len)) := by
  intro pins s σ H vs us Q I r h
  obtain ⟨G, ds, dz, e, hx, hf, q⟩ := h
  obtain ⟨d, rfl⟩ := bi_one hf (by decide) (by decide)
  · have hx2 := BRL.one hx; clear hx; obtain ⟨v, rfl, hx⟩ := hx2
    cases d with
    | lst l =>
      obtain ⟨a, vs, rfl, h1, h2⟩ := hx.lst e
      cases hf
      refine call_len_seq pins s σ H _ us Q I r ⟨a, vs, rfl, .inl (SqL.of h1), ?_⟩
      rw [h2.length]
      exact q.here rfl e rep_int
    | tup l =>
      obtain ⟨a, vs, rfl, h1, h2⟩ := hx.tup
      cases hf
      refine call_len_seq pins s σ H _ us Q I r ⟨a, vs, rfl, .inr (by rw [hK]; exact e.sqT h1), ?_⟩
      rw [h2.length]
      exact q.here rfl e rep_int
    | scr l =>
      obtain ⟨a, rfl, h1⟩ := hx.scr e
      cases hf
      refine call_len_seq pins s σ H _ us Q I r ⟨a, _, rfl, .inl (by rw [hK]; exact h1), ?_⟩
      rw [List.length_map]
      exact q.here rfl e rep_int
    | str z =>
      cases hx.str
      obtain ⟨hz, rfl⟩ := guard_some (c := szl z.length = true) hf
      exact call_len_str pins s σ H _ us Q I r ⟨z, rfl, szl_le hz, q.here rfl e rep_int⟩
    | dic ks l =>
      obtain ⟨a, kvs, rfl, h1, h2, h3⟩ := hx.dic e
      cases hf
      obtain ⟨u, rfl, rx⟩ := vals1 r
      cases rx
      refine d_len I h1 fun t s' I' => ⟨.int kvs.length, H, I', ⟨t, rfl⟩, ?_⟩
      have : kvs.length = ks.length := by rw [← h2, List.length_map]
      rw [this]
      exact q.here rfl e rep_int
    | _ => cases hf
theorem rn_abs : CallR X (.builtin "abs") (RDn T false (bi .abs)) := by
  intro pins s σ H vs us Q I r h
  obtain ⟨G, ds, dz, e, hx, hf, q⟩ := h
  obtain ⟨d, rfl⟩ := bi_one hf (by decide) (by decide)
  · have hx2 := BRL.one hx; clear hx; obtain ⟨v, rfl, hx⟩ := hx2
    cases d with
    | int i =>
      cases hx.int
      cases hf
      exact call_abs pins s σ H _ us Q I r ⟨i, rfl, q.here rfl e rep_int⟩
    | _ => cases hf
theorem rn_int : CallR X (.type "int") (RDn T false (bi .int)) := by
  intro pins s σ H vs us Q I r h
  obtain ⟨G, ds, dz, e, hx, hf, q⟩ := h
  obtain ⟨d, rfl⟩ := bi_one hf (by decide) (by decide)
  · have hx2 := BRL.one hx; clear hx; obtain ⟨v, rfl, hx⟩ := hx2
    cases d with
    | int i =>
      cases hx.int
      cases hf
      exact call_int1 pins s σ H _ us Q I r (.inl ⟨i, rfl, q.here rfl e rep_int⟩)
    | str z =>
      cases hx.str
      have hf : (if z.length ≤ 640 then (PySem.intText? z).map D.int else none) = some dz := hf
      by_cases hz : z.length ≤ 640
      · rw [if_pos hz] at hf
        cases hn : PySem.intText? z with
        | none => rw [hn] at hf; cases hf
        | some n =>
          rw [hn] at hf
          cases hf
          exact call_int_str pins s σ H _ us Q I r ⟨z, n, rfl, hn, hz, q.here rfl e rep_int⟩
      · rw [if_neg hz] at hf
        cases hf
    | _ => cases hf
theorem rn_str : CallR X (.type "str") (RDn T false (bi .str)) := by
  intro pins s σ H vs us Q I r h
  obtain ⟨G, ds, dz, e, hx, hf, q⟩ := h
  obtain ⟨d, rfl⟩ := bi_one hf (by decide) (by decide)
  · have hx2 := BRL.one hx; clear hx; obtain ⟨v, rfl, hx⟩ := hx2
    cases d with
    | int i =>
      cases hx.int
      obtain ⟨hz, rfl⟩ := guard_some (c := i.natAbs.log2 < 1920) hf
      exact call_str_int pins s σ H _ us Q I r ⟨i, rfl, hz, q.here rfl e rep_str⟩
    | _ => cases hf
theorem rn_tuple (hK : X.K = T.K) : CallR X (.type "tuple") (RDn T false (bi .tuple)) := by
  intro pins s σ H vs us Q I r h
  obtain ⟨G, ds, dz, e, hx, hf, q⟩ := h
  obtain ⟨d, rfl⟩ := bi_one hf (by decide) (by decide)
  · have hx2 := BRL.one hx; clear hx; obtain ⟨v, rfl, hx⟩ := hx2
    cases d with
    | lst l =>
      obtain ⟨a, vs, rfl, h1, h2⟩ := hx.lst e
      cases hf
      exact call_tuple_of pins s σ H _ us Q I r ⟨a, vs, rfl, .inl ⟨SqL.of h1, fun p n => q.tup e h2 n⟩⟩
    | tup l =>
      obtain ⟨a, vs, rfl, h1, h2⟩ := hx.tup
      cases hf
      exact call_tuple_of pins s σ H _ us Q I r ⟨a, vs, rfl, .inr ⟨by rw [hK]; exact e.sqT h1, q.here rfl e (by unfold Rep; exact ⟨a, vs, rfl, h1, h2⟩)⟩⟩
    | _ => cases hf
theorem rn_list (hK : X.K = T.K) : CallR X (.type "list") (RDn T true (bi .list)) := by
  intro pins s σ H vs us Q I r h
  obtain ⟨G, ds, dz, e, hx, hf, q⟩ := h
  obtain ⟨d, rfl⟩ := bi_one hf (by decide) (by decide)
  · have hx2 := BRL.one hx; clear hx; obtain ⟨v, rfl, hx⟩ := hx2
    cases d with
    | lst l =>
      obtain ⟨a, vs, rfl, h1, h2⟩ := hx.lst e
      cases hf
      exact call_list_of pins s σ H _ us Q I r ⟨a, vs, rfl, .inl (SqL.of h1), fun p n => q.lst e h2 n⟩
    | tup l =>
      obtain ⟨a, vs, rfl, h1, h2⟩ := hx.tup
      cases hf
      exact call_list_of pins s σ H _ us Q I r ⟨a, vs, rfl, .inr (by rw [hK]; exact e.sqT h1), fun p n => q.lst e h2 n⟩
    | _ => cases hf
theorem rn_sum (hc : X.calm = true) (hK : X.K = T.K) : CallR X (.builtin "sum") (RDn T false (bi .sum)) := by
  intro pins s σ H vs us Q I r h
  obtain ⟨G, ds, dz, e, hx, hf, q⟩ := h
  obtain ⟨d, rfl⟩ := bi_one hf (by decide) (by decide)
  · have hx2 := BRL.one hx; clear hx; obtain ⟨v, rfl, hx⟩ := hx2
    cases d with
    | lst l =>
      obtain ⟨a, vs, rfl, h1, h2⟩ := hx.lst e
      have hf' : ((D.ints l).map fun ns => D.int ns.sum) = some dz := hf
      cases z : D.ints l with
      | none => rw [z] at hf'; cases hf'
      | some ns =>
        rw [z] at hf'
        cases hf'
        have := ints_of h2 z
        subst this
        exact cr_sum hc pins s σ H _ us Q I r ⟨a, ns, rfl, by rw [hK]; exact SqL.of h1, q.here rfl e rep_int⟩
    | _ => cases hf
theorem rn_all (hc : X.calm = true) (hK : X.K = T.K) : CallR X (.builtin "all") (RDn T false (bi .all)) := by
  intro pins s σ H vs us Q I r h
  obtain ⟨G, ds, dz, e, hx, hf, q⟩ := h
  obtain ⟨d, rfl⟩ := bi_one hf (by decide) (by decide)
  · have hx2 := BRL.one hx; clear hx; obtain ⟨v, rfl, hx⟩ := hx2
    cases d with
    | lst l =>
      obtain ⟨a, vs, rfl, h1, h2⟩ := hx.lst e
      have hf' : ((D.bls l).map fun ns => D.bl (ns.all id)) = some dz := hf
      cases z : D.bls l with
      | none => rw [z] at hf'; cases hf'
      | some ns =>
        rw [z] at hf'
        cases hf'
        have := bls_of h2 z
        subst this
        exact cr_all hc pins s σ H _ us Q I r ⟨a, ns, rfl, by rw [hK]; exact SqL.of h1, q.here rfl e rep_bl⟩
    | _ => cases hf
theorem rn_any (hc : X.calm = true) (hK : X.K = T.K) : CallR X (.builtin "any") (RDn T false (bi .any)) := by
  intro pins s σ H vs us Q I r h
  obtain ⟨G, ds, dz, e, hx, hf, q⟩ := h
  obtain ⟨d, rfl⟩ := bi_one hf (by decide) (by decide)
  · have hx2 := BRL.one hx; clear hx; obtain ⟨v, rfl, hx⟩ := hx2
    cases d with
    | lst l =>
      obtain ⟨a, vs, rfl, h1, h2⟩ := hx.lst e
      have hf' : ((D.bls l).map fun ns => D.bl (ns.any id)) = some dz := hf
      cases z : D.bls l with
      | none => rw [z] at hf'; cases hf'
      | some ns =>
        rw [z] at hf'
        cases hf'
        have := bls_of h2 z
        subst this
        exact cr_any hc pins s σ H _ us Q I r ⟨a, ns, rfl, by rw [hK]; exact SqL.of h1, q.here rfl e rep_bl⟩
    | _ => cases hf
theorem rn_max2 (hc : X.calm = true) : CallR X (.builtin "max") (RDn T false (bi .max2)) := by
  intro pins s σ H vs us Q I r h
  obtain ⟨G, ds, dz, e, hx, hf, q⟩ := h
  obtain ⟨d, f, rfl⟩ := bi_two hf (by first | exact .inl rfl | exact .inr rfl)
  · have hx2 := BRL.two hx; clear hx; obtain ⟨v, w, rfl, hx, hy⟩ := hx2
    cases d with
    | int i =>
      cases hx.int
      cases f with
      | int j =>
        cases hy.int
        cases hf
        exact call_max2 hc pins s σ H _ us Q I r ⟨i, j, rfl, q.here rfl e rep_int⟩
      | _ => cases hf
    | _ => cases hf
theorem rn_min2 (hc : X.calm = true) : CallR X (.builtin "min") (RDn T false (bi .min2)) := by
  intro pins s σ H vs us Q I r h
  obtain ⟨G, ds, dz, e, hx, hf, q⟩ := h
  obtain ⟨d, f, rfl⟩ := bi_two hf (by first | exact .inl rfl | exact .inr rfl)
  · have hx2 := BRL.two hx; clear hx; obtain ⟨v, w, rfl, hx, hy⟩ := hx2
    cases d with
    | int i =>
      cases hx.int
      cases f with
      | int j =>
        cases hy.int
        cases hf
        exact call_min2 hc pins s σ H _ us Q I r ⟨i, j, rfl, q.here rfl e rep_int⟩
      | _ => cases hf
    | _ => cases hf
theorem min_is {ns : List Int} {m k : Int} (e : ns.min? = some k) (h1 : m ∈ ns) (h2 : ∀ y, y ∈ ns → m ≤ y) : m = k := by
  have a := (List.min?_eq_some_iff (xs := ns) (a := k)).mp e
  exact Int.le_antisymm (h2 k a.1) (a.2 m h1)
theorem max_is {ns : List Int} {m k : Int} (e : ns.max? = some k) (h1 : m ∈ ns) (h2 : ∀ y, y ∈ ns → y ≤ m) : m = k := by
  have a := (List.max?_eq_some_iff (xs := ns) (a := k)).mp e
  exact Int.le_antisymm (a.2 m h1) (h2 k a.1)
theorem rn_min (hc : X.calm = true) (hK : X.K = T.K) : CallR X (.builtin "min") (RDn T false (bi .min)) := by
  intro pins s σ H vs us Q I r h
  obtain ⟨G, ds, dz, e, hx, hf, q⟩ := h
  obtain ⟨d, rfl⟩ := bi_one hf (by decide) (by decide)
  · have hx2 := BRL.one hx; clear hx; obtain ⟨v, rfl, hx⟩ := hx2
    cases d with
    | lst l =>
      obtain ⟨a, vs, rfl, h1, h2⟩ := hx.lst e
      have hf' : ((D.ints l).bind fun ns => ns.min?).map D.int = some dz := hf
      cases z : D.ints l with
      | none => rw [z] at hf'; cases hf'
      | some ns =>
        rw [z] at hf'
        have hf2 : (ns.min?).map D.int = some dz := hf'
        cases zm : ns.min? with
        | none => rw [zm] at hf2; cases hf2
        | some k =>
          rw [zm] at hf2
          cases hf2
          have := ints_of h2 z
          subst this
          have hk := (List.min?_eq_some_iff (xs := ns) (a := k)).mp zm
          refine cr_min hc pins s σ H _ us Q I r ⟨a, ns, rfl, by rw [hK]; exact SqL.of h1, List.length_pos_of_mem hk.1, fun m m1 m2 => ?_⟩
          rw [min_is zm m1 m2]
          exact q.here rfl e rep_int
    | _ => cases hf
theorem rn_max (hc : X.calm = true) (hK : X.K = T.K) : CallR X (.builtin "max") (RDn T false (bi .max)) := by
  intro pins s σ H vs us Q I r h
  obtain ⟨G, ds, dz, e, hx, hf, q⟩ := h
  obtain ⟨d, rfl⟩ := bi_one hf (by decide) (by decide)
  · have hx2 := BRL.one hx; clear hx; obtain ⟨v, rfl, hx⟩ := hx2
    cases d with
    | lst l =>
      obtain ⟨a, vs, rfl, h1, h2⟩ := hx.lst e
      have hf' : ((D.ints l).bind fun ns => ns.max?).map D.int = some dz := hf
      cases z : D.ints l with
      | none => rw [z] at hf'; cases hf'
      | some ns =>
        rw [z] at hf'
        have hf2 : (ns.max?).map D.int = some dz := hf'
        cases zm : ns.max? with
        | none => rw [zm] at hf2; cases hf2
        | some k =>
          rw [zm] at hf2
          cases hf2
          have := ints_of h2 z
          subst this
          have hk := (List.max?_eq_some_iff (xs := ns) (a := k)).mp zm
          refine cr_max hc pins s σ H _ us Q I r ⟨a, ns, rfl, by rw [hK]; exact SqL.of h1, List.length_pos_of_mem hk.1, fun m m1 m2 => ?_⟩
          rw [max_is zm m1 m2]
          exact q.here rfl e rep_int
    | _ => cases hf
theorem Hand.dic {H G : Hp} {Q : VK} {ks : List Key} {l : List D} {kvs : List (Key × V)} {p : Addr} (q : Hand T H G true (.dic ks l) Q) (e : Ex G H) (hk : kvs.map (·.1) = ks) (h : RepL T G l (kvs.map (·.2))) (n : H p = none) : Q (.ref p) (upd H p (.dK kvs)) :=
  q _ _ G (ex_cell e n) (stp_cell e n) ⟨p, rfl, n, e.none n, kvs, upd_same, hk, h⟩
theorem rn_dictc : CallR X (.type "dict") (RDn T true (bi .dictc)) := by
  intro pins s σ H vs us Q I r h
  obtain ⟨G, ds, dz, e, hx, hf, q⟩ := h
  obtain ⟨d, rfl⟩ := bi_one hf (by decide) (by decide)
  · have hx2 := BRL.one hx; clear hx; obtain ⟨v, rfl, hx⟩ := hx2
    cases d with
    | dic ks l =>
      obtain ⟨a, kvs, rfl, h1, h2, h3⟩ := hx.dic e
      cases hf
      exact call_dictD pins s σ H _ us Q I r ⟨a, kvs, rfl, h1, fun p n => q.dic e h2 h3 n⟩
    | _ => cases hf
end
end Pf
end
section
set_option Elab.async false
set_option linter.all false
set_option maxRecDepth 100000
set_option maxHeartbeats 1000000
/-! Rf6: readings by the interpreter; operands, operations. -/
namespace Pf
open PySem PySem.Spec PyProof.Rows L2
/-! ### readings -/
def Pst {α : Type} (o : Out α) (P : α → Rho → Prop) (E : Nat → List D → Rho → Prop) : Prop := match o with
  | .ok a ρ => P a ρ
  | .exc c l ρ => E c l ρ
  | .bad => False
theorem Pst.bnd {α β : Type} {o : Out α} {f : α → Rho → Out β} {P : β → Rho → Prop} {E : Nat → List D → Rho → Prop} (h : Pst (o.bnd f) P E) : Pst o (fun a ρ => Pst (f a ρ) P E) E := by
  cases o <;> exact h
theorem Pst.mono {α : Type} {o : Out α} {P P' : α → Rho → Prop} {E E' : Nat → List D → Rho → Prop} (h : Pst o P E) (hp : ∀ a ρ, P a ρ → P' a ρ) (he : ∀ c l ρ, E c l ρ → E' c l ρ) : Pst o P' E' := by
  cases o with
  | ok a ρ => exact hp _ _ h
  | exc c l ρ => exact he _ _ _ h
  | bad => exact h
theorem Pst.lift {α : Type} {x : Option α} {ρ : Rho} {P : α → Rho → Prop} {E : Nat → List D → Rho → Prop} (h : Pst (lift x ρ) P E) : ∃ a, x = some a ∧ P a ρ := by
  cases x with
  | none => exact h.elim
  | some a => exact ⟨a, rfl, h⟩
/-- an exception: its class, its dict -/
def ExR (T : Tab) (H G : Hp) (c : Nat) (l : List D) (x : Value) (od : Option Addr) : Prop := x = .ref (T.cls c) ∧ ((l = [] ∧ od = none) ∨ ∃ a fs, od = some a ∧ H a = some (.xd fs) ∧ fs.map (·.1) = (T.flds c).take l.length ∧ RepL T G l (fs.map (·.2)))
section
variable (T : Tab) (B : Base) (XE : XK)
def exE (σ : L2.St) (G : Hp) : Nat → List D → Rho → Prop := fun c l ρ' => ∀ x od H' G', Ex G G' → Sta T B σ H' G' ρ' → ExR T H' G' c l x od → XE x od H'
def okE {α β : Type} (R : α → β → L2.St → Hp → Hp → Rho → Prop) (σ : L2.St) (G : Hp) (Q : β → Hp → Prop) : α → Rho → Prop := fun a ρ' => ∀ b H' G', Ex G G' → Sta T B σ H' G' ρ' → R a b σ H' G' ρ' → Q b H'
/-- from a state on: what the interpreter says is handed on -/
def Go {α β : Type} (R : α → β → L2.St → Hp → Hp → Rho → Prop) (o : Rho → Out α) : L2.St → Hp → (β → Hp → Prop) → Prop := fun σ H Q => ∃ G ρ, Sta T B σ H G ρ ∧ Pst (o ρ) (okE T B R σ G Q) (exE T B XE σ G)
end
section
variable {T : Tab} {B : Base} {XE : XK} {σ : L2.St} {G G' : Hp}
theorem exE.mono (e : Ex G G') {c : Nat} {l : List D} {ρ : Rho} (h : exE T B XE σ G c l ρ) : exE T B XE σ G' c l ρ := fun x od H2 G2 e2 => h x od H2 G2 (e.trans e2)
/-- the first part of a chain -/
theorem Go.fst {α α' β β' : Type} {R : α → β → L2.St → Hp → Hp → Rho → Prop} {R' : α' → β' → L2.St → Hp → Hp → Rho → Prop} {o : Rho → Out α'} {f : α' → Rho → Out α} {H : Hp} {Q : β → Hp → Prop} {Q' : β' → Hp → Prop}
    (h : Go T B XE R (fun ρ => (o ρ).bnd f) σ H Q)
    (k : ∀ a ρ1 b H1 G0 G1, Ex G0 G1 → Sta T B σ H1 G1 ρ1 → R' a b σ H1 G1 ρ1 → Pst (f a ρ1) (okE T B R σ G1 Q) (exE T B XE σ G1) → Q' b H1) : Go T B XE R' o σ H Q' := by
  obtain ⟨G, ρ, S, p⟩ := h
  refine ⟨G, ρ, S, p.bnd.mono (fun a ρ1 q b H1 G1 e1 S1 r1 => ?_) fun _ _ _ q => q⟩
  exact k a ρ1 b H1 G G1 e1 S1 r1 (q.mono (fun a' ρ' q' b' H' G' e' => q' b' H' G' (e1.trans e')) fun _ _ _ q' => q'.mono e1)
end
/-- a value's reading -/
abbrev rR (T : Tab) (B : Base) : Res → V → L2.St → Hp → Hp → Rho → Prop := fun r v σ H G ρ => RR T B σ H G ρ r.1 r.2 v
/-- a test's reading -/
abbrev rT : Res → Bool → L2.St → Hp → Hp → Rho → Prop := fun r b _ _ _ _ => r.2 = .bl b
def AgR (T : Tab) : Ag → V → L2.St → Hp → Hp → Rho → Prop
  | .val d, v, _, _, G, _ => Rep T G d v
  | .slot i, v, σ, _, _, ρ => σ[i]? = some (some v)
def AgL (T : Tab) : List Ag → List V → L2.St → Hp → Hp → Rho → Prop
  | [], vs, _, _, _, _ => vs = []
  | a :: l, vs, σ, H, G, ρ => ∃ v r, vs = v :: r ∧ AgR T a v σ H G ρ ∧ AgL T l r σ H G ρ
def RepLR (T : Tab) : List D → List V → L2.St → Hp → Hp → Rho → Prop := fun ds vs _ _ G _ => RepL T G ds vs
def RepR (T : Tab) : Res → V → L2.St → Hp → Hp → Rho → Prop := fun r v _ _ G _ => Rep T G r.2 v
section
variable {T : Tab} {B : Base} {XE : XK} {σ : L2.St} {H H' G G' : Hp} {ρ ρ' : Rho}
theorem AgR.mono {a : Ag} {v : V} (e : Ex G G') (h : AgR T a v σ H G ρ) : AgR T a v σ H' G' ρ' := by
  cases a with
  | val d => exact Rep.mono e h
  | slot i => exact h
theorem AgL.mono (e : Ex G G') : ∀ {l : List Ag} {vs : List V}, AgL T l vs σ H G ρ → AgL T l vs σ H' G' ρ'
  | [], _, h => h
  | a :: l, _, h => by
    obtain ⟨v, r, h1, h2, h3⟩ := h
    exact ⟨v, r, h1, h2.mono e, AgL.mono e h3⟩
theorem slot_some {i : Nat} {s : Sl} (h : slot ρ i = some s) : ρ[i]? = some (some s) := by
  unfold slot at h
  cases e : ρ[i]? with
  | none => rw [e] at h; cases h
  | some o => rw [e] at h; cases h; rfl
/-- an operand's content -/
theorem AgR.br {a : Ag} {v : V} {s : Sl} (S : Sta T B σ H G ρ) (h : AgR T a v σ H G ρ) (g : a.get ρ = some s) : BR T H G s.d v := by
  cases a with
  | val d =>
    cases g
    exact .inl h
  | slot i =>
    simp only [Ag.get] at g
    have h' : σ[i]? = some (some v) := h
    cases e : slot ρ i with
    | none => rw [e] at g; cases g
    | some t =>
      rw [e] at g
      cases t with
      | val b d =>
        cases g
        obtain ⟨v', h1, h2⟩ := S.vl i b d (slot_some e)
        rw [h'] at h1
        cases h1
        exact .inl h2
      | cel b d =>
        cases g
        obtain ⟨p, h1, h2, _⟩ := S.cl i b d (slot_some e)
        rw [h'] at h1
        cases h1
        exact .inr ⟨p, rfl, h2⟩
theorem fillD_cons {a : Ag} {l : List Ag} {ds : List D} (h : fillD ρ (a :: l) = some ds) : ∃ s r, a.get ρ = some s ∧ fillD ρ l = some r ∧ ds = s.d :: r := by
  unfold fillD fill at h
  cases e1 : a.get ρ with
  | none => rw [e1] at h; cases h
  | some s =>
    cases e2 : fill ρ l with
    | none => rw [e1, e2] at h; cases h
    | some r =>
      rw [e1, e2] at h
      cases h
      exact ⟨s, r.map Sl.d, rfl, by unfold fillD; rw [e2]; rfl, rfl⟩
theorem fillD_nil {ds : List D} (h : fillD ρ [] = some ds) : ds = [] := by
  unfold fillD fill at h
  cases h
  rfl
theorem AgL.brl (S : Sta T B σ H G ρ) : ∀ {l : List Ag} {vs : List V} {ds : List D}, AgL T l vs σ H G ρ → fillD ρ l = some ds → BRL T H G ds vs
  | [], _, _, h, g => by
    have := fillD_nil g
    subst this
    exact h
  | a :: l, _, _, h, g => by
    obtain ⟨v, r, h1, h2, h3⟩ := h
    obtain ⟨s, ds, g1, g2, rfl⟩ := fillD_cons g
    exact ⟨v, r, h1, h2.br S g1, AgL.brl S h3 g2⟩
/-- an operation's result is handed on -/
theorem Sta.hand {fr : Bool} {d : D} {Q : VK} (S : Sta T B σ H G ρ) (h : okE T B (rR T B) σ G Q (fr && d.obj, d) ρ) : Hand T H G fr d Q := fun v H' G' e t r => by
  refine h v H' G' t.g (S.step e t) ?_
  show RR T B σ H' G' ρ (fr && d.obj) d v
  cases hz : (fr && d.obj) with
  | false =>
    rw [hz] at r
    exact r
  | true =>
    rw [hz] at r
    obtain ⟨p, h1, h2, h3⟩ := r
    exact ⟨p, h1, h3, S.baseNone h2, S.nosl h2⟩
end

/-! ### expressions: the parts -/
section
variable {X : Cx} {T : Tab} {B : Base} {XE : XK} {Γ : Ga} {e a b c : Expr} {es : List Expr}
abbrev RdE (T : Tab) (B : Base) (XE : XK) (o : Rho → Out Res) : TE := Go T B XE (rR T B) o
abbrev RdA (T : Tab) (B : Base) (XE : XK) (o : Rho → Out Ag) : TE := Go T B XE (AgR T) o
abbrev RdV (T : Tab) (B : Base) (XE : XK) (o : Rho → Out Res) : TE := Go T B XE (RepR T) o
abbrev RdT (T : Tab) (B : Base) (XE : XK) (o : Rho → Out Res) : TT := Go T B XE rT o
abbrev RdAs (T : Tab) (B : Base) (XE : XK) (o : Rho → Out (List Ag)) : TA := Go T B XE (AgL T) o
abbrev RdVs (T : Tab) (B : Base) (XE : XK) (o : Rho → Out (List D)) : TA := Go T B XE (RepLR T) o
theorem wkE {t t' : TE} (h : PE X e t) (k : ∀ σ H Q, t' σ H Q → t σ H Q) : PE X e t' := ⟨fun pins s σ H Q I q => h.run pins s σ H Q I (k σ H Q q)⟩
theorem wkT {t t' : TT} (h : PT X e t) (k : ∀ σ H Q, t' σ H Q → t σ H Q) : PT X e t' := ⟨fun pins s σ H Q I q => h.run pins s σ H Q I (k σ H Q q)⟩
theorem wkW {t t' : TT} (h : PW X e t) (k : ∀ σ H Q, t' σ H Q → t σ H Q) : PW X e t' := ⟨fun w pins s σ H Q I q => h.run w pins s σ H Q I (k σ H Q q)⟩
theorem wkA {t t' : TA} (h : PA X es t) (k : ∀ σ H Q, t' σ H Q → t σ H Q) : PA X es t' := ⟨fun pos pins s σ H Q I q => h.run pos pins s σ H Q I (k σ H Q q)⟩
theorem wkS {st : Stmt} {t t' : TS} (h : PS X st t) (k : ∀ D σ H, t' D σ H → t D σ H) : PS X st t' := ⟨fun pins s σ H D I q => h.run pins s σ H D I (k D σ H q)⟩
theorem wkSs {st : List Stmt} {t t' : TS} (h : PSs X st t) (k : ∀ D σ H, t' D σ H → t D σ H) : PSs X st t' := ⟨fun pins s σ H D I q => h.run pins s σ H D I (k D σ H q)⟩
/-- a value: frozen at once -/
theorem RdV_of {o : Rho → Out Res} {σ : L2.St} {H : Hp} {Q : VK} (h : RdV T B XE o σ H Q) : RdE T B XE o σ H Q := by
  obtain ⟨G, ρ, S, p⟩ := h
  refine ⟨G, ρ, S, p.mono (fun r ρ' q v H' G' e' S' rr => ?_) fun _ _ _ q => q⟩
  obtain ⟨G2, e2, S2, r2⟩ := S'.frzR rr
  exact q v H' G2 (e'.trans e2) S2 r2
theorem Go.rep {o : Rho → Out Res} (h : PE X e (RdE T B XE o)) : PE X e (RdV T B XE o) := wkE h fun _ _ _ => RdV_of
/-- an operand: a name's slot, or a value -/
theorem evA_val {ir : E} (hn : ∀ i, ir ≠ .var i) (h : PE X e (RdE T B XE (fun ρ => ev Γ ir false ρ))) : PE X e (RdA T B XE (fun ρ => evA Γ ir ρ)) := by
  refine wkE (Go.rep h) fun σ H Q q => ?_
  obtain ⟨G, ρ, S, p⟩ := q
  refine ⟨G, ρ, S, ?_⟩
  have he : evA Γ ir ρ = (ev Γ ir false ρ).bnd fun r ρ1 => .ok (Ag.val r.2) ρ1 := by
    cases ir <;> first | rfl | exact absurd rfl (hn _)
  have p : Pst (evA Γ ir ρ) (okE T B (AgR T) σ G Q) (exE T B XE σ G) := p
  rw [he] at p
  exact p.bnd.mono (fun r ρ1 q v H' G' e' S' rr => q v H' G' e' S' rr) fun _ _ _ q => q
theorem evA_var {i : Nat} (h : PE X e (tVar i)) : PE X e (RdA T B XE (fun ρ => evA Γ (.var i) ρ)) := by
  refine wkE h fun σ H Q q => ?_
  obtain ⟨G, ρ, S, p⟩ := q
  unfold evA opd at p
  cases z : slot ρ i with
  | none => simp only [z] at p; exact p.elim
  | some s =>
    cases s with
    | val b d =>
      simp only [z] at p
      obtain ⟨v, h1, h2⟩ := S.vl i b d (slot_some z)
      exact ⟨v, h1, p v H G (Ex.refl G) S h2⟩
    | cel b d =>
      simp only [z] at p
      obtain ⟨v, h1, h2⟩ := S.cl i b d (slot_some z)
      exact ⟨_, h1, p _ H G (Ex.refl G) S h1⟩
theorem evE_var {i : Nat} (h : PE X e (tVar i)) : PE X e (RdE T B XE (fun ρ => ev Γ (.var i) false ρ)) := by
  refine wkE h fun σ H Q q => ?_
  obtain ⟨G, ρ, S, p⟩ := q
  unfold ev at p
  cases z : slot ρ i with
  | none => simp only [z] at p; exact p.elim
  | some s =>
    cases s with
    | val b d =>
      simp only [z] at p
      obtain ⟨v, h1, h2⟩ := S.vl i b d (slot_some z)
      exact ⟨v, h1, p v H G (Ex.refl G) S h2⟩
    | cel b d =>
      simp only [z] at p
      obtain ⟨v, G', h1, e1, S1, r1⟩ := S.frz (slot_some z)
      exact ⟨_, h1, p _ H G' e1 S1 r1⟩
/-- two operands, then an operation -/
theorem as2 {ia ib : E} {r : R2} {f : List Ag → Rho → Out Res} {σ : L2.St} {H : Hp} {Q : VK}
    (h : RdE T B XE (fun ρ => (evs Γ [ia, ib] ρ).bnd f) σ H Q)
    (k : ∀ x y v w ρ2 H2 G2, Sta T B σ H2 G2 ρ2 → AgL T [x, y] [v, w] σ H2 G2 ρ2 → Pst (f [x, y] ρ2) (okE T B (rR T B) σ G2 Q) (exE T B XE σ G2) → r v w H2 Q) :
    tOp r (RdA T B XE (fun ρ => evA Γ ia ρ)) (RdA T B XE (fun ρ => evA Γ ib ρ)) σ H Q := by
  simp only [evs_cons] at h
  obtain ⟨G, ρ, S, p⟩ := h
  refine ⟨G, ρ, S, p.bnd.bnd.mono (fun x ρ1 q v H1 G1 e1 S1 r1 => ⟨G1, ρ1, S1, ?_⟩) fun _ _ _ q => q⟩
  refine q.bnd.bnd.mono (fun y ρ2 q2 w H2 G2 e2 S2 r2 => ?_) fun _ _ _ q2 => q2.mono e1
  refine k x y v w ρ2 H2 G2 S2 ⟨v, [w], rfl, r1.mono e2, w, [], rfl, r2, rfl⟩ ?_
  have q3 : Pst (f [x, y] ρ2) (okE T B (rR T B) σ G Q) (exE T B XE σ G) := by
    unfold evs at q2
    exact q2
  exact q3.mono (fun a' ρ' q' b' H' G' e' => q' b' H' G' ((e1.trans e2).trans e')) fun _ _ _ q' => q'.mono (e1.trans e2)
theorem as1 {ia : E} {r : V → Hp → VK → Prop} {f : List Ag → Rho → Out Res} {σ : L2.St} {H : Hp} {Q : VK}
    (h : RdE T B XE (fun ρ => (evs Γ [ia] ρ).bnd f) σ H Q)
    (k : ∀ x v ρ2 H2 G2, Sta T B σ H2 G2 ρ2 → AgL T [x] [v] σ H2 G2 ρ2 → Pst (f [x] ρ2) (okE T B (rR T B) σ G2 Q) (exE T B XE σ G2) → r v H2 Q) :
    tUn r (RdA T B XE (fun ρ => evA Γ ia ρ)) σ H Q := by
  simp only [evs_cons] at h
  obtain ⟨G, ρ, S, p⟩ := h
  refine ⟨G, ρ, S, p.bnd.bnd.mono (fun x ρ1 q v H1 G1 e1 S1 r1 => ?_) fun _ _ _ q => q⟩
  refine k x v ρ1 H1 G1 S1 ⟨v, [], rfl, r1, rfl⟩ ?_
  have q3 : Pst (f [x] ρ1) (okE T B (rR T B) σ G Q) (exE T B XE σ G) := by
    unfold evs at q
    exact q
  exact q3.mono (fun a' ρ' q' b' H' G' e' => q' b' H' G' (e1.trans e')) fun _ _ _ q' => q'.mono e1
theorem pa_as : ∀ {es : List Expr} {irs : List E}, Paired (fun e ir => PE X e (RdA T B XE (fun ρ => evA Γ ir ρ)) ∧ ∀ es, starEach (e :: es) X.env = (false, eval e X.env) :: starEach es X.env) es irs → PA X es (RdAs T B XE (fun ρ => evs Γ irs ρ))
  | _, _, .nil => wkA pa_nil fun σ H Q q => by
    obtain ⟨G, ρ, S, p⟩ := q
    unfold evs at p
    exact p [] H G (Ex.refl G) S rfl
  | _, _, .cons (a := e) (b := ir) ⟨h, hs⟩ t => wkA (pa_cons h (pa_as t) (hs _)) fun σ H Q q => by
    simp only [evs_cons] at q
    obtain ⟨G, ρ, S, p⟩ := q
    refine ⟨G, ρ, S, p.bnd.mono (fun x ρ1 q v H1 G1 e1 S1 r1 => ⟨G1, ρ1, S1, ?_⟩) fun _ _ _ q => q⟩
    refine q.bnd.mono (fun l ρ2 q2 vs H2 G2 e2 S2 r2 => ?_) fun _ _ _ q2 => q2.mono e1
    exact q2 (v :: vs) H2 G2 (e1.trans e2) S2 ⟨v, vs, rfl, r1.mono e2, r2⟩
theorem pa_vs : ∀ {es : List Expr} {irs : List E}, Paired (fun e ir => PE X e (RdE T B XE (fun ρ => ev Γ ir false ρ)) ∧ ∀ es, starEach (e :: es) X.env = (false, eval e X.env) :: starEach es X.env) es irs → PA X es (RdVs T B XE (fun ρ => evv Γ irs ρ))
  | _, _, .nil => wkA pa_nil fun σ H Q q => by
    obtain ⟨G, ρ, S, p⟩ := q
    unfold evv at p
    exact p [] H G (Ex.refl G) S RepL.nil
  | _, _, .cons (a := e) (b := ir) ⟨h, hs⟩ t => wkA (pa_cons (Go.rep h) (pa_vs t) (hs _)) fun σ H Q q => by
    obtain ⟨G, ρ, S, p⟩ := q
    unfold evv at p
    refine ⟨G, ρ, S, p.bnd.mono (fun x ρ1 q v H1 G1 e1 S1 r1 => ⟨G1, ρ1, S1, ?_⟩) fun _ _ _ q => q⟩
    refine q.bnd.mono (fun l ρ2 q2 vs H2 G2 e2 S2 r2 => ?_) fun _ _ _ q2 => q2.mono e1
    exact q2 (v :: vs) H2 G2 (e1.trans e2) S2 (RepL.cons (Rep.mono e2 r1) r2)
end
end Pf
end
section
set_option Elab.async false
set_option linter.all false
set_option maxRecDepth 100000
set_option maxHeartbeats 1000000
/-! Rf7: expressions, form by form. -/
namespace Pf
open PySem PySem.Spec PyProof.Rows L2
structure Ok (X : Cx) (T : Tab) (B : Base) (XE : XK) (Γ : Ga) (e : Expr) (ir : E) : Prop where
  pe : PE X e (RdE T B XE fun ρ => ev Γ ir false ρ)
  pt : PT X e (RdT T B XE fun ρ => ev Γ ir true ρ)
  va : ∀ i, ir = .var i → PE X e (tVar i)
  st : ∀ es, starEach (e :: es) X.env = (false, eval e X.env) :: starEach es X.env
/-- a test is the value's truth -/
def E.plainT : E → Bool
  | .var _ => false
  | .fz _ => false
  | .and _ => false
  | .or _ => false
  | .not _ => false
  | .ife _ _ _ => false
  | _ => true
def Plain (X : Cx) (e : Expr) : Prop := ∀ whole, isTrue e X.env whole = (do let v ← whole; standAt e.pos; holding [v] (truthy v))
section
variable {X : Cx} {T : Tab} {B : Base} {XE : XK} {Γ : Ga} {e a b c : Expr} {es : List Expr} {pos : PySem.Pos} {ir ia ib ic : E}
theorem ev_true (h : ir.plainT = true) (ρ : Rho) : ev Γ ir true ρ = tr true (ev Γ ir false ρ) := by
  cases ir <;> first | (cases h; done) | (simp only [ev, tr]; done) | (simp [ev, tr, Out.bnd]; done)
theorem truV (hK : X.K = T.K) {H G : Hp} {d : D} {v : V} {k : Bool} (e : Ex G H) (h : BR T H G d v) (t : d.truth = some k) : TruV X.K v H k := by
  cases d with
  | non => cases h.non; cases t; rfl
  | bl b => cases h.bl; cases t; rfl
  | int i => cases h.int; cases t; rfl
  | str s =>
    cases h.str
    obtain ⟨z, e2⟩ := guard_some (c := s.length ≤ 1000000) t
    subst e2
    refine ⟨szl_le (decide_eq_true z), ?_⟩
    cases s.length with
    | zero => rfl
    | succ n =>
      show (n + 1 != 0) = (((n + 1 : Nat) : Int) != 0)
      rw [Bool.eq_iff_iff]
      simp
      omega
  | tup l =>
    obtain ⟨p, vs, rfl, h1, h2⟩ := h.tup
    cases t
    refine .inr (.inl ⟨vs, by rw [hK]; exact e.sqT h1, ?_⟩)
    rw [Bool.eq_iff_iff]
    simp [h2.isNil]
  | lst l =>
    obtain ⟨p, vs, rfl, h1, h2⟩ := h.lst e
    cases t
    refine .inl ⟨vs, SqL.of h1, ?_⟩
    rw [Bool.eq_iff_iff]
    simp [h2.isNil]
  | scr l =>
    obtain ⟨p, rfl, h1⟩ := h.scr e
    cases t
    refine .inl ⟨_, by rw [hK]; exact h1, ?_⟩
    rw [Bool.eq_iff_iff]
    simp
  | _ => cases t
theorem Ok.plain (hK : X.K = T.K) (h : PE X e (RdE T B XE fun ρ => ev Γ ir false ρ)) (hp : ir.plainT = true) (he : Plain X e) (hs : ∀ es, starEach (e :: es) X.env = (false, eval e X.env) :: starEach es X.env) : Ok X T B XE Γ e ir := by
  refine ⟨h, ?_, fun i z => (by subst z; cases hp), hs⟩
  refine wkT (pt_truth (Go.rep h) he) fun σ H Q q => ?_
  obtain ⟨G, ρ, S, p⟩ := q
  have p : Pst (ev Γ ir true ρ) (okE T B rT σ G Q) (exE T B XE σ G) := p
  rw [ev_true hp] at p
  refine ⟨G, ρ, S, p.bnd.mono (fun r ρ1 q v H1 G1 e1 S1 r1 => ?_) fun _ _ _ q => q⟩
  obtain ⟨k, hk, q2⟩ := q.lift
  cases ht : r.2.truth with
  | none => rw [ht] at hk; cases hk
  | some k' =>
    rw [ht] at hk
    cases hk
    exact ⟨k', truV hK S1.ex (.inl r1) ht, q2 k' H1 G1 e1 S1 rfl⟩
theorem Ok.opd (h : Ok X T B XE Γ e ir) : PE X e (RdA T B XE (fun ρ => evA Γ ir ρ)) := by
  by_cases z : ∃ i, ir = .var i
  · obtain ⟨i, rfl⟩ := z
    exact evA_var (h.va i rfl)
  · exact evA_val (fun i e => z ⟨i, e⟩) h.pe
theorem ok_bad (hs : ∀ es, starEach (e :: es) X.env = (false, eval e X.env) :: starEach es X.env) : Ok X T B XE Γ e .bad :=
  ⟨⟨fun _ _ _ _ _ _ h => by obtain ⟨_, _, _, p⟩ := h; exact (show False from by unfold ev at p; exact p).elim⟩, ⟨fun _ _ _ _ _ _ h => by obtain ⟨_, _, _, p⟩ := h; exact (show False from by unfold ev at p; exact p).elim⟩, fun i z => (nomatch z), hs⟩
theorem ok_var {i : Nat} {x : Str} (hK : X.K = T.K) (h : PE X (.Name x pos) (tVar i)) : Ok X T B XE Γ (.Name x pos) (.var i) := by
  refine ⟨evE_var h, ?_, fun j z => by cases z; exact h, fun _ => rfl⟩
  refine wkT (pt_truth h fun _ => rfl) fun σ H Q q => ?_
  obtain ⟨G, ρ, S, p⟩ := q
  have p : Pst (ev Γ (.var i) true ρ) (okE T B rT σ G Q) (exE T B XE σ G) := p
  unfold ev at p
  cases z : slot ρ i with
  | none => simp only [z] at p; exact p.elim
  | some s =>
    cases s with
    | val b d =>
      simp only [z, tr, Out.bnd] at p
      obtain ⟨v, h1, h2⟩ := S.vl i b d (slot_some z)
      obtain ⟨k, hk, q2⟩ := p.lift
      cases ht : d.truth with
      | none => rw [ht] at hk; cases hk
      | some k' =>
        rw [ht] at hk
        cases hk
        exact ⟨v, h1, k', truV hK S.ex (.inl h2) ht, q2 k' H G (Ex.refl G) S rfl⟩
    | cel b d =>
      simp only [z, tr, Out.bnd] at p
      obtain ⟨v, h1, h2, _⟩ := S.cl i b d (slot_some z)
      obtain ⟨k, hk, q2⟩ := p.lift
      cases ht : d.truth with
      | none => rw [ht] at hk; cases hk
      | some k' =>
        rw [ht] at hk
        cases hk
        exact ⟨_, h1, k', truV hK S.ex (.inr ⟨v, rfl, h2⟩) ht, q2 k' H G (Ex.refl G) S rfl⟩
/-- a name's value -/
theorem ok_fz {i : Nat} (h : Ok X T B XE Γ e (.var i)) : Ok X T B XE Γ e (.fz i) := by
  refine ⟨wkE h.pe fun σ H Q q => ?_, wkT h.pt fun σ H Q q => ?_, fun j z => (nomatch z), h.st⟩
  · obtain ⟨G, ρ, S, p⟩ := q
    exact ⟨G, ρ, S, by unfold ev at p ⊢; exact p⟩
  · obtain ⟨G, ρ, S, p⟩ := q
    exact ⟨G, ρ, S, by unfold ev at p ⊢; exact p⟩
/-- a constant -/
theorem ok_cst {d : D} {v : V} (hK : X.K = T.K) (h : PE X e (tC v)) (r : ∀ G, Rep T G d v) (he : Plain X e) (hs : ∀ es, starEach (e :: es) X.env = (false, eval e X.env) :: starEach es X.env) : Ok X T B XE Γ e (.cst d) :=
  Ok.plain hK (wkE h fun σ H Q q => by
    obtain ⟨G, ρ, S, p⟩ := q
    unfold ev at p
    exact p v H G (Ex.refl G) S (r G)) rfl he hs
theorem ok_glo {x : Str} {d : D} {v : V} (hK : X.K = T.K) (h : PE X e (tC v)) (hd : Γ.glo x = some d) (r : ∀ G, Rep T G d v) (he : Plain X e) (hs : ∀ es, starEach (e :: es) X.env = (false, eval e X.env) :: starEach es X.env) : Ok X T B XE Γ e (.glo x) :=
  Ok.plain hK (wkE h fun σ H Q q => by
    obtain ⟨G, ρ, S, p⟩ := q
    simp only [ev, hd, tr, lift, Out.bnd] at p
    exact p v H G (Ex.refl G) S (r G)) rfl he hs
/-- a binary operation by data -/
theorem ap2_imp {o : Op} {f : D → D → Option D} (ho : ∀ fl, o.ap fl = op2 f) (σ : L2.St) (H : Hp) (Q : VK) (q : RdE T B XE (fun ρ => ev Γ (.ap o [ia, ib]) false ρ) σ H Q) : tOp (RD2 T o.new f) (RdA T B XE (fun ρ => evA Γ ia ρ)) (RdA T B XE (fun ρ => evA Γ ib ρ)) σ H Q := by
  have q : RdE T B XE (fun ρ => (evs Γ [ia, ib] ρ).bnd fun as ρ1 => match fillD ρ1 as with
    | some ds => (lift (o.ap Γ.flds ds) ρ1).bnd fun d ρ2 => .ok (o.new && d.obj, d) ρ2
    | none => .bad) σ H Q := by
    obtain ⟨G, ρ, S, p⟩ := q
    unfold ev at p
    exact ⟨G, ρ, S, p⟩
  refine as2 q fun x y v w ρ2 H2 G2 S2 r2 p => ?_
  cases hz : fillD ρ2 [x, y] with
  | none => simp only [hz] at p; exact p.elim
  | some ds =>
    simp only [hz] at p
    obtain ⟨d, hd, p2⟩ := p.bnd.lift
    have hb := r2.brl S2 hz
    rw [ho] at hd
    obtain ⟨s1, r1, g1, g2, rfl⟩ := fillD_cons hz
    obtain ⟨s2, r3, g3, g4, rfl⟩ := fillD_cons g2
    have := fillD_nil g4
    subst this
    obtain ⟨v', w', e1, b1, b2⟩ := BRL.two hb
    cases e1
    exact ⟨G2, s1.d, s2.d, d, S2.ex, b1, b2, hd, S2.hand p2⟩
theorem pe_ap2 {o : Op} {f : D → D → Option D} (ho : ∀ fl, o.ap fl = op2 f) (h : PE X e (tOp (RD2 T o.new f) (RdA T B XE (fun ρ => evA Γ ia ρ)) (RdA T B XE (fun ρ => evA Γ ib ρ)))) : PE X e (RdE T B XE fun ρ => ev Γ (.ap o [ia, ib]) false ρ) :=
  wkE h fun σ H Q q => ap2_imp ho σ H Q q
/-- a test whose value is a bool -/
theorem test_bl (hp : ir.plainT = true) (hb : ∀ ρ a ρ', ev Γ ir false ρ = .ok a ρ' → ∃ k, a = (false, .bl k)) {σ : L2.St} {H : Hp} {Q : Bool → Hp → Prop} (q : RdT T B XE (fun ρ => ev Γ ir true ρ) σ H Q) :
    RdE T B XE (fun ρ => ev Γ ir false ρ) σ H (fun v H' => ∃ k, v = .bl k ∧ Q k H') := by
  obtain ⟨G, ρ, S, p⟩ := q
  refine ⟨G, ρ, S, ?_⟩
  have p : Pst (ev Γ ir true ρ) (okE T B rT σ G Q) (exE T B XE σ G) := p
  rw [ev_true hp] at p
  show Pst (ev Γ ir false ρ) _ _
  cases z : ev Γ ir false ρ with
  | ok a ρ' =>
    obtain ⟨k, rfl⟩ := hb ρ a ρ' z
    rw [z] at p
    exact fun v H' G' e' S' r => ⟨k, Rep.bl (show Rep T G' (.bl k) v from r), p k H' G' e' S' rfl⟩
  | exc c l ρ' =>
    rw [z] at p
    exact p
  | bad =>
    rw [z] at p
    exact p
theorem ap1_imp {o : Op} {r : V → Hp → VK → Prop}
    (k : ∀ H G dx dz x Q, Ex G H → BR T H G dx x → o.ap Γ.flds [dx] = some dz → Hand T H G o.new dz Q → r x H Q) (σ : L2.St) (H : Hp) (Q : VK) (q : RdE T B XE (fun ρ => ev Γ (.ap o [ia]) false ρ) σ H Q) : tUn r (RdA T B XE (fun ρ => evA Γ ia ρ)) σ H Q := by
  have q : RdE T B XE (fun ρ => (evs Γ [ia] ρ).bnd fun as ρ1 => match fillD ρ1 as with
    | some ds => (lift (o.ap Γ.flds ds) ρ1).bnd fun d ρ2 => .ok (o.new && d.obj, d) ρ2
    | none => .bad) σ H Q := by
    obtain ⟨G, ρ, S, p⟩ := q
    unfold ev at p
    exact ⟨G, ρ, S, p⟩
  refine as1 q fun x v ρ2 H2 G2 S2 r2 p => ?_
  cases hz : fillD ρ2 [x] with
  | none => simp only [hz] at p; exact p.elim
  | some ds =>
    simp only [hz] at p
    obtain ⟨d, hd, p2⟩ := p.bnd.lift
    have hb := r2.brl S2 hz
    obtain ⟨s1, r1, g1, g2, rfl⟩ := fillD_cons hz
    have := fillD_nil g2
    subst this
    obtain ⟨v', e1, b1⟩ := BRL.one hb
    cases e1
    exact k H2 G2 s1.d d v Q S2.ex b1 hd (S2.hand p2)
/-- an operation of operands -/
theorem pe_apn {irs : List E} {o : Op} {r : List V → Hp → VK → Prop} {t : TA} (h : PE X e (tCB r (RdAs T B XE (fun ρ => evs Γ irs ρ))))
    (k : ∀ H G ds dz vs Q, Ex G H → BRL T H G ds vs → o.ap Γ.flds ds = some dz → Hand T H G o.new dz Q → r vs H Q) : PE X e (RdE T B XE fun ρ => ev Γ (.ap o irs) false ρ) := by
  refine wkE h fun σ H Q q => ?_
  obtain ⟨G, ρ, S, p⟩ := q
  unfold ev at p
  refine ⟨G, ρ, S, Pst.mono (Pst.bnd p) (fun as ρ1 q vs H1 G1 e1 S1 r1 => ?_) fun _ _ _ q => q⟩
  cases hz : fillD ρ1 as with
  | none => simp only [hz] at q; exact q.elim
  | some ds =>
    simp only [hz] at q
    obtain ⟨d, hd, p2⟩ := q.bnd.lift
    refine k H1 G1 ds d vs Q S1.ex (r1.brl S1 hz) hd (S1.hand ?_)
    exact fun b' H' G' e' => p2 b' H' G' (e1.trans e')
end
end Pf
end
section
set_option Elab.async false
set_option linter.all false
set_option maxRecDepth 100000
set_option maxHeartbeats 1000000
/-! Rf8: what a call promises by data; the caller's side. -/
namespace Pf
open PySem PySem.Spec PyProof.Rows L2
def argC (ss : List Sl) (vs : List V) (a : Addr) : Prop := ∃ (i : Nat) (b : Bool) (d : D), ss[i]? = some (Sl.cel b d) ∧ vs[i]? = some (V.ref a)
structure ArgsR (T : Tab) (H G : Hp) (ss : List Sl) (vs : List V) : Prop where
  ln : vs.length = ss.length
  vl : ∀ (i : Nat) b d, ss[i]? = some (Sl.val b d) → b = false ∧ ∃ v, vs[i]? = some v ∧ Rep T G d v
  cl : ∀ (i : Nat) b d, ss[i]? = some (Sl.cel b d) → b = true ∧ ∃ p, vs[i]? = some (V.ref p) ∧ Cell T H G p d
  dj : ∀ (i j : Nat) b b' d d' p, ss[i]? = some (Sl.cel b d) → ss[j]? = some (Sl.cel b' d') → vs[i]? = some (V.ref p) → vs[j]? = some (V.ref p) → i = j
/-- the state of a parameter's object behind a call -/
def OutR (T : Tab) (H' G' : Hp) (v : V) : Option (Option Sl) → Prop
  | some (some (.val true d)) => Rep T G' d v
  | some (some (.cel true d)) => ∃ p, v = .ref p ∧ Cell T H' G' p d
  | _ => False
def OutsR (T : Tab) (H' G' : Hp) (ss : List Sl) (vs : List V) (outs : List (Option Sl)) : Prop :=
  ∀ (i : Nat) b d, ss[i]? = some (Sl.cel b d) → ∃ v, vs[i]? = some v ∧ OutR T H' G' v outs[i]?
def spF (T : Tab) (F : List Sl → FOut) : Sp := fun vs H Q E => ∃ G ss, Ex G H ∧ ArgsR T H G ss vs ∧ (match F ss with
  | .ok r outs => ∀ v H' G', Ex G' H' → Stp (argC ss vs) H G H' G' → RN T H H' G' r.1 r.2 v → OutsR T H' G' ss vs outs → Q v H'
  | .exc c l outs => ∀ x od H' G', Ex G' H' → Stp (argC ss vs) H G H' G' → ExR T H' G' c l x od → OutsR T H' G' ss vs outs → E x od H'
  | .bad => False)
section
variable {T : Tab} {B : Base} {XE : XK} {σ : L2.St} {H H' G G' : Hp} {ρ ρ' : Rho}
theorem AgL.get : ∀ {as : List Ag} {vs : List V} {i : Nat} {a : Ag}, AgL T as vs σ H G ρ → as[i]? = some a → ∃ v, vs[i]? = some v ∧ AgR T a v σ H G ρ
  | [], _, i, a, h, e => by simp at e
  | x :: as, _, 0, a, h, e => by
    obtain ⟨v, r, rfl, h1, h2⟩ := h
    simp at e
    subst e
    exact ⟨v, rfl, h1⟩
  | x :: as, _, i + 1, a, h, e => by
    obtain ⟨v, r, rfl, h1, h2⟩ := h
    obtain ⟨w, h3, h4⟩ := AgL.get (i := i) h2 (by simpa using e)
    exact ⟨w, by simpa using h3, h4⟩
theorem AgL.length : ∀ {as : List Ag} {vs : List V}, AgL T as vs σ H G ρ → vs.length = as.length
  | [], _, h => by
    have : _ = [] := h
    rw [this]
    rfl
  | x :: as, _, h => by
    obtain ⟨v, r, rfl, h1, h2⟩ := h
    rw [List.length_cons, List.length_cons, AgL.length h2]
theorem fill_cons {a : Ag} {l : List Ag} {ss : List Sl} (h : fill ρ (a :: l) = some ss) : ∃ s r, a.get ρ = some s ∧ fill ρ l = some r ∧ ss = s :: r := by
  unfold fill at h
  cases e1 : a.get ρ with
  | none => rw [e1] at h; cases h
  | some s =>
    cases e2 : fill ρ l with
    | none => rw [e1, e2] at h; cases h
    | some r =>
      rw [e1, e2] at h
      cases h
      exact ⟨s, r, rfl, rfl, rfl⟩
theorem fill_get : ∀ {as : List Ag} {ss : List Sl} {i : Nat} {s : Sl}, fill ρ as = some ss → ss[i]? = some s → ∃ a, as[i]? = some a ∧ a.get ρ = some s
  | [], _, i, s, h, e => by
    unfold fill at h
    cases h
    simp at e
  | a :: as, _, 0, s, h, e => by
    obtain ⟨s', r, h1, h2, rfl⟩ := fill_cons h
    simp at e
    subst e
    exact ⟨a, rfl, h1⟩
  | a :: as, _, i + 1, s, h, e => by
    obtain ⟨s', r, h1, h2, rfl⟩ := fill_cons h
    obtain ⟨a', h3, h4⟩ := fill_get (i := i) h2 (by simpa using e)
    exact ⟨a', by simpa using h3, h4⟩
theorem fill_length : ∀ {as : List Ag} {ss : List Sl}, fill ρ as = some ss → ss.length = as.length
  | [], _, h => by
    unfold fill at h
    cases h
    rfl
  | a :: as, _, h => by
    obtain ⟨s', r, h1, h2, rfl⟩ := fill_cons h
    rw [List.length_cons, List.length_cons, fill_length h2]
theorem get_cel {a : Ag} {b : Bool} {d : D} (h : a.get ρ = some (.cel b d)) : b = true ∧ ∃ i b', a = .slot i ∧ slot ρ i = some (.cel b' d) := by
  cases a with
  | val d' => cases h
  | slot i =>
    simp only [Ag.get] at h
    cases e : slot ρ i with
    | none => rw [e] at h; cases h
    | some t =>
      rw [e] at h
      cases t with
      | val b' d' => cases h
      | cel b' d' =>
        cases h
        exact ⟨rfl, i, b', rfl, e⟩
theorem get_val {a : Ag} {b : Bool} {d : D} (h : a.get ρ = some (.val b d)) : b = false := by
  cases a with
  | val d' => cases h; rfl
  | slot i =>
    simp only [Ag.get] at h
    cases e : slot ρ i with
    | none => rw [e] at h; cases h
    | some t =>
      rw [e] at h
      cases t <;> cases h
      rfl
theorem slots_get : ∀ {as : List Ag} {i k : Nat}, as[k]? = some (Ag.slot i) → i ∈ slots as
  | [], _, _, h => by simp at h
  | a :: as, i, 0, h => by
    simp at h
    subst h
    exact List.mem_cons_self
  | a :: as, i, k + 1, h => by
    have := slots_get (as := as) (i := i) (k := k) (by simpa using h)
    cases a with
    | val d => exact this
    | slot j => exact List.mem_cons_of_mem _ this
theorem slots_nodup : ∀ {as : List Ag} {i k k' : Nat}, (slots as).Nodup → as[k]? = some (Ag.slot i) → as[k']? = some (.slot i) → k = k'
  | [], _, _, _, _, h, _ => by simp at h
  | a :: as, i, 0, 0, _, _, _ => rfl
  | a :: as, i, 0, k' + 1, n, h, h' => by
    simp at h
    subst h
    exact absurd (slots_get (by simpa using h')) (List.nodup_cons.mp n).1
  | a :: as, i, k + 1, 0, n, h, h' => by
    simp at h'
    subst h'
    exact absurd (slots_get (by simpa using h)) (List.nodup_cons.mp n).1
  | a :: as, i, k + 1, k' + 1, n, h, h' => by
    have n' : (slots as).Nodup := by
      cases a with
      | val d => exact n
      | slot j => exact (List.nodup_cons.mp n).2
    exact congrArg (· + 1) (slots_nodup (as := as) (i := i) n' (by simpa using h) (by simpa using h'))
/-- the caller's arguments -/
theorem Sta.args (S : Sta T B σ H G ρ) {as : List Ag} {vs : List V} {ss : List Sl} (h : AgL T as vs σ H G ρ) (f : fill ρ as = some ss) (n : (slots as).Nodup) : ArgsR T H G ss vs where
  ln := by rw [h.length, fill_length f]
  vl := fun i b d e => by
    obtain ⟨a, h1, h2⟩ := fill_get f e
    obtain ⟨v, h3, h4⟩ := h.get h1
    have := get_val h2
    subst this
    refine ⟨rfl, v, h3, ?_⟩
    cases a with
    | val d' => cases h2; exact h4
    | slot j =>
      simp only [Ag.get] at h2
      cases e : slot ρ j with
      | none => rw [e] at h2; cases h2
      | some t =>
        rw [e] at h2
        cases t with
        | cel b' d' => cases h2
        | val b' d' =>
          cases h2
          obtain ⟨v', h5, h6⟩ := S.vl j b' d (slot_some e)
          have h4' : σ[j]? = some (some v) := h4
          rw [h5] at h4'
          cases h4'
          exact h6
  cl := fun i b d e => by
    obtain ⟨a, h1, h2⟩ := fill_get f e
    obtain ⟨v, h3, h4⟩ := h.get h1
    obtain ⟨rfl, j, b', rfl, h5⟩ := get_cel h2
    obtain ⟨p, h6, h7, _⟩ := S.cl j b' d (slot_some h5)
    have h4' : σ[j]? = some (some v) := h4
    rw [h6] at h4'
    cases h4'
    exact ⟨rfl, p, h3, h7⟩
  dj := fun i j b b' d d' p e e' q q' => by
    obtain ⟨a, h1, h2⟩ := fill_get f e
    obtain ⟨a', h1', h2'⟩ := fill_get f e'
    obtain ⟨v, h3, h4⟩ := h.get h1
    obtain ⟨v', h3', h4'⟩ := h.get h1'
    obtain ⟨_, k, c, rfl, h5⟩ := get_cel h2
    obtain ⟨_, k', c', rfl, h5'⟩ := get_cel h2'
    rw [q] at h3
    cases h3
    rw [q'] at h3'
    cases h3'
    have := S.dj k k' c c' d d' p (slot_some h5) (slot_some h5') h4 h4'
    subst this
    exact slots_nodup n h1 h1'
/-- what back does -/
theorem back_ok : ∀ {as : List Ag} {outs : List (Option Sl)} {ρ ρ' : Rho}, back ρ as outs = some ρ' → (slots as).Nodup →
    ρ'.length = ρ.length ∧ (∀ i : Nat, ¬ (∃ (k : Nat) (b : Bool) (d : D), as[k]? = some (Ag.slot i) ∧ slot ρ i = some (Sl.cel b d)) → ρ'[i]? = ρ[i]?) ∧
    ∀ (i k : Nat) (b : Bool) (d : D), as[k]? = some (Ag.slot i) → slot ρ i = some (Sl.cel b d) → (∃ d', outs[k]? = some (some (Sl.cel true d')) ∧ ρ'[i]? = some (some (Sl.cel b d'))) ∨ ∃ d', outs[k]? = some (some (Sl.val true d')) ∧ ρ'[i]? = some (some (Sl.val b d'))
  | [], outs, ρ, ρ', h, _ => by
    unfold back at h
    cases h
    exact ⟨rfl, fun _ _ => rfl, fun i k b d e => by simp at e⟩
  | .val x :: as, [], ρ, ρ', h, _ => by unfold back at h; cases h
  | .slot x :: as, [], ρ, ρ', h, _ => by unfold back at h; cases h
  | .val x :: as, p :: ps, ρ, ρ', h, n => by
    unfold back at h
    obtain ⟨h1, h2, h3⟩ := back_ok h n
    refine ⟨h1, fun i hi => h2 i fun ⟨k, b, d, e1, e2⟩ => hi ⟨k + 1, b, d, by simpa using e1, e2⟩, fun i k b d e1 e2 => ?_⟩
    cases k with
    | zero => simp at e1
    | succ k => simpa using h3 i k b d (by simpa using e1) e2
  | .slot x :: as, p :: ps, ρ, ρ', h, n => by
    have n2 : (slots as).Nodup := (List.nodup_cons.mp n).2
    have n1 : x ∉ slots as := (List.nodup_cons.mp n).1
    unfold back at h
    cases e : slot ρ x with
    | none => rw [e] at h; cases h
    | some t =>
      rw [e] at h
      cases t with
      | val b d =>
        obtain ⟨h1, h2, h3⟩ := back_ok h n2
        refine ⟨h1, fun i hi => h2 i fun ⟨k, b, d, e1, e2⟩ => hi ⟨k + 1, b, d, by simpa using e1, e2⟩, fun i k b' d' e1 e2 => ?_⟩
        cases k with
        | zero =>
          simp at e1
          subst e1
          rw [e] at e2
          cases e2
        | succ k => simpa using h3 i k b' d' (by simpa using e1) e2
      | cel b d =>
        have hx : x < ρ.length := by
          obtain ⟨z, _⟩ := List.getElem?_eq_some_iff.mp (slot_some e)
          exact z
        have key : ∀ t : Sl, back (ρ.set x (some t)) as ps = some ρ' → ρ'.length = ρ.length ∧ ρ'[x]? = some (some t) ∧ (∀ i : Nat, i ≠ x → ¬ (∃ (k : Nat) (b : Bool) (d : D), as[k]? = some (Ag.slot i) ∧ slot ρ i = some (Sl.cel b d)) → ρ'[i]? = ρ[i]?) ∧
            ∀ (i k : Nat) (b : Bool) (d : D), i ≠ x → as[k]? = some (Ag.slot i) → slot ρ i = some (Sl.cel b d) → (∃ d', ps[k]? = some (some (Sl.cel true d')) ∧ ρ'[i]? = some (some (Sl.cel b d'))) ∨ ∃ d', ps[k]? = some (some (Sl.val true d')) ∧ ρ'[i]? = some (some (Sl.val b d')) := fun t q => by
          obtain ⟨h1, h2, h3⟩ := back_ok q n2
          have hs : ∀ i, i ≠ x → slot (ρ.set x (some t)) i = slot ρ i := fun i z => by
            unfold slot
            rw [get_set_ne z]
          refine ⟨by rw [h1, List.length_set], ?_, fun i z hi => ?_, fun i k b d z e1 e2 => h3 i k b d e1 (by rw [hs i z]; exact e2)⟩
          · rw [h2 x fun ⟨k, b, d, e1, e2⟩ => n1 (slots_get e1), List.getElem?_set_self hx]
          · rw [h2 i fun ⟨k, b, d, e1, e2⟩ => hi ⟨k, b, d, e1, by rw [← hs i z]; exact e2⟩, get_set_ne z]
        have fin : ∀ t : Sl, back (ρ.set x (some t)) as ps = some ρ' → ((∃ d', p = some (.cel true d') ∧ t = .cel b d') ∨ ∃ d', p = some (.val true d') ∧ t = .val b d') →
            ρ'.length = ρ.length ∧ (∀ i : Nat, ¬ (∃ (k : Nat) (b : Bool) (d : D), (Ag.slot x :: as)[k]? = some (.slot i) ∧ slot ρ i = some (Sl.cel b d)) → ρ'[i]? = ρ[i]?) ∧
            ∀ (i k : Nat) (b : Bool) (d : D), (Ag.slot x :: as)[k]? = some (.slot i) → slot ρ i = some (Sl.cel b d) → (∃ d', (p :: ps)[k]? = some (some (Sl.cel true d')) ∧ ρ'[i]? = some (some (Sl.cel b d'))) ∨ ∃ d', (p :: ps)[k]? = some (some (Sl.val true d')) ∧ ρ'[i]? = some (some (Sl.val b d')) := fun t q ht => by
          obtain ⟨k1, k2, k3, k4⟩ := key t q
          refine ⟨k1, fun i hi => ?_, fun i k b' d' e1 e2 => ?_⟩
          · by_cases z : i = x
            · subst z
              exact absurd ⟨0, b, d, rfl, e⟩ hi
            · exact k3 i z fun ⟨k, b, d, e1, e2⟩ => hi ⟨k + 1, b, d, by simpa using e1, e2⟩
          · cases k with
            | zero =>
              simp at e1
              subst e1
              rw [e] at e2
              cases e2
              rcases ht with ⟨d', rfl, rfl⟩ | ⟨d', rfl, rfl⟩
              · exact .inl ⟨d', rfl, k2⟩
              · exact .inr ⟨d', rfl, k2⟩
            | succ k =>
              have e1' : as[k]? = some (Ag.slot i) := by simpa using e1
              have z : i ≠ x := fun z => n1 (by rw [← z]; exact slots_get e1')
              simpa using k4 i k b' d' z e1' e2
        cases p with
        | none => cases h
        | some p =>
          cases p with
          | val c d' =>
            cases c with
            | false => cases h
            | true => exact fin _ h (.inr ⟨d', rfl, rfl⟩)
          | cel c d' =>
            cases c with
            | false => cases h
            | true => exact fin _ h (.inl ⟨d', rfl, rfl⟩)
/-- behind the call -/
theorem Sta.after (S : Sta T B σ H G ρ) {as : List Ag} {vs : List V} {ss : List Sl} {outs : List (Option Sl)} (h : AgL T as vs σ H G ρ) (f : fill ρ as = some ss) (n : (slots as).Nodup)
    (hb : back ρ as outs = some ρ') (e : Ex G' H') (t : Stp (argC ss vs) H G H' G') (o : OutsR T H' G' ss vs outs) : Sta T B σ H' G' ρ' := by
  obtain ⟨h1, h2, h3⟩ := back_ok hb n
  have hc : ∀ x, argC ss vs x → ∃ (i k : Nat) (b : Bool) (d : D), as[k]? = some (Ag.slot i) ∧ slot ρ i = some (Sl.cel b d) ∧ σ[i]? = some (some (.ref x)) := fun x ⟨k, b, d, e1, e2⟩ => by
    obtain ⟨a, g1, g2⟩ := fill_get f e1
    obtain ⟨_, i, b', rfl, g3⟩ := get_cel g2
    obtain ⟨v, g4, g5⟩ := h.get g1
    rw [e2] at g4
    cases g4
    exact ⟨i, k, b', d, g1, g3, g5⟩
  -- an argument's cell: its new state
  have arg : ∀ (i k : Nat) (b : Bool) (d : D), as[k]? = some (Ag.slot i) → slot ρ i = some (Sl.cel b d) → ∃ p, σ[i]? = some (some (.ref p)) ∧ (B.cs p ∨ B.H p = none) ∧ ((∃ d', ρ'[i]? = some (some (Sl.cel b d')) ∧ Cell T H' G' p d') ∨ ∃ d', ρ'[i]? = some (some (Sl.val b d')) ∧ Rep T G' d' (.ref p)) := fun i k b d e1 e2 => by
    obtain ⟨p, g1, g2, g3⟩ := S.cl i b d (slot_some e2)
    obtain ⟨v, g4, g5⟩ := h.get e1
    have g5' : σ[i]? = some (some v) := g5
    rw [g1] at g5'
    cases g5'
    have hk : k < as.length := by
      obtain ⟨z, _⟩ := List.getElem?_eq_some_iff.mp e1
      exact z
    have g6 : ss[k]? = some (.cel true d) := by
      have : k < ss.length := by rw [fill_length f]; exact hk
      obtain ⟨a, q1, q2⟩ := fill_get f (List.getElem?_eq_getElem this)
      rw [e1] at q1
      cases q1
      rw [List.getElem?_eq_getElem this]
      have q3 : Ag.get ρ (.slot i) = some (.cel true d) := by
        simp only [Ag.get]
        rw [e2]
      rw [q3] at q2
      exact q2.symm
    obtain ⟨v, g7, g8⟩ := o k true d g6
    rw [g4] at g7
    cases g7
    refine ⟨p, g1, g3, ?_⟩
    rcases h3 i k b d e1 e2 with ⟨d', q1, q2⟩ | ⟨d', q1, q2⟩
    · rw [q1] at g8
      obtain ⟨p', q3, q4⟩ := g8
      cases q3
      exact .inl ⟨d', q2, q4⟩
    · rw [q1] at g8
      exact .inr ⟨d', q2, g8⟩
  have oth : ∀ i : Nat, (¬ ∃ (k : Nat) (b : Bool) (d : D), as[k]? = some (Ag.slot i) ∧ slot ρ i = some (Sl.cel b d)) → ρ'[i]? = ρ[i]? := h2
  refine ⟨e, by rw [h1]; exact S.ln, S.st.then t fun x hx => ?_, fun i b d q => ?_, fun i b d q => ?_, fun i j b b' d d' p q q' r r' => ?_, fun i s q k => ?_, fun i d p q r => ?_⟩
  · obtain ⟨i, k, b, d, e1, e2, e3⟩ := hc x hx
    obtain ⟨p, g1, g2, _⟩ := arg i k b d e1 e2
    rw [e3] at g1
    cases g1
    exact g2
  · by_cases z : ∃ (k : Nat) (b : Bool) (d : D), as[k]? = some (Ag.slot i) ∧ slot ρ i = some (Sl.cel b d)
    · obtain ⟨k, b1, d1, e1, e2⟩ := z
      obtain ⟨p, g1, g2, g3⟩ := arg i k b1 d1 e1 e2
      rcases g3 with ⟨d', g4, g5⟩ | ⟨d', g4, g5⟩
      · rw [g4] at q
        cases q
      · rw [g4] at q
        cases q
        exact ⟨_, g1, g5⟩
    · rw [oth i z] at q
      obtain ⟨v, g1, g2⟩ := S.vl i b d q
      exact ⟨v, g1, g2.mono t.g⟩
  · by_cases z : ∃ (k : Nat) (b : Bool) (d : D), as[k]? = some (Ag.slot i) ∧ slot ρ i = some (Sl.cel b d)
    · obtain ⟨k, b1, d1, e1, e2⟩ := z
      obtain ⟨p, g1, g2, g3⟩ := arg i k b1 d1 e1 e2
      rcases g3 with ⟨d', g4, g5⟩ | ⟨d', g4, g5⟩
      · rw [g4] at q
        cases q
        exact ⟨p, g1, g5, g2⟩
      · rw [g4] at q
        cases q
    · rw [oth i z] at q
      obtain ⟨p, g1, g2, g3⟩ := S.cl i b d q
      have nc : ¬ argC ss vs p := fun hp => by
        obtain ⟨i', k, b', d', e1, e2, e3⟩ := hc p hp
        have := S.dj i i' b b' d d' p q (slot_some e2) g1 e3
        subst this
        exact z ⟨k, b', d', e1, e2⟩
      exact ⟨p, g1, g2.move t.g (fun o hh => t.k p o hh nc) (t.n p g2.free g2.there nc), g3⟩
  · have old : ∀ (i : Nat) (b : Bool) (d : D), ρ'[i]? = some (some (Sl.cel b d)) → ∃ (b' : Bool) (d' : D), ρ[i]? = some (some (Sl.cel b' d')) := fun i b d q => by
      by_cases z : ∃ (k : Nat) (b : Bool) (d : D), as[k]? = some (Ag.slot i) ∧ slot ρ i = some (Sl.cel b d)
      · obtain ⟨k, b1, d1, e1, e2⟩ := z
        exact ⟨b1, d1, slot_some e2⟩
      · rw [oth i z] at q
        exact ⟨b, d, q⟩
    obtain ⟨b1, d1, q1⟩ := old i b d q
    obtain ⟨b2, d2, q2⟩ := old j b' d' q'
    exact S.dj i j b1 b2 d1 d2 p q1 q2 r r'
  · by_cases z : ∃ (k : Nat) (b : Bool) (d : D), as[k]? = some (Ag.slot i) ∧ slot ρ i = some (Sl.cel b d)
    · obtain ⟨k', b1, d1, e1, e2⟩ := z
      obtain ⟨p, g1, g2, g3⟩ := arg i k' b1 d1 e1 e2
      have hb : b1 = true := by
        rcases g3 with ⟨d', g4, g5⟩ | ⟨d', g4, g5⟩ <;> (rw [g4] at q; cases q; exact k)
      subst hb
      exact S.bo i _ (slot_some e2) rfl
    · rw [oth i z] at q
      exact S.bo i s q k
  · by_cases z : ∃ (k : Nat) (b : Bool) (d : D), as[k]? = some (Ag.slot i) ∧ slot ρ i = some (Sl.cel b d)
    · obtain ⟨k', b1, d1, e1, e2⟩ := z
      obtain ⟨p', g1, g2, g3⟩ := arg i k' b1 d1 e1 e2
      have hb : b1 = false := by
        rcases g3 with ⟨d', g4, g5⟩ | ⟨d', g4, g5⟩ <;> (rw [g4] at q; cases q) <;> rfl
      subst hb
      exact S.nw i d1 p (slot_some e2) r
    · rw [oth i z] at q
      exact S.nw i d p q r
end
end Pf
end
section
set_option Elab.async false
set_option linter.all false
set_option maxRecDepth 100000
set_option maxHeartbeats 1000000
/-! Rf9: what a context must give; expressions of each form. -/
namespace Pf
open PySem PySem.Spec PyProof.Rows L2
def noStar : Expr → Bool
  | .Starred .. => false
  | _ => true
theorem star_one {e : Expr} {env : Env} (h : noStar e = true) (es : List Expr) : starEach (e :: es) env = (false, eval e env) :: starEach es env := by
  cases e <;> first | rfl | cases h
theorem star_all {env : Env} {pos : PySem.Pos} : ∀ {es : List Expr}, es.all noStar = true → (backTo pos (starEach es env)).all (fun x => !x.1) = true ∧ (backTo pos (starEach es env)).any (·.1) = false
  | [], _ => by
    unfold starEach
    constructor <;> rfl
  | e :: es, h => by
    rw [List.all_cons, Bool.and_eq_true] at h
    rw [star_one h.1]
    have := star_all (es := es) (env := env) (pos := pos) h.2
    have e2 : backTo pos ((false, eval e env) :: starEach es env) = (false, eval e env) :: backTo pos (starEach es env) := rfl
    rw [e2, List.all_cons, List.any_cons]
    exact ⟨by rw [this.1]; rfl, by rw [this.2]; rfl⟩
theorem att_base {o : Expr} {m : Str} {env : Env} (h : (match o with | .Call (.Name _ _) [] [] _ => false | _ => true) = true) : attributeBase o m env (eval o env) = eval o env := by
  unfold attributeBase
  split
  · cases h
  · rfl
theorem eval_meth {o : Expr} {es : List Expr} {m : Str} {apos pos : PySem.Pos} {env : Env} (h : attributeBase o m env (eval o env) = eval o env) (hs : es.all noStar = true) (hn : es.length < 30) (hl : (apos.endLine == pos.line) = true) : ∃ pl : Sem Bool, eval (.Call (.Attribute o m apos) es [] pos) env = (do
      let ov ← eval o env
      standAt apos.atName
      let (f, first) ← holding [ov] (getMethod ov m pl)
      callWith pos f first (backTo pos (starEach es env)) (backToKw pos (keywordEach [] env))) := by
  have hf : methodCallForm (es.length + 0) (backTo pos (starEach es env)) (backToKw pos (keywordEach [] env)) = true := by
    unfold methodCallForm
    rw [(star_all hs).1]
    have : backToKw pos (keywordEach [] env) = [] := rfl
    rw [this]
    simp
    exact hn
  refine ⟨(do return (← importBound o env).getD true), ?_⟩
  have h1 : eval (.Call (.Attribute o m apos) es [] pos) env = (do
    let ov ← attributeBase o m env (eval o env)
    standAt apos.atName
    methodCall o m apos pos env ov (es.length + 0) (backTo pos (starEach es env)) (backToKw pos (keywordEach [] env))) := by
    conv => lhs; unfold eval
    rfl
  rw [h1, h]
  congr 1
  funext ov
  congr 1
  funext _
  unfold methodCall
  rw [hf]
  have h2 : methodCallPos true o env apos pos = pure pos := by
    unfold methodCallPos
    rw [hl]
    rfl
  rw [h2]
  congr 1
theorem swaps_no {v : Expr} {t : Option Expr} {l : Nat} {env : Env} (h : (match v with | .ListComp .. => false | .SetComp .. => false | .DictComp .. => false | _ => true) = true) : swapsWith v t l env = pure false := by
  unfold swapsWith
  cases v <;> first | rfl | cases h
theorem swst_no {t v : Expr} {env : Env} (h : (match v with | .Tuple .. => false | _ => true) = true) : swappedStores [t] v env = pure none := by
  unfold swappedStores
  cases v <;> first | (cases h; done) | (cases t <;> rfl)

structure Ctx where
  N : List Str
  sc : Scope
  /-- a comprehension's block -/
  blk : Bool
/-- built-in names that the text calls -/
def blts : List Str := ["len", "abs", "int", "str", "tuple", "list", "sum", "min", "max", "all", "any", "dict", "range", "enumerate", "zip", "isinstance", "sorted", "reversed", "bool"]
def CalG (T : Tab) (Γ : Ga) (P : Program) (w : World) (K : PySem.W.Frag) (mg : Str → Option Value) (base : Heap) (CX : CXT) (k : Nat) (f : Str) : Prop :=
  (∃ a fd ps, mg f = some (.ref a) ∧ PySem.W.keepIn K (.ref a) = true ∧ Binds K fd ps [] ∧ FnOk P w K mg base CX k a fd ps (spF T (Γ.cal f))) ∨
  ∃ c a fd ps F, mg f = some (.ref (T.cls c)) ∧ Mk K (T.cls c) a ∧ Binds K fd ps [] ∧ FnOk P w K mg base CX k a fd ps (spF T F) ∧ ∀ ss, Γ.cal f ss = mkF c F ss
abbrev CalF (T : Tab) (Γ : Ga) (X : Cx) (CX : CXT) (k : Nat) (f : Str) : Prop := CalG T Γ X.prog X.w X.K X.mg X.base CX k f
def MetG (T : Tab) (Γ : Ga) (P : Program) (w : World) (K : PySem.W.Frag) (mg : Str → Option Value) (base : Heap) (CX : CXT) (k : Nat) (c : Nat) (m : Str) : Prop :=
  ∃ a fd ps, Cls K (T.cls c) ∧ Meth K (T.cls c) m a ∧ Binds K fd ps [] ∧ FnOk P w K mg base CX k a fd ps (spF T (Γ.met c m))
abbrev MetF (T : Tab) (Γ : Ga) (X : Cx) (CX : CXT) (k : Nat) (c : Nat) (m : Str) : Prop := MetG T Γ X.prog X.w X.K X.mg X.base CX k c m
def tyNames : List String := ["NoneType", "bool", "int", "str", "list", "tuple", "dict"]
/-- what isinstance asks of a class -/
structure IsiC (K : PySem.W.Frag) (C : Addr) : Prop where
  ha : PySem.W.findIn K (.ref C) "__class__" = some (some (.builtin "object.__class__"))
  hn : PySem.W.specialIn K (.builtin "object.__class__") "__get__" = some (some (.builtin "getset_descriptor.__get__"))
  ht : PySem.W.takesIn K (.builtin "object.__class__") = some true
  hm : PySem.W.mroIn K C (.type "object") = some true
  to : ∀ n ∈ tyNames, PySem.W.kitOne K (.ref C) (.type n) = some false
  fr : ∀ n ∈ tyNames, PySem.W.kitOne K (.type n) (.ref C) = some false
  ne : PySem.W.findIn K (.ref C) "__ne__" = some (some (.builtin "object.__ne__"))
structure Gd (T : Tab) (Γ : Ga) (CX : CXT) (k : Nat) (X : Cx) (c : Ctx) (XE : XK) : Prop where
  nN : X.N = c.N
  nd : X.N.Nodup
  sc : X.env.scope = c.sc
  kd : X.env.scope.kind = .function
  calm : X.calm = true
  hK : X.K = T.K
  room : Room (k + 1) X.A
  fn : c.blk = false → ∀ x, X.fn x = true
  fl : Γ.flds = T.flds
  cls : ∀ k, T.flds k ≠ [] → Cls X.K (T.cls k)
  noat : ∀ k f, f ∈ T.flds k → NoAttr X.K (T.cls k) f
  fnd : ∀ k, (T.flds k).Nodup ∧ (T.flds k).length < 1000
  own : ∀ x c, T.own x = some c → X.mg x = some (.ref (T.cls c)) ∧ T.flds c ≠ []
  isi : ∀ c, T.flds c ≠ [] → IsiC X.K (T.cls c)
  isd : ∀ c j, T.flds c ≠ [] → T.flds j ≠ [] → PySem.W.kitOne X.K (.ref (T.cls c)) (.ref (T.cls j)) = some (decide (c = j))
  glo : ∀ x d, Γ.glo x = some d → ∃ v u, X.mg x = some u ∧ RelV v u ∧ ∀ G, Rep T G d v
  blt : ∀ x ∈ blts, X.mg x = none
  cal : ∀ f, Γ.has f = true → CalF T Γ X CX k f
  met : ∀ c m, Γ.hasM c m = true → MetF T Γ X CX k c m
  cxF : ∀ outer H s e s', ¬ CX outer H s (fun _ _ _ => False) e s'
  ps : Passes CX X XE
  po : PassesOwn (model X.prog X.w) X.A X.env X.xe
section
variable {X : Cx} {T : Tab} {B : Base} {XE : XK} {Γ : Ga} {CX : CXT} {k : Nat} {ctx : Ctx} {e a b c o : Expr} {es : List Expr} {pos : PySem.Pos} {ir ia ib ic : E} {irs : List E}
theorem Gd.un (g : Gd T Γ CX k X ctx XE) : X.A.units + 64 < cLine := g.room.units
theorem ok_bin (g : Gd T Γ CX k X ctx XE) (o : Bop) (ha : Ok X T B XE Γ a ia) (hb : Ok X T B XE Γ b ib) : Ok X T B XE Γ (.BinOp a (astB o) b pos) (.ap (.bin o) [ia, ib]) :=
  Ok.plain g.hK (pe_ap2 (o := .bin o) (fun _ => rfl) (pe_op (rd_bop g.hK o) ha.opd hb.opd)) rfl (fun _ => rfl) fun _ => rfl
theorem rd_rc {f : D → D → Option Bool} {x y : V} {H : Hp} {Q : VK} (h : RD2 T false (fun a b => (f a b).map D.bl) x y H Q) : RC2 T f x y H Q := by
  obtain ⟨G, dx, dy, dz, e, h1, h2, h3, q⟩ := h
  have h3 : (f dx dy).map D.bl = some dz := h3
  cases z : f dx dy with
  | none => rw [z] at h3; cases h3
  | some k =>
    rw [z] at h3
    cases h3
    exact ⟨G, dx, dy, k, e, h1, h2, z, q.here rfl e rep_bl⟩
theorem cmp_bl {o : Cop} (ρ : Rho) (x : Res) (ρ' : Rho) (h : ev Γ (.ap (.cmp o) [ia, ib]) false ρ = .ok x ρ') : ∃ k, x = (false, .bl k) := by
  simp only [ev, tr] at h
  cases h1 : evs Γ [ia, ib] ρ with
  | ok as ρ1 =>
    rw [h1] at h
    simp only [Out.bnd] at h
    cases h2 : fillD ρ1 as with
    | none => rw [h2] at h; cases h
    | some ds =>
      rw [h2] at h
      simp only [Op.ap] at h
      cases h3 : op2 (fun a b => (cop o a b).map D.bl) ds with
      | none => rw [h3] at h; cases h
      | some d =>
        rw [h3] at h
        cases h
        rcases ds with _ | ⟨d1, _ | ⟨d2, _ | _⟩⟩ <;> try (cases h3; done)
        have h4 : (cop o d1 d2).map D.bl = some d := h3
        cases h5 : cop o d1 d2 with
        | none => rw [h5] at h4; cases h4
        | some k =>
          rw [h5] at h4
          cases h4
          exact ⟨k, rfl⟩
  | exc c l ρ1 => rw [h1] at h; cases h
  | bad => rw [h1] at h; cases h
theorem ok_cmp (g : Gd T Γ CX k X ctx XE) (o : Cop) (ha : Ok X T B XE Γ a ia) (hb : Ok X T B XE Γ b ib) (hm : behindInMarks (astC o) b = false) : Ok X T B XE Γ (.Compare a [astC o] [b] pos) (.ap (.cmp o) [ia, ib]) := by
  have h1 := rc_cop g.hK g.un o
  have imp : ∀ σ H Q, RdE T B XE (fun ρ => ev Γ (.ap (.cmp o) [ia, ib]) false ρ) σ H Q → tOp (RC2 T (cop o)) (RdA T B XE (fun ρ => evA Γ ia ρ)) (RdA T B XE (fun ρ => evA Γ ib ρ)) σ H Q := fun σ H Q q => by
    obtain ⟨G, ρ, S, p⟩ := ap2_imp (o := .cmp o) (fun _ => rfl) σ H Q q
    exact ⟨G, ρ, S, p.mono (fun x ρ1 q v H1 G1 e1 S1 r1 => by
      obtain ⟨G2, ρ2, S2, p2⟩ := q v H1 G1 e1 S1 r1
      exact ⟨G2, ρ2, S2, p2.mono (fun y ρ3 q2 w H3 G3 e3 S3 r3 => rd_rc (q2 w H3 G3 e3 S3 r3)) fun _ _ _ q => q⟩) fun _ _ _ q => q⟩
  exact ⟨wkE (pe_cmpR (pos := pos) h1 ha.opd hb.opd hm) imp, wkT (pt_cmpR (pos := pos) h1 ha.opd hb.opd hm) fun σ H Q q => imp σ H _ (test_bl rfl cmp_bl q), fun i z => (nomatch z), fun _ => rfl⟩
/-- is None -/
theorem isn_bl {n : Bool} (ρ : Rho) (x : Res) (ρ' : Rho) (h : ev Γ (.ap (.isn n) [ia]) false ρ = .ok x ρ') : ∃ k, x = (false, .bl k) := by
  simp only [ev, tr] at h
  cases h1 : evs Γ [ia] ρ with
  | ok as ρ1 =>
    rw [h1] at h
    simp only [Out.bnd] at h
    cases h2 : fillD ρ1 as with
    | none => rw [h2] at h; cases h
    | some ds =>
      rw [h2] at h
      simp only [Op.ap] at h
      cases h3 : op1 (fun d => some (isnD n d)) ds with
      | none => rw [h3] at h; cases h
      | some d =>
        rw [h3] at h
        cases h
        rcases ds with _ | ⟨d1, _ | _⟩ <;> try (cases h3; done)
        have h4 : some (isnD n d1) = some d := h3
        cases h4
        cases d1 <;> exact ⟨_, rfl⟩
  | exc c l ρ1 => rw [h1] at h; cases h
  | bad => rw [h1] at h; cases h
theorem isn_v {H G : Hp} {d : D} {v : V} (e : Ex G H) (h : BR T H G d v) : decide (v = .non) = (match d with | .non => true | _ => false) := by
  cases d with
  | non => cases h.non; rfl
  | bl _ => cases h.bl; rfl
  | int _ => cases h.int; rfl
  | str _ => cases h.str; rfl
  | tup _ => obtain ⟨_, _, rfl, _⟩ := h.tup; rfl
  | lst _ => obtain ⟨_, _, rfl, _⟩ := h.lst e; rfl
  | dic _ _ => obtain ⟨_, _, rfl, _⟩ := h.dic e; rfl
  | ins _ _ => obtain ⟨_, _, _, rfl, _⟩ := h.ins e; rfl
  | scr _ => obtain ⟨_, rfl, _⟩ := h.scr e; rfl
theorem ok_isn (g : Gd T Γ CX k X ctx XE) (n : Bool) {j : Nat} {p2 : PySem.Pos} (ha : Ok X T B XE Γ a ia) : Ok X T B XE Γ (.Compare a [if n then .Is else .IsNot] [.Constant .none j p2] pos) (.ap (.isn n) [ia]) := by
  have imp : ∀ σ H Q, RdE T B XE (fun ρ => ev Γ (.ap (.isn n) [ia]) false ρ) σ H Q → tUn (fun x H Q => Q (.bl (if n then decide (x = .non) else !decide (x = .non))) H) (RdA T B XE (fun ρ => evA Γ ia ρ)) σ H Q := fun σ H Q q => by
    refine ap1_imp (fun H G dx dz x Q e hb hz q => ?_) σ H Q q
    have hz : some (isnD n dx) = some dz := hz
    cases hz
    rw [isn_v e hb]
    cases n <;> cases dx <;> exact q.here rfl e rep_bl
  have hp : PE X (.Compare a [if n then .Is else .IsNot] [.Constant .none j p2] pos) (tUn (fun x H Q => Q (.bl (if n then decide (x = .non) else !decide (x = .non))) H) (RdA T B XE (fun ρ => evA Γ ia ρ))) := by
    cases n
    · exact pe_cmp (pc_notN ha.opd)
    · exact pe_cmp (pc_isN ha.opd)
  have ht : PT X (.Compare a [if n then .Is else .IsNot] [.Constant .none j p2] pos) (tB (tUn (fun x H Q => Q (.bl (if n then decide (x = .non) else !decide (x = .non))) H) (RdA T B XE (fun ρ => evA Γ ia ρ)))) := by
    cases n
    · exact pt_cmp (pc_notN ha.opd)
    · exact pt_cmp (pc_isN ha.opd)
  exact ⟨wkE hp imp, wkT ht fun σ H Q q => imp σ H _ (test_bl rfl isn_bl q), fun i z => (nomatch z), fun _ => rfl⟩
theorem isb_bl {n kb : Bool} (ρ : Rho) (x : Res) (ρ' : Rho) (h : ev Γ (.ap (.isb n kb) [ia]) false ρ = .ok x ρ') : ∃ k, x = (false, .bl k) := by
  simp only [ev, tr] at h
  cases h1 : evs Γ [ia] ρ with
  | ok as ρ1 =>
    rw [h1] at h
    simp only [Out.bnd] at h
    cases h2 : fillD ρ1 as with
    | none => rw [h2] at h; cases h
    | some ds =>
      rw [h2] at h
      simp only [Op.ap] at h
      cases h3 : op1 (isbD n kb) ds with
      | none => rw [h3] at h; cases h
      | some d =>
        rw [h3] at h
        cases h
        rcases ds with _ | ⟨d1, _ | _⟩ <;> try (cases h3; done)
        have h4 : isbD n kb d1 = some d := h3
        cases d1 <;> first | (cases h4; exact ⟨_, rfl⟩) | (cases h4; done)
  | exc c l ρ1 => rw [h1] at h; cases h
  | bad => rw [h1] at h; cases h
theorem ok_isb (g : Gd T Γ CX k X ctx XE) (n kb : Bool) {j : Nat} {p2 : PySem.Pos} (ha : Ok X T B XE Γ a ia) : Ok X T B XE Γ (.Compare a [if n then .IsNot else .Is] [.Constant (.bool kb) j p2] pos) (.ap (.isb n kb) [ia]) := by
  have h1 : OpR X (compareOp (if n then .IsNot else .Is)) (fun x y H Q => ∃ a b, x = .bl a ∧ y = .bl b ∧ Q (.bl (decide (a = b) != n)) H) := by
    cases n with
    | false =>
      intro pins s σ H x y v u Q I rx ry h
      obtain ⟨a, b, rfl, rfl, q⟩ := h
      exact op_is_bl pins s σ H _ _ v u Q I rx ry ⟨a, b, rfl, rfl, by simpa using q⟩
    | true =>
      intro pins s σ H x y v u Q I rx ry h
      obtain ⟨a, b, rfl, rfl, q⟩ := h
      exact op_isnot_bl pins s σ H _ _ v u Q I rx ry ⟨a, b, rfl, rfl, by simpa using q⟩
  have hm : behindInMarks (if n then .IsNot else .Is) (.Constant (.bool kb) j p2) = false := by cases n <;> rfl
  have imp : ∀ σ H Q, RdE T B XE (fun ρ => ev Γ (.ap (.isb n kb) [ia]) false ρ) σ H Q → tOp (fun x y H Q => ∃ a b, x = .bl a ∧ y = .bl b ∧ Q (.bl (decide (a = b) != n)) H) (RdA T B XE (fun ρ => evA Γ ia ρ)) (tC (.bl kb)) σ H Q := fun σ H Q q => by
    have := ap1_imp (o := .isb n kb) (ia := ia) (r := fun x H Q => ∃ a, x = .bl a ∧ Q (.bl (decide (a = kb) != n)) H) (fun H G dx dz x Q e hb hd q => by
      cases dx with
      | bl b0 =>
        cases hb.bl
        cases hd
        exact ⟨b0, rfl, q.here rfl e rep_bl⟩
      | _ => cases hd) σ H Q q
    obtain ⟨G, ρ, S, p⟩ := this
    exact ⟨G, ρ, S, p.mono (fun x ρ1 q v H1 G1 e1 S1 r1 => by
      obtain ⟨b0, rfl, q⟩ := q v H1 G1 e1 S1 r1
      exact ⟨b0, kb, rfl, rfl, q⟩) fun _ _ _ q => q⟩
  exact ⟨wkE (pe_cmpR (pos := pos) h1 ha.opd pe_bl hm) imp, wkT (pt_cmpR (pos := pos) h1 ha.opd pe_bl hm) fun σ H Q q => imp σ H _ (test_bl rfl isb_bl q), fun i z => (nomatch z), fun _ => rfl⟩
theorem ok_neg (g : Gd T Γ CX k X ctx XE) (ha : Ok X T B XE Γ a ia) : Ok X T B XE Γ (.UnaryOp .USub a pos) (.ap .neg [ia]) :=
  Ok.plain g.hK (wkE (pe_un un_neg ha.opd) fun σ H Q q => ap1_imp (fun H G dx dz x Q e hb hz q => by
    have hz : negD dx = some dz := hz
    cases dx with
    | int i =>
      cases hb.int
      cases hz
      exact ⟨i, rfl, q.here rfl e rep_int⟩
    | _ => cases hz) σ H Q q) rfl (fun _ => rfl) fun _ => rfl
theorem ok_not (g : Gd T Γ CX k X ctx XE) (ha : Ok X T B XE Γ a ia) : Ok X T B XE Γ (.UnaryOp .Not a pos) (.not ia) := by
  refine ⟨wkE (pe_notT (Go.rep ha.pe)) fun σ H Q q => ?_, wkT (pt_not ha.pt) fun σ H Q q => ?_, fun i z => (nomatch z), fun _ => rfl⟩
  · obtain ⟨G, ρ, S, p⟩ := q
    simp only [ev] at p
    refine ⟨G, ρ, S, p.bnd.mono (fun r ρ1 q v H1 G1 e1 S1 r1 => ?_) fun _ _ _ q => q⟩
    obtain ⟨t, ht, q2⟩ := q.lift
    cases hr : r.2.truth with
    | none => rw [hr] at ht; cases ht
    | some k =>
      rw [hr] at ht
      cases ht
      exact ⟨k, truV g.hK S1.ex (.inl r1) hr, q2 _ H1 G1 e1 S1 (rep_bl (T := T) (G := G1))⟩
  · obtain ⟨G, ρ, S, p⟩ := q
    simp only [ev] at p
    refine ⟨G, ρ, S, p.bnd.mono (fun r ρ1 q v H1 G1 e1 S1 r1 => ?_) fun _ _ _ q => q⟩
    obtain ⟨t, ht, q2⟩ := q.lift
    have r1 : r.2 = .bl v := r1
    rw [r1] at ht
    cases ht
    exact q2 _ H1 G1 e1 S1 rfl
theorem ok_and : ∀ {es : List Expr} {irs : List E}, Paired (fun e ir => Ok X T B XE Γ e ir) es irs → es ≠ [] → PE X (.BoolOp .And es pos) (RdE T B XE fun ρ => evAnd Γ irs false ρ) ∧ PW X (.BoolOp .And es pos) (RdT T B XE fun ρ => evAnd Γ irs true ρ)
  | _, _, .nil, h => absurd rfl h
  | [e], _, .cons (b := ir) h .nil, _ => by
    refine ⟨wkE (pe_one (Go.rep h.pe)) fun σ H Q q => ?_, wkW (pw_and1 h.pt) fun σ H Q q => ?_⟩
    · obtain ⟨G, ρ, S, p⟩ := q
      simp only [evAnd] at p
      refine ⟨G, ρ, S, p.bnd.mono (fun r ρ1 q v H1 G1 e1 S1 r1 => ?_) fun _ _ _ q => q⟩
      have r1 : Rep T G1 r.2 v := r1
      split at q
      · rename_i hr
        rw [hr] at r1
        exact q v H1 G1 e1 S1 r1
      · rename_i hr
        rw [hr] at r1
        exact q v H1 G1 e1 S1 r1
      · exact q.elim
    · obtain ⟨G, ρ, S, p⟩ := q
      simp only [evAnd] at p
      refine ⟨G, ρ, S, p.bnd.mono (fun r ρ1 q v H1 G1 e1 S1 r1 => ?_) fun _ _ _ q => q⟩
      have r1 : r.2 = .bl v := r1
      rw [r1] at q
      cases v
      · exact q false H1 G1 e1 S1 rfl
      · exact q true H1 G1 e1 S1 rfl
  | e :: e2 :: es, _, .cons (b := ir) h (.cons (b := ir2) h2 t), _ => by
    obtain ⟨i1, i2⟩ := ok_and (.cons h2 t) (List.cons_ne_nil _ _)
    refine ⟨wkE (pe_and (Go.rep h.pe) i1) fun σ H Q q => ?_, wkW (pw_and h.pt i2) fun σ H Q q => ?_⟩
    · obtain ⟨G, ρ, S, p⟩ := q
      unfold evAnd at p
      refine ⟨G, ρ, S, p.bnd.mono (fun r ρ1 q v H1 G1 e1 S1 r1 => ?_) fun _ _ _ q => q⟩
      have r1 : Rep T G1 r.2 v := r1
      split at q
      · rename_i hr
        rw [hr] at r1
        cases r1.bl
        refine ⟨true, rfl, ?_⟩
        rw [if_pos rfl]
        exact ⟨G1, ρ1, S1, q.mono (fun _ _ q v H2 G2 e2 S2 r2 => q v H2 G2 (e1.trans e2) S2 r2) fun _ _ _ q => q.mono e1⟩
      · rename_i hr
        rw [hr] at r1
        cases r1.bl
        refine ⟨false, rfl, ?_⟩
        rw [if_neg Bool.false_ne_true]
        exact q _ H1 G1 e1 S1 (rep_bl (T := T) (G := G1))
      · exact q.elim
    · obtain ⟨G, ρ, S, p⟩ := q
      unfold evAnd at p
      refine ⟨G, ρ, S, p.bnd.mono (fun r ρ1 q v H1 G1 e1 S1 r1 => ?_) fun _ _ _ q => q⟩
      have r1 : r.2 = .bl v := r1
      rw [r1] at q
      cases v with
      | true =>
        dsimp only
        rw [if_pos rfl]
        exact ⟨G1, ρ1, S1, q.mono (fun _ _ q v H2 G2 e2 S2 r2 => q v H2 G2 (e1.trans e2) S2 r2) fun _ _ _ q => q.mono e1⟩
      | false =>
        dsimp only
        rw [if_neg Bool.false_ne_true]
        exact q false H1 G1 e1 S1 rfl
theorem ok_or : ∀ {es : List Expr} {irs : List E}, Paired (fun e ir => Ok X T B XE Γ e ir) es irs → es ≠ [] → PE X (.BoolOp .Or es pos) (RdE T B XE fun ρ => evOr Γ irs false ρ) ∧ PW X (.BoolOp .Or es pos) (RdT T B XE fun ρ => evOr Γ irs true ρ)
  | _, _, .nil, h => absurd rfl h
  | [e], _, .cons (b := ir) h .nil, _ => by
    refine ⟨wkE (pe_one (Go.rep h.pe)) fun σ H Q q => ?_, wkW (pw_or1 h.pt) fun σ H Q q => ?_⟩
    · obtain ⟨G, ρ, S, p⟩ := q
      simp only [evOr] at p
      refine ⟨G, ρ, S, p.bnd.mono (fun r ρ1 q v H1 G1 e1 S1 r1 => ?_) fun _ _ _ q => q⟩
      have r1 : Rep T G1 r.2 v := r1
      split at q
      · rename_i hr
        rw [hr] at r1
        exact q v H1 G1 e1 S1 r1
      · rename_i hr
        rw [hr] at r1
        exact q v H1 G1 e1 S1 r1
      · exact q.elim
    · obtain ⟨G, ρ, S, p⟩ := q
      simp only [evOr] at p
      refine ⟨G, ρ, S, p.bnd.mono (fun r ρ1 q v H1 G1 e1 S1 r1 => ?_) fun _ _ _ q => q⟩
      have r1 : r.2 = .bl v := r1
      rw [r1] at q
      cases v
      · exact q false H1 G1 e1 S1 rfl
      · exact q true H1 G1 e1 S1 rfl
  | e :: e2 :: es, _, .cons (b := ir) h (.cons (b := ir2) h2 t), _ => by
    obtain ⟨i1, i2⟩ := ok_or (.cons h2 t) (List.cons_ne_nil _ _)
    refine ⟨wkE (L2.pe_or (Go.rep h.pe) i1) fun σ H Q q => ?_, wkW (pw_or h.pt i2) fun σ H Q q => ?_⟩
    · obtain ⟨G, ρ, S, p⟩ := q
      unfold evOr at p
      refine ⟨G, ρ, S, p.bnd.mono (fun r ρ1 q v H1 G1 e1 S1 r1 => ?_) fun _ _ _ q => q⟩
      have r1 : Rep T G1 r.2 v := r1
      split at q
      · rename_i hr
        rw [hr] at r1
        cases r1.bl
        refine ⟨true, rfl, ?_⟩
        rw [if_pos rfl]
        exact q _ H1 G1 e1 S1 (rep_bl (T := T) (G := G1))
      · rename_i hr
        rw [hr] at r1
        cases r1.bl
        refine ⟨false, rfl, ?_⟩
        rw [if_neg Bool.false_ne_true]
        exact ⟨G1, ρ1, S1, q.mono (fun _ _ q v H2 G2 e2 S2 r2 => q v H2 G2 (e1.trans e2) S2 r2) fun _ _ _ q => q.mono e1⟩
      · exact q.elim
    · obtain ⟨G, ρ, S, p⟩ := q
      unfold evOr at p
      refine ⟨G, ρ, S, p.bnd.mono (fun r ρ1 q v H1 G1 e1 S1 r1 => ?_) fun _ _ _ q => q⟩
      have r1 : r.2 = .bl v := r1
      rw [r1] at q
      cases v with
      | true =>
        dsimp only
        rw [if_pos rfl]
        exact q true H1 G1 e1 S1 rfl
      | false =>
        dsimp only
        rw [if_neg Bool.false_ne_true]
        exact ⟨G1, ρ1, S1, q.mono (fun _ _ q v H2 G2 e2 S2 r2 => q v H2 G2 (e1.trans e2) S2 r2) fun _ _ _ q => q.mono e1⟩
theorem ok_andE (h : Paired (fun e ir => Ok X T B XE Γ e ir) es irs) (hn : es ≠ []) : Ok X T B XE Γ (.BoolOp .And es pos) (.and irs) := by
  obtain ⟨h1, h2⟩ := ok_and (pos := pos) h hn
  exact ⟨wkE h1 fun σ H Q q => by simpa only [ev] using q, wkT h2.pt fun σ H Q q => by simpa only [ev] using q, fun i z => (nomatch z), fun _ => rfl⟩
theorem ok_orE (h : Paired (fun e ir => Ok X T B XE Γ e ir) es irs) (hn : es ≠ []) : Ok X T B XE Γ (.BoolOp .Or es pos) (.or irs) := by
  obtain ⟨h1, h2⟩ := ok_or (pos := pos) h hn
  exact ⟨wkE h1 fun σ H Q q => by simpa only [ev] using q, wkT h2.pt fun σ H Q q => by simpa only [ev] using q, fun i z => (nomatch z), fun _ => rfl⟩
end
end Pf
end
section
set_option Elab.async false
set_option linter.all false
set_option maxRecDepth 100000
set_option maxHeartbeats 1000000
/-! Rf10: more forms: conditional expressions, attributes, subscripts, slices, displays, calls. -/
namespace Pf
open PySem PySem.Spec PyProof.Rows L2
theorem ixOf_lt {f : Str} : ∀ {l : List Str} {k : Nat}, ixOf f l = some k → l[k]? = some f
  | [], _, h => by cases h
  | x :: l, k, h => by
    unfold ixOf at h
    by_cases z : x = f
    · rw [if_pos z] at h
      cases h
      rw [z]
      rfl
    · rw [if_neg z] at h
      cases e : ixOf f l with
      | none => rw [e] at h; cases h
      | some j =>
        rw [e] at h
        cases h
        exact ixOf_lt (l := l) e
theorem lookup_at {f : Str} : ∀ {fs : List (Str × V)} {k : Nat} {v : V}, (fs.map (·.1)).Nodup → (fs.map (·.1))[k]? = some f → (fs.map (·.2))[k]? = some v → fs.lookup f = some v
  | [], _, _, _, h, _ => by simp at h
  | (x, y) :: fs, 0, v, n, h, h2 => by
    simp at h h2
    subst h h2
    rw [List.lookup_cons]
    simp
  | (x, y) :: fs, k + 1, v, n, h, h2 => by
    have n1 : x ∉ fs.map (·.1) := (List.nodup_cons.mp n).1
    have n2 : (fs.map (·.1)).Nodup := (List.nodup_cons.mp n).2
    have h' : (fs.map (·.1))[k]? = some f := by simpa using h
    have hx : (f == x) = false := beq_eq_false_iff_ne.mpr fun z => n1 (by rw [← z]; exact List.mem_of_getElem? h')
    rw [List.lookup_cons, hx]
    exact lookup_at n2 h' (by simpa using h2)
theorem fld_at {T : Tab} {G : Hp} {fl : List Str} {fs : List (Str × V)} {l : List D} {f : Str} {k : Nat} {d : D} (n : fl.Nodup) (h : fs.map (·.1) = fl.take l.length) (r : RepL T G l (fs.map (·.2))) (hk : ixOf f fl = some k) (hd : l[k]? = some d) : ∃ v, fs.lookup f = some v ∧ Rep T G d v := by
  obtain ⟨v, h1, h2⟩ := r.get hd
  have hl : k < l.length := by
    obtain ⟨z, _⟩ := List.getElem?_eq_some_iff.mp hd
    exact z
  refine ⟨v, lookup_at (by rw [h]; exact n.sublist (List.take_sublist _ _)) (k := k) ?_ h1, h2⟩
  rw [h, List.getElem?_take_of_lt hl]
  exact ixOf_lt hk
theorem lookup_none {f : Str} : ∀ {fs : List (Str × V)}, f ∉ fs.map (·.1) → fs.lookup f = none
  | [], _ => rfl
  | (x, y) :: fs, h => by
    have hx : (f == x) = false := beq_eq_false_iff_ne.mpr fun z => h (by rw [z]; exact List.mem_cons_self)
    rw [List.lookup_cons, hx]
    exact lookup_none fun z => h (List.mem_cons_of_mem _ z)
section
variable {X : Cx} {T : Tab} {B : Base} {XE : XK} {Γ : Ga} {CX : CXT} {k : Nat} {ctx : Ctx} {e a b c o : Expr} {es : List Expr} {pos : PySem.Pos} {ir ia ib ic : E} {irs : List E}
theorem pt_ifExp {tA tB' tC : TT} (hc : PT X c tA) (ha : PT X a tB') (hb : PT X b tC) : PT X (.IfExp c a b pos) (fun σ H Q => tA σ H fun k H1 => if k = true then tB' σ H1 Q else tC σ H1 Q) := by
  refine ⟨fun pins s σ H Q I h => ?_⟩
  have he : PySem.isTrue (.IfExp c a b pos) X.env (eval (.IfExp c a b pos) X.env) = (do
    if ← PySem.isTrue c X.env (eval c X.env) then PySem.isTrue a X.env (eval a X.env) else PySem.isTrue b X.env (eval b X.env)) := by
    conv => lhs; unfold PySem.isTrue
  rw [he]
  refine wpAny_bind (thn (hc.run pins s σ H _ I h) fun k s1 ⟨H1, I1, q1⟩ => ?_)
  cases k with
  | true =>
    rw [if_pos rfl] at q1
    exact ha.run pins s1 σ H1 _ I1 q1
  | false =>
    rw [if_neg Bool.false_ne_true] at q1
    exact hb.run pins s1 σ H1 _ I1 q1
theorem ok_ife (hc : Ok X T B XE Γ c ic) (ha : Ok X T B XE Γ a ia) (hb : Ok X T B XE Γ b ib) : Ok X T B XE Γ (.IfExp c a b pos) (.ife ic ia ib) := by
  refine ⟨wkE (pe_ifExp hc.pt ha.pe hb.pe) fun σ H Q q => ?_, wkT (pt_ifExp hc.pt ha.pt hb.pt) fun σ H Q q => ?_, fun i z => (nomatch z), fun _ => rfl⟩
  · obtain ⟨G, ρ, S, p⟩ := q
    simp only [ev] at p
    refine ⟨G, ρ, S, p.bnd.mono (fun r ρ1 q v H1 G1 e1 S1 r1 => ?_) fun _ _ _ q => q⟩
    have r1 : r.2 = .bl v := r1
    rw [r1] at q
    cases v with
    | true =>
      dsimp only
      rw [if_pos rfl]
      exact ⟨G1, ρ1, S1, q.mono (fun _ _ q v H2 G2 e2 S2 r2 => q v H2 G2 (e1.trans e2) S2 r2) fun _ _ _ q => q.mono e1⟩
    | false =>
      dsimp only
      rw [if_neg Bool.false_ne_true]
      exact ⟨G1, ρ1, S1, q.mono (fun _ _ q v H2 G2 e2 S2 r2 => q v H2 G2 (e1.trans e2) S2 r2) fun _ _ _ q => q.mono e1⟩
  · obtain ⟨G, ρ, S, p⟩ := q
    simp only [ev] at p
    refine ⟨G, ρ, S, p.bnd.mono (fun r ρ1 q v H1 G1 e1 S1 r1 => ?_) fun _ _ _ q => q⟩
    have r1 : r.2 = .bl v := r1
    rw [r1] at q
    cases v with
    | true =>
      dsimp only
      rw [if_pos rfl]
      exact ⟨G1, ρ1, S1, q.mono (fun _ _ q v H2 G2 e2 S2 r2 => q v H2 G2 (e1.trans e2) S2 r2) fun _ _ _ q => q.mono e1⟩
    | false =>
      dsimp only
      rw [if_neg Bool.false_ne_true]
      exact ⟨G1, ρ1, S1, q.mono (fun _ _ q v H2 G2 e2 S2 r2 => q v H2 G2 (e1.trans e2) S2 r2) fun _ _ _ q => q.mono e1⟩
def baseOk : Expr → Bool
  | .Call (.Name _ _) [] [] _ => false
  | _ => true
theorem att_ok {o : Expr} {m : Str} {env : Env} (h : baseOk o = true) : attributeBase o m env (eval o env) = eval o env := by
  unfold attributeBase
  split
  · cases h
  · rfl
theorem ok_fld (g : Gd T Γ CX k X ctx XE) {f : Str} (hb : baseOk o = true) (ho : Ok X T B XE Γ o ia) : Ok X T B XE Γ (.Attribute o f pos) (.ap (.fld f) [ia]) := by
  refine Ok.plain g.hK (wkE (pe_fld ho.opd (att_ok hb)) fun σ H Q q => ?_) rfl (fun _ => rfl) fun _ => rfl
  refine ap1_imp (r := fun x H Q => ∃ a C dx fs v, x = .ref a ∧ H a = some (.ins C dx fs) ∧ Cls X.K C ∧ NoAttr X.K C f ∧ fs.lookup f = some v ∧ Q v H) (fun H G dx dz x Q e hb hz q => ?_) σ H Q q
  rw [g.fl] at hz
  have hz : fldD T.flds f dx = some dz := hz
  cases dx with
  | ins c l =>
    obtain ⟨p, dx, fs, rfl, h1, h2, h3⟩ := hb.ins e
    simp only [fldD] at hz
    cases e1 : ixOf f (T.flds c) with
    | none => rw [e1] at hz; cases hz
    | some j =>
      rw [e1] at hz
      obtain ⟨v, h4, h5⟩ := fld_at (g.fnd c).1 h2 h3 e1 (show l[j]? = some dz from hz)
      have hm : f ∈ T.flds c := List.mem_of_getElem? (ixOf_lt e1)
      exact ⟨p, _, dx, fs, v, rfl, h1, g.cls c (fun z => by rw [z] at hm; cases hm), g.noat c f hm, h4, q.here rfl e h5⟩
  | _ => cases hz
def ixOk : Expr → Bool
  | .Slice .. => false
  | _ => true
theorem plainIx {b : Expr} (h : ixOk b = true) : PlainIx b := fun o i => by
  cases b <;> first | rfl | cases h
theorem ok_idx (g : Gd T Γ CX k X ctx XE) (hb' : ixOk b = true) (ha : Ok X T B XE Γ a ia) (hb : Ok X T B XE Γ b ib) : Ok X T B XE Γ (.Subscript a b pos) (.ap .idx [ia, ib]) :=
  Ok.plain g.hK (pe_ap2 (o := .idx) (fun _ => rfl) (pe_ix (rd_idx g.hK (Nat.lt_of_le_of_lt (Nat.add_le_add_left (by decide) _) g.un)) ha.opd hb.opd (plainIx hb'))) rfl (fun _ => rfl) fun _ => rfl
/-- a tuple of values -/
theorem pairedStar : ∀ {es : List Expr} {irs : List E}, Paired (fun e ir => Ok X T B XE Γ e ir) es irs → Paired (fun e ir => PE X e (RdE T B XE (fun ρ => ev Γ ir false ρ)) ∧ ∀ es, starEach (e :: es) X.env = (false, eval e X.env) :: starEach es X.env) es irs
  | _, _, .nil => .nil
  | _, _, .cons h t => .cons ⟨h.pe, h.st⟩ (pairedStar t)
theorem pairedOpd : ∀ {es : List Expr} {irs : List E}, Paired (fun e ir => Ok X T B XE Γ e ir) es irs → Paired (fun e ir => PE X e (RdA T B XE (fun ρ => evA Γ ir ρ)) ∧ ∀ es, starEach (e :: es) X.env = (false, eval e X.env) :: starEach es X.env) es irs
  | _, _, .nil => .nil
  | _, _, .cons h t => .cons ⟨h.opd, h.st⟩ (pairedOpd t)
theorem evv_length : ∀ {irs : List E} {ρ ρ' : Rho} {ds : List D}, evv Γ irs ρ = .ok ds ρ' → ds.length = irs.length
  | [], ρ, ρ', ds, h => by
    unfold evv at h
    cases h
    rfl
  | i :: irs, ρ, ρ', ds, h => by
    unfold evv at h
    cases e1 : ev Γ i false ρ with
    | ok r ρ1 =>
      rw [e1] at h
      simp only [Out.bnd] at h
      cases e2 : evv Γ irs ρ1 with
      | ok l ρ2 =>
        rw [e2] at h
        cases h
        rw [List.length_cons, List.length_cons, evv_length e2]
      | exc _ _ _ => rw [e2] at h; cases h
      | bad => rw [e2] at h; cases h
    | exc _ _ _ => rw [e1] at h; cases h
    | bad => rw [e1] at h; cases h
theorem Pst.len {P : List D → Rho → Prop} {Ex : Nat → List D → Rho → Prop} {ρ : Rho} (h : Pst (evv Γ irs ρ) P Ex) : Pst (evv Γ irs ρ) (fun ds ρ => ds.length = irs.length ∧ P ds ρ) Ex := by
  cases e : evv Γ irs ρ with
  | ok ds ρ' =>
    rw [e] at h
    exact ⟨evv_length e, h⟩
  | exc c l ρ' => rw [e] at h; exact h
  | bad => rw [e] at h; exact h
theorem ok_tup (g : Gd T Γ CX k X ctx XE) {x1 : Nat} (h : Paired (fun e ir => Ok X T B XE Γ e ir) es irs) (hn : irs.length ≤ 1000) : Ok X T B XE Γ (.Tuple es x1 pos) (.tup irs) := by
  refine Ok.plain g.hK (wkE (pe_tup (pa_vs (pairedStar h))) fun σ H Q q => ?_) rfl (fun _ => rfl) fun _ => rfl
  obtain ⟨G, ρ, S, p⟩ := q
  simp only [ev, tr] at p
  refine ⟨G, ρ, S, (Pst.len p.bnd).mono (fun ds ρ1 q vs H1 G1 e1 S1 r1 => ?_) fun _ _ _ q => q⟩
  obtain ⟨hl, q⟩ := q
  have r1 : RepL T G1 ds vs := r1
  refine ⟨szl_le (decide_eq_true (by rw [r1.length, hl]; omega)), fun p n => ?_⟩
  refine q _ _ (upd G1 p (.tup vs)) (e1.trans (Ex.new (S1.ex.none n))) (S1.step (ex_new S1.ex) (stp_new S1.ex n)) ?_
  show Rep T _ (.tup ds) _
  unfold Rep
  exact ⟨p, vs, rfl, SqT.of upd_same, r1.mono (Ex.new (S1.ex.none n))⟩
theorem ok_lst (g : Gd T Γ CX k X ctx XE) (h : Paired (fun e ir => Ok X T B XE Γ e ir) es irs) (hn : irs.length ≤ 1000) : Ok X T B XE Γ (.List es pos) (.lst irs) := by
  refine Ok.plain g.hK (wkE (pe_lst (pa_vs (pairedStar h))) fun σ H Q q => ?_) rfl (fun _ => rfl) fun _ => rfl
  obtain ⟨G, ρ, S, p⟩ := q
  simp only [ev, tr] at p
  refine ⟨G, ρ, S, (Pst.len p.bnd).mono (fun ds ρ1 q vs H1 G1 e1 S1 r1 => ?_) fun _ _ _ q => q⟩
  obtain ⟨hl, q⟩ := q
  have r1 : RepL T G1 ds vs := r1
  refine ⟨szl_le (decide_eq_true (by rw [r1.length, hl]; omega)), fun p n => ?_⟩
  exact q _ _ G1 e1 (S1.step (ex_cell S1.ex n) (stp_cell S1.ex n)) ⟨p, rfl, ⟨S1.ex.none n, vs, upd_same, r1⟩, S1.baseNone n, S1.nosl n⟩
/-- a op1 b op2 c -/
theorem ok_chn (g : Gd T Γ CX k X ctx XE) (o q : Cop) (ha : Ok X T B XE Γ a ia) (hb : Ok X T B XE Γ b ib) (hc : Ok X T B XE Γ c ic) (hm : lastMarks [astC o, astC q] [b, c] = false) : Ok X T B XE Γ (.Compare a [astC o, astC q] [b, c] pos) (.chn o q ia ib ic) := by
  have h1 := rc_cop g.hK g.un o
  have h2 := rc_cop g.hK g.un q
  have imp : ∀ σ H Q, RdE T B XE (fun ρ => ev Γ (.chn o q ia ib ic) false ρ) σ H Q → tChain (RC2 T (cop o)) (RC2 T (cop q)) (RdV T B XE (fun ρ => ev Γ ia false ρ)) (RdV T B XE (fun ρ => ev Γ ib false ρ)) (RdV T B XE (fun ρ => ev Γ ic false ρ)) σ H Q := fun σ H Q qq => by
    obtain ⟨G, ρ, S, p⟩ := qq
    simp only [ev, tr] at p
    refine ⟨G, ρ, S, p.bnd.mono (fun x ρ1 p1 v H1 G1 e1 S1 r1 => ⟨G1, ρ1, S1, ?_⟩) fun _ _ _ q => q⟩
    refine p1.bnd.mono (fun y ρ2 p2 w H2 G2 e2 S2 r2 => ?_) fun _ _ _ q => q.mono e1
    have r1' : Rep T G2 x.2 v := Rep.mono e2 r1
    have r2' : Rep T G2 y.2 w := r2
    cases hk : cop o x.2 y.2 with
    | none => rw [hk] at p2; exact p2.elim
    | some kk =>
      rw [hk] at p2
      refine ⟨G2, x.2, y.2, kk, S2.ex, .inl r1', .inl r2', hk, kk, rfl, ?_⟩
      cases kk with
      | false =>
        rw [if_neg Bool.false_ne_true]
        exact p2 _ H2 G2 (e1.trans e2) S2 (rep_bl (T := T) (G := G2))
      | true =>
        rw [if_pos rfl]
        refine ⟨G2, ρ2, S2, Pst.mono (Pst.bnd p2) (fun z ρ3 p3 u H3 G3 e3 S3 r3 => ?_) fun _ _ _ q => q.mono (e1.trans e2)⟩
        obtain ⟨k3, hk3, p4⟩ := p3.bnd.lift
        exact ⟨G3, y.2, z.2, k3, S3.ex, .inl (r2'.mono e3), .inl r3, hk3, p4 _ H3 G3 ((e1.trans e2).trans e3) S3 (rep_bl (T := T) (G := G3))⟩
  have hbl : ∀ ρ x ρ', ev Γ (.chn o q ia ib ic) false ρ = .ok x ρ' → ∃ k, x = (false, .bl k) := fun ρ x ρ' h => by
    simp only [ev, tr] at h
    cases h1 : ev Γ ia false ρ with
    | ok x1 ρ1 =>
      rw [h1] at h
      simp only [Out.bnd] at h
      cases h2 : ev Γ ib false ρ1 with
      | ok y1 ρ2 =>
        rw [h2] at h
        simp only [Out.bnd] at h
        cases hk : cop o x1.2 y1.2 with
        | none => rw [hk] at h; cases h
        | some kk =>
          rw [hk] at h
          cases kk with
          | false => cases h; exact ⟨_, rfl⟩
          | true =>
            simp only at h
            cases h3 : ev Γ ic false ρ2 with
            | ok z1 ρ3 =>
              rw [h3] at h
              simp only [Out.bnd] at h
              cases hk3 : cop q y1.2 z1.2 with
              | none => rw [hk3] at h; cases h
              | some k3 => rw [hk3] at h; cases h; exact ⟨_, rfl⟩
            | exc _ _ _ => rw [h3] at h; cases h
            | bad => rw [h3] at h; cases h
      | exc _ _ _ => rw [h2] at h; cases h
      | bad => rw [h2] at h; cases h
    | exc _ _ _ => rw [h1] at h; cases h
    | bad => rw [h1] at h; cases h
  exact ⟨wkE (pe_chain h1 h2 (Go.rep ha.pe) (Go.rep hb.pe) (Go.rep hc.pe) hm) imp, wkT (pt_chain h1 h2 (Go.rep ha.pe) (Go.rep hb.pe) (Go.rep hc.pe) hm) fun σ H Q q => imp σ H _ (test_bl rfl hbl q), fun i z => (nomatch z), fun _ => rfl⟩
end
end Pf
end
section
set_option Elab.async false
set_option linter.all false
set_option maxRecDepth 100000
set_option maxHeartbeats 1000000
/-! Rf11: slices, get, built-in calls, isinstance, calls of defs and methods. -/
namespace Pf
open PySem PySem.Spec PyProof.Rows L2
section
variable {X : Cx} {T : Tab} {B : Base} {XE : XK} {Γ : Ga} {CX : CXT} {k : Nat} {ctx : Ctx} {e a b c o : Expr} {es : List Expr} {pos p p2 : PySem.Pos} {ir ia ib ic lo hi : E} {irs : List E}
/-- a slice's part -/
inductive PartOk (X : Cx) (T : Tab) (B : Base) (XE : XK) (Γ : Ga) : Option Expr → E → Prop where
  | none : PartOk X T B XE Γ none (.cst .non)
  | some {e : Expr} {ir : E} (h : Ok X T B XE Γ e ir) (n : ir.noPart = false) : PartOk X T B XE Γ (some e) ir
theorem po_of {e : Option Expr} (h : PartOk X T B XE Γ e ir) : PO X e (Go T B XE (fun a b _ _ _ _ => a = b) (fun ρ => partO ir (ev Γ ir false ρ) ρ)) := by
  cases h with
  | none => exact ⟨fun pins s σ H Q I q => po_none.run pins s σ H Q I (by
      obtain ⟨G, ρ, S, p⟩ := q
      exact p none H G (Ex.refl G) S rfl)⟩
  | some h n => exact ⟨fun pins s σ H Q I q => (po_some (Go.rep h.pe)).run pins s σ H Q I (by
      obtain ⟨G, ρ, S, p⟩ := q
      simp only [partO, n] at p
      refine ⟨G, ρ, S, p.bnd.mono (fun r ρ1 q v H1 G1 e1 S1 r1 => ?_) fun _ _ _ q => q⟩
      have r1 : Rep T G1 r.2 v := r1
      split at q
      · rename_i i hr
        rw [hr] at r1
        exact ⟨i, r1.int, q _ H1 G1 e1 S1 rfl⟩
      · exact q.elim)⟩
theorem ok_slc (g : Gd T Γ CX k X ctx XE) {l u : Option Expr} (ha : Ok X T B XE Γ a ia) (hl : PartOk X T B XE Γ l lo) (hu : PartOk X T B XE Γ u hi) : Ok X T B XE Γ (.Subscript a (.Slice l u none p2) pos) (.slc ia lo hi) := by
  refine Ok.plain g.hK (wkE (pe_slice (rd_slc g.hK) ha.opd (po_of hl) (po_of hu)) fun σ H Q q => ?_) rfl (fun _ => rfl) fun _ => rfl
  obtain ⟨G, ρ, S, p⟩ := q
  simp only [ev, tr] at p
  refine ⟨G, ρ, S, Pst.mono (Pst.bnd p) (fun x ρ1 q v H1 G1 e1 S1 r1 => ⟨G1, ρ1, S1, ?_⟩) fun _ _ _ q => q⟩
  refine q.bnd.mono (fun l ρ2 q2 l' H2 G2 e2 S2 r2 => ⟨G2, ρ2, S2, ?_⟩) fun _ _ _ q => q.mono e1
  have r2 : l = l' := r2
  subst r2
  refine q2.bnd.mono (fun u ρ3 q3 u' H3 G3 e3 S3 r3 => ?_) fun _ _ _ q => q.mono (e1.trans e2)
  have r3 : u = u' := r3
  subst r3
  cases hz : x.get ρ3 with
  | none => rw [hz] at q3; exact q3.elim
  | some s =>
    rw [hz] at q3
    obtain ⟨d, hd, q4⟩ := q3.bnd.lift
    have r1' : AgR T x v σ H3 G3 ρ3 := AgR.mono (e2.trans e3) r1
    exact ⟨G3, s.d, d, S3.ex, r1'.br S3 hz, hd, S3.hand (fr := true) fun b' H' G' e' => q4 b' H' G' (((e1.trans e2).trans e3).trans e')⟩
/-- a built-in function by name -/
theorem ok_biB (g : Gd T Γ CX k X ctx XE) {x : Str} {id : String} {bo : Bi} (h : Paired (fun e ir => Ok X T B XE Γ e ir) (e :: es) irs) (hs : (e :: es).all noStar = true) (hc : CallR X (.builtin id) (RDn T (Op.bi bo).new (bi bo))) (hg : Gl X x) (hm : x ∈ blts) (hv : bootBuiltins x = some (.builtin id)) (hn : x ≠ "__name__") (hdb : (x == ("__debug__" : Str)) = false) :
    Ok X T B XE Γ (.Call (.Name x p) (e :: es) [] pos) (.ap (.bi bo) irs) := by
  have hs' : noStar e = true ∧ es.all noStar = true := by rw [List.all_cons, Bool.and_eq_true] at hs; exact hs
  refine Ok.plain g.hK ?_ rfl (fun _ => rfl) fun _ => rfl
  exact pe_apn (t := RdAs T B XE fun ρ => evs Γ irs ρ) (pe_callB hc hg (g.blt x hm) hv (pa_as (pairedOpd h)) hn hdb (star_one hs'.1 es) (star_all hs'.2).2) fun H G ds dz vs Q e hb hz q => ⟨G, ds, dz, e, hb, hz, q⟩
theorem ok_biT (g : Gd T Γ CX k X ctx XE) {x : Str} {id : String} {bo : Bi} (h : Paired (fun e ir => Ok X T B XE Γ e ir) (e :: es) irs) (hs : (e :: es).all noStar = true) (hc : CallR X (.type id) (RDn T (Op.bi bo).new (bi bo))) (hg : Gl X x) (hm : x ∈ blts) (hv : bootBuiltins x = some (.type id)) (hn : x ≠ "__name__") (hdb : (x == ("__debug__" : Str)) = false) :
    Ok X T B XE Γ (.Call (.Name x p) (e :: es) [] pos) (.ap (.bi bo) irs) := by
  have hs' : noStar e = true ∧ es.all noStar = true := by rw [List.all_cons, Bool.and_eq_true] at hs; exact hs
  refine Ok.plain g.hK ?_ rfl (fun _ => rfl) fun _ => rfl
  exact pe_apn (t := RdAs T B XE fun ρ => evs Γ irs ρ) (pe_callTy hc hg (g.blt x hm) hv (pa_as (pairedOpd h)) hn hdb (star_one hs'.1 es) (star_all hs'.2).2) fun H G ds dz vs Q e hb hz q => ⟨G, ds, dz, e, hb, hz, q⟩

/-! ### isinstance -/
def Ty.name : Ty → Option String
  | .int => some "int"
  | .bool => some "bool"
  | .str => some "str"
  | .list => some "list"
  | .tuple => some "tuple"
  | .dict => some "dict"
  | .own _ => none
/-- a class's value -/
def clsV (T : Tab) (t : Ty) : V × Value := match t with
  | .own c => (.ref (T.cls c), .ref (T.cls c))
  | t => (.ty (t.name.getD ""), .type (t.name.getD ""))
theorem clsV_ok (t : Ty) : ClsV (clsV T t).1 (clsV T t).2 := by
  cases t <;> first | exact .ty _ | exact .own _
def tyD (T : Tab) : D → Value
  | .non => .type "NoneType"
  | .bl _ => .type "bool"
  | .int _ => .type "int"
  | .str _ => .type "str"
  | .tup _ => .type "tuple"
  | .lst _ => .type "list"
  | .dic _ _ => .type "dict"
  | .ins c _ => .ref (T.cls c)
  | .scr _ => .type "list"
theorem tyD_ok (g : Gd T Γ CX k X ctx XE) {H G : Hp} {d : D} {v : V} (e : Ex G H) (h : BR T H G d v) (hi : ∀ c l, d = .ins c l → T.flds c ≠ []) : TyX X.K H v (tyD T d) := by
  cases d with
  | non => cases h.non; exact .base .non
  | bl _ => cases h.bl; exact .base (.bl _)
  | int _ => cases h.int; exact .base (.int _)
  | str _ => cases h.str; exact .base (.str _)
  | tup _ =>
    obtain ⟨p, vs, rfl, h1, _⟩ := h.tup
    have h1 := e.sqT h1
    rw [← g.hK] at h1
    rcases h1 with (h1 | ⟨o, h1⟩) | h1
    · exact .base (.tup h1)
    · exact .fTuple h1
    · obtain ⟨_, o, _, h1, h2, _⟩ := h1
      exact .kTuple h1 h2
  | lst _ =>
    obtain ⟨p, vs, rfl, h1, _⟩ := h.lst e
    exact .base (.lst h1)
  | dic _ _ =>
    obtain ⟨p, kvs, rfl, h1, _⟩ := h.dic e
    rcases h1 with h1 | ⟨o, h1⟩
    · exact .base (.dK h1)
    · exact .fDict h1
  | ins c l =>
    obtain ⟨p, dx, fs, rfl, h1, _⟩ := h.ins e
    have hf := hi c l rfl
    have I := g.isi c hf
    exact .base (.ins h1 (g.cls c hf) I.ha I.hn I.ht I.hm)
  | scr _ =>
    obtain ⟨p, rfl, h1⟩ := h.scr e
    rw [← g.hK] at h1
    rcases h1 with (h1 | ⟨o, h1⟩) | h1
    · exact .base (.lst h1)
    · exact .base (.frz h1)
    · obtain ⟨o, _, _, h1, h2, _⟩ := h1
      exact .kList h1 h2
theorem kit_is (g : Gd T Γ CX k X ctx XE) (t : Ty) (ht : ∀ c, t = .own c → T.flds c ≠ []) (d : D) (hi : ∀ c l, d = .ins c l → T.flds c ≠ []) (hs : ∀ l, d ≠ .scr l) : PySem.W.kitOne X.K (tyD T d) (clsV T t).2 = some (d.isa t) := by
  have own : ∀ c, t = .own c → ∀ n ∈ tyNames, PySem.W.kitOne X.K (.type n) (.ref (T.cls c)) = some false := fun c hc n hn => (g.isi c (ht c hc)).fr n hn
  have ins : ∀ c, T.flds c ≠ [] → ∀ n ∈ tyNames, PySem.W.kitOne X.K (.ref (T.cls c)) (.type n) = some false := fun c hc n hn => (g.isi c hc).to n hn
  cases d with
  | non => cases t <;> first | exact kit_ty (r := true) (by decide +kernel) | exact kit_ty (r := false) (by decide +kernel) | exact own _ rfl _ (by decide)
  | bl _ => cases t <;> first | exact kit_ty (r := true) (by decide +kernel) | exact kit_ty (r := false) (by decide +kernel) | exact own _ rfl _ (by decide)
  | int _ => cases t <;> first | exact kit_ty (r := true) (by decide +kernel) | exact kit_ty (r := false) (by decide +kernel) | exact own _ rfl _ (by decide)
  | str _ => cases t <;> first | exact kit_ty (r := true) (by decide +kernel) | exact kit_ty (r := false) (by decide +kernel) | exact own _ rfl _ (by decide)
  | tup _ => cases t <;> first | exact kit_ty (r := true) (by decide +kernel) | exact kit_ty (r := false) (by decide +kernel) | exact own _ rfl _ (by decide)
  | lst _ => cases t <;> first | exact kit_ty (r := true) (by decide +kernel) | exact kit_ty (r := false) (by decide +kernel) | exact own _ rfl _ (by decide)
  | dic _ _ => cases t <;> first | exact kit_ty (r := true) (by decide +kernel) | exact kit_ty (r := false) (by decide +kernel) | exact own _ rfl _ (by decide)
  | ins c l =>
    have hc := hi c l rfl
    cases t with
    | own j => exact g.isd c j hc (ht j rfl)
    | _ => exact ins c hc _ (by decide)
  | scr l => exact absurd rfl (hs l)
theorem isiD_some {ts : List Ty} {d dz : D} (h : isiD ts d = some dz) : (∀ l, d ≠ .scr l) ∧ (∀ c l, d = .ins c l → l ≠ []) ∧ dz = .bl (ts.any d.isa) := by
  cases d with
  | scr l => cases h
  | ins c l =>
    cases l with
    | nil => cases h
    | cons x l =>
      refine ⟨fun l z => (nomatch z), fun c l z => (by cases z; exact fun z => nomatch z), ?_⟩
      cases h
      rfl
  | _ => cases h; exact ⟨fun l z => (nomatch z), fun c l z => (nomatch z), rfl⟩
theorem ins_flds {H G : Hp} {c : Nat} {l : List D} {v : V} (e : Ex G H) (h : BR T H G (.ins c l) v) (hl : l ≠ []) : T.flds c ≠ [] := fun z => by
  obtain ⟨p, dx, fs, rfl, h1, h2, h3⟩ := h.ins e
  rw [z] at h2
  have : fs = [] := by
    cases fs with
    | nil => rfl
    | cons a b => simp at h2
  subst this
  have := h3.length
  cases l with
  | nil => exact hl rfl
  | cons a b => simp at this
theorem ok_isi (g : Gd T Γ CX k X ctx XE) {t : Ty} {C : Expr} (ha : Ok X T B XE Γ a ia) (hs : noStar a = true) (hC : PE X C (tC (clsV T t).1)) (hC' : noStar C = true) (ht : ∀ c, t = .own c → T.flds c ≠ []) (hg : Gl X "isinstance") :
    Ok X T B XE Γ (.Call (.Name "isinstance" p) [a, C] [] pos) (.ap (.isi [t]) [ia]) := by
  have hall : [C].all noStar = true := by simp [hC']
  refine Ok.plain g.hK (wkE (pe_callB call_isi hg (g.blt _ (by decide)) PyProof.Rows.boot_isinstance (pa_cons ha.opd (pa_cons hC pa_nil (star_one hC' [])) (star_one hs [C])) (by decide) (by decide) (star_one hs [C]) (star_all hall).2) fun σ H Q q => ?_) rfl (fun _ => rfl) fun _ => rfl
  refine ap1_imp (r := fun x H Q => rIsi X.K [x, (clsV T t).1] H Q) (fun H G dx dz x Q e hb hz q => ?_) σ H Q q
  obtain ⟨h1, h2, rfl⟩ := isiD_some (show isiD [t] dx = some dz from hz)
  have hi : ∀ c l, dx = .ins c l → T.flds c ≠ [] := fun c l z => by
    subst z
    exact ins_flds e hb (h2 c l rfl)
  refine ⟨x, _, _, _, dx.isa t, rfl, clsV_ok t, tyD_ok g e hb hi, kit_is g t ht dx hi h1, ?_⟩
  have : [t].any dx.isa = dx.isa t := by simp
  rw [this] at q
  exact q.here rfl e rep_bl
theorem kit_any (g : Gd T Γ CX k X ctx XE) (d : D) (hi : ∀ c l, d = .ins c l → T.flds c ≠ []) (hs : ∀ l, d ≠ .scr l) : ∀ (ts : List Ty), (∀ t ∈ ts, ∀ c, t = .own c → T.flds c ≠ []) → PySem.W.kitAny X.K (tyD T d) (ts.map fun t => (clsV T t).2) = some (ts.any d.isa)
  | [], _ => kitAny_nil
  | t :: ts, h => by
    rw [List.map_cons, List.any_cons]
    have h1 := kit_is g t (h t List.mem_cons_self) d hi hs
    have h2 := kit_any g d hi hs ts fun t' ht' => h t' (List.mem_cons_of_mem _ ht')
    refine kitAny_cons h1 (fun hb => ?_) fun hb => ?_
    · rw [hb, Bool.false_or]
      exact h2
    · rw [hb]
      rfl
theorem pa_cls : ∀ {es : List Expr} {ts : List Ty}, Paired (fun e t => PE X e (tC (clsV T t).1) ∧ noStar e = true) es ts → PA X es (fun _ H Q => Q (ts.map fun t => (clsV T t).1) H)
  | _, _, .nil => wkA pa_nil fun _ _ _ q => q
  | _, _, .cons h t => wkA (pa_cons h.1 (pa_cls t) (star_one h.2 _)) fun _ _ _ q => q
theorem paired_cls : ∀ ts : List Ty, Paired ClsV (ts.map fun t => (clsV T t).1) (ts.map fun t => (clsV T t).2)
  | [] => .nil
  | t :: ts => .cons (clsV_ok t) (paired_cls ts)
theorem ok_isiT (g : Gd T Γ CX k X ctx XE) {ts : List Ty} {x1 : Nat} (ha : Ok X T B XE Γ a ia) (hs : noStar a = true) (hC : Paired (fun e t => PE X e (tC (clsV T t).1) ∧ noStar e = true) es ts) (hl : ts.length ≤ 100) (ht : ∀ t ∈ ts, ∀ c, t = .own c → T.flds c ≠ []) (hg : Gl X "isinstance") :
    Ok X T B XE Γ (.Call (.Name "isinstance" p) [a, .Tuple es x1 p2] [] pos) (.ap (.isi ts) [ia]) := by
  have hall : [Expr.Tuple es x1 p2].all noStar = true := rfl
  refine Ok.plain g.hK (wkE (pe_callB call_isiT hg (g.blt _ (by decide)) PyProof.Rows.boot_isinstance (pa_cons ha.opd (pa_cons (pe_tup (pa_cls hC)) pa_nil (star_one rfl [])) (star_one hs [_])) (by decide) (by decide) (star_one hs [_]) (star_all hall).2) fun σ H Q q => ?_) rfl (fun _ => rfl) fun _ => rfl
  refine ap1_imp (r := fun x H Q => (ts.map fun t => (clsV T t).1).length ≤ sizeLine ∧ ∀ p, H p = none → rIsiT X.K [x, .ref p] (upd H p (.tup (ts.map fun t => (clsV T t).1))) Q) (fun H G dx dz x Q e hb hz q => ?_) σ H Q q
  obtain ⟨h1, h2, rfl⟩ := isiD_some (show isiD ts dx = some dz from hz)
  have hi : ∀ c l, dx = .ins c l → T.flds c ≠ [] := fun c l z => by
    subst z
    exact ins_flds e hb (h2 c l rfl)
  refine ⟨szl_le (decide_eq_true (by rw [List.length_map]; omega)), fun p n => ?_⟩
  have e' : Ex G (upd H p (.tup (ts.map fun t => (clsV T t).1))) := ex_cell e n
  have hb' : BR T (upd H p (.tup (ts.map fun t => (clsV T t).1))) G dx x := by
    rcases hb with hb | ⟨a, rfl, c⟩
    · exact .inl hb
    · exact .inr ⟨a, rfl, c.move (Ex.refl G) (fun o ho => by rw [upd_ne (ne_of_none ho n)]; exact ho) c.free⟩
  exact ⟨x, p, _, _, _, _, rfl, upd_same, paired_cls ts, tyD_ok g e' hb' hi, kit_any g dx hi h1 ts ht, q _ _ G e' (stp_cell e n) (rep_bl (T := T) (G := G))⟩
/-- d.get(k, x) -/
theorem ok_get (g : Gd T Γ CX k X ctx XE) {apos cpos : PySem.Pos} (ha : Ok X T B XE Γ o ia) (hb : Ok X T B XE Γ a ib) (hc : Ok X T B XE Γ b ic) (h0 : baseOk o = true) (h1 : noStar a = true) (h2 : noStar b = true) (hl : (apos.endLine == cpos.line) = true) :
    Ok X T B XE Γ (.Call (.Attribute o "get" apos) [a, b] [] cpos) (.get ia ib ic) := by
  have hst : starEach [a, b] X.env = [(false, eval a X.env), (false, eval b X.env)] := by
    rw [star_one h1, star_one h2]
    rfl
  have m : M2 X o "get" apos a b cpos := by
    refine ⟨att_ok h0, ?_, hl, ?_⟩
    · rw [hst]
      rfl
    · rw [hst]
      rfl
  refine Ok.plain g.hK (wkE (pe_dget2 (Nat.lt_of_le_of_lt (Nat.add_le_add_left (by decide) _) g.un) ha.opd (Go.rep hb.pe) (Go.rep hc.pe) m) fun σ H Q q => ?_) rfl (fun _ => rfl) fun _ => rfl
  obtain ⟨G, ρ, S, p⟩ := q
  simp only [ev, tr] at p
  refine ⟨G, ρ, S, Pst.mono (Pst.bnd p) (fun x ρ1 q v H1 G1 e1 S1 r1 => ?_) fun _ _ _ q => q⟩
  have key : ∃ s ks ds, x.get ρ1 = some s ∧ s.d = .dic ks ds ∧ Pst (getO x (ev Γ ib false ρ1) (fun ρ => ev Γ ic false ρ)) (okE T B (rR T B) σ G Q) (exE T B XE σ G) := by
    cases hz : x.get ρ1 with
    | none => rw [hz] at q; exact q.elim
    | some s =>
      rw [hz] at q
      cases s with
      | val b d =>
        cases d with
        | dic ks ds => exact ⟨_, ks, ds, rfl, rfl, q⟩
        | _ => exact q.elim
      | cel b d =>
        cases d with
        | dic ks ds => exact ⟨_, ks, ds, rfl, rfl, q⟩
        | _ => exact q.elim
  obtain ⟨s, ks, ds, hz, hd, q⟩ := key
  have hbr := r1.br S1 hz
  rw [hd] at hbr
  obtain ⟨pa, kvs, rfl, hr, _⟩ := hbr.dic S1.ex
  refine ⟨pa, rfl, .inl ⟨kvs, hr⟩, G1, ρ1, S1, ?_⟩
  refine Pst.mono (Pst.bnd q) (fun y ρ2 q2 w H2 G2 e2 S2 r2 => ⟨G2, ρ2, S2, ?_⟩) fun _ _ _ q => q.mono e1
  refine Pst.mono (Pst.bnd q2) (fun z ρ3 q3 u H3 G3 e3 S3 r3 => ?_) fun _ _ _ q => q.mono (e1.trans e2)
  cases hz3 : x.get ρ3 with
  | none => rw [hz3] at q3; exact q3.elim
  | some s3 =>
    rw [hz3] at q3
    obtain ⟨d, hd3, q4⟩ := q3.bnd.lift
    have hbr3 := (AgR.mono (H' := H3) (ρ' := ρ3) (e2.trans e3) r1).br S3 hz3
    cases hs3 : s3.d with
    | dic ks3 ds3 =>
      rw [hs3] at hbr3 hd3
      obtain ⟨pa', kvs3, ep, hr3, hk3, hl3⟩ := hbr3.dic S3.ex
      cases ep
      simp only [getD'] at hd3
      cases hk : y.2.key with
      | none => rw [hk] at hd3; cases hd3
      | some j =>
        rw [hk] at hd3
        cases hd3
        subst hk3
        have r2' : Rep T G3 y.2 w := Rep.mono e3 r2
        have hw : w = kV j := by
          cases hy : y.2 with
          | int i => rw [hy] at hk r2'; cases hk; exact r2'.int
          | str z => rw [hy] at hk r2'; cases hk; exact r2'.str
          | _ => rw [hy] at hk; cases hk
        refine ⟨valV kvs3 j, .inl ⟨kvs3, j, hr3, hw, rfl⟩, ?_⟩
        have r3' : Rep T G3 z.2 u := r3
        cases hlk : look j (kvs3.map (·.1)) ds3 with
        | none =>
          have : valV kvs3 j = none := look_none hl3 hlk
          dsimp only at q4
          rw [hlk] at q4
          rw [this]
          exact q4 u H3 G3 ((e1.trans e2).trans e3) S3 r3'
        | some dv =>
          obtain ⟨wv, h4, h5⟩ := look_some hl3 hlk
          dsimp only at q4
          rw [hlk] at q4
          rw [h4]
          exact q4 wv H3 G3 ((e1.trans e2).trans e3) S3 h5
    | _ => rw [hs3] at hd3; cases hd3

/-! ### calls -/
/-- how a call's result comes back -/
theorem outF_ok {σ : L2.St} {H : Hp} {ρ : Rho} {G : Hp} {Q : VK} {as : List Ag} {vs : List V} {ss : List Sl} {F : List Sl → FOut} (S : Sta T B σ H G ρ) (r : AgL T as vs σ H G ρ) (f : fill ρ as = some ss) (n : (slots as).Nodup)
    (h : Pst (outF ρ as (F ss)) (okE T B (rR T B) σ G Q) (exE T B XE σ G)) : spF T F vs H Q XE := by
  refine ⟨G, ss, S.ex, S.args r f n, ?_⟩
  cases e : F ss with
  | ok w outs =>
    rw [e] at h
    simp only [outF] at h
    cases eb : back ρ as outs with
    | none => rw [eb] at h; exact h.elim
    | some ρ' =>
      rw [eb] at h
      obtain ⟨a, ha, h⟩ := h.lift
      cases ha
      intro v H' G' e' t rn o
      have S' := S.after r f n eb e' t o
      refine h v H' G' t.g S' ?_
      obtain ⟨fr, d⟩ := w
      cases fr with
      | false => exact rn
      | true =>
        obtain ⟨p, rfl, h1, h2⟩ := rn
        refine ⟨p, rfl, h2, S.baseNone h1, fun i b d' q1 q2 => ?_⟩
        have hold : ∃ b' d'', ρ[i]? = some (some (Sl.cel b' d'')) := by
          obtain ⟨k1, k2, k3⟩ := back_ok eb n
          by_cases z : ∃ (k : Nat) (b : Bool) (d : D), as[k]? = some (Ag.slot i) ∧ slot ρ i = some (Sl.cel b d)
          · obtain ⟨k, b1, d1, e1, e2⟩ := z
            exact ⟨b1, d1, slot_some e2⟩
          · have q1 : ρ'[i]? = some (some (Sl.cel b d')) := q1
            rw [k2 i z] at q1
            exact ⟨b, d', q1⟩
        obtain ⟨b', d'', q3⟩ := hold
        exact S.nosl h1 i b' d'' q3 q2
  | exc c l outs =>
    rw [e] at h
    simp only [outF] at h
    cases eb : back ρ as outs with
    | none => rw [eb] at h; exact h.elim
    | some ρ' =>
      rw [eb] at h
      exact fun x od H' G' e' t xr o => h x od H' G' t.g (S.after r f n eb e' t o) xr
  | bad =>
    rw [e] at h
    exact h.elim
theorem outF_bad {σ : L2.St} {ρ : Rho} {G : Hp} {Q : VK} {as : List Ag} (h : Pst (outF ρ as .bad) (okE T B (rR T B) σ G Q) (exE T B XE σ G)) : False := h
/-- a call's reading splits at the arguments -/
theorem call_imp {f : Str} (σ : L2.St) (H : Hp) (Q : VK) (q : RdE T B XE (fun ρ => ev Γ (.call f irs) false ρ) σ H Q) : Γ.has f = true ∧
    RdAs T B XE (fun ρ => evs Γ irs ρ) σ H fun vs H1 => ∃ G ρ as ss, Sta T B σ H1 G ρ ∧ AgL T as vs σ H1 G ρ ∧ fill ρ as = some ss ∧ (slots as).Nodup ∧ Pst (outF ρ as (Γ.cal f ss)) (okE T B (rR T B) σ G Q) (exE T B XE σ G) := by
  obtain ⟨G, ρ, S, p⟩ := q
  simp only [ev, tr] at p
  cases hh : Γ.has f with
  | false =>
    rw [hh] at p
    exact (show False from p).elim
  | true =>
  rw [hh] at p
  refine ⟨rfl, G, ρ, S, Pst.mono (Pst.bnd (show Pst (Out.bnd _ _) _ _ from p)) (fun as ρ1 q vs H1 G1 e1 S1 r1 => ?_) fun _ _ _ q => q⟩
  cases hf : fill ρ1 as with
  | none => rw [hf] at q; exact q.elim
  | some ss =>
    rw [hf] at q
    by_cases n : (slots as).Nodup
    · simp only [if_pos n] at q
      refine ⟨G1, ρ1, as, ss, S1, r1, hf, n, q.bnd.mono (fun r ρ2 q v H2 G2 e2 S2 r2 => ?_) fun _ _ _ q => q.mono e1⟩
      obtain ⟨fr, d⟩ := r
      cases fr with
      | false => exact q v H2 G2 (e1.trans e2) S2 r2
      | true =>
        cases hz : Γ.frz f with
        | false =>
          have q : okE T B (rR T B) σ G Q (true && !Γ.frz f, d) ρ2 := q
          rw [hz] at q
          exact q v H2 G2 (e1.trans e2) S2 r2
        | true =>
          have q : okE T B (rR T B) σ G Q (true && !Γ.frz f, d) ρ2 := q
          rw [hz] at q
          obtain ⟨G3, e3, S3, r3⟩ := S2.frzR r2
          exact q v H2 G3 ((e1.trans e2).trans e3) S3 r3
    · simp only [if_neg n] at q
      exact q.elim
theorem mkF_ok {c : Nat} {F : List Sl → FOut} {ss : List Sl} {r : Res} {outs : List (Option Sl)} (h : mkF c F ss = .ok r outs) : ∃ fr d, F (.cel true (.ins c []) :: ss) = .ok (fr, .non) (some (.cel true d) :: outs) ∧ r = (true, d) := by
  unfold mkF at h
  split at h
  · rename_i hF
    cases h
    exact ⟨_, _, hF, rfl⟩
  · cases h
  · cases h
theorem mkF_exc {c : Nat} {F : List Sl → FOut} {ss : List Sl} {e : Nat} {l : List D} {outs : List (Option Sl)} (h : mkF c F ss = .exc e l outs) : ∃ o, F (.cel true (.ins c []) :: ss) = .exc e l (o :: outs) := by
  unfold mkF at h
  split at h
  · cases h
  · rename_i hF
    cases h
    exact ⟨_, hF⟩
  · cases h
/-- a new instance's promise -/
theorem spF_make {c : Nat} {F : List Sl → FOut} {vs : List V} {H : Hp} {Q : VK} {E : XK} (h : spF T (mkF c F) vs H Q E) (x dx : Addr) (hx : H x = none) (hdx : H dx = none) (hne : dx ≠ x) :
    spF T F (.ref x :: vs) (upd (upd H dx (.own x)) x (.ins (T.cls c) dx [])) (fun v H2 => v = .non ∧ Q (.ref x) H2) E := by
  obtain ⟨G, ss, e, A, m⟩ := h
  have hx' : (upd H dx (.own x)) x = none := by rw [upd_ne (Ne.symm hne)]; exact hx
  have e1 : Ex G (upd H dx (.own x)) := ex_cell e hdx
  have e2 : Ex G (upd (upd H dx (.own x)) x (.ins (T.cls c) dx [])) := ex_cell e1 hx'
  have t2 : Stp0 H G (upd (upd H dx (.own x)) x (.ins (T.cls c) dx [])) G := (stp_cell (o := .own x) e hdx).trans (stp_cell e1 hx')
  have cx : Cell T (upd (upd H dx (.own x)) x (.ins (T.cls c) dx [])) G x (.ins c []) := ⟨e.none hx, dx, [], upd_same, by simp, RepL.nil⟩
  have A2 : ArgsR T (upd (upd H dx (.own x)) x (.ins (T.cls c) dx [])) G (.cel true (.ins c []) :: ss) (.ref x :: vs) := by
    refine ⟨by rw [List.length_cons, List.length_cons, A.ln], fun i b d q => ?_, fun i b d q => ?_, fun i j b b' d d' p q q' r r' => ?_⟩
    · cases i with
      | zero => simp at q
      | succ i => simpa using A.vl i b d (by simpa using q)
    · cases i with
      | zero =>
        simp at q
        obtain ⟨rfl, rfl⟩ := q
        exact ⟨rfl, x, rfl, cx⟩
      | succ i =>
        obtain ⟨h1, p, h2, h3⟩ := A.cl i b d (by simpa using q)
        exact ⟨h1, p, by simpa using h2, h3.move t2.g (fun o ho => t2.k p o ho fun z => z) (t2.n p h3.free h3.there fun z => z)⟩
    · have old : ∀ (i : Nat) (b : Bool) (d : D), ss[i]? = some (Sl.cel b d) → vs[i]? = some (V.ref p) → p ≠ x := fun i b d q r z => by
        obtain ⟨_, p', h2, h3⟩ := A.cl i b d q
        rw [r] at h2
        cases h2
        exact h3.there (by rw [z]; exact hx)
      cases i with
      | zero =>
        cases j with
        | zero => rfl
        | succ j =>
          simp at r
          exact absurd r.symm (old j b' d' (by simpa using q') (by simpa using r'))
      | succ i =>
        cases j with
        | zero =>
          simp at r'
          exact absurd r'.symm (old i b d (by simpa using q) (by simpa using r))
        | succ j => exact congrArg (· + 1) (A.dj i j b b' d d' p (by simpa using q) (by simpa using q') (by simpa using r) (by simpa using r'))
  have tt : ∀ {H' G' : Hp}, Stp (argC (.cel true (.ins c []) :: ss) (.ref x :: vs)) (upd (upd H dx (.own x)) x (.ins (T.cls c) dx [])) G H' G' → Stp (argC ss vs) H G H' G' := fun {H' G'} t => (t2.imp (fun _ z => z.elim)).then t fun y ⟨i, b, d, q, r⟩ => by
    cases i with
    | zero =>
      simp at r
      subst r
      exact .inr hx
    | succ i => exact .inl ⟨i, b, d, by simpa using q, by simpa using r⟩
  have oo : ∀ {H' G' : Hp} {o : Option Sl} {outs : List (Option Sl)}, OutsR T H' G' (.cel true (.ins c []) :: ss) (.ref x :: vs) (o :: outs) → OutsR T H' G' ss vs outs := fun {H' G' o outs} h i b d q => by
    obtain ⟨v, h1, h2⟩ := h (i + 1) b d (by simpa using q)
    exact ⟨v, by simpa using h1, by simpa using h2⟩
  refine ⟨G, _, e2, A2, ?_⟩
  cases hM : mkF c F ss with
  | bad => rw [hM] at m; exact m.elim
  | ok r outs =>
    rw [hM] at m
    obtain ⟨fr, d, hF, rfl⟩ := mkF_ok hM
    rw [hF]
    intro v H' G' e' t rn o
    refine ⟨?_, ?_⟩
    · cases fr with
      | false => exact Rep.non (show Rep T G' .non v from rn)
      | true =>
        obtain ⟨_, _, _, z⟩ := rn
        exact z.elim
    · obtain ⟨v', h1, h2⟩ := o 0 true _ rfl
      simp at h1
      subst h1
      obtain ⟨p, h3, h4⟩ := h2
      cases h3
      exact m _ H' G' e' (tt t) ⟨x, rfl, hx, h4⟩ (oo o)
  | exc cc l outs =>
    rw [hM] at m
    obtain ⟨o', hF⟩ := mkF_exc hM
    rw [hF]
    intro y od H' G' e' t xr o
    exact m y od H' G' e' (tt t) xr (oo o)
/-- a call of a name of the module -/
theorem pe_callAny {u : Addr} {x : Str} {R : List V → Hp → VK → Prop} (hg : Gl X x) (hm : X.mg x = some (.ref u)) (hk : PySem.W.keepIn X.K (.ref u) = true) (ha : Paired (fun e ir => Ok X T B XE Γ e ir) es irs) (hs : es.all noStar = true) (hdb : (x == ("__debug__" : Str)) = false)
    (hc : ∀ pins s σ H vs us Q, Inv X pins σ H s → Vals vs us → R vs H Q → wpAny (model X.prog X.w) X.A (call (.ref u) us) (EP X pins σ Q) X.xe s) : PE X (.Call (.Name x p) es [] pos) (tCB R (RdAs T B XE (fun ρ => evs Γ irs ρ))) := by
  cases ha with
  | nil =>
    refine ⟨fun pins s σ H Q I h => ?_⟩
    refine wpAny_Call_Name_kw (ld_glob I hg hm ?_ hdb)
    refine PySem.W.callWith_K0 I.kIn hk ?_
    obtain ⟨G, ρ, S, q⟩ := h
    unfold evs at q
    exact hc pins _ σ H [] [] Q I .nil (q [] H G (Ex.refl G) S rfl)
  | @cons e ir es irs h t =>
    have hs' : noStar e = true ∧ es.all noStar = true := by rw [List.all_cons, Bool.and_eq_true] at hs; exact hs
    refine ⟨fun pins s σ H Q I hq => ?_⟩
    refine wpAny_Call_Name_kw (ld_glob I hg hm ?_ hdb)
    refine PySem.W.callWith_K (h₀ := X.base) I.ok.mod.kin hk (thn ((pa_as (pairedOpd (.cons h t))).run pos pins s σ H _ I hq) fun us s1 ⟨vs, H1, I1, r, q⟩ => ⟨I1.kIn, ?_⟩) (star_one hs'.1 es) (star_all hs'.2).2
    exact hc pins s1 σ H1 vs us Q I1 r q
theorem ok_call (g : Gd T Γ CX k X ctx XE) {f : Str} (hg : Gl X f) (h : Paired (fun e ir => Ok X T B XE Γ e ir) es irs) (hs : es.all noStar = true) (hdb : (f == ("__debug__" : Str)) = false) : Ok X T B XE Γ (.Call (.Name f p) es [] pos) (.call f irs) := by
  refine Ok.plain g.hK ?_ rfl (fun _ => rfl) fun _ => rfl
  by_cases hh : Γ.has f = true
  · have key : ∀ (σ : L2.St) (H : Hp) (Q : VK), RdE T B XE (fun ρ => ev Γ (.call f irs) false ρ) σ H Q → tCB (fun vs H Q => spF T (Γ.cal f) vs H Q XE) (RdAs T B XE fun ρ => evs Γ irs ρ) σ H Q := fun σ H Q q => by
      obtain ⟨_, G, ρ, S, p⟩ := call_imp σ H Q q
      refine ⟨G, ρ, S, p.mono (fun as ρ1 q vs H1 G1 e1 S1 r1 => ?_) fun _ _ _ q => q⟩
      obtain ⟨G2, ρ2, as2, ss, S2, r2, f2, n2, q2⟩ := q vs H1 G1 e1 S1 r1
      exact outF_ok S2 r2 f2 n2 q2
    rcases g.cal f hh with ⟨a, fd, ps, hm, hk, hB, F⟩ | ⟨c, a, fd, ps, F, hm, hM, hB, hF, hcal⟩
    · refine wkE (pe_callAny (R := fun vs H Q => spF T (Γ.cal f) vs H Q XE) hg hm hk h hs hdb fun pins s σ H vs us Q I r q => ?_) key
      exact run_fn (dvs := []) (ds := []) F (g.room.mono (Nat.le_succ k)) hB .nil g.ps I r (by rw [List.append_nil]; exact q)
    · refine wkE (pe_callAny (R := fun vs H Q => spF T (Γ.cal f) vs H Q XE) hg hm hM.kp h hs hdb fun pins s σ H vs us Q I r q => ?_) key
      rw [show Γ.cal f = mkF c F from funext hcal] at q
      exact run_make (dvs := []) (ds := []) hM hF g.room hB .nil g.ps I r fun x dx h1 h2 h3 => by rw [List.append_nil]; exact spF_make q x dx h1 h2 h3
  · refine ⟨fun pins s σ H Q I q => ?_⟩
    exact absurd (call_imp σ H Q q).1 hh

/-! ### f-strings -/
theorem len_le {n : Nat} (h : szl n = true) : n ≤ sizeLine := szl_le h
inductive PartF (X : Cx) (T : Tab) (B : Base) (XE : XK) (Γ : Ga) : Expr → E → Prop where
  | cst {e : Expr} {s : Str} (h : PE X e (tC (.str s))) : PartF X T B XE Γ e (.cst (.str s))
  | fmt {e : Expr} {ir : E} {pos : PySem.Pos} (h : Ok X T B XE Γ e ir) : PartF X T B XE Γ (.FormattedValue e (-1) none pos) ir
/-- a part: what it tells, by the rest -/
def tPart (T : Tab) (B : Base) (XE : XK) (Γ : Ga) (ir : E) : TE := fun σ H Q => RdV T B XE (fun ρ => ev Γ ir false ρ) σ H fun x H1 => (∃ y : Str, x = .str y ∧ y.length ≤ sizeLine ∧ Q (.str y) H1) ∨ ∃ i : Int, x = .int i ∧ i.natAbs.log2 < 1920 ∧ Q (.str (toString i)) H1
theorem part_pe {e : Expr} {ir : E} (h : PartF X T B XE Γ e ir) : PE X e (tPart T B XE Γ ir) := by
  cases h with
  | cst h =>
    refine wkE h fun σ H Q q => ?_
    obtain ⟨G, ρ, S, p⟩ := q
    simp only [ev, tr] at p
    have p : ∀ b H' G', Ex G G' → Sta T B σ H' G' ρ → Rep T G' _ b → _ := p
    rcases p (.str _) H G (Ex.refl G) S rep_str with ⟨y, hy, _, q⟩ | ⟨i, hi, _⟩
    · cases hy
      exact q
    · cases hi
  | fmt h => exact wkE (pe_fmt (Go.rep h.pe)) fun σ H Q q => q
theorem pj_of : ∀ {es : List Expr} {irs : List E}, Paired (fun e ir => PartF X T B XE Γ e ir) es irs → PJ X es (irs.map (tPart T B XE Γ))
  | _, _, .nil => .nil
  | _, _, .cons h t => .cons (part_pe h) (pj_of t)
theorem fst_imp {σ : L2.St} {Q : VK} : ∀ {irs : List E} {acc : Str} {H G : Hp} {ρ : Rho}, Sta T B σ H G ρ → Pst (evF Γ irs acc ρ) (fun y ρ1 => ∀ H' G', Ex G G' → Sta T B σ H' G' ρ1 → Q (.str y) H') (exE T B XE σ G) →
    tJs (irs.map (tPart T B XE Γ)) acc σ H (fun out H1 => Q (.str out) H1)
  | [], acc, H, G, ρ, S, p => by
    unfold evF at p
    exact p H G (Ex.refl G) S
  | ir :: irs, acc, H, G, ρ, S, p => by
    unfold evF at p
    refine ⟨G, ρ, S, p.bnd.mono (fun r ρ1 q v H1 G1 e1 S1 r1 => ?_) fun _ _ _ q => q⟩
    have r1 : Rep T G1 r.2 v := r1
    have key : ∀ y : Str, fmtD r.2 = some y → (acc ++ y).length ≤ sizeLine ∧ tJs (irs.map (tPart T B XE Γ)) (acc ++ y) σ H1 (fun out H1 => Q (.str out) H1) := fun y hy => by
      unfold fmtO at q
      simp only [hy] at q
      by_cases z : szl (acc ++ y).length = true
      · simp only [if_pos z] at q
        exact ⟨szl_le z, fst_imp S1 (q.mono (fun y ρ2 k H' G' e' => k H' G' (e1.trans e')) fun _ _ _ k => k.mono e1)⟩
      · simp only [if_neg z] at q
        exact q.elim
    have bad : fmtD r.2 = none → False := fun hy => by
      unfold fmtO at q
      simp only [hy] at q
      exact q.elim
    cases hd : r.2 with
    | str y =>
      rw [hd] at r1 key bad
      by_cases z : szl y.length = true
      · obtain ⟨k1, k2⟩ := key y (if_pos z)
        exact .inl ⟨y, r1.str, szl_le z, y, rfl, k1, k2⟩
      · exact (bad (if_neg z)).elim
    | int i =>
      rw [hd] at r1 key bad
      by_cases z : i.natAbs.log2 < 1920
      · obtain ⟨k1, k2⟩ := key (toString i) (if_pos z)
        exact .inr ⟨i, r1.int, z, _, rfl, k1, k2⟩
      · exact (bad (if_neg z)).elim
    | _ => exact (bad (by rw [hd]; rfl)).elim
theorem ok_fst (g : Gd T Γ CX k X ctx XE) {v1 v2 : Expr} {rest : List Expr} {irs : List E} (h : Paired (fun e ir => PartF X T B XE Γ e ir) (v1 :: v2 :: rest) irs) : Ok X T B XE Γ (.JoinedStr (v1 :: v2 :: rest) pos) (.fst irs) := by
  refine Ok.plain g.hK (wkE (pe_joined (pj_of h)) fun σ H Q q => ?_) rfl (fun _ => rfl) fun _ => rfl
  obtain ⟨G, ρ, S, p⟩ := q
  simp only [ev, tr] at p
  exact fst_imp S (p.bnd.mono (fun y ρ1 q H' G' e' S' => q (.str y) H' G' e' S' (rep_str (T := T) (G := G'))) fun _ _ _ q => q)

/-! ### an own __eq__ -/
/-- a def's run from within -/
theorem own_run {n : Nat} {A : Around} {pins : List (Addr × Obj)} {σ : L2.St} {H : Hp} {s : Shared} {Q : VK} {us : List Value} {vs : List V} {fd : FuncData} {ps : List Str} {sp : Sp} {f : Addr} (F : FnOk X.prog X.w X.K X.mg X.base CX n f fd ps sp) (sb : Sub X n A) (hb : Binds X.K fd ps []) (hx : Passes CX X XE)
    (I : Inv X pins σ H s) (r : Vals vs us) (h : sp vs H Q XE) : wpAny (model X.prog X.w) A (call (.ref f) us) (EP X pins σ Q) X.xe s := by
  have e0 : Env0 X.prog X.w X.K X.mg X.base A X.stack s H := by
    have e := I.env0
    exact ⟨by rw [sb.fr]; exact e.frames, e.mod, e.bs, e.bsz, e.funs, e.frf, e.hok, e.bare⟩
  have hl : (us ++ []).length = ps.length := by rw [List.append_nil, ← r.length]; exact F.len _ _ _ _ h
  refine wpAny_call (codeAny_mono (F.run A X.stack s H ⟨us, []⟩ us vs Q XE sb.room e0 (by
    have := hb s us I.kIn hl
    rw [List.append_nil] at this
    exact this) r h) fun r s' hq => ?_)
  cases r with
  | error e => exact hx pins σ H s e s' I hq
  | ok fl =>
    cases fl with
    | ret u => exact I.after hq
    | next => exact False.elim hq
    | brk => exact False.elim hq
    | cont => exact False.elim hq
section
variable {prog : Program} {w : World} {A : Around} {E : Value → Shared → Prop} {s : Shared} {K : PySem.W.Frag} {x C f : Addr} {ox : Obj} {od : Option Obj} {u : Value}
theorem objNe_own (X : K.In s.heap) (I : PySem.W.InstAt s.heap x ox C od) (hs : PySem.W.findIn K (.ref C) "__eq__" = some (some (.ref f))) (hf : PySem.W.isFn K (.ref f) = true) (hu : A.units < cLine) {Q : Fin → Shared → Prop}
    (hcall : wpAny (model prog w) A (call (.ref f) [.ref x, u]) (fun v s' => ∃ b, v = .bool b ∧ Q (.done (.ret (.bool (!b)))) s') E s) : wpAny (model prog w) A (Builtin.«object.__ne__» ⟨[.ref x, u], []⟩) Q E s := by
  unfold Builtin.«object.__ne__»
  repeat (first
    | with_reducible refine wpAny_cRoomFor hu ?_
    | (refine wpAny_bind (m := callSpecialIfBound? (.ref x) (Str.ofString "__eq__") [u])
        (PySem.W.ifBound_K X I hs hf (wpAny_mono hcall (fun r s' hr => by
          obtain ⟨b, rfl, hq⟩ := hr
          repeat (first | exact hq | exact wpAny_pure hq | exact wpAny_truthy_bool hq | (refine wpAny_bind (m := truthy (.bool _)) (wpAny_truthy_bool ?_)) | wp_step)) fun _ _ e => e)))
    | wp_step)
theorem ifBound_ne {M : Model} {args : List Value} {Q : Option Value → Shared → Prop} (X : K.In s.heap) (I : PySem.W.InstAt s.heap x ox C od) (hs : PySem.W.findIn K (.ref C) "__ne__" = some (some (.builtin "object.__ne__")))
    (h : wpAny M A (call (.builtin "object.__ne__") (.ref x :: args)) (fun v => Q (some v)) E s) : wpAny M A (callSpecialIfBound? (.ref x) "__ne__" args) Q E s := by
  simp only [callSpecialIfBound?, bindSpecialIfBound?]
  refine wpAny_holding (wpAny_bind (wpAny_bind (wpAny_bind (I.type.here ((PySem.W.looks_findIn X hs).here ?_)))))
  refine wpAny_bind (wpAny_askSetting (wpAny_ite ?_))
  have fin : wpAny M A (call (.builtin "object.__ne__") ([.ref x] ++ args) >>= fun v => pure (some v)) Q E s := wpAny_bind (wpAny_mono h (fun v s' h' => wpAny_pure h') fun _ _ h' => h')
  split
  · exact wpAny_bind (wpAny_of_eq (F.cmp_object.ne.bind _) (wpAny_pure (by exact fin)))
  · exact wpAny_tryCatch (wpAny_bind (wpAny_of_eq (F.cmp_object.ne.bind _) (wpAny_pure (by exact fin))))
theorem ne_own (X : K.In s.heap) (I : PySem.W.InstAt s.heap x ox C od) (hb : PySem.W.Looks (model prog w) s.heap (typeOf u) (.ref C)) (hm : PySem.W.mroIn K C (.type "object") = some true)
    (hn : PySem.W.findIn K (.ref C) "__ne__" = some (some (.builtin "object.__ne__"))) (hs : PySem.W.findIn K (.ref C) "__eq__" = some (some (.ref f))) (hf : PySem.W.isFn K (.ref f) = true) (hu : A.units + 1 < cLine) {Q : Value → Shared → Prop}
    (hcall : wpAny (model prog w) A.in1 (call (.ref f) [.ref x, u]) (fun v s' => ∃ b, v = .bool b ∧ Q (.bool (!b)) s') E s) : wpAny (model prog w) A (richCompare .NotEq (.ref x) u) Q E s := by
  have one : wpAny (model prog w) A (tryCompare (.ref x) "__ne__" u) (fun r s' => ∃ v, r = some v ∧ Q v s') E s := by
    unfold tryCompare
    refine wpAny_bind (ifBound_ne X I hn (wpAny_call (codeAny_call_builtin F.cmp_object.ne.plain F.cmpEntry_ne (PySem.W.check_slot F.cmpKind_ne F.cmpSplit_ne (I.type.andThen (PySem.W.looks_mroIn X hm)) (F.cmpArgs_ne _ _)
      (objNe_own (A := A.in1) X I hs hf hu (wpAny_mono hcall (fun v s' hv => ?_) fun _ _ e => e))))))
    obtain ⟨b, rfl, hq⟩ := hv
    exact ⟨b, rfl, wpAny_pure ⟨_, rfl, hq⟩⟩
  unfold richCompare
  simp only [oneThing_ref]
  refine wpAny_holding (wpAny_bind (wpAny_cRoomFor (Nat.lt_of_succ_lt hu) ?_))
  refine wpAny_bind (I.type.here (wpAny_bind (hb.here ?_)))
  rw [show (Value.ref C != Value.ref C) = false from by simp]
  simp only [Bool.false_eq_true, if_false]
  refine wpAny_bind (wpAny_pure ?_)
  simp only [Bool.false_eq_true, if_false]
  refine wpAny_bind (wpAny_mono one (fun r s' z => ?_) fun _ _ e => e)
  obtain ⟨v, rfl, hq⟩ := z
  exact wpAny_pure hq
end
/-- == or != of two instances of a class with an own __eq__, or of what has none -/
def rOeq (T : Tab) (Γ : Ga) (XE : XK) (n : Bool) : R2 := fun x y H Q => RC2 T (cop (if n then .ne else .eq)) x y H Q ∨
  ∃ c a b dx dy fs gs, x = .ref a ∧ y = .ref b ∧ H a = some (.ins (T.cls c) dx fs) ∧ H b = some (.ins (T.cls c) dy gs) ∧ Γ.hasM c "__eq__" = true ∧ T.flds c ≠ [] ∧ spF T (Γ.met c "__eq__") [x, y] H (fun v H' => ∃ k, v = .bl k ∧ Q (.bl (k != n)) H') XE
theorem op_oeq (g : Gd T Γ CX k X ctx XE) (n : Bool) : OpR X (compareOp (if n then .NotEq else .Eq)) (rOeq T Γ XE n) := by
  intro pins s σ H x y v u Q I rx ry h
  rcases h with h | h
  · have h1 := rc_cop g.hK g.un (if n then .ne else .eq)
    have e : astC (if n then .ne else .eq) = (if n then .NotEq else .Eq) := by cases n <;> rfl
    rw [e] at h1
    exact h1 pins s σ H x y v u Q I rx ry h
  obtain ⟨c, a, b, dx, dy, fs, gs, rfl, rfl, ha, hb, hM, hfl, hsp⟩ := h
  cases rx
  cases ry
  obtain ⟨f, fd, ps, hC, hMe, hB, F⟩ := g.met c "__eq__" hM
  obtain ⟨mA, J, _⟩ := ins_get I.hok ha
  obtain ⟨mB, J', _⟩ := ins_get I.hok hb
  obtain ⟨od, J, _⟩ := J.look
  obtain ⟨od', J', _⟩ := J'.look
  have hr : Room (k + 1) X.A := g.room
  cases n with
  | false =>
    show wpAny _ _ (richCompare .Eq (.ref a) (.ref b)) _ _ _
    obtain ⟨m, hF⟩ := I.fr
    refine PySem.W.cmp_K (op := .Eq) (tb := .ref (T.cls c)) hr.units0 hF I.ok.mod.kin J J'.type (by simp [PySem.W.notFirst]) hMe.at_ hMe.fn ?_
    refine wpAny_mono (own_run F ⟨hr.mono (Nat.le_succ k), rfl⟩ hB g.ps I (us := [.ref a, .ref b]) (vs := [.ref a, .ref b]) (.cons rfl (.cons rfl .nil)) hsp) (fun v s' hv => ?_) fun _ _ e => e
    obtain ⟨z, H', I', rz, kk, ez, q⟩ := hv
    subst ez
    cases rz
    exact ⟨.bl kk, H', I', rfl, by simpa using q⟩
  | true =>
    show wpAny _ _ (richCompare .NotEq (.ref a) (.ref b)) _ _ _
    refine ne_own I.kIn J J'.type (g.isi c hfl).hm (g.isi c hfl).ne hMe.at_ hMe.fn (by have := g.un; omega) ?_
    refine wpAny_mono (own_run F ⟨hr.in1, rfl⟩ hB g.ps I (us := [.ref a, .ref b]) (vs := [.ref a, .ref b]) (.cons rfl (.cons rfl .nil)) hsp) (fun v s' hv => ?_) fun _ _ e => e
    obtain ⟨z, H', I', rz, kk, ez, q⟩ := hv
    subst ez
    cases rz
    exact ⟨kk, rfl, .bl (!kk), H', I', rfl, by simpa using q⟩
theorem oeq_bl {n : Bool} (ρ : Rho) (x : Res) (ρ' : Rho) (h : ev Γ (.oeq n [ia, ib]) false ρ = .ok x ρ') : ∃ k, x = (false, .bl k) := by
  simp only [ev, tr] at h
  cases h1 : evs Γ [ia, ib] ρ with
  | ok as ρ1 =>
    rw [h1] at h
    simp only [Out.bnd] at h
    split at h
    · split at h
      · split at h
        · split at h
          · split at h
            · cases h
              exact ⟨_, rfl⟩
            · cases h
          · cases h
          · cases h
        · cases h
      · cases h2 : lift (cop (if n then .ne else .eq) _ _) ρ1 with
        | ok k ρ2 =>
          rw [h2] at h
          cases h
          exact ⟨_, rfl⟩
        | exc c l ρ2 => rw [h2] at h; cases h
        | bad => rw [h2] at h; cases h
    · cases h
  | exc c l ρ1 => rw [h1] at h; cases h
  | bad => rw [h1] at h; cases h
theorem eqC_some {d e : D} {c : Nat} (h : eqC d e = some c) : ∃ l m, d = .ins c l ∧ e = .ins c m ∧ l ≠ [] := by
  unfold eqC at h
  split at h
  · split at h
    · rename_i z
      cases h
      subst z
      exact ⟨_, _, rfl, rfl, fun z => nomatch z⟩
    · cases h
  · cases h
theorem ok_oeq (g : Gd T Γ CX k X ctx XE) (n : Bool) (ha : Ok X T B XE Γ a ia) (hb : Ok X T B XE Γ b ib) (hm : behindInMarks (if n then .NotEq else .Eq) b = false) : Ok X T B XE Γ (.Compare a [if n then .NotEq else .Eq] [b] pos) (.oeq n [ia, ib]) := by
  have imp : ∀ σ H Q, RdE T B XE (fun ρ => ev Γ (.oeq n [ia, ib]) false ρ) σ H Q → tOp (rOeq T Γ XE n) (RdA T B XE (fun ρ => evA Γ ia ρ)) (RdA T B XE (fun ρ => evA Γ ib ρ)) σ H Q := fun σ H Q q => by
    obtain ⟨G0, ρ0, S0, p0⟩ := q
    simp only [ev, tr] at p0
    refine as2 (B := B) (XE := XE) ⟨G0, ρ0, S0, p0⟩ fun x y v w ρ2 H2 G2 S2 r2 p => ?_
    cases hf : fill ρ2 [x, y] with
    | none => simp only [hf] at p; exact p.elim
    | some ss =>
      have hl := fill_length hf
      rcases ss with _ | ⟨s, _ | ⟨u, _ | ⟨_, _⟩⟩⟩ <;> try (cases hl; done)
      simp only [hf] at p
      obtain ⟨s1, rs1, g1, g2, e1⟩ := fill_cons hf
      obtain ⟨u1, rs2, g3, g4, e2⟩ := fill_cons g2
      cases e2
      cases e1
      obtain ⟨v', vs', ev', r3, w', vs2, ew', r4, r5⟩ := r2
      cases ev'
      cases ew'
      have b1 := AgR.br S2 r3 g1
      have b2 := AgR.br S2 r4 g3
      cases hc : eqC s.d u.d with
      | none =>
        simp only [hc] at p
        obtain ⟨kk, hk, p2⟩ := p.bnd.lift
        exact .inl ⟨G2, s.d, u.d, kk, S2.ex, b1, b2, hk, p2 (.bl kk) H2 G2 (Ex.refl G2) S2 (rep_bl (T := T) (G := G2))⟩
      | some c =>
        simp only [hc] at p
        obtain ⟨l, m, hd1, hd2, hl0⟩ := eqC_some hc
        rw [hd1] at b1
        rw [hd2] at b2
        obtain ⟨pa, dx, fs, rfl, h1, _, _⟩ := b1.ins S2.ex
        obtain ⟨pb, dy, gs, rfl, h2, _, _⟩ := b2.ins S2.ex
        cases hM : (Γ.hasM c "__eq__" && decide ((slots [x, y]).Nodup)) with
        | false => simp only [hM] at p; exact p.elim
        | true =>
          simp only [hM] at p
          obtain ⟨hM1, hM2⟩ := Bool.and_eq_true_iff.mp hM
          have hn2 : (slots [x, y]).Nodup := of_decide_eq_true hM2
          refine .inr ⟨c, pa, pb, dx, dy, fs, gs, rfl, rfl, h1, h2, hM1, ins_flds S2.ex b1 hl0, outF_ok S2 (show AgL T [x, y] [.ref pa, .ref pb] σ H2 G2 ρ2 from ⟨_, _, rfl, r3, _, _, rfl, r4, r5⟩) hf hn2 (Pst.mono (Pst.bnd p) (fun r ρ3 q b H' G' e' S' rr => ?_) fun _ _ _ q => q)⟩
          obtain ⟨fr, d⟩ := r
          cases fr with
          | true => exact (show False from q).elim
          | false =>
            cases d with
            | bl kk => exact ⟨kk, Rep.bl (show Rep T G' (.bl kk) b from rr), q (.bl (kk != n)) H' G' e' S' (rep_bl (T := T) (G := G'))⟩
            | _ => exact (show False from q).elim
  exact ⟨wkE (pe_cmpR (pos := pos) (op_oeq g n) ha.opd hb.opd hm) imp, wkT (pt_cmpR (pos := pos) (op_oeq g n) ha.opd hb.opd hm) fun σ H Q q => imp σ H _ (test_bl rfl oeq_bl q), fun i z => (nomatch z), fun _ => rfl⟩


theorem strs_rep {G : Hp} : ∀ ys : List Str, RepL T G (ys.map D.str) (ys.map V.str)
  | [] => by unfold RepL; rfl
  | y :: ys => by
    rw [List.map_cons, List.map_cons]
    unfold RepL
    exact ⟨.str y, ys.map V.str, rfl, rep_str, strs_rep ys⟩
theorem strs_of : ∀ {G : Hp} {l : List D} {vs : List V} {ns : List Str}, RepL T G l vs → D.strs l = some ns → vs = ns.map V.str
  | G, [], vs, ns, h, e => by
    cases e
    unfold RepL at h
    rw [h]; rfl
  | G, d :: l, vs, ns, h, e => by
    cases d with
    | str i =>
      unfold D.strs at e
      unfold RepL at h
      obtain ⟨v, r, rfl, h1, h2⟩ := h
      cases z : D.strs l with
      | none => rw [z] at e; cases e
      | some ms =>
        rw [z] at e
        cases e
        rw [h1.str, strs_of h2 z]
        rfl
    | _ => unfold D.strs at e; cases e
/-! ### methods of texts -/
theorem rtx_split {m : Str} {z : Str} {H G : Hp} {ds : List D} {vs : List V} {d : D} {Q : VK} (e : Ex G H) (hb : BRL T H G ds vs) (hd : txD m z ds = some d) (q : Hand T H G true d Q) (hm : m = "split") :
    ∃ a b, V.str z = .str a ∧ vs = [.str b] ∧ (b.length == 0) = false ∧ a.length + 2 ≤ sizeLine ∧ rNewStrs (Txt.split a b) H Q := by
  subst hm
  unfold txD at hd
  split at hd
  · rename_i b
    obtain ⟨v, rfl, hx⟩ := BRL.one hb
    cases hx.str
    split at hd
    · rename_i h
      cases hd
      refine ⟨z, b, rfl, rfl, h.2.1, by have := h.2.2; show z.length + 2 ≤ 2 ^ 24; omega, fun p n => ?_⟩
      exact q.lst e (strs_rep _) n
    · cases hd
  · split at hd
    · rename_i h
      exact absurd h (by decide)
    · cases hd
  · cases hd
theorem rtx_join (hK : X.K = T.K) {m : Str} {z : Str} {H G : Hp} {ds : List D} {vs : List V} {d : D} {Q : VK} (e : Ex G H) (hb : BRL T H G ds vs) (hd : txD m z ds = some d) (q : Hand T H G true d Q) (hm : m = "join") :
    ∃ a p, ∃ ys : List Str, V.str z = .str a ∧ vs = [.ref p] ∧ (SqL X.K H p (ys.map V.str) ∨ SqT X.K H p (ys.map V.str)) ∧ (ys.map (·.length)).sum + ys.length * a.length ≤ 16777216 ∧ Q (.str (Txt.join a ys)) H := by
  subst hm
  unfold txD at hd
  split at hd
  · split at hd
    · rename_i h
      exact absurd h.1 (by decide)
    · cases hd
  · rename_i l
    obtain ⟨v, rfl, hx⟩ := BRL.one hb
    obtain ⟨a, vs, rfl, h1, h2⟩ := hx.lst e
    simp only [if_true] at hd
    cases hy : D.strs l with
    | none => rw [hy] at hd; cases hd
    | some ys =>
      rw [hy] at hd
      simp only at hd
      split at hd
      · rename_i h
        cases hd
        rw [strs_of h2 hy] at h1
        exact ⟨z, a, ys, rfl, rfl, .inl (SqL.of h1), Nat.le_trans h (by decide), q.here rfl e rep_str⟩
      · cases hd
  · cases hd
theorem meth_str (g : Gd T Γ CX k X ctx XE) {m : Str} {z : Str} {t : Tok} {pl : Sem Bool} {pins : List (Addr × Obj)} {σ : L2.St} {H1 G1 : Hp} {ρ1 : Rho} {s1 : Shared} {Q : VK} (h : Paired (fun e ir => Ok X T B XE Γ e ir) es irs) (hs : es.all noStar = true) (hm : m = "split" ∨ m = "join") (I1 : Inv X pins σ H1 s1) (S1 : Sta T B σ H1 G1 ρ1)
    (q : Pst ((evs Γ irs ρ1).bnd fun as ρ2 => match fillD ρ2 as with
        | some ds => (lift (txD m z ds) ρ2).bnd fun d ρ3 => .ok (d.obj, d) ρ3
        | none => .bad) (okE T B (rR T B) σ G1 Q) (exE T B XE σ G1)) :
    wpAny (model X.prog X.w) X.A (getMethod (.str z t) m pl) (fun fx s₂ => wpAny (model X.prog X.w) X.A (callWith pos fx.1 fx.2 (backTo pos (starEach es X.env)) (backToKw pos (keywordEach [] X.env))) (EP X pins σ Q) X.xe s₂) X.xe s1 := by
  have fin : RdAs T B XE (fun ρ => evs Γ irs ρ) σ H1 fun vs H2 => ∃ G2 ds d, Ex G2 H2 ∧ BRL T H2 G2 ds vs ∧ txD m z ds = some d ∧ Hand T H2 G2 true d Q := by
    refine ⟨G1, ρ1, S1, Pst.mono (Pst.bnd q) (fun as ρ2 q vs H2 G2 e2 S2 r2 => ?_) fun _ _ _ q => q⟩
    cases hf : fillD ρ2 as with
    | none => simp only [hf] at q; exact q.elim
    | some ds =>
      simp only [hf] at q
      obtain ⟨d, hd, p2⟩ := q.bnd.lift
      refine ⟨G2, ds, d, S2.ex, r2.brl S2 hf, hd, S2.hand (fr := true) ?_⟩
      exact fun b' H' G' e' => p2 b' H' G' (e2.trans e')
  cases h with
  | nil =>
    obtain ⟨G2, ρ2, S2, q2⟩ := fin
    unfold evs at q2
    obtain ⟨G3, ds, d, e3, hb, hd, _⟩ := q2 [] H1 G2 (Ex.refl G2) S2 rfl
    exfalso
    cases ds with
    | nil => unfold txD at hd; cases hd
    | cons d0 l =>
      obtain ⟨v, r, hz, _⟩ := hb
      cases hz
  | @cons e ir es irs h tt =>
    have hs' : noStar e = true ∧ es.all noStar = true := by rw [List.all_cons, Bool.and_eq_true] at hs; exact hs
    have go : ∀ id : String, Slot "str" m id → typeOf (.builtin id) = pure (.type "method_descriptor") → (∀ (s2 : Shared) (H2 : Hp) (vs : List V) (us : List Value), Inv X pins σ H2 s2 → Vals vs us → (∃ G2 ds d, Ex G2 H2 ∧ BRL T H2 G2 ds vs ∧ txD m z ds = some d ∧ Hand T H2 G2 true d Q) → wpAny (model X.prog X.w) X.A (call (.builtin id) (.str z t :: us)) (EP X pins σ Q) X.xe s2) →
        wpAny (model X.prog X.w) X.A (getMethod (.str z t) m pl) (fun fx s₂ => wpAny (model X.prog X.w) X.A (callWith pos fx.1 fx.2 (backTo pos (starEach (e :: es) X.env)) (backToKw pos (keywordEach [] X.env))) (EP X pins σ Q) X.xe s₂) X.xe s1 := fun id slot ty rule => by
      refine getMethod_builtin (typeIs_str _ _ _) F.plainAttrs_str slot ty (fun _ e => nomatch e) ?_
      have he := star_one (env := X.env) hs'.1 es
      have hrun : wpAny (model X.prog X.w) X.A (spliced (backTo pos (starEach (e :: es) X.env))) (fun us s2 => wpAny (model X.prog X.w) X.A (call (.builtin id) (.str z t :: us)) (EP X pins σ Q) X.xe s2) X.xe s1 :=
        wpAny_mono ((pa_as (pairedOpd (.cons h tt))).run pos pins s1 σ H1 _ I1 fin) (fun us s2 hv => by
          obtain ⟨vs, H2, I2, r, q2⟩ := hv
          exact rule s2 H2 vs us I2 r q2) fun _ _ e => e
      have hpl := (star_all (env := X.env) (pos := pos) hs).2
      show wpAny _ _ (callWith pos (.builtin id) [.str z t] (backTo pos (starEach (e :: es) X.env)) []) _ _ _
      rw [he] at hrun hpl ⊢
      exact Calls.callWith_builtin (first := [.str z t]) hpl (Calls.evalArgs_plain hrun)
    rcases hm with rfl | rfl
    · refine go "str.split" F.slot_str_split F.type_str_split fun s2 H2 vs us I2 r ⟨G2, ds, d, e2, hb, hd, hq⟩ => ?_
      exact mt_split pins s2 σ H2 (.str z) vs (.str z t) us Q I2 ⟨t, rfl⟩ r (rtx_split e2 hb hd hq rfl)
    · refine go "str.join" F.slot_str_join F.type_str_join fun s2 H2 vs us I2 r ⟨G2, ds, d, e2, hb, hd, hq⟩ => ?_
      exact mt_join pins s2 σ H2 (.str z) vs (.str z t) us Q I2 ⟨t, rfl⟩ r (rtx_join g.hK e2 hb hd hq rfl)

/-! ### list.index -/
theorem guard_some'' {α : Type} {c : Prop} [Decidable c] {a : Option α} {b : α} (h : (if c then a else none) = some b) : c ∧ a = some b := by
  by_cases z : c
  · rw [if_pos z] at h
    exact ⟨z, h⟩
  · rw [if_neg z] at h
    cases h
def fV : D → V
  | .int i => .int i
  | .str s => .str s
  | _ => .non
theorem flat_rep {G : Hp} {d : D} {v : V} (h : flatD d = true) (r : Rep T G d v) : v = fV d := by
  cases d with
  | int i => exact r.int
  | str s => exact r.str
  | _ => cases h
theorem flats_rep : ∀ {G : Hp} {l : List D} {vs : List V}, l.all flatD = true → RepL T G l vs → vs = l.map fV
  | G, [], vs, _, r => by unfold RepL at r; rw [r]; rfl
  | G, d :: l, vs, h, r => by
    rw [List.all_cons, Bool.and_eq_true] at h
    unfold RepL at r
    obtain ⟨v, vs, rfl, r1, r2⟩ := r
    rw [flat_rep h.1 r1, flats_rep h.2 r2]
    rfl
theorem fV_eq {x y : D} (hx : flatD x = true) (hy : flatD y = true) : eqV (fV y) (fV x) = y.eqv x := by
  cases x <;> cases y <;> first | (cases hx; done) | (cases hy; done) | (unfold D.eqv; rfl)
theorem fV_flat {x : D} (hx : flatD x = true) : flatV (fV x) = true := by
  cases x <;> first | (cases hx; done) | rfl
theorem findD_at {x : D} : ∀ {l : List D} {j : Nat}, findD x l = some j → (∃ y, l[j]? = some y ∧ y.eqv x = true) ∧ ∀ m y, m < j → l[m]? = some y → y.eqv x = false
  | [], j, h => by cases h
  | y :: l, j, h => by
    unfold findD at h
    by_cases z : y.eqv x = true
    · rw [if_pos z] at h
      cases h
      exact ⟨⟨y, rfl, z⟩, fun m _ hm => absurd hm (Nat.not_lt_zero m)⟩
    · rw [if_neg z] at h
      cases e : findD x l with
      | none => rw [e] at h; cases h
      | some k =>
        rw [e] at h
        cases h
        obtain ⟨⟨w, h1, h2⟩, h3⟩ := findD_at e
        refine ⟨⟨w, h1, h2⟩, fun m u hm hu => ?_⟩
        cases m with
        | zero =>
          cases hu
          exact Bool.eq_false_iff.mpr z
        | succ m => exact h3 m u (Nat.lt_of_succ_lt_succ hm) hu
theorem rix {z : List D} {pa : Addr} {H G : Hp} {ds : List D} {vs ys : List V} {d : D} {Q : VK} (e : Ex G H) (hb : BRL T H G ds vs) (hq : SqL X.K H pa ys) (hr : RepL T G z ys) (hd : ixD z ds = some d) (q : Hand T H G false d Q) : rIndex X.K (.ref pa) vs H Q := by
  unfold ixD at hd
  split at hd
  · rename_i x
    obtain ⟨v, rfl, hx⟩ := BRL.one hb
    obtain ⟨⟨h1, h2⟩, hd⟩ := guard_some'' hd
    have hv : v = fV x := by
      cases x with
      | int i => exact hx.int
      | str s => exact hx.str
      | _ => cases h1
    have hy := flats_rep h2 hr
    cases hf : findD x z with
    | none => rw [hf] at hd; cases hd
    | some j =>
      rw [hf] at hd
      cases hd
      obtain ⟨⟨y, k1, k2⟩, k3⟩ := findD_at hf
      have fl : ∀ (m : Nat) w, z[m]? = some w → flatD w = true := fun m w hw => List.all_eq_true.mp h2 w (List.mem_of_getElem? hw)
      refine ⟨pa, ys, v, j, fV y, rfl, rfl, hq, by rw [hv]; exact fV_flat h1, ?_, by rw [hy, List.getElem?_map, k1]; rfl, by rw [hv, fV_eq h1 (fl j y k1)]; exact k2, fun m w hm hw => ?_, q.here rfl e rep_int⟩
      · rw [hy, List.all_map]
        exact List.all_eq_true.mpr fun w hw => fV_flat (List.all_eq_true.mp h2 w hw)
      · rw [hy, List.getElem?_map] at hw
        cases hz : z[m]? with
        | none => rw [hz] at hw; cases hw
        | some u =>
          rw [hz] at hw
          cases hw
          rw [hv, fV_eq h1 (fl m u hz)]
          exact k3 m u hm hz
  · cases hd
theorem meth_index (g : Gd T Γ CX k X ctx XE) {z : List D} {x : Ag} {pa : Addr} {pl : Sem Bool} {pins : List (Addr × Obj)} {σ : L2.St} {H1 G1 : Hp} {ρ1 : Rho} {s1 : Shared} {sl : Sl} {Q : VK} (h : Paired (fun e ir => Ok X T B XE Γ e ir) es irs) (hs : es.all noStar = true) (I1 : Inv X pins σ H1 s1) (S1 : Sta T B σ H1 G1 ρ1) (r1 : AgR T x (.ref pa) σ H1 G1 ρ1) (hx : x.get ρ1 = some sl) (hsl : sl.d = .lst z)
    (q : Pst ((evs Γ irs ρ1).bnd fun as ρ2 => match x.get ρ2 with
        | some s2 => if D.sameL [s2.d] [.lst z] = true then (match fillD ρ2 as with
          | some ds => (lift (ixD z ds) ρ2).bnd fun d ρ3 => .ok (false, d) ρ3
          | none => .bad) else .bad
        | none => .bad) (okE T B (rR T B) σ G1 Q) (exE T B XE σ G1)) :
    wpAny (model X.prog X.w) X.A (getMethod (.ref pa) "index" pl) (fun fx s₂ => wpAny (model X.prog X.w) X.A (callWith pos fx.1 fx.2 (backTo pos (starEach es X.env)) (backToKw pos (keywordEach [] X.env))) (EP X pins σ Q) X.xe s₂) X.xe s1 := by
  have hb0 := r1.br S1 hx
  rw [hsl] at hb0
  obtain ⟨pa', vs0, ep, h10, _⟩ := hb0.lst S1.ex
  cases ep
  obtain ⟨t1, t2⟩ := tyV_is I1 (show RelV (.ref pa) (.ref pa) from rfl) (.inl ⟨rfl, vs0, SqL.of h10⟩ : tyV X.K "list" (.ref pa) H1)
  have fin : RdAs T B XE (fun ρ => evs Γ irs ρ) σ H1 fun vs H2 => rIndex X.K (.ref pa) vs H2 Q := by
    refine ⟨G1, ρ1, S1, Pst.mono (Pst.bnd q) (fun as ρ2 q vs H2 G2 e2 S2 r2 => ?_) fun _ _ _ q => q⟩
    cases hx2 : x.get ρ2 with
    | none => simp only [hx2] at q; exact q.elim
    | some s2 =>
      simp only [hx2] at q
      by_cases hsame : D.sameL [s2.d] [.lst z] = true
      · simp only [if_pos hsame] at q
        have hd2 : s2.d = .lst z := (List.cons.inj (D.sameL_eq _ _ hsame)).1
        cases hf : fillD ρ2 as with
        | none => simp only [hf] at q; exact q.elim
        | some ds =>
          simp only [hf] at q
          obtain ⟨d, hd, p2⟩ := q.bnd.lift
          have hb := (AgR.mono (ρ' := ρ2) (H' := H2) e2 r1).br S2 hx2
          rw [hd2] at hb
          obtain ⟨pb, vs2, ep, k1, k2⟩ := hb.lst S2.ex
          cases ep
          exact rix S2.ex (r2.brl S2 hf) (SqL.of k1) k2 hd (S2.hand (fr := false) fun b' H' G' e' => p2 b' H' G' (e2.trans e'))
      · simp only [if_neg hsame] at q
        exact q.elim
  cases h with
  | nil =>
    obtain ⟨G2, ρ2, S2, q2⟩ := fin
    unfold evs at q2
    obtain ⟨_, _, _, _, _, _, hz, _⟩ := q2 [] H1 G2 (Ex.refl G2) S2 rfl
    cases hz
  | @cons e ir es irs h tt =>
    have hs' : noStar e = true ∧ es.all noStar = true := by rw [List.all_cons, Bool.and_eq_true] at hs; exact hs
    refine getMethod_builtin t1 F.plainAttrs_list F.slot_list_index F.type_list_index t2 ?_
    have he := star_one (env := X.env) hs'.1 es
    have hrun : wpAny (model X.prog X.w) X.A (spliced (backTo pos (starEach (e :: es) X.env))) (fun us s2 => wpAny (model X.prog X.w) X.A (call (.builtin "list.index") (.ref pa :: us)) (EP X pins σ Q) X.xe s2) X.xe s1 :=
      wpAny_mono ((pa_as (pairedOpd (.cons h tt))).run pos pins s1 σ H1 _ I1 fin) (fun us s2 hv => by
        obtain ⟨vs, H2, I2, r, q2⟩ := hv
        exact mt_index pins s2 σ H2 (.ref pa) vs (.ref pa) us Q I2 rfl r q2) fun _ _ e => e
    have hpl := (star_all (env := X.env) (pos := pos) hs).2
    show wpAny _ _ (callWith pos (.builtin "list.index") [.ref pa] (backTo pos (starEach (e :: es) X.env)) []) _ _ _
    rw [he] at hrun hpl ⊢
    exact Calls.callWith_builtin (first := [.ref pa]) hpl (Calls.evalArgs_plain hrun)
/-- o.m(..) -/
theorem ok_meth (g : Gd T Γ CX k X ctx XE) {m : Str} {apos : PySem.Pos} (ho : Ok X T B XE Γ o ia) (h : Paired (fun e ir => Ok X T B XE Γ e ir) es irs) (hb : baseOk o = true) (hs : es.all noStar = true) (hn : es.length < 30) (hl : (apos.endLine == pos.line) = true) :
    Ok X T B XE Γ (.Call (.Attribute o m apos) es [] pos) (.meth m ia irs) := by
  refine Ok.plain g.hK ?_ rfl (fun _ => rfl) fun _ => rfl
  obtain ⟨pl, ht⟩ := eval_meth (es := es) (pos := pos) (att_ok (m := m) (env := X.env) hb) hs hn hl
  refine ⟨fun pins s σ H Q I q => ?_⟩
  obtain ⟨G, ρ, S, p⟩ := q
  simp only [ev, tr] at p
  refine PySem.W.methodCall_KW (pl := pl) (thn (ho.opd.run pins s σ H (fun v H1 => (∃ c l dx fs pa x ρ1 G1, v = .ref pa ∧ H1 pa = some (.ins (T.cls c) dx fs) ∧ fs.lookup m = none ∧ Γ.hasM c m = true ∧ Sta T B σ H1 G1 ρ1 ∧ AgR T x v σ H1 G1 ρ1 ∧
      (∃ s, x.get ρ1 = some s ∧ s.d = .ins c l) ∧ Pst ((evs Γ irs ρ1).bnd fun as ρ2 => match fill ρ2 (x :: as) with
        | some ss => if (slots (x :: as)).Nodup then outF ρ2 (x :: as) (Γ.met c m ss) else .bad
        | none => .bad) (okE T B (rR T B) σ G1 Q) (exE T B XE σ G1)) ∨ (∃ z ρ1 G1, v = .str z ∧ (m = "split" ∨ m = "join") ∧ Sta T B σ H1 G1 ρ1 ∧ Pst ((evs Γ irs ρ1).bnd fun as ρ2 => match fillD ρ2 as with
        | some ds => (lift (txD m z ds) ρ2).bnd fun d ρ3 => .ok (d.obj, d) ρ3
        | none => .bad) (okE T B (rR T B) σ G1 Q) (exE T B XE σ G1)) ∨ ∃ z pa x ρ1 G1 sl, v = .ref pa ∧ m = "index" ∧ Sta T B σ H1 G1 ρ1 ∧ AgR T x v σ H1 G1 ρ1 ∧ x.get ρ1 = some sl ∧ sl.d = .lst z ∧ Pst ((evs Γ irs ρ1).bnd fun as ρ2 => match x.get ρ2 with
        | some s2 => if D.sameL [s2.d] [.lst z] = true then (match fillD ρ2 as with
          | some ds => (lift (ixD z ds) ρ2).bnd fun d ρ3 => .ok (false, d) ρ3
          | none => .bad) else .bad
        | none => .bad) (okE T B (rR T B) σ G1 Q) (exE T B XE σ G1)) I ?_) fun u s1 ⟨v, H1, I1, rx, alt⟩ => ?_) ht
  · refine ⟨G, ρ, S, Pst.mono (Pst.bnd p) (fun x ρ1 q v H1 G1 e1 S1 r1 => ?_) fun _ _ _ q => q⟩
    cases hx : x.get ρ1 with
    | none => rw [hx] at q; exact q.elim
    | some s =>
      rw [hx] at q
      cases hd : s.d with
      | ins c l =>
        simp only [hd] at q
        have hbr := r1.br S1 hx
        rw [hd] at hbr
        obtain ⟨pa, dx, fs, rfl, h1, h2, h3⟩ := hbr.ins S1.ex
        cases hc : ((Γ.flds c).contains m || !Γ.hasM c m) with
        | true => rw [hc] at q; exact (show False from q).elim
        | false =>
          rw [hc] at q
          obtain ⟨hc1, hc2⟩ := Bool.or_eq_false_iff.mp hc
          have hm : m ∉ T.flds c := fun z => by
            rw [← g.fl] at z
            rw [List.contains_iff_mem.mpr z] at hc1
            cases hc1
          refine .inl ⟨c, l, dx, fs, pa, x, ρ1, G1, rfl, h1, lookup_none fun z => hm ?_, by simpa using hc2, S1, r1, ⟨s, hx, hd⟩, Pst.mono q (fun _ _ q v H2 G2 e2 => q v H2 G2 (e1.trans e2)) fun _ _ _ q => q.mono e1⟩
          rw [h2] at z
          exact List.mem_of_mem_take z
      | str z =>
        simp only [hd] at q
        have hbr := r1.br S1 hx
        rw [hd] at hbr
        cases hc : (m == "split" || m == "join") with
        | false => rw [hc] at q; exact (show False from q).elim
        | true =>
          rw [hc] at q
          refine .inr (.inl ⟨z, ρ1, G1, hbr.str, (Bool.or_eq_true_iff.mp hc).imp (fun z => eq_of_beq z) (fun z => eq_of_beq z), S1, Pst.mono q (fun _ _ q v H2 G2 e2 => q v H2 G2 (e1.trans e2)) fun _ _ _ q => q.mono e1⟩)
      | lst z =>
        simp only [hd] at q
        have hbr := r1.br S1 hx
        rw [hd] at hbr
        obtain ⟨pa, vs, rfl, _, _⟩ := hbr.lst S1.ex
        cases hc : (m == "index") with
        | false => rw [hc] at q; exact (show False from q).elim
        | true =>
          rw [hc] at q
          exact .inr (.inr ⟨z, pa, x, ρ1, G1, s, rfl, eq_of_beq hc, S1, r1, hx, hd, Pst.mono q (fun _ _ q v H2 G2 e2 => q v H2 G2 (e1.trans e2)) fun _ _ _ q => q.mono e1⟩)
      | _ => simp only [hd] at q; exact q.elim
  · rcases alt with ⟨c, l, dx, fs, pa, x, ρ1, G1, ev', hH, hlk, hM, S1, r1, _, q1⟩ | ⟨z, ρ1, G1, ev', hm, S1, q1⟩ | ⟨z, pa, x, ρ1, G1, sl, ev', rfl, S1, r1, hx, hsl, q1⟩
    case inr.inr =>
      subst ev'
      obtain rfl : u = Value.ref pa := rx
      exact meth_index g h hs I1 S1 r1 hx hsl q1
    case inr.inl =>
      subst ev'
      obtain ⟨t, rfl⟩ := rx
      exact meth_str g h hs hm I1 S1 q1
    subst ev'
    obtain rfl : u = Value.ref pa := rx
    obtain ⟨a, fd, ps, hC, hMe, hB, F⟩ := g.met c m hM
    refine getmeth_ok I1 hH hC hMe hlk ?_
    have run : ∀ (us : List Value) (s2 : Shared) (vs : List V) (H2 : Hp), Inv X pins σ H2 s2 → Vals vs us → spF T (Γ.met c m) (.ref pa :: vs) H2 Q XE → wpAny (model X.prog X.w) X.A (call (.ref a) (.ref pa :: us)) (EP X pins σ Q) X.xe s2 := fun us s2 vs H2 I2 r2 q2 =>
      run_fn (us := .ref pa :: us) (vs := .ref pa :: vs) (dvs := []) (ds := []) F (g.room.mono (Nat.le_succ k)) hB .nil g.ps I2 (.cons rfl r2) (by rw [List.append_nil]; exact q2)
    have fin : RdAs T B XE (fun ρ => evs Γ irs ρ) σ H1 fun vs H2 => spF T (Γ.met c m) (.ref pa :: vs) H2 Q XE := by
      refine ⟨G1, ρ1, S1, Pst.mono (Pst.bnd q1) (fun as ρ2 q vs H2 G2 e2 S2 r2 => ?_) fun _ _ _ q => q⟩
      cases hf : fill ρ2 (x :: as) with
      | none => rw [hf] at q; exact q.elim
      | some ss =>
        rw [hf] at q
        by_cases n : (slots (x :: as)).Nodup
        · simp only [if_pos n] at q
          exact outF_ok (as := x :: as) (vs := .ref pa :: vs) S2 (show AgL T (x :: as) (.ref pa :: vs) σ H2 G2 ρ2 from ⟨.ref pa, vs, rfl, r1.mono e2, r2⟩) hf n (Pst.mono q (fun _ _ q v H3 G3 e3 => q v H3 G3 (e2.trans e3)) fun _ _ _ q => q.mono e2)
        · simp only [if_neg n] at q
          exact q.elim
    cases h with
    | nil =>
      obtain ⟨G2, ρ2, S2, q2⟩ := fin
      unfold evs at q2
      exact PySem.W.callWith_K0 (first := [.ref pa]) I1.kIn hMe.kp (run [] s1 [] H1 I1 .nil (q2 [] H1 G2 (Ex.refl G2) S2 rfl))
    | @cons e ir es irs h t =>
      have hs' : noStar e = true ∧ es.all noStar = true := by rw [List.all_cons, Bool.and_eq_true] at hs; exact hs
      refine PySem.W.callWith_K (first := [.ref pa]) (h₀ := X.base) I.ok.mod.kin hMe.kp (thn ((pa_as (pairedOpd (.cons h t))).run pos pins s1 σ H1 _ I1 fin) fun us s2 ⟨vs, H2, I2, r, q2⟩ => ⟨I2.kIn, ?_⟩) (star_one hs'.1 es) (star_all hs'.2).2
      exact run us s2 vs H2 I2 r q2
end
end Pf
end
section
set_option Elab.async false
set_option linter.all false
set_option maxRecDepth 100000
set_option maxHeartbeats 1000000
/-! Rf12: targets; what is walked. -/
namespace Pf
open PySem PySem.Spec PyProof.Rows L2
mutual
def Tg.names : Tg → List Nat
  | .nm i => [i]
  | .tp l => Tg.namesL l
  | .bad => []
def Tg.namesL : List Tg → List Nat
  | [] => []
  | t :: l => t.names ++ Tg.namesL l
end
/-- slots but those of own stand -/
def Same (own : List Nat) (σ σ' : L2.St) : Prop := σ'.length = σ.length ∧ ∀ i, i ∉ own → σ'[i]? = σ[i]?
theorem Same.refl {own : List Nat} {σ : L2.St} : Same own σ σ := ⟨rfl, fun _ _ => rfl⟩
theorem Same.trans {own own' own2 : List Nat} {σ σ' σ2 : L2.St} (a : Same own σ σ') (b : Same own' σ' σ2) (h : ∀ i, i ∈ own → i ∈ own2) (h' : ∀ i, i ∈ own' → i ∈ own2) : Same own2 σ σ2 :=
  ⟨b.1.trans a.1, fun i hi => (b.2 i fun z => hi (h' i z)).trans (a.2 i fun z => hi (h i z))⟩
section
variable {X : Cx} {T : Tab} {B : Base} {XE : XK} {Γ : Ga} {CX : CXT} {k : Nat} {ctx : Ctx} {e : Expr} {es : List Expr} {pos p p2 : PySem.Pos} {ir ia : E} {irs : List E} {tg : Tg} {tgs : List Tg} {σ : L2.St} {H G : Hp} {ρ ρ' : Rho}
def gB (T : Tab) (tg : Tg) : TG := fun v σ H K => ∃ B G ρ d ρ', Sta T B σ H G ρ ∧ Rep T G d v ∧ bind1 tg d ρ = some ρ' ∧ ∀ σ', Sta T B σ' H G ρ' → Same tg.names σ σ' → K σ' H
def gBs (T : Tab) (tgs : List Tg) : TGs := fun vs σ H K => ∃ B G ρ ds ρ', Sta T B σ H G ρ ∧ RepL T G ds vs ∧ bindL1 tgs ds ρ = some ρ' ∧ ∀ σ', Sta T B σ' H G ρ' → Same (Tg.namesL tgs) σ σ' → K σ' H
theorem put_some {i : Nat} {r : Res} (h : put i r ρ = some ρ') : ρ' = ρ.set i (some (if r.1 then Sl.cel false r.2 else Sl.val false r.2)) := by
  unfold put at h
  split at h
  · cases h
  · cases h
    rfl
theorem Sta.put' {i : Nat} {r : Res} {v : V} (S : Sta T B σ H G ρ) (rr : RR T B σ H G ρ r.1 r.2 v) (h : Pf.put i r ρ = some ρ') : Sta T B (σ.set i (some v)) H G ρ' := by
  have := put_some h
  subst this
  by_cases hi : i < σ.length
  · exact S.put rr hi
  · have h1 : σ.set i (some v) = σ := List.set_eq_of_length_le (by omega)
    have h2 : ∀ x, ρ.set i x = ρ := fun x => List.set_eq_of_length_le (by rw [S.ln]; omega)
    rw [h1, h2]
    exact S
theorem same_set {i : Nat} {x : Option V} : Same [i] σ (σ.set i x) := ⟨List.length_set, fun j hj => get_set_ne fun z => hj (by rw [z]; exact List.mem_singleton.mpr rfl)⟩
theorem pg_bad : PG X e (gB T .bad) := ⟨fun _ _ _ _ _ _ _ _ _ h => by
  obtain ⟨_, _, _, _, _, _, _, h, _⟩ := h
  unfold bind1 at h
  cases h⟩
theorem wkG {t t' : TG} (h : PG X e t) (k : ∀ v σ H Q, t' v σ H Q → t v σ H Q) : PG X e t' := ⟨fun pins s σ H v u Q I r q => h.run pins s σ H v u Q I r (k v σ H Q q)⟩
theorem wkGs {t t' : TGs} (h : PGs X es t) (k : ∀ v σ H Q, t' v σ H Q → t v σ H Q) : PGs X es t' := ⟨fun pins s σ H v u Q I r q => h.run pins s σ H v u Q I r (k v σ H Q q)⟩
theorem pg_nm {i : Nat} {x : Str} (g : Gd T Γ CX k X ctx XE) (hi : X.N[i]? = some x) (hx : Loc X.env.scope x) (hf : X.fn x = true ∨ X.env.scope.names.lookup x = some .local) : PG X (.Name x pos) (gB T (.nm i)) :=
  wkG (pg_name g.nd hi hx hf) fun v σ H Q q => by
    obtain ⟨B, G, ρ, d, ρ', S, r, hb, q⟩ := q
    unfold bind1 at hb
    exact q _ (S.put' (r := (false, d)) (v := v) r hb) (by unfold Tg.names; exact same_set)
theorem as_one {e : Expr} {env : Env} (h : noStar e = true) (es : List Expr) : assignEach (e :: es) env = (false, assign e env) :: assignEach es env := by
  cases e <;> first | rfl | cases h
theorem pgs_of : ∀ {es : List Expr} {tgs : List Tg}, Paired (fun e t => PG X e (gB T t) ∧ noStar e = true) es tgs → PGs X es (gBs T tgs)
  | _, _, .nil => wkGs pgs_nil fun vs σ H Q q => by
    obtain ⟨B, G, ρ, ds, ρ', S, r, hb, q⟩ := q
    cases ds with
    | nil =>
      unfold bindL1 at hb
      cases hb
      unfold RepL at r
      exact ⟨r, q σ S Same.refl⟩
    | cons d ds =>
      unfold bindL1 at hb
      cases hb
  | _, _, .cons (b := t) (l₂ := ts) h hr => wkGs (pgs_cons h.1 (pgs_of hr) (by rw [as_one h.2] <;> rfl)) fun vs σ H Q q => by
    obtain ⟨B, G, ρ, ds, ρ', S, r, hb, q⟩ := q
    cases ds with
    | nil =>
      unfold bindL1 at hb
      cases hb
    | cons d ds =>
      unfold bindL1 at hb
      have hb : (bind1 t d ρ).bind (bindL1 ts ds) = some ρ' := hb
      unfold RepL at r
      obtain ⟨v, r', rfl, h1, h2⟩ := r
      cases e1 : bind1 t d ρ with
      | none => rw [e1] at hb; cases hb
      | some ρ1 =>
        rw [e1] at hb
        have hb : bindL1 ts ds ρ1 = some ρ' := hb
        exact ⟨v, r', rfl, B, G, ρ, d, ρ1, S, h1, e1, fun σ1 S1 s1 => ⟨B, G, ρ1, ds, ρ', S1, h2, hb, fun σ2 S2 s2 => q σ2 S2 (s1.trans s2 (fun i hi => by unfold Tg.namesL; exact List.mem_append_left _ hi) fun i hi => by unfold Tg.namesL; exact List.mem_append_right _ hi)⟩⟩
theorem bindL1_len : ∀ {ts : List Tg} {l : List D} {ρ ρ' : Rho}, bindL1 ts l ρ = some ρ' → l.length = ts.length
  | [], l, ρ, ρ', h => by
    cases l with
    | nil => rfl
    | cons a b => unfold bindL1 at h; cases h
  | t :: ts, l, ρ, ρ', h => by
    cases l with
    | nil => unfold bindL1 at h; cases h
    | cons a b =>
      unfold bindL1 at h
      have h : (bind1 t a ρ).bind (bindL1 ts b) = some ρ' := h
      cases e : bind1 t a ρ with
      | none => rw [e] at h; cases h
      | some ρ1 =>
        rw [e] at h
        rw [List.length_cons, List.length_cons, bindL1_len (ts := ts) (l := b) (ρ := ρ1) (ρ' := ρ') h]
theorem as_all : ∀ {es : List Expr} {tgs : List Tg} {env : Env}, Paired (fun e t => PG X e (gB T t) ∧ noStar e = true) es tgs → (assignEach es env).length = tgs.length ∧ (assignEach es env).findIdx? (·.1) = none
  | _, _, _, .nil => ⟨rfl, rfl⟩
  | _, _, env, .cons h hr => by
    obtain ⟨h1, h2⟩ := as_all (env := env) hr
    rw [as_one h.2]
    refine ⟨by rw [List.length_cons, List.length_cons, h1], ?_⟩
    rw [List.findIdx?_cons, h2]
    rfl
theorem pg_tp {kk : Nat} (g : Gd T Γ CX k X ctx XE) (h : Paired (fun e t => PG X e (gB T t) ∧ noStar e = true) es tgs) : PG X (.Tuple es kk pos) (gB T (.tp tgs)) :=
  wkG (pg_tup (n := tgs.length) g.calm (pgs_of h) (as_all h).1 (as_all h).2) fun v σ H Q q => by
    obtain ⟨B, G, ρ, d, ρ', S, r, hb, q⟩ := q
    unfold bind1 at hb
    cases d with
    | tup l =>
      have hb : bindL1 tgs l ρ = some ρ' := hb
      unfold Rep at r
      obtain ⟨a, vs, rfl, h1, h2⟩ := r
      refine ⟨a, vs, rfl, by rw [g.hK]; exact S.ex.sqT h1, by rw [h2.length, bindL1_len hb], B, G, ρ, l, ρ', S, h2, hb, fun σ' S' s' => q σ' S' ?_⟩
      unfold Tg.names
      exact s'
    | _ => cases hb

/-! ### what is walked -/
/-- an iterator over xs; the operands as (their contents ds) stand as they were -/
def WkOk (T : Tab) (σ : L2.St) (G0 : Hp) (as : List Ag) (ds xs : List D) (J : It) : Prop :=
  ∀ B H G ρ σ', Sta T B σ' H G ρ → Ex G0 G → (∀ i ∈ slots as, σ'[i]? = σ[i]?) → held ρ as ds = true → (∀ i, i < xs.length → J.go i H) ∧ J.stop xs.length H ∧
    ∀ i v H', i < xs.length → J.yld i H v H' → ∃ d G', xs[i]? = some d ∧ Stp0 H G H' G' ∧ Ex G' H' ∧ Rep T G' d v
/-- a source's reading -/
def iB (T : Tab) (B : Base) (XE : XK) (Γ : Ga) (k : Ik) (src : List E) : TI := fun σ H R => ∃ G ρ, Sta T B σ H G ρ ∧ Pst (evs Γ src ρ) (fun as ρ1 => ∃ ds xs, fillD ρ1 as = some ds ∧ walk k ds = some xs ∧
    ∀ J H' G', Ex G G' → Sta T B σ H' G' ρ1 → WkOk T σ G' as ds xs J → R J H') (exE T B XE σ G)
theorem PI.or {tg iter : Expr} {w1 w2 : TI} (h1 : PI X tg iter w1) (h2 : PI X tg iter w2) : PI X tg iter (fun σ H R => w1 σ H R ∨ w2 σ H R) :=
  ⟨fun pins s σ H R I q => q.elim (h1.run pins s σ H R I) (h2.run pins s σ H R I)⟩
theorem wkI {tg iter : Expr} {w1 w2 : TI} (h : PI X tg iter w1) (k : ∀ σ H R, w2 σ H R → w1 σ H R) : PI X tg iter w2 := ⟨fun pins s σ H R I q => h.run pins s σ H R I (k σ H R q)⟩
theorem held_one {a : Ag} {ds : List D} (h : held ρ [a] ds = true) : ∃ s, a.get ρ = some s ∧ ds = [s.d] := by
  unfold held at h
  cases e : fillD ρ [a] with
  | none => rw [e] at h; cases h
  | some es =>
    rw [e] at h
    have := D.sameL_eq _ _ h
    subst this
    obtain ⟨s, r, h1, h2, rfl⟩ := fillD_cons e
    rw [fillD_nil h2]
    exact ⟨s, h1, rfl⟩
theorem AgR.still {a : Ag} {v : V} {σ σ' : L2.St} {H H' G G' : Hp} {ρ ρ' : Rho} (h : AgR T a v σ H G ρ) (e : Ex G G') (hs : ∀ i ∈ slots [a], σ'[i]? = σ[i]?) : AgR T a v σ' H' G' ρ' := by
  cases a with
  | val d => exact Rep.mono e h
  | slot i => exact (hs i List.mem_cons_self).trans h
theorem rngD_at : ∀ (n : Nat) (lo : Int) (i : Nat), i < n → (rangeD lo n)[i]? = some (.int (lo + (i : Nat)))
  | 0, _, _, h => absurd h (Nat.not_lt_zero _)
  | n + 1, lo, 0, _ => by simp [rangeD]
  | n + 1, lo, i + 1, h => by
    unfold rangeD
    rw [List.getElem?_cons_succ, rngD_at n (lo + 1) i (Nat.lt_of_succ_lt_succ h)]
    congr 2
    omega
theorem rngD_len : ∀ (n : Nat) (lo : Int), (rangeD lo n).length = n
  | 0, _ => rfl
  | n + 1, lo => by
    unfold rangeD
    rw [List.length_cons, rngD_len n]
theorem enumD_at : ∀ (l : List D) (j i : Nat), (enumD j l)[i]? = (l[i]?).map fun d => .tup [.int ((j + i : Nat) : Int), d]
  | [], _, _ => rfl
  | d :: l, j, 0 => rfl
  | d :: l, j, i + 1 => by
    unfold enumD
    rw [List.getElem?_cons_succ, List.getElem?_cons_succ, enumD_at l (j + 1) i]
    congr 2
    funext d
    have : j + 1 + i = j + (i + 1) := by omega
    rw [this]
theorem enumD_len : ∀ (l : List D) (j : Nat), (enumD j l).length = l.length
  | [], _ => rfl
  | d :: l, j => by
    unfold enumD
    rw [List.length_cons, List.length_cons, enumD_len l]
/-- over a list, a tuple, a text -/
theorem pi_seq (g : Gd T Γ CX k X ctx XE) {tg : Expr} (h : Ok X T B XE Γ e ir) : PI X tg e (iB T B XE Γ .seq [ir]) := by
  refine wkI (PI.or (pi_list (tg := tg) h.opd) (PI.or (pi_tup (tg := tg) h.opd) (pi_str (tg := tg) h.opd))) fun σ H R q => ?_
  obtain ⟨G, ρ, S, p⟩ := q
  rw [evs_cons] at p
  cases hA : evA Γ ir ρ with
  | bad => rw [hA] at p; exact p.elim
  | exc c l ρ1 =>
    rw [hA] at p
    exact .inl ⟨G, ρ, S, by show Pst (evA Γ ir ρ) _ _; rw [hA]; exact p⟩
  | ok a ρ1 =>
    rw [hA] at p
    unfold evs at p
    obtain ⟨ds, xs, hf, hw, q⟩ := p
    obtain ⟨s, r, hs, hr, rfl⟩ := fillD_cons hf
    rw [fillD_nil hr] at hw hf q
    have go : ∀ {W : V → Hp → Prop}, (∀ v H1 G1, Ex G G1 → Sta T B σ H1 G1 ρ1 → AgR T a v σ H1 G1 ρ1 → W v H1) → RdA T B XE (fun ρ => evA Γ ir ρ) σ H W := fun {W} hW =>
      ⟨G, ρ, S, by show Pst (evA Γ ir ρ) _ _; rw [hA]; exact fun v H1 G1 e1 S1 r1 => hW v H1 G1 e1 S1 r1⟩
    cases hd : s.d with
    | lst l =>
      rw [hd] at hw q
      cases hw
      refine .inl (go fun v H1 G1 e1 S1 r1 => ?_)
      have hb := r1.br S1 hs
      rw [hd] at hb
      obtain ⟨pa, vs, rfl, h1, h2⟩ := hb.lst S1.ex
      refine ⟨pa, rfl, ⟨vs, SqL.of h1⟩, q _ H1 G1 e1 S1 fun B' H2 G2 ρ2 σ2 S2 e2 hσ hh => ?_⟩
      obtain ⟨s2, hs2, hd2⟩ := held_one hh
      have hb2 := (r1.still (σ' := σ2) (H' := H2) (ρ' := ρ2) e2 hσ).br S2 hs2
      have hd2 : s2.d = .lst xs := (List.cons.inj hd2).1.symm
      rw [hd2] at hb2
      obtain ⟨pa', vs2, ep, h3, h4⟩ := hb2.lst S2.ex
      cases ep
      have hl := h4.length
      refine ⟨fun i hi => ⟨vs2, vs2[i]'(by omega), SqL.of h3, List.getElem?_eq_getElem (by omega)⟩, ⟨vs2, SqL.of h3, by omega⟩, fun i v H' hi y => ?_⟩
      obtain ⟨rfl, y2⟩ := y
      obtain ⟨d, h5, h6⟩ := h4.got (y2 vs2 (SqL.of h3))
      exact ⟨d, G2, h5, Stp.refl, S2.ex, h6⟩
    | scr l =>
      rw [hd] at hw q
      cases hw
      refine .inl (go fun v H1 G1 e1 S1 r1 => ?_)
      have hb := r1.br S1 hs
      rw [hd] at hb
      obtain ⟨pa, rfl, h1⟩ := hb.scr S1.ex
      rw [← g.hK] at h1
      refine ⟨pa, rfl, ⟨_, h1⟩, q _ H1 G1 e1 S1 fun B' H2 G2 ρ2 σ2 S2 e2 hσ hh => ?_⟩
      obtain ⟨s2, hs2, hd2⟩ := held_one hh
      have hb2 := (r1.still (σ' := σ2) (H' := H2) (ρ' := ρ2) e2 hσ).br S2 hs2
      have hd2 : s2.d = .scr l := (List.cons.inj hd2).1.symm
      rw [hd2] at hb2
      obtain ⟨pa', ep, h3⟩ := hb2.scr S2.ex
      cases ep
      rw [← g.hK] at h3
      refine ⟨fun i hi => ⟨_, _, h3, List.getElem?_eq_getElem (by simpa using hi)⟩, ⟨_, h3, by simp⟩, fun i v H' hi y => ?_⟩
      obtain ⟨rfl, y2⟩ := y
      have y3 := y2 _ h3
      rw [List.getElem?_map] at y3 ⊢
      cases hn : l[i]? with
      | none => rw [hn] at y3; cases y3
      | some n =>
        rw [hn] at y3
        cases y3
        exact ⟨.int n, G2, rfl, Stp.refl, S2.ex, rep_int⟩
    | tup l =>
      rw [hd] at hw q
      cases hw
      refine .inr (.inl (go fun v H1 G1 e1 S1 r1 => ?_))
      have hb := r1.br S1 hs
      rw [hd] at hb
      obtain ⟨pa, vs, rfl, h1, h2⟩ := hb.tup
      refine ⟨pa, rfl, ⟨vs, by rw [g.hK]; exact S1.ex.sqT h1⟩, q _ H1 G1 e1 S1 fun B' H2 G2 ρ2 σ2 S2 e2 hσ hh => ?_⟩
      have h3 : SqT X.K H2 pa vs := by rw [g.hK]; exact S2.ex.sqT (e2.sqT h1)
      have hl := h2.length
      refine ⟨fun i hi => ⟨vs, vs[i]'(by omega), h3, List.getElem?_eq_getElem (by omega)⟩, ⟨vs, h3, by omega⟩, fun i v H' hi y => ?_⟩
      obtain ⟨rfl, y2⟩ := y
      obtain ⟨d, h5, h6⟩ := h2.got (y2 vs h3)
      exact ⟨d, G2, h5, Stp.refl, S2.ex, h6.mono e2⟩
    | str z =>
      rw [hd] at hw q
      cases hw
      refine .inr (.inr (go fun v H1 G1 e1 S1 r1 => ?_))
      have hb := r1.br S1 hs
      rw [hd] at hb
      cases hb.str
      refine ⟨z, rfl, q _ H1 G1 e1 S1 fun B' H2 G2 ρ2 σ2 S2 e2 hσ hh => ?_⟩
      have hl : (signs z).length = z.cps.size := by unfold signs; rw [List.length_map, Array.length_toList]
      refine ⟨fun i hi => by rw [hl] at hi; exact hi, by rw [hl]; exact Nat.le_refl _, fun i v H' hi y => ?_⟩
      obtain ⟨rfl, c, h5, rfl⟩ := y
      refine ⟨.str ⟨#[c]⟩, G2, ?_, Stp.refl, S2.ex, rep_str⟩
      unfold signs
      rw [List.getElem?_map, Array.getElem?_toList, h5]
      rfl
    | _ => rw [hd] at hw; cases hw
theorem evs_len : ∀ {irs : List E} {ρ ρ' : Rho} {as : List Ag}, evs Γ irs ρ = .ok as ρ' → as.length = irs.length
  | [], ρ, ρ', as, h => by
    unfold evs at h
    cases h
    rfl
  | i :: irs, ρ, ρ', as, h => by
    rw [evs_cons] at h
    cases e1 : evA Γ i ρ with
    | ok r ρ1 =>
      rw [e1] at h
      simp only [Out.bnd] at h
      cases e2 : evs Γ irs ρ1 with
      | ok l ρ2 =>
        rw [e2] at h
        cases h
        rw [List.length_cons, List.length_cons, evs_len e2]
      | exc _ _ _ => rw [e2] at h; cases h
      | bad => rw [e2] at h; cases h
    | exc _ _ _ => rw [e1] at h; cases h
    | bad => rw [e1] at h; cases h
theorem Pst.lenA {P : List Ag → Rho → Prop} {Ex : Nat → List D → Rho → Prop} {ρ : Rho} (h : Pst (evs Γ irs ρ) P Ex) : Pst (evs Γ irs ρ) (fun ds ρ => ds.length = irs.length ∧ P ds ρ) Ex := by
  cases e : evs Γ irs ρ with
  | ok ds ρ' =>
    rw [e] at h
    exact ⟨evs_len e, h⟩
  | exc c l ρ' => rw [e] at h; exact h
  | bad => rw [e] at h; exact h
theorem fillD_len {as : List Ag} {ds : List D} (h : fillD ρ as = some ds) : ds.length = as.length := by
  unfold fillD at h
  cases e : fill ρ as with
  | none => rw [e] at h; cases h
  | some ss =>
    rw [e] at h
    cases h
    rw [List.length_map, fill_length e]
theorem wk_rng {lo : Int} {n : Nat} {as : List Ag} {ds : List D} : WkOk T σ G as ds (rangeD lo n) (Itr lo n) := fun B H G ρ σ' S e hs hh => by
  rw [rngD_len]
  refine ⟨fun i hi => hi, Nat.le_refl _, fun i v H' hi y => ?_⟩
  obtain ⟨rfl, rfl⟩ := y
  exact ⟨.int (lo + i), G, rngD_at n lo i hi, Stp.refl, S.ex, rep_int⟩
/-- over a range -/
theorem pi_rng1 (g : Gd T Γ CX k X ctx XE) {tg : Expr} {a : Expr} {ia : E} (ha : Ok X T B XE Γ a ia) (hs : noStar a = true) (hg : Gl X "range") : PI X tg (.Call (.Name "range" p) [a] [] pos) (iB T B XE Γ .rng [ia]) := by
  refine wkI (pi_range1 (tg := tg) hg (g.blt _ (by decide)) (pa_as (pairedOpd (.cons ha .nil))) (star_one hs [])) fun σ H R q => ?_
  obtain ⟨G, ρ, S, p⟩ := q
  refine ⟨G, ρ, S, (Pst.lenA p).mono (fun as ρ1 q vs H1 G1 e1 S1 r1 => ?_) fun _ _ _ q => q⟩
  obtain ⟨hl, ds, xs, hf, hw, q⟩ := q
  have hb := r1.brl S1 hf
  have hl2 : ds.length = 1 := (fillD_len hf).trans hl
  rcases ds with _ | ⟨d1, _ | _⟩
  · cases hl2
  · cases d1 with
    | int n =>
      obtain ⟨v, rfl, b1⟩ := BRL.one hb
      cases b1.int
      obtain ⟨hn, rfl⟩ := guard_some (c := -1000000 ≤ n ∧ n ≤ 1000000) hw
      exact ⟨n, rfl, Int.le_trans (by decide) hn.1, Int.lt_of_le_of_lt hn.2 (by decide), q _ H1 G1 e1 S1 wk_rng⟩
    | _ => cases hw
  · cases hl2
theorem pi_rng2 (g : Gd T Γ CX k X ctx XE) {tg : Expr} {a b : Expr} {ia ib : E} (ha : Ok X T B XE Γ a ia) (hb : Ok X T B XE Γ b ib) (hs : noStar a = true) (hs2 : noStar b = true) (hg : Gl X "range") : PI X tg (.Call (.Name "range" p) [a, b] [] pos) (iB T B XE Γ .rng [ia, ib]) := by
  refine wkI (pi_range2 (tg := tg) hg (g.blt _ (by decide)) (pa_as (pairedOpd (.cons ha (.cons hb .nil)))) (by rw [star_one hs, star_one hs2] <;> rfl) (star_one hs2 [])) fun σ H R q => ?_
  obtain ⟨G, ρ, S, p⟩ := q
  refine ⟨G, ρ, S, (Pst.lenA p).mono (fun as ρ1 q vs H1 G1 e1 S1 r1 => ?_) fun _ _ _ q => q⟩
  obtain ⟨hl, ds, xs, hf, hw, q⟩ := q
  have hb := r1.brl S1 hf
  have hl2 : ds.length = 2 := (fillD_len hf).trans hl
  rcases ds with _ | ⟨d1, _ | ⟨d2, _ | _⟩⟩
  · cases hl2
  · cases hl2
  · cases d1 with
    | int n =>
      cases d2 with
      | int m =>
        obtain ⟨v, w, rfl, b1, b2⟩ := BRL.two hb
        cases b1.int
        cases b2.int
        obtain ⟨hn, rfl⟩ := guard_some (c := (-1000000 ≤ n ∧ n ≤ 1000000) ∧ -1000000 ≤ m ∧ m ≤ 1000000) hw
        exact ⟨n, m, rfl, ⟨Int.le_trans (by decide) hn.1.1, Int.lt_of_le_of_lt hn.1.2 (by decide), Int.le_trans (by decide) hn.2.1, Int.lt_of_le_of_lt hn.2.2 (by decide)⟩, q _ H1 G1 e1 S1 wk_rng⟩
      | _ => cases hw
    | _ => cases hw
  · cases hl2

/-! ### enumerate -/
/-- the tuple at a, each item in a new pair -/
def IteT (K : PySem.W.Frag) (a : Addr) : It :=
  ⟨fun i H => ∃ (l : List V) (z : V), SqT K H a l ∧ l[i]? = some z, fun i H y H' => ∃ p z, y = .ref p ∧ H p = none ∧ H' = upd H p (.tup [.int (i : Nat), z]) ∧ ∀ l, SqT K H a l → l[i]? = some z, fun i H => ∃ l : List V, SqT K H a l ∧ l.length = i⟩
theorem enumT_turn {P : Program} {w : World} {K : PySem.W.Frag} {ts : List Expr} {kk : Nat} {tp : PySem.Pos} (a m q : Addr) :
    Turn P w K (.Tuple ts kk tp) (IteT K a) [m, q] m (fun i h => (∃ v, IsEnum h m q ((i : Nat) : Int) v) ∧ h.IsTupleIter q a i ∧ m ≠ q ∧ a ≠ q ∧ m ≠ a) where
  mem := List.mem_cons_self
  obj := fun i h ⟨⟨v, he⟩, ⟨o, ho, hc, hd⟩, _⟩ b hb => by
    rcases List.mem_cons.mp hb with z | z
    · subst z
      exact ⟨_, he, fun v z => nomatch z⟩
    · cases List.mem_singleton.mp z
      exact ⟨o, ho, fun v z => by rw [hd] at z; cases z⟩
  keep := fun i h h' ⟨⟨v, he⟩, ⟨o, ho, hc⟩, hne⟩ k => ⟨⟨v, k m List.mem_cons_self _ he⟩, ⟨o, k q (List.mem_cons_of_mem _ List.mem_cons_self) o ho, hc⟩, hne⟩
  item := by
    intro X e1 e2 e3 hcalm i pins s σ H E I hf st hg
    subst e1 e2 e3
    obtain ⟨⟨v, he⟩, hit, hmq, haq, hma⟩ := st
    obtain ⟨l, z, hl, hz⟩ := hg
    obtain ⟨us, rv, pt, hsz⟩ := I.tuple hl
    obtain ⟨u, hu, ru⟩ := rv.get hz
    have hm : m < s.heap.objs.size := Heap.lt_size he
    have hq : q < s.heap.objs.size := by
      obtain ⟨_, y, _⟩ := hit
      exact Heap.lt_size y
    have Dr := PySem.Draws.tuple (prog := X.prog) (w := X.w) (A := X.A.in1) (show X.A.in1.handled = none from I.ok.hd hcalm) q a haq us.toArray
    have hi : i < us.toArray.size := by
      obtain ⟨y, _⟩ := List.getElem?_eq_some_iff.mp hu
      simpa using y
    refine wpAny_pyNext_enum_itemD Dr he ⟨hit, show s.heap.IsTuple a us.toArray from pt⟩ hi hmq (fun y => (List.mem_cons.mp y).elim hmq fun y => hma (List.mem_singleton.mp y)) fun x h1 tk hx ho st1 hT hs1 hk => ?_
    have hxu : x = u := by
      have : us[i]? = some x := by simpa using hx
      rw [hu] at this
      exact (Option.some.inj this).symm
    subst hxu
    refine ⟨_, rfl, wpAny_letOwnedTupleGo_enum (s := { s with heap := h1, toks := tk + 1 }) ho fun h2 he2 sb => ?_⟩
    have hT2 : h2.get? s.heap.objs.size = some { cls := .type "tuple", data := .seq #[.int i tk, x] } := (sb.2 _ (Nat.ne_of_gt hm)).trans hT
    have new : ObjOk X.prog X.w (upd H s.heap.objs.size (.tup [.int (i : Nat), z])) h2 s.heap.objs.size (.tup [.int (i : Nat), z]) :=
      ⟨szl_le (show szl 2 = true by decide), [.int i tk, x], .cons ⟨_, rfl⟩ (.cons ru .nil), ⟨_, hT2, rfl, _, rfl⟩⟩
    have nm : ∀ b, b ∉ [m, q] → b ≠ m ∧ b ≠ q := fun b hb => ⟨fun y => hb (by rw [y]; exact List.mem_cons_self), fun y => hb (by rw [y]; exact List.mem_cons_of_mem _ List.mem_cons_self)⟩
    have J := I.turnedNew (t' := tk + 1) (ch := [m, q]) (fun b ob hb y => (sb.2 b (nm b hb).1).trans (hk b ob (nm b hb).1 (nm b hb).2 y)) hf (Nat.le_refl _) new
    have he3 : ((i + 1 : Nat) : Int) = (i : Int) + 1 := by omega
    refine ⟨.ref s.heap.objs.size, _, J, rfl, ⟨_, z, rfl, I.hok.fresh (Nat.le_refl _), rfl, fun l' hl' => by rw [I.tuple_inj hl' hl]; exact hz⟩, ⟨⟨x, by rw [he3]; exact he2⟩, ?_, hmq, haq, hma⟩, fun b hb => ?_⟩
    · obtain ⟨o, y1, y2⟩ := st1.1
      exact ⟨o, (sb.2 q hmq.symm).trans y1, y2⟩
    · have hlt : b < s.heap.objs.size := by
        rcases List.mem_cons.mp hb with y | y
        · rw [y]; exact hm
        · rw [List.mem_singleton.mp y]; exact hq
      rw [upd_ne (Nat.ne_of_lt hlt)]
      exact (hf b hb).1
  done := by
    intro X e1 e2 e3 hcalm i pins s σ H E I hf st hg
    subst e1 e2 e3
    obtain ⟨⟨v, he⟩, hit, hmq, haq, hma⟩ := st
    obtain ⟨l, hl, hle⟩ := hg
    obtain ⟨us, rv, pt, hsz⟩ := I.tuple hl
    have hlen := rv.length
    have hm : m < s.heap.objs.size := Heap.lt_size he
    have Dr := PySem.Draws.tuple (prog := X.prog) (w := X.w) (A := X.A.in1) (show X.A.in1.handled = none from I.ok.hd hcalm) q a haq us.toArray
    obtain ⟨f0, f1, f2, f3, f4, f5⟩ := hf q (List.mem_cons_of_mem _ List.mem_cons_self)
    have hi : us.toArray.size = i := by rw [List.size_toArray]; omega
    exact wpAny_pyNext_enum_endD Dr he (by rw [hi]; exact ⟨hit, show s.heap.IsTuple a us.toArray from pt⟩) fun h' eb => ⟨rfl, I.turned (t' := s.toks) (fun b o hb y => eb b o hb y) f0 f1 f3 f4 f5⟩
  self := fun A i s Q E st h => wpAny_pyIter_enum st.1.choose_spec h
theorem meets_enumT {v : Value} {o : Obj} {F : Heap → Prop} (B : Begins v o F) :
    Meets (Builtin.«enumerate.__new__» ⟨[.type "enumerate", v], []⟩) (fun _ R s => F s.heap ∧
      R (.ok (.ret (.ref (s.heap.push o).objs.size))) { s with heap := (s.heap.push o).push { cls := .type "enumerate", data := .fields #[.none, .bool false, .ref s.heap.objs.size, rawInt 0, .none, .none] } }) :=
  .of_wp fun prog w A R s h => by
    obtain ⟨hp, gg, d, tk, os⟩ := s
    obtain ⟨hF, h⟩ := h
    have hsub := sub_enumerate
    have begin1 : ∀ {A2 : Around} {E : Value → Shared → Prop} {Q : Value → Shared → Prop}, Q (.ref hp.objs.size) ⟨hp.push o, gg, d, tk, os⟩ → wpAny (model prog w) A2 (pyIter v) Q E ⟨hp, gg, d, tk, os⟩ :=
      fun y => B.iter prog w _ _ ⟨hp, gg, d, tk, os⟩ _ hF y
    wp_walk using begin1
    refine wpAny_stack_any fun st => wpAny_pure ?_
    split
    · rename_i cc _ _ _ _ _
      cases (cc == Value.type "enumerate") <;> (wp_walk using begin1; exact ⟨_, rfl, h⟩)
    · wp_walk using begin1
      exact ⟨_, rfl, h⟩
theorem enumT_begin {prog : Program} {w : World} {A : Around} {E : Value → Shared → Prop} {s : Shared} {v : Value} {o : Obj} {Fh : Heap → Prop} {Q : Value → Shared → Prop} (B : Begins v o Fh) (hF : Fh s.heap)
    (h : ∀ h', IsEnum h' (s.heap.objs.size + 1) s.heap.objs.size 0 .none → h'.get? s.heap.objs.size = some o → (∀ b u, s.heap.get? b = some u → h'.get? b = some u) → Q (.ref (s.heap.objs.size + 1)) { s with heap := h' }) :
    wpAny (model prog w) A (call (.type "enumerate") [v]) Q E s := by
  refine callType_new F.called_enumerate (by decide) (F.typeCall_enumerate_1 _) (F.newCall_enumerate_1 _) (fun ob => F.args_object_init_2 ob _) F.entry_enumerate_new (meets_enumT B) ⟨hF, ?_⟩
  have hz : (s.heap.push o).objs.size = s.heap.objs.size + 1 := Heap.size_push ..
  show _ ∧ _
  rw [hz]
  have he : IsEnum ((s.heap.push o).push { cls := .type "enumerate", data := .fields #[.none, .bool false, .ref s.heap.objs.size, rawInt 0, .none, .none] }) (s.heap.objs.size + 1) s.heap.objs.size 0 .none := by
    have y := Heap.get?_push_size (s.heap.push o) (o := { cls := .type "enumerate", data := .fields #[.none, .bool false, .ref s.heap.objs.size, rawInt 0, .none, .none] }) rfl
    rw [hz] at y
    exact y
  exact ⟨⟨_, he, rfl⟩, h _ he (Heap.get?_push_of_some _ (Heap.get?_push_size _ B.free)) fun b u y => Heap.get?_push_of_some _ (Heap.get?_push_of_some _ y)⟩

theorem pi_enumT {X : Cx} {e : Expr} {ta : TA} {p pos tp : PySem.Pos} {ts : List Expr} {kk : Nat} (hg : Gl X "enumerate") (hm : X.mg "enumerate" = none) (ha : PA X [e] ta) (hs : starEach [e] X.env = [(false, eval e X.env)]) :
    PI X (.Tuple ts kk tp) (.Call (.Name "enumerate" p) [e] [] pos) (fun σ H R => ta σ H fun vs H1 => ∃ a l, vs = [.ref a] ∧ SqT X.K H1 a l ∧ R (IteT X.K a) H1) := by
  refine ⟨fun pins s σ H R I h => ?_⟩
  refine Call_ (ld_blt I hg hm boot_enumerate (PyProof.Rows.callWith_type1 (thn (ha.run pos pins s σ H _ I h) fun us s1 ⟨vs, H1, I1, r1, a, l, ex, hl, q⟩ => ?_) hs rfl))
  subst ex
  obtain ⟨u, rfl, rr⟩ := Vals.one r1
  cases rr
  obtain ⟨its, rv, pt, hz⟩ := I1.tuple hl
  have hal : a < s1.heap.objs.size := by
    obtain ⟨o, ho, _⟩ := pt
    exact Heap.lt_size ho
  refine enumT_begin (begins_tuple a its.toArray) (show s1.heap.IsTuple a its.toArray from pt) fun h' he hi hk => wpAny_pyIter_enum he ?_
  have I2 : Inv X pins σ H1 { s1 with heap := h' } := I1.kept (t' := s1.toks) hk
  refine ⟨s1.heap.objs.size + 1, [s1.heap.objs.size + 1, s1.heap.objs.size], _, _, H1, rfl, I2, enumT_turn a (s1.heap.objs.size + 1) s1.heap.objs.size, ⟨⟨.none, he⟩, ⟨_, hi, rfl, rfl⟩, Nat.succ_ne_self _, Nat.ne_of_lt hal, Nat.ne_of_gt (Nat.lt_succ_of_lt hal)⟩, fun b hb => ?_, q⟩
  have hle : s1.heap.objs.size ≤ b := by
    rcases List.mem_cons.mp hb with y | y
    · rw [y]; exact Nat.le_succ _
    · rw [List.mem_singleton.mp y]; exact Nat.le_refl _
  exact I1.fpOk hle (I1.hok.fresh hle)
theorem pi_enm (g : Gd T Γ CX k X ctx XE) {ts : List Expr} {kk : Nat} {tp : PySem.Pos} (h : Ok X T B XE Γ e ir) (hs : noStar e = true) (hg : Gl X "enumerate") : PI X (.Tuple ts kk tp) (.Call (.Name "enumerate" p) [e] [] pos) (iB T B XE Γ .enm [ir]) := by
  refine wkI (PI.or (pi_enum hg (g.blt _ (by decide)) (pa_as (pairedOpd (.cons h .nil))) (star_one hs [])) (pi_enumT hg (g.blt _ (by decide)) (pa_as (pairedOpd (.cons h .nil))) (star_one hs []))) fun σ H R q => ?_
  obtain ⟨G, ρ, S, p⟩ := q
  cases hA : evs Γ [ir] ρ with
  | bad => rw [hA] at p; exact p.elim
  | exc c l ρ1 =>
    rw [hA] at p
    exact .inl ⟨G, ρ, S, by show Pst (evs Γ [ir] ρ) _ _; rw [hA]; exact p⟩
  | ok as ρ1 =>
    have hlen : as.length = 1 := evs_len hA
    rw [hA] at p
    obtain ⟨ds, xs, hf, hw, q⟩ := p
    rcases as with _ | ⟨a, _ | _⟩
    · cases hlen
    · have go : ∀ {W : List V → Hp → Prop}, (∀ v H1 G1, Ex G G1 → Sta T B σ H1 G1 ρ1 → AgR T a v σ H1 G1 ρ1 → W [v] H1) → RdAs T B XE (fun ρ => evs Γ [ir] ρ) σ H W := fun {W} hW =>
        ⟨G, ρ, S, by show Pst (evs Γ [ir] ρ) _ _; rw [hA]; exact fun vs H1 G1 e1 S1 r1 => by obtain ⟨v, r, rfl, h1, h2⟩ := r1; rw [show r = [] from h2]; exact hW v H1 G1 e1 S1 h1⟩
      obtain ⟨s, r, hs, hr, rfl⟩ := fillD_cons hf
      rw [fillD_nil hr] at hw hf q
      cases hd : s.d with
      | lst l =>
        rw [hd] at hw q
        cases hw
        refine .inl (go fun v H1 G1 e1 S1 r1 => ?_)
        have hb := r1.br S1 hs
        rw [hd] at hb
        obtain ⟨pa, vs, rfl, h1, h2⟩ := hb.lst S1.ex
        refine ⟨pa, vs, rfl, SqL.of h1, q _ H1 G1 e1 S1 fun B' H2 G2 ρ2 σ2 S2 e2 hσ hh => ?_⟩
        obtain ⟨s2, hs2, hd2⟩ := held_one hh
        have hb2 := (r1.still (σ' := σ2) (H' := H2) (ρ' := ρ2) e2 hσ).br S2 hs2
        rw [(List.cons.inj hd2).1.symm] at hb2
        obtain ⟨pa', vs2, ep, h3, h4⟩ := hb2.lst S2.ex
        cases ep
        have hl := h4.length
        rw [enumD_len]
        refine ⟨fun i hi => ⟨vs2, vs2[i]'(by omega), SqL.of h3, List.getElem?_eq_getElem (by omega)⟩, ⟨vs2, SqL.of h3, by omega⟩, fun i v H' hi y => ?_⟩
        obtain ⟨t, x, rfl, hn, rfl, y2⟩ := y
        obtain ⟨d, h5, h6⟩ := h4.got (y2 vs2 (SqL.of h3))
        refine ⟨.tup [.int ((0 + i : Nat) : Int), d], upd G2 t (.tup [.int (i : Nat), x]), by rw [enumD_at, h5]; rfl, stp_new S2.ex hn, ex_new S2.ex, ?_⟩
        unfold Rep
        rw [Nat.zero_add]
        exact ⟨t, _, rfl, SqT.of upd_same, RepL.cons rep_int (RepL.cons (h6.mono (Ex.new (S2.ex.none hn))) RepL.nil)⟩
      | tup l =>
        rw [hd] at hw q
        cases hw
        refine .inr (go fun v H1 G1 e1 S1 r1 => ?_)
        have hb := r1.br S1 hs
        rw [hd] at hb
        obtain ⟨pa, vs, rfl, h1, h2⟩ := hb.tup
        refine ⟨pa, vs, rfl, by rw [g.hK]; exact S1.ex.sqT h1, q _ H1 G1 e1 S1 fun B' H2 G2 ρ2 σ2 S2 e2 hσ hh => ?_⟩
        have h3 : SqT X.K H2 pa vs := by rw [g.hK]; exact S2.ex.sqT (e2.sqT h1)
        have hl := h2.length
        rw [enumD_len]
        refine ⟨fun i hi => ⟨vs, vs[i]'(by omega), h3, List.getElem?_eq_getElem (by omega)⟩, ⟨vs, h3, by omega⟩, fun i v H' hi y => ?_⟩
        obtain ⟨t, x, rfl, hn, rfl, y2⟩ := y
        obtain ⟨d, h5, h6⟩ := h2.got (y2 vs h3)
        refine ⟨.tup [.int ((0 + i : Nat) : Int), d], upd G2 t (.tup [.int (i : Nat), x]), by rw [enumD_at, h5]; rfl, stp_new S2.ex hn, ex_new S2.ex, ?_⟩
        unfold Rep
        rw [Nat.zero_add]
        exact ⟨t, _, rfl, SqT.of upd_same, RepL.cons rep_int (RepL.cons ((h6.mono e2).mono (Ex.new (S2.ex.none hn))) RepL.nil)⟩
      | _ => rw [hd] at hw; cases hw
    · cases hlen
theorem zipD_at : ∀ (l m : List D) (i : Nat) {a b : D}, l[i]? = some a → m[i]? = some b → (zipD l m)[i]? = some (.tup [a, b])
  | x :: l, y :: m, 0, a, b, h1, h2 => by
    cases h1
    cases h2
    rfl
  | x :: l, y :: m, i + 1, a, b, h1, h2 => by
    unfold zipD
    rw [List.getElem?_cons_succ] at h1 h2 ⊢
    exact zipD_at l m i h1 h2
  | [], _, i, a, b, h1, _ => by simp at h1
  | _ :: _, [], i, a, b, _, h2 => by simp at h2
theorem zipD_len : ∀ (l m : List D), (zipD l m).length = min l.length m.length
  | x :: l, y :: m => by
    unfold zipD
    rw [List.length_cons, List.length_cons, List.length_cons, zipD_len l m]
    omega
  | [], m => by simp [zipD]
  | _ :: _, [] => by simp [zipD]
theorem held_two {a b : Ag} {ds : List D} (h : held ρ [a, b] ds = true) : ∃ s t, a.get ρ = some s ∧ b.get ρ = some t ∧ ds = [s.d, t.d] := by
  unfold held at h
  cases e : fillD ρ [a, b] with
  | none => rw [e] at h; cases h
  | some es =>
    rw [e] at h
    have := D.sameL_eq _ _ h
    subst this
    obtain ⟨s, r, h1, h2, rfl⟩ := fillD_cons e
    obtain ⟨t, r2, h3, h4, rfl⟩ := fillD_cons h2
    rw [fillD_nil h4]
    exact ⟨s, t, h1, h3, rfl⟩
/-- zip of two lists or of two tuples -/
theorem pi_zip0 (g : Gd T Γ CX k X ctx XE) {ts : List Expr} {kk : Nat} {tp : PySem.Pos} {e2 : Expr} {ir2 : E} (h : Ok X T B XE Γ e ir) (h' : Ok X T B XE Γ e2 ir2) (hs : noStar e = true) (hs2 : noStar e2 = true) (hg : Gl X "zip") : PI X (.Tuple ts kk tp) (.Call (.Name "zip" p) [e, e2] [] pos) (iB T B XE Γ .zip [ir, ir2]) := by
  refine wkI (RZ.pi_zipA hg (g.blt _ (by decide)) (pa_as (pairedOpd (.cons h (.cons h' .nil)))) (star_one hs [e2]) (star_all (show [e2].all noStar = true by rw [List.all_cons, hs2]; rfl)).2) fun σ H R q => ?_
  obtain ⟨G, ρ, S, p⟩ := q
  cases hA : evs Γ [ir, ir2] ρ with
  | bad => rw [hA] at p; exact p.elim
  | exc c l ρ1 =>
    rw [hA] at p
    exact ⟨G, ρ, S, by show Pst (evs Γ [ir, ir2] ρ) _ _; rw [hA]; exact p⟩
  | ok as ρ1 =>
    have hlen : as.length = 2 := evs_len hA
    rw [hA] at p
    obtain ⟨ds, xs, hf, hw, q⟩ := p
    rcases as with _ | ⟨a, _ | ⟨b, _ | _⟩⟩
    · cases hlen
    · cases hlen
    · refine ⟨G, ρ, S, by
        show Pst (evs Γ [ir, ir2] ρ) _ _
        rw [hA]
        intro vs H1 G1 e1 S1 r1
        obtain ⟨v, r, rfl, r1, w, r', rfl, r2, r3⟩ := r1
        rw [show r' = [] from r3]
        obtain ⟨s, rs, hs', hr, e0⟩ := fillD_cons hf
        obtain ⟨t, rt, ht, hr2, e00⟩ := fillD_cons hr
        have e000 := fillD_nil hr2
        subst e000 e00 e0
        have hb1 := r1.br S1 hs'
        have hb2 := r2.br S1 ht
        cases hd : s.d with
        | lst l =>
          cases hd2 : t.d with
          | lst m =>
            rw [hd, hd2] at hw q
            cases hw
            rw [hd] at hb1
            rw [hd2] at hb2
            obtain ⟨pa, vs, rfl, k1, k2⟩ := hb1.lst S1.ex
            obtain ⟨pb, ws, rfl, k3, k4⟩ := hb2.lst S1.ex
            refine ⟨pa, pb, vs, ws, rfl, .inl ⟨SqL.of k1, SqL.of k3, q _ H1 G1 e1 S1 fun B' H2 G2 ρ2 σ2 S2 e2 hσ hh => ?_⟩⟩
            obtain ⟨s2, t2, hs2, ht2, hdd⟩ := held_two hh
            have c1 := (r1.still (σ' := σ2) (H' := H2) (ρ' := ρ2) e2 fun i hi => hσ i (by cases a <;> cases b <;> simp_all [slots])).br S2 hs2
            have c2 := (r2.still (σ' := σ2) (H' := H2) (ρ' := ρ2) e2 fun i hi => hσ i (by cases a <;> cases b <;> simp_all [slots])).br S2 ht2
            rw [← (List.cons.inj hdd).1] at c1
            rw [← (List.cons.inj (List.cons.inj hdd).2).1] at c2
            obtain ⟨pa', vs2, ep, k5, k6⟩ := c1.lst S2.ex
            obtain ⟨pb', ws2, ep2, k7, k8⟩ := c2.lst S2.ex
            cases ep
            cases ep2
            have l1 := k6.length
            have l2 := k8.length
            rw [zipD_len]
            refine ⟨fun i hi => ⟨vs2, ws2, vs2[i]'(by omega), ws2[i]'(by omega), SqL.of k5, SqL.of k7, List.getElem?_eq_getElem (by omega), List.getElem?_eq_getElem (by omega)⟩, ⟨vs2, ws2, SqL.of k5, SqL.of k7, by omega⟩, fun i v H' hi y => ?_⟩
            obtain ⟨tt, x, z, rfl, hn, rfl, y2, y3⟩ := y
            obtain ⟨d, h5, h6⟩ := k6.got (y2 vs2 (SqL.of k5))
            obtain ⟨f, h7, h8⟩ := k8.got (y3 ws2 (SqL.of k7))
            refine ⟨.tup [d, f], upd G2 tt (.tup [x, z]), zipD_at _ _ _ h5 h7, stp_new S2.ex hn, ex_new S2.ex, ?_⟩
            unfold Rep
            exact ⟨tt, _, rfl, SqT.of upd_same, RepL.cons (h6.mono (Ex.new (S2.ex.none hn))) (RepL.cons (h8.mono (Ex.new (S2.ex.none hn))) RepL.nil)⟩
          | _ => rw [hd, hd2] at hw; cases hw
        | tup l =>
          cases hd2 : t.d with
          | tup m =>
            rw [hd, hd2] at hw q
            cases hw
            rw [hd] at hb1
            rw [hd2] at hb2
            obtain ⟨pa, vs, rfl, k1, k2⟩ := hb1.tup
            obtain ⟨pb, ws, rfl, k3, k4⟩ := hb2.tup
            refine ⟨pa, pb, vs, ws, rfl, .inr ⟨by rw [g.hK]; exact S1.ex.sqT k1, by rw [g.hK]; exact S1.ex.sqT k3, q _ H1 G1 e1 S1 fun B' H2 G2 ρ2 σ2 S2 e2 hσ hh => ?_⟩⟩
            have k5 : SqT X.K H2 pa vs := by rw [g.hK]; exact S2.ex.sqT (e2.sqT k1)
            have k7 : SqT X.K H2 pb ws := by rw [g.hK]; exact S2.ex.sqT (e2.sqT k3)
            have l1 := k2.length
            have l2 := k4.length
            rw [zipD_len]
            refine ⟨fun i hi => ⟨vs, ws, vs[i]'(by omega), ws[i]'(by omega), k5, k7, List.getElem?_eq_getElem (by omega), List.getElem?_eq_getElem (by omega)⟩, ⟨vs, ws, k5, k7, by omega⟩, fun i v H' hi y => ?_⟩
            obtain ⟨tt, x, z, rfl, hn, rfl, y2, y3⟩ := y
            obtain ⟨d, h5, h6⟩ := k2.got (y2 vs k5)
            obtain ⟨f, h7, h8⟩ := k4.got (y3 ws k7)
            refine ⟨.tup [d, f], upd G2 tt (.tup [x, z]), zipD_at _ _ _ h5 h7, stp_new S2.ex hn, ex_new S2.ex, ?_⟩
            unfold Rep
            exact ⟨tt, _, rfl, SqT.of upd_same, RepL.cons ((h6.mono e2).mono (Ex.new (S2.ex.none hn))) (RepL.cons ((h8.mono e2).mono (Ex.new (S2.ex.none hn))) RepL.nil)⟩
          | _ => rw [hd, hd2] at hw; cases hw
        | _ => rw [hd] at hw; cases hw⟩
    · cases hlen
end
end Pf
end
section
set_option Elab.async false
set_option linter.all false
set_option maxRecDepth 100000
set_option maxHeartbeats 1000000
/-! Rf13: comprehensions. -/
namespace Pf
open PySem PySem.Spec PyProof.Rows L2
theorem wipeR_len (ρ : Rho) : ∀ own : List Nat, (wipeR ρ own).length = ρ.length
  | [] => rfl
  | i :: is => by
    unfold wipeR
    rw [List.length_set, wipeR_len ρ is]
theorem wipeR_some {ρ : Rho} : ∀ {own : List Nat} {i : Nat} {s : Sl}, (wipeR ρ own)[i]? = some (some s) → ρ[i]? = some (some s) ∧ i ∉ own
  | [], i, s, h => ⟨h, List.not_mem_nil⟩
  | j :: own, i, s, h => by
    unfold wipeR at h
    by_cases z : i = j
    · subst z
      cases get_set_eq h
    · rw [get_set_ne z] at h
      obtain ⟨h1, h2⟩ := wipeR_some h
      exact ⟨h1, fun y => (List.mem_cons.mp y).elim z h2⟩
theorem wipe_in {σ : L2.St} : ∀ {own : List Nat} {i : Nat}, i ∈ own → i < σ.length → (wipe σ own)[i]? = some none
  | j :: own, i, h, hl => by
    unfold wipe
    by_cases z : i = j
    · subst z
      rw [List.getElem?_set_self (by rw [wipe_length]; exact hl)]
    · rw [get_set_ne z]
      exact wipe_in ((List.mem_cons.mp h).resolve_left z) hl
theorem wipe_same {σ σ2 : L2.St} {own ns : List Nat} (h : Same ns (wipe σ own) σ2) (hn : ∀ i ∈ ns, i ∈ own) : wipe σ2 own = wipe σ own ∧ ∀ i, i ∉ own → σ2[i]? = σ[i]? := by
  have hl : σ2.length = σ.length := by rw [h.1, wipe_length]
  have out : ∀ i, i ∉ own → σ2[i]? = σ[i]? := fun i hi => by rw [h.2 i fun z => hi (hn i z), wipe_out hi]
  refine ⟨List.ext_getElem? fun i => ?_, out⟩
  by_cases hi : i ∈ own
  · by_cases hl2 : i < σ.length
    · rw [wipe_in hi hl2, wipe_in hi (by omega)]
    · rw [List.getElem?_eq_none (by rw [wipe_length]; omega), List.getElem?_eq_none (by rw [wipe_length]; omega)]
  · rw [wipe_out hi, wipe_out hi, out i hi]
theorem restore_len (ρ₀ ρ : Rho) : ∀ own : List Nat, (restore ρ₀ ρ own).length = ρ.length
  | [] => rfl
  | i :: is => by
    unfold restore
    rw [List.length_set, restore_len ρ₀ ρ is]
theorem restore_some {ρ₀ ρ : Rho} : ∀ {own : List Nat} {i : Nat} {s : Sl}, (restore ρ₀ ρ own)[i]? = some (some s) → (i ∉ own ∧ ρ[i]? = some (some s)) ∨ (i ∈ own ∧ ∃ b d, s = .val b d ∧ ρ₀[i]? = some (some s))
  | [], i, s, h => .inl ⟨List.not_mem_nil, h⟩
  | j :: own, i, s, h => by
    unfold restore at h
    by_cases z : i = j
    · subst z
      have e := get_set_eq h
      refine .inr ⟨List.mem_cons_self, ?_⟩
      cases e1 : slot ρ₀ i with
      | none => rw [e1] at e; cases e
      | some t =>
        rw [e1] at e
        cases t with
        | val b d => cases e; exact ⟨b, d, rfl, slot_some e1⟩
        | cel b d => cases e
    · rw [get_set_ne z] at h
      rcases restore_some h with ⟨h1, h2⟩ | ⟨h1, h2⟩
      · exact .inl ⟨fun y => (List.mem_cons.mp y).elim z h1, h2⟩
      · exact .inr ⟨List.mem_cons_of_mem _ h1, h2⟩
section
variable {T : Tab} {B : Base} {σ σ2 : L2.St} {H H' G G' : Hp} {ρ ρ' ρ2 : Rho}
/-- the base moved to here -/
def Base.at (B : Base) (σ : L2.St) (H G : Hp) (ρ : Rho) : Base := ⟨H, G, fun p => ∃ (i : Nat) (b : Bool) (d : D), ρ[i]? = some (some (Sl.cel b d)) ∧ σ[i]? = some (some (V.ref p)), B.vs, fun p => ∃ (i : Nat) (d : D), ρ[i]? = some (some (Sl.cel false d)) ∧ σ[i]? = some (some (V.ref p))⟩
theorem Sta.rebase (S : Sta T B σ H G ρ) : Sta T (B.at σ H G ρ) σ H G ρ where
  ex := S.ex
  ln := S.ln
  st := Stp.refl
  vl := S.vl
  cl := fun i b d h => by
    obtain ⟨p, h1, h2, _⟩ := S.cl i b d h
    exact ⟨p, h1, h2, .inl ⟨i, b, d, h, h1⟩⟩
  dj := S.dj
  bo := S.bo
  nw := fun i d p h q => .inl ⟨i, d, h, q⟩
theorem Sta.unbase (S : Sta T B σ H G ρ) (S2 : Sta T (B.at σ H G ρ) σ2 H' G' ρ') : Sta T B σ2 H' G' ρ' := by
  have hc : ∀ p, (B.at σ H G ρ).cs p → B.cs p ∨ B.H p = none := fun p ⟨i, b, d, h1, h2⟩ => by
    obtain ⟨p', h3, _, h4⟩ := S.cl i b d h1
    rw [h2] at h3
    cases h3
    exact h4
  exact ⟨S2.ex, S2.ln, S.st.then S2.st hc, S2.vl, fun i b d h => by
    obtain ⟨p, h1, h2, h3⟩ := S2.cl i b d h
    exact ⟨p, h1, h2, h3.elim (hc p) fun z => .inr (S.baseNone z)⟩, S2.dj, S2.bo, fun i d p h q => (S2.nw i d p h q).elim (fun ⟨j, d', h1, h2⟩ => S.nw j d' p h1 h2) fun z => .inr (S.baseNone z)⟩
theorem Sta.wipe (S : Sta T B σ H G ρ) (own : List Nat) : Sta T B (L2.wipe σ own) H G (wipeR ρ own) :=
  S.drop (by rw [wipeR_len, wipe_length]; exact S.ln) fun i s h => by
    obtain ⟨h1, h2⟩ := wipeR_some h
    exact ⟨h1, wipe_out h2⟩
theorem Sta.restore (S0 : Sta T B σ H G ρ) (S : Sta T B σ2 H' G' ρ') (e : Ex G G') {own : List Nat} (hl : σ2.length = σ.length) (ho : ∀ i, i ∉ own → σ2[i]? = σ[i]?) : Sta T B σ H' G' (restore ρ ρ' own) where
  ex := S.ex
  ln := by rw [restore_len, S.ln, hl]
  st := S.st
  vl := fun i b d h => by
    rcases restore_some h with ⟨h1, h2⟩ | ⟨h1, b', d', h2, h3⟩
    · rw [← ho i h1]
      exact S.vl i b d h2
    · cases h2
      obtain ⟨v, h4, h5⟩ := S0.vl i b d h3
      exact ⟨v, h4, h5.mono e⟩
  cl := fun i b d h => by
    rcases restore_some h with ⟨h1, h2⟩ | ⟨h1, b', d', h2, h3⟩
    · rw [← ho i h1]
      exact S.cl i b d h2
    · cases h2
  dj := fun i j b b' d d' p h h' q q' => by
    rcases restore_some h with ⟨h1, h2⟩ | ⟨h1, _, _, h2, _⟩
    · rcases restore_some h' with ⟨h3, h4⟩ | ⟨h3, _, _, h4, _⟩
      · rw [← ho i h1] at q
        rw [← ho j h3] at q'
        exact S.dj i j b b' d d' p h2 h4 q q'
      · cases h4
    · cases h2
  bo := fun i s h k => by
    rcases restore_some h with ⟨h1, h2⟩ | ⟨h1, b', d', h2, h3⟩
    · rw [← ho i h1]
      exact S.bo i s h2 k
    · exact S0.bo i s h3 k
  nw := fun i d p h q => by
    rcases restore_some h with ⟨h1, h2⟩ | ⟨h1, b', d', h2, h3⟩
    · rw [← ho i h1] at q
      exact S.nw i d p h2 q
    · cases h2
/-- an object of no slot changes -/
theorem Sta.upd {p : Addr} {o : HO} (S : Sta T B σ H G ρ) (hp : H p ≠ none) (hg : G p = none) (n : ∀ (i : Nat) b d, ρ[i]? = some (some (Sl.cel b d)) → σ[i]? ≠ some (some (V.ref p))) (hb : B.cs p ∨ B.H p = none) : Sta T B σ (L2.upd H p o) G ρ where
  ex := fun a u h => by
    have : a ≠ p := fun z => by rw [z, hg] at h; cases h
    rw [upd_ne this]
    exact S.ex a u h
  ln := S.ln
  st := ⟨S.st.g, fun a u h c => by
    have : a ≠ p := fun z => by
      subst z
      rcases hb with hb | hb
      · exact c hb
      · rw [h] at hb; cases hb
    rw [upd_ne this]
    exact S.st.k a u h c, S.st.n, fun a h => by
    by_cases z : a = p
    · rw [z, upd_same]
      exact fun y => nomatch y
    · rw [upd_ne z]
      exact S.st.t a h⟩
  vl := S.vl
  cl := fun i b d h => by
    obtain ⟨q, h1, h2, h3⟩ := S.cl i b d h
    have : q ≠ p := fun z => n i b d h (by rw [← z]; exact h1)
    exact ⟨q, h1, h2.move (Ex.refl G) (fun u y => by rw [upd_ne this]; exact y) h2.free, h3⟩
  dj := S.dj
  bo := S.bo
  nw := S.nw
end
abbrev XN : XK := fun _ _ _ => False
section
variable {X : Cx} {T : Tab} {B : Base} {XE : XK} {Γ : Ga} {CX : CXT} {k : Nat} {ctx : Ctx} {e : Expr} {es : List Expr} {pos p p2 : PySem.Pos} {ir ia ie : E} {irs : List E} {tg : Tg} {σ : L2.St} {H G : Hp} {ρ ρ' : Rho}
def Ctx.inner (c : Ctx) (scope : Scope) : Ctx := ⟨c.N, relS scope c.sc, true⟩
theorem Gd.blk (g : Gd T Γ CX k X ctx XE) (s : Shared) (H : Hp) (scope : Scope) (cl : List (Str × Addr)) (C : Addr) (fp : List Addr) (hk : scope.kind = .function) : Gd T Γ CX k (X.blk s H scope (compEnvC scope cl C X.env) fp) (ctx.inner scope) XN where
  nN := g.nN
  nd := g.nd
  sc := by
    show relabel scope X.env = relS scope ctx.sc
    rw [← g.sc]
    rfl
  kd := hk
  calm := g.calm
  hK := g.hK
  room := g.room
  fn := fun h => by cases h
  fl := g.fl
  cls := g.cls
  noat := g.noat
  fnd := g.fnd
  own := g.own
  isi := g.isi
  isd := g.isd
  glo := g.glo
  blt := g.blt
  cal := g.cal
  met := g.met
  cxF := g.cxF
  ps := fun pins σ H s e s' I h => g.cxF _ _ _ _ _ h
  po := PassesOwn.never
/-- the element, the tests: whatever the base -/
def tAny (t : Base → TE) : TE := fun σ H Q => ∃ B, t B σ H Q
def tAnyT (t : Base → TT) : TT := fun σ H Q => ∃ B, t B σ H Q
theorem pe_any {t : Base → TE} (h : ∀ B, PE X e (t B)) : PE X e (tAny t) := ⟨fun pins s σ H Q I ⟨B, q⟩ => (h B).run pins s σ H Q I q⟩
theorem pts_any {t : Base → TT} (h : ∀ B, PTs X es (t B)) : PTs X es (tAnyT t) := ⟨fun pins s σ H Q I ⟨B, q⟩ => (h B).run pins s σ H Q I q⟩
theorem wkTs {t t' : TT} (h : PTs X es t) (k : ∀ σ H Q, t' σ H Q → t σ H Q) : PTs X es t' := ⟨fun pins s σ H Q I q => h.run pins s σ H Q I (k σ H Q q)⟩
theorem pts_of (h : Paired (fun e ir => Ok X T B XE Γ e ir) es irs) (hl : es.length ≤ 1) : PTs X es (RdT T B XE fun ρ => evAnd Γ irs true ρ) := by
  cases h with
  | nil =>
    exact wkTs pts_nil fun σ H Q q => by
      obtain ⟨G, ρ, S, p⟩ := q
      unfold evAnd at p
      exact p true H G (Ex.refl G) S rfl
  | cons h t =>
    cases t with
    | nil =>
      exact wkTs (pts_one h.pt) fun σ H Q q => by
        obtain ⟨G, ρ, S, p⟩ := q
        simp only [evAnd] at p
        refine ⟨G, ρ, S, p.bnd.mono (fun r ρ1 q v H1 G1 e1 S1 r1 => ?_) fun _ _ _ q => q⟩
        have r1 : r.2 = .bl v := r1
        rw [r1] at q
        cases v
        · exact q false H1 G1 e1 S1 rfl
        · exact q true H1 G1 e1 S1 rfl
    | cons _ _ => simp at hl
theorem fold_no {env : Env} (h : (match e with | .Set .. => false | _ => true) = true) : ∀ x, foldedSetIterable e env x = pure x := fun x => by
  unfold foldedSetIterable
  cases e <;> first | rfl | cases h
theorem turns_exc {hd : Rho → Bool} {f : D → Rho → Out (Option D)} : ∀ {xs : List D} {ρ ρ' : Rho} {c : Nat} {l : List D}, turns hd f xs ρ = .exc c l ρ' → False
  | [], ρ, ρ', c, l, h => by
    unfold turns at h
    cases z : hd ρ <;> (rw [z] at h; cases h)
  | x :: xs, ρ, ρ', c, l, h => by
    unfold turns at h
    cases z : hd ρ with
    | false => rw [z] at h; cases h
    | true =>
      rw [z] at h
      cases e : f x ρ with
      | ok r ρ1 =>
        cases r with
        | none =>
          simp only [e] at h
          exact turns_exc h
        | some y =>
          simp only [e] at h
          cases e2 : turns hd f xs ρ1 with
          | ok ys ρ2 => rw [e2] at h; cases h
          | exc c2 l2 ρ2 => exact turns_exc e2
          | bad => rw [e2] at h; cases h
      | exc _ _ _ => simp only [e] at h; cases h
      | bad => simp only [e] at h; cases h
/-- what a comprehension's loop carries -/
def LcP (T : Tab) (B : Base) (XE : XK) (σ : L2.St) (G1 : Hp) (Dd : Addr) (Q : VK) (hd : Rho → Bool) (f : D → Rho → Out (Option D)) (xs : List D) (i : Nat) (H : Hp) : Prop :=
  ∃ G ρ accD acc, Ex G1 G ∧ Sta T B σ H G ρ ∧ H Dd = some (.lst acc) ∧ G Dd = none ∧ NoSl σ ρ Dd ∧ RepL T G accD acc ∧ accD.length ≤ i ∧
    Pst (turns hd f (xs.drop i) ρ) (fun ys ρ' => okE T B (rR T B) σ G Q (true, .lst (accD ++ ys)) ρ') (fun _ _ _ => False)
theorem walkS_some {kk : Ik} {ds xs : List D} (h : walkS kk ds = some xs) : walk kk ds = some xs ∧ xs.length ≤ 1000000 := by
  unfold walkS at h
  cases e : walk kk ds with
  | none => rw [e] at h; cases h
  | some ys =>
    rw [e] at h
    obtain ⟨h1, rfl⟩ := guard_some (c := szl ys.length = true) h
    exact ⟨rfl, of_decide_eq_true h1⟩
/-- a list comprehension's turn by data -/
def lcF (Γ : Ga) (own : List Nat) (tg : Tg) (irs : List E) (ie : E) : D → Rho → Out (Option D) := fun x ρ2 => match bind1 tg x (wipeR ρ2 own) with
  | some ρ3 => (evAnd Γ irs true ρ3).bnd fun r ρ4 => (match r.2 with
    | .bl true => (ev Γ ie false ρ4).bnd fun y ρ5 => .ok (some y.2) (restore ρ2 ρ5 own)
    | .bl false => .ok none (restore ρ2 ρ4 own)
    | _ => .bad)
  | none => .bad
theorem lc_imp {kk : Ik} {src : List E} {own : List Nat} (hn : ∀ i ∈ tg.names, i ∈ own) (σ : L2.St) (H : Hp) (Q : VK) (q : RdE T B XE (fun ρ => ev Γ (.comp own tg kk src irs ie) false ρ) σ H Q) :
    tLc (iB T B XE Γ kk src) (gB T tg) (tAnyT fun B => RdT T B XN fun ρ => evAnd Γ irs true ρ) (tAny fun B => RdV T B XN fun ρ => ev Γ ie false ρ) own σ H Q := by
  obtain ⟨G, ρ, S, p⟩ := q
  simp only [ev, tr] at p
  refine ⟨G, ρ, S, Pst.mono (Pst.bnd p) (fun as ρ1 q => ?_) fun _ _ _ q => q⟩
  cases hf : fillD ρ1 as with
  | none => rw [hf] at q; exact q.elim
  | some ds =>
  rw [hf] at q
  cases hw : walkS kk ds with
  | none => simp only [hw] at q; exact q.elim
  | some xs =>
  simp only [hw] at q
  obtain ⟨hw1, hx⟩ := walkS_some hw
  have hsz : xs.length < sizeLine := Nat.lt_of_le_of_lt hx (by rw [sizeLine_eq]; decide)
  refine ⟨ds, xs, rfl, hw1, fun J H1 G1 e1 S1 wk Dd hD => ?_⟩
  have q : Pst ((turns (fun ρ => held ρ as ds) (lcF Γ own tg irs ie) xs ρ1).bnd fun ys ρ2 => .ok (true, .lst ys) ρ2) (okE T B (rR T B) σ G Q) (exE T B XE σ G) := q
  have hG1 : G1 Dd = none := S1.ex.none hD
  have hB : B.H Dd = none := S1.baseNone hD
  refine ⟨fun i m H => m = xs.length - i ∧ i ≤ xs.length ∧ LcP T B XE σ G1 Dd Q (fun ρ => held ρ as ds) (lcF Γ own tg irs ie) xs i H, ⟨xs.length, by simp, Nat.zero_le _, ?_⟩, ?_⟩
  · refine ⟨G1, ρ1, [], [], Ex.refl G1, S1.step (ex_cell S1.ex hD) (stp_cell S1.ex hD), upd_same, hG1, S1.nosl hD, RepL.nil, Nat.zero_le _, ?_⟩
    have q2 := q.bnd
    rw [List.drop_zero]
    cases ht : turns (fun ρ => held ρ as ds) (lcF Γ own tg irs ie) xs ρ1 with
    | ok ys ρ2 =>
      rw [ht] at q2
      exact fun v H' G' e' => q2 v H' G' (e1.trans e')
    | exc c l ρ2 => exact (turns_exc ht).elim
    | bad => rw [ht] at q2; exact q2
  · rintro i m H2 ⟨rfl, hi, G2, ρ2, accD, acc, e2, S2, hH, hG, hN, hR, hlen, hP⟩
    by_cases hlt : i < xs.length
    · obtain ⟨x, hxi⟩ : ∃ x, xs[i]? = some x := ⟨_, List.getElem?_eq_getElem hlt⟩
      have hdrop : xs.drop i = x :: xs.drop (i + 1) := by
        rw [List.drop_eq_getElem_cons hlt]
        congr 1
        rw [List.getElem?_eq_getElem hlt] at hxi
        exact Option.some.inj hxi
      rw [hdrop] at hP
      unfold turns at hP
      cases hh : held ρ2 as ds with
      | false => rw [hh] at hP; exact (show False from hP).elim
      | true =>
      rw [hh] at hP
      obtain ⟨w1, w2, w3⟩ := wk B H2 G2 ρ2 σ S2 e2 (fun _ _ => rfl) hh
      refine .inr ⟨w1 i hlt, fun H' => LcP T B XE σ G1 Dd Q (fun ρ => held ρ as ds) (lcF Γ own tg irs ie) xs (i + 1) H', fun H' h' => ⟨xs.length - (i + 1), by omega, rfl, hlt, h'⟩, fun v H3 y => ?_⟩
      obtain ⟨d, G3, hd, t3, e3, r3⟩ := w3 i v H3 hlt y
      rw [hxi] at hd
      cases hd
      have hP : Pst (match lcF Γ own tg irs ie x ρ2 with
        | .ok (some y) ρ1 => (turns (fun ρ => held ρ as ds) (lcF Γ own tg irs ie) (xs.drop (i + 1)) ρ1).bnd fun ys ρ2 => .ok (y :: ys) ρ2
        | .ok none ρ1 => turns (fun ρ => held ρ as ds) (lcF Γ own tg irs ie) (xs.drop (i + 1)) ρ1
        | _ => .bad) (fun ys ρ' => okE T B (rR T B) σ G2 Q (true, .lst (accD ++ ys)) ρ') (fun _ _ _ => False) := hP
      have S3 := S2.step e3 t3
      have S3w := S3.wipe own
      have hH3 : H3 Dd = some (.lst acc) := t3.k _ _ hH fun z => z
      have hG3 : G3 Dd = none := t3.n _ hG (by rw [hH]; exact fun z => nomatch z) fun z => z
      have hNs : ¬ (B.at (L2.wipe σ own) H3 G3 (wipeR ρ2 own)).cs Dd := fun ⟨j, b, dd, h1, h2⟩ => by
        obtain ⟨h3, h4⟩ := wipeR_some h1
        rw [wipe_out h4] at h2
        exact hN j b dd h3 h2
      -- a later state's slots have no cell at Dd
      have noD : ∀ {σ2 : L2.St} {H4 G4 : Hp} {ρ4 : Rho}, Sta T (B.at (L2.wipe σ own) H3 G3 (wipeR ρ2 own)) σ2 H4 G4 ρ4 → ∀ (j : Nat) b dd, ρ4[j]? = some (some (Sl.cel b dd)) → σ2[j]? ≠ some (some (V.ref Dd)) := fun {σ2 H4 G4 ρ4} S4 j b dd h1 h2 => by
        obtain ⟨q, h3, _, h5⟩ := S4.cl j b dd h1
        rw [h2] at h3
        cases h3
        rcases h5 with h5 | h5
        · exact hNs h5
        · rw [show (B.at (L2.wipe σ own) H3 G3 (wipeR ρ2 own)).H Dd = H3 Dd from rfl, hH3] at h5
          cases h5
      have noR : ∀ {σ2 : L2.St} {ρ4 : Rho}, (∀ (j : Nat) b dd, ρ4[j]? = some (some (Sl.cel b dd)) → σ2[j]? ≠ some (some (V.ref Dd))) → (∀ j, j ∉ own → σ2[j]? = σ[j]?) → NoSl σ (restore ρ2 ρ4 own) Dd := fun {σ2 ρ4} h ho j b dd h1 h2 => by
        rcases restore_some h1 with ⟨h3, h4⟩ | ⟨_, _, _, h4, _⟩
        · rw [← ho j h3] at h2
          exact h j b dd h4 h2
        · cases h4
      cases hb : bind1 tg x (wipeR ρ2 own) with
      | none => simp only [lcF, hb] at hP; exact hP.elim
      | some ρ3 =>
      simp only [lcF, hb] at hP
      refine ⟨_, G3, wipeR ρ2 own, x, ρ3, S3w.rebase, r3, hb, fun σ2 Sb sm => ?_⟩
      obtain ⟨hwp, hout⟩ := wipe_same sm hn
      have hl2 : σ2.length = σ.length := by rw [sm.1, wipe_length]
      refine ⟨hwp, _, G3, ρ3, Sb, ?_⟩
      cases ha : evAnd Γ irs true ρ3 with
      | bad => rw [ha] at hP; exact hP.elim
      | exc c l ρ4 => rw [ha] at hP; exact hP.elim
      | ok r ρ4 =>
      rw [ha] at hP
      show Pst (evAnd Γ irs true ρ3) _ _
      rw [ha]
      intro bb H4 G4 e4 S4 r4
      have r4 : r.2 = .bl bb := r4
      simp only [Out.bnd, r4] at hP
      cases bb with
      | false =>
        rw [if_neg Bool.false_ne_true]
        have hP : Pst (turns (fun ρ => held ρ as ds) (lcF Γ own tg irs ie) (xs.drop (i + 1)) (restore ρ2 ρ4 own)) (fun ys ρ' => okE T B (rR T B) σ G2 Q (true, .lst (accD ++ ys)) ρ') (fun _ _ _ => False) := hP
        have S5 := S3.restore (S3w.unbase S4) e4 hl2 hout
        refine ⟨G4, _, accD, acc, e2.trans (t3.g.trans e4), S5, S4.st.k _ _ hH3 hNs, S4.st.n _ hG3 (by show H3 Dd ≠ none; rw [hH3]; exact fun z => nomatch z) hNs, noR (noD S4) hout, hR.mono (t3.g.trans e4), Nat.le_succ_of_le hlen, hP.mono (fun ys ρ' q v H' G' e' => q v H' G' ((t3.g.trans e4).trans e')) fun _ _ _ q => q⟩
      | true =>
        rw [if_pos rfl]
        refine ⟨_, G4, ρ4, S4, ?_⟩
        cases he : ev Γ ie false ρ4 with
        | bad => rw [he] at hP; exact hP.elim
        | exc c l ρ5 => rw [he] at hP; exact hP.elim
        | ok y ρ5 =>
        rw [he] at hP
        show Pst (ev Γ ie false ρ4) _ _
        rw [he]
        intro yv H5 G5 e5 S5 r5
        have hP : Pst ((turns (fun ρ => held ρ as ds) (lcF Γ own tg irs ie) (xs.drop (i + 1)) (restore ρ2 ρ5 own)).bnd fun ys ρ2 => .ok (y.2 :: ys) ρ2) (fun ys ρ' => okE T B (rR T B) σ G2 Q (true, .lst (accD ++ ys)) ρ') (fun _ _ _ => False) := hP
        have hH5 : H5 Dd = some (.lst acc) := S5.st.k _ _ hH3 hNs
        have hG5 : G5 Dd = none := S5.st.n _ hG3 (by show H3 Dd ≠ none; rw [hH3]; exact fun z => nomatch z) hNs
        have hn5 : NoSl σ (restore ρ2 ρ5 own) Dd := noR (noD S5) hout
        have S6 := S3.restore (S3w.unbase S5) (e4.trans e5) hl2 hout
        have S7 := S6.upd (o := .lst (acc ++ [yv])) (by rw [hH5]; exact fun z => nomatch z) hG5 hn5 (.inr hB)
        have ha2 : acc.length = accD.length := hR.length
        refine ⟨acc, hH5, by omega, G5, _, accD ++ [y.2], acc ++ [yv], e2.trans (t3.g.trans (e4.trans e5)), S7, upd_same, hG5, hn5, (hR.mono (t3.g.trans (e4.trans e5))).append (RepL.cons r5 RepL.nil), by rw [List.length_append]; simp; omega, ?_⟩
        refine hP.bnd.mono (fun ys ρ' q v H' G' e' => ?_) fun _ _ _ q => q
        rw [List.append_assoc]
        exact q v H' G' ((t3.g.trans (e4.trans e5)).trans e')
    · have hi2 : i = xs.length := by omega
      subst hi2
      rw [List.drop_length] at hP
      unfold turns at hP
      cases hh : held ρ2 as ds with
      | false => rw [hh] at hP; exact (show False from hP).elim
      | true =>
      rw [hh] at hP
      obtain ⟨w1, w2, w3⟩ := wk B H2 G2 ρ2 σ S2 e2 (fun _ _ => rfl) hh
      refine .inl ⟨w2, ?_⟩
      have hP : okE T B (rR T B) σ G2 Q (true, .lst (accD ++ [])) ρ2 := hP
      rw [List.append_nil] at hP
      exact hP _ H2 G2 (Ex.refl G2) S2 ⟨Dd, rfl, ⟨hG, acc, hH, hR⟩, hB, hN⟩
/-! ### dict comprehensions -/
theorem repl_ok {K : Tab} {G : Hp} {k : Key} {d : D} {z : V} (hz : Rep K G d z) : ∀ {kvs : List (Key × V)} {ls : List D}, RepL K G ls (kvs.map (·.2)) → RepL K G (repl k d (kvs.map (·.1)) ls) ((kvs.map fun kv => if kv.1 = k then (kv.1, z) else kv).map (·.2))
  | [], [], _ => RepL.nil
  | [], _ :: _, h => by
    have := h.length
    simp at this
  | q :: kvs, [], h => by
    have := h.length
    simp at this
  | q :: kvs, e :: ls, h => by
    unfold RepL at h
    obtain ⟨v, r, h1, h2, h3⟩ := h
    rw [List.map_cons] at h1
    injection h1 with h4 h5
    subst h4 h5
    show RepL K G ((if q.1 = k then d else e) :: repl k d (kvs.map (·.1)) ls) ((if q.1 = k then (q.1, z) else q).2 :: (kvs.map fun kv => if kv.1 = k then (kv.1, z) else kv).map (·.2))
    by_cases hk : q.1 = k
    · rw [if_pos hk, if_pos hk]
      exact RepL.cons hz (repl_ok hz h3)
    · rw [if_neg hk, if_neg hk]
      exact RepL.cons h2 (repl_ok hz h3)
theorem map_keep {k : Key} {z : V} : ∀ kvs : List (Key × V), (kvs.map fun kv => if kv.1 = k then (kv.1, z) else kv).map (·.1) = kvs.map (·.1)
  | [] => rfl
  | q :: kvs => by
    show (if q.1 = k then (q.1, z) else q).1 :: _ = q.1 :: _
    rw [map_keep kvs]
    by_cases hk : q.1 = k
    · rw [if_pos hk]
    · rw [if_neg hk]
theorem stow_put {K : Tab} {G : Hp} {k : Key} {d : D} {z : V} {kvs : List (Key × V)} {ks : List Key} {ls : List D} (hk : kvs.map (·.1) = ks) (hl : RepL K G ls (kvs.map (·.2))) (hz : Rep K G d z) : (putK kvs k z).map (·.1) = (stow k d ks ls).1 ∧ RepL K G (stow k d ks ls).2 ((putK kvs k z).map (·.2)) := by
  subst hk
  have hin : (kvs.any fun kv => decide (kv.1 = k)) = ((kvs.map (·.1)).any fun j => decide (j = k)) := by
    rw [List.any_map]
    rfl
  unfold putK stow
  rw [← hin]
  by_cases h : (kvs.any fun kv => decide (kv.1 = k)) = true
  · rw [if_pos h, if_pos h]
    exact ⟨map_keep kvs, repl_ok hz hl⟩
  · rw [if_neg h, if_neg h]
    refine ⟨by rw [List.map_append]; rfl, ?_⟩
    rw [List.map_append]
    exact hl.append (RepL.cons hz RepL.nil)
theorem dturns_exc {hd : Rho → Bool} {f : D → Rho → Out (Option (Key × D))} : ∀ {xs : List D} {ks : List Key} {ls : List D} {ρ ρ' : Rho} {c : Nat} {l : List D}, dturns hd f xs ks ls ρ = .exc c l ρ' → False
  | [], ks, ls, ρ, ρ', c, l, h => by
    unfold dturns at h
    cases z : hd ρ <;> (rw [z] at h; cases h)
  | x :: xs, ks, ls, ρ, ρ', c, l, h => by
    unfold dturns at h
    cases z : hd ρ with
    | false => rw [z] at h; cases h
    | true =>
      rw [z] at h
      cases e : f x ρ with
      | ok r ρ1 =>
        cases r with
        | none =>
          simp only [e] at h
          exact dturns_exc h
        | some y =>
          simp only [e] at h
          exact dturns_exc h
      | exc _ _ _ => simp only [e] at h; cases h
      | bad => simp only [e] at h; cases h
theorem stow_len {k : Key} {d : D} {ks : List Key} {ls : List D} : (stow k d ks ls).1.length ≤ ks.length + 1 := by
  unfold stow
  by_cases h : (ks.any fun j => decide (j = k)) = true
  · rw [if_pos h]; exact Nat.le_succ _
  · rw [if_neg h]; simp
/-- what a dict comprehension's loop carries -/
def DcP (T : Tab) (B : Base) (XE : XK) (σ : L2.St) (G1 : Hp) (Dd : Addr) (Q : VK) (hd : Rho → Bool) (f : D → Rho → Out (Option (Key × D))) (xs : List D) (i : Nat) (H : Hp) : Prop :=
  ∃ G ρ ks ls kvs, Ex G1 G ∧ Sta T B σ H G ρ ∧ H Dd = some (.dK kvs) ∧ G Dd = none ∧ NoSl σ ρ Dd ∧ kvs.map (·.1) = ks ∧ RepL T G ls (kvs.map (·.2)) ∧ ks.length ≤ i ∧
    Pst (dturns hd f (xs.drop i) ks ls ρ) (fun d ρ' => okE T B (rR T B) σ G Q (true, d) ρ') (fun _ _ _ => False)
/-- a dict comprehension's turn by data -/
def dcF (Γ : Ga) (own : List Nat) (tg : Tg) (irs : List E) (ik ie : E) : D → Rho → Out (Option (Key × D)) := fun x ρ2 => match bind1 tg x (wipeR ρ2 own) with
  | some ρ3 => (evAnd Γ irs true ρ3).bnd fun r ρ4 => (match r.2 with
    | .bl true => (ev Γ ik false ρ4).bnd fun y ρ5 => (ev Γ ie false ρ5).bnd fun z ρ6 => (match y.2.key with
      | some j => .ok (some (j, z.2)) (restore ρ2 ρ6 own)
      | none => .bad)
    | .bl false => .ok none (restore ρ2 ρ4 own)
    | _ => .bad)
  | none => .bad
theorem key_rep {K : Tab} {G : Hp} {d : D} {j : Key} {v : V} (h : d.key = some j) (r : Rep K G d v) : v = kV j := by
  cases d with
  | int i => cases h; exact r.int
  | str s => cases h; exact r.str
  | _ => cases h
theorem dc_imp {kk : Ik} {src : List E} {own : List Nat} {ik : E} (hn : ∀ i ∈ tg.names, i ∈ own) (σ : L2.St) (H : Hp) (Q : VK) (q : RdE T B XE (fun ρ => ev Γ (.dcmp own tg kk src irs ik ie) false ρ) σ H Q) :
    tDc (iB T B XE Γ kk src) (gB T tg) (tAnyT fun B => RdT T B XN fun ρ => evAnd Γ irs true ρ) (tAny fun B => RdV T B XN fun ρ => ev Γ ik false ρ) (tAny fun B => RdV T B XN fun ρ => ev Γ ie false ρ) own σ H Q := by
  obtain ⟨G, ρ, S, p⟩ := q
  simp only [ev, tr] at p
  refine ⟨G, ρ, S, Pst.mono (Pst.bnd p) (fun as ρ1 q => ?_) fun _ _ _ q => q⟩
  cases hf : fillD ρ1 as with
  | none => rw [hf] at q; exact q.elim
  | some ds =>
  rw [hf] at q
  cases hw : walkS kk ds with
  | none => simp only [hw] at q; exact q.elim
  | some xs =>
  simp only [hw] at q
  obtain ⟨hw1, hx⟩ := walkS_some hw
  have hsz : xs.length < sizeLine := Nat.lt_of_le_of_lt hx (by rw [sizeLine_eq]; decide)
  refine ⟨ds, xs, rfl, hw1, fun J H1 G1 e1 S1 wk Dd hD => ?_⟩
  have q : Pst ((dturns (fun ρ => held ρ as ds) (dcF Γ own tg irs ik ie) xs [] [] ρ1).bnd fun d ρ2 => .ok (true, d) ρ2) (okE T B (rR T B) σ G Q) (exE T B XE σ G) := q
  have hG1 : G1 Dd = none := S1.ex.none hD
  have hB : B.H Dd = none := S1.baseNone hD
  refine ⟨fun i m H => m = xs.length - i ∧ i ≤ xs.length ∧ DcP T B XE σ G1 Dd Q (fun ρ => held ρ as ds) (dcF Γ own tg irs ik ie) xs i H, ⟨xs.length, by simp, Nat.zero_le _, ?_⟩, ?_⟩
  · refine ⟨G1, ρ1, [], [], [], Ex.refl G1, S1.step (ex_cell S1.ex hD) (stp_cell S1.ex hD), upd_same, hG1, S1.nosl hD, rfl, RepL.nil, Nat.zero_le _, ?_⟩
    have q2 := q.bnd
    rw [List.drop_zero]
    cases ht : dturns (fun ρ => held ρ as ds) (dcF Γ own tg irs ik ie) xs [] [] ρ1 with
    | ok ys ρ2 =>
      rw [ht] at q2
      exact fun v H' G' e' => q2 v H' G' (e1.trans e')
    | exc c l ρ2 => exact (dturns_exc ht).elim
    | bad => rw [ht] at q2; exact q2
  · rintro i m H2 ⟨rfl, hi, G2, ρ2, ks, ls, kvs, e2, S2, hH, hG, hN, hK, hR, hlen, hP⟩
    by_cases hlt : i < xs.length
    · obtain ⟨x, hxi⟩ : ∃ x, xs[i]? = some x := ⟨_, List.getElem?_eq_getElem hlt⟩
      have hdrop : xs.drop i = x :: xs.drop (i + 1) := by
        rw [List.drop_eq_getElem_cons hlt]
        congr 1
        rw [List.getElem?_eq_getElem hlt] at hxi
        exact Option.some.inj hxi
      rw [hdrop] at hP
      unfold dturns at hP
      cases hh : held ρ2 as ds with
      | false => rw [hh] at hP; exact (show False from hP).elim
      | true =>
      rw [hh] at hP
      obtain ⟨w1, w2, w3⟩ := wk B H2 G2 ρ2 σ S2 e2 (fun _ _ => rfl) hh
      refine .inr ⟨w1 i hlt, fun H' => DcP T B XE σ G1 Dd Q (fun ρ => held ρ as ds) (dcF Γ own tg irs ik ie) xs (i + 1) H', fun H' h' => ⟨xs.length - (i + 1), by omega, rfl, hlt, h'⟩, fun v H3 y => ?_⟩
      obtain ⟨d, G3, hd, t3, e3, r3⟩ := w3 i v H3 hlt y
      rw [hxi] at hd
      cases hd
      have hP : Pst (match dcF Γ own tg irs ik ie x ρ2 with
        | .ok (some (k, d)) ρ1 => let r := stow k d ks ls; dturns (fun ρ => held ρ as ds) (dcF Γ own tg irs ik ie) (xs.drop (i + 1)) r.1 r.2 ρ1
        | .ok none ρ1 => dturns (fun ρ => held ρ as ds) (dcF Γ own tg irs ik ie) (xs.drop (i + 1)) ks ls ρ1
        | _ => .bad) (fun d ρ' => okE T B (rR T B) σ G2 Q (true, d) ρ') (fun _ _ _ => False) := hP
      have S3 := S2.step e3 t3
      have S3w := S3.wipe own
      have hH3 : H3 Dd = some (.dK kvs) := t3.k _ _ hH fun z => z
      have hG3 : G3 Dd = none := t3.n _ hG (by rw [hH]; exact fun z => nomatch z) fun z => z
      have hNs : ¬ (B.at (L2.wipe σ own) H3 G3 (wipeR ρ2 own)).cs Dd := fun ⟨j, b, dd, h1, h2⟩ => by
        obtain ⟨h3, h4⟩ := wipeR_some h1
        rw [wipe_out h4] at h2
        exact hN j b dd h3 h2
      have noD : ∀ {σ2 : L2.St} {H4 G4 : Hp} {ρ4 : Rho}, Sta T (B.at (L2.wipe σ own) H3 G3 (wipeR ρ2 own)) σ2 H4 G4 ρ4 → ∀ (j : Nat) b dd, ρ4[j]? = some (some (Sl.cel b dd)) → σ2[j]? ≠ some (some (V.ref Dd)) := fun {σ2 H4 G4 ρ4} S4 j b dd h1 h2 => by
        obtain ⟨q, h3, _, h5⟩ := S4.cl j b dd h1
        rw [h2] at h3
        cases h3
        rcases h5 with h5 | h5
        · exact hNs h5
        · rw [show (B.at (L2.wipe σ own) H3 G3 (wipeR ρ2 own)).H Dd = H3 Dd from rfl, hH3] at h5
          cases h5
      have noR : ∀ {σ2 : L2.St} {ρ4 : Rho}, (∀ (j : Nat) b dd, ρ4[j]? = some (some (Sl.cel b dd)) → σ2[j]? ≠ some (some (V.ref Dd))) → (∀ j, j ∉ own → σ2[j]? = σ[j]?) → NoSl σ (restore ρ2 ρ4 own) Dd := fun {σ2 ρ4} h ho j b dd h1 h2 => by
        rcases restore_some h1 with ⟨h3, h4⟩ | ⟨_, _, _, h4, _⟩
        · rw [← ho j h3] at h2
          exact h j b dd h4 h2
        · cases h4
      cases hb : bind1 tg x (wipeR ρ2 own) with
      | none => simp only [dcF, hb] at hP; exact hP.elim
      | some ρ3 =>
      simp only [dcF, hb] at hP
      refine ⟨_, G3, wipeR ρ2 own, x, ρ3, S3w.rebase, r3, hb, fun σ2 Sb sm => ?_⟩
      obtain ⟨hwp, hout⟩ := wipe_same sm hn
      have hl2 : σ2.length = σ.length := by rw [sm.1, wipe_length]
      refine ⟨hwp, _, G3, ρ3, Sb, ?_⟩
      cases ha : evAnd Γ irs true ρ3 with
      | bad => rw [ha] at hP; exact hP.elim
      | exc c l ρ4 => rw [ha] at hP; exact hP.elim
      | ok r ρ4 =>
      rw [ha] at hP
      show Pst (evAnd Γ irs true ρ3) _ _
      rw [ha]
      intro bb H4 G4 e4 S4 r4
      have r4 : r.2 = .bl bb := r4
      simp only [Out.bnd, r4] at hP
      cases bb with
      | false =>
        rw [if_neg Bool.false_ne_true]
        have hP : Pst (dturns (fun ρ => held ρ as ds) (dcF Γ own tg irs ik ie) (xs.drop (i + 1)) ks ls (restore ρ2 ρ4 own)) (fun d ρ' => okE T B (rR T B) σ G2 Q (true, d) ρ') (fun _ _ _ => False) := hP
        have S5 := S3.restore (S3w.unbase S4) e4 hl2 hout
        refine ⟨G4, _, ks, ls, kvs, e2.trans (t3.g.trans e4), S5, S4.st.k _ _ hH3 hNs, S4.st.n _ hG3 (by show H3 Dd ≠ none; rw [hH3]; exact fun z => nomatch z) hNs, noR (noD S4) hout, hK, hR.mono (t3.g.trans e4), Nat.le_succ_of_le hlen, hP.mono (fun ys ρ' q v H' G' e' => q v H' G' ((t3.g.trans e4).trans e')) fun _ _ _ q => q⟩
      | true =>
        rw [if_pos rfl]
        refine ⟨_, G4, ρ4, S4, ?_⟩
        cases hk : ev Γ ik false ρ4 with
        | bad => rw [hk] at hP; exact hP.elim
        | exc c l ρ5 => rw [hk] at hP; exact hP.elim
        | ok y ρ5 =>
        rw [hk] at hP
        show Pst (ev Γ ik false ρ4) _ _
        rw [hk]
        intro yv H5 G5 e5 S5 r5
        simp only [Out.bnd] at hP
        refine ⟨_, G5, ρ5, S5, ?_⟩
        cases he : ev Γ ie false ρ5 with
        | bad => rw [he] at hP; exact hP.elim
        | exc c l ρ6 => rw [he] at hP; exact hP.elim
        | ok z ρ6 =>
        rw [he] at hP
        show Pst (ev Γ ie false ρ5) _ _
        rw [he]
        intro zv H6 G6 e6 S6 r6
        simp only [Out.bnd] at hP
        cases hkey : y.2.key with
        | none => simp only [hkey] at hP; exact hP.elim
        | some j =>
        simp only [hkey] at hP
        have hP : Pst (dturns (fun ρ => held ρ as ds) (dcF Γ own tg irs ik ie) (xs.drop (i + 1)) (stow j z.2 ks ls).1 (stow j z.2 ks ls).2 (restore ρ2 ρ6 own)) (fun d ρ' => okE T B (rR T B) σ G2 Q (true, d) ρ') (fun _ _ _ => False) := hP
        have hH6 : H6 Dd = some (.dK kvs) := S6.st.k _ _ hH3 hNs
        have hG6 : G6 Dd = none := S6.st.n _ hG3 (by show H3 Dd ≠ none; rw [hH3]; exact fun z => nomatch z) hNs
        have hn6 : NoSl σ (restore ρ2 ρ6 own) Dd := noR (noD S6) hout
        have S7 := S3.restore (S3w.unbase S6) (e4.trans (e5.trans e6)) hl2 hout
        have S8 := S7.upd (o := .dK (putK kvs j zv)) (by rw [hH6]; exact fun z => nomatch z) hG6 hn6 (.inr hB)
        have hkl : kvs.length = ks.length := by rw [← hK, List.length_map]
        have r6 : Rep T G6 z.2 zv := r6
        obtain ⟨p1, p2⟩ := stow_put (k := j) hK (hR.mono (t3.g.trans (e4.trans (e5.trans e6)))) r6
        refine ⟨kvs, j, key_rep hkey (show Rep T G5 y.2 yv from r5), hH6, by omega, G6, _, _, _, _, e2.trans (t3.g.trans (e4.trans (e5.trans e6))), S8, upd_same, hG6, hn6, p1, p2, Nat.le_trans stow_len (Nat.succ_le_succ hlen), ?_⟩
        exact hP.mono (fun ys ρ' q v H' G' e' => q v H' G' ((t3.g.trans (e4.trans (e5.trans e6))).trans e')) fun _ _ _ q => q
    · have hi2 : i = xs.length := by omega
      subst hi2
      rw [List.drop_length] at hP
      unfold dturns at hP
      cases hh : held ρ2 as ds with
      | false => rw [hh] at hP; exact (show False from hP).elim
      | true =>
      rw [hh] at hP
      obtain ⟨w1, w2, w3⟩ := wk B H2 G2 ρ2 σ S2 e2 (fun _ _ => rfl) hh
      refine .inl ⟨w2, ?_⟩
      have hP : okE T B (rR T B) σ G2 Q (true, .dic ks ls) ρ2 := hP
      exact hP _ H2 G2 (Ex.refl G2) S2 ⟨Dd, rfl, ⟨hG, kvs, hH, hK, hR⟩, hB, hN⟩

/-! ### dict displays -/
def flat2 : List (E × E) → List E
  | [] => []
  | (a, b) :: r => a :: b :: flat2 r
/-- keys and values, told -/
inductive KVr (T : Tab) (G : Hp) : List D → List (V × V) → Prop where
  | nil : KVr T G [] []
  | cons {k d : D} {x y : V} {ds : List D} {ps : List (V × V)} (hk : Rep T G k x) (hd : Rep T G d y) (r : KVr T G ds ps) : KVr T G (k :: d :: ds) ((x, y) :: ps)
theorem KVr.mono {G G' : Hp} (e : Ex G G') {ds : List D} {ps : List (V × V)} (h : KVr T G ds ps) : KVr T G' ds ps := by
  induction h with
  | nil => exact .nil
  | cons hk hd _ ih => exact .cons (hk.mono e) (hd.mono e) ih
theorem evv_one {a : E} {r : List E} {ρ ρ' : Rho} {ds : List D} (h : evv Γ (a :: r) ρ = .ok ds ρ') : ∃ x ρ1 l, ev Γ a false ρ = .ok x ρ1 ∧ evv Γ r ρ1 = .ok l ρ' ∧ ds = x.2 :: l := by
  unfold evv at h
  cases e1 : ev Γ a false ρ with
  | ok x ρ1 =>
    rw [e1] at h
    simp only [Out.bnd] at h
    cases e2 : evv Γ r ρ1 with
    | ok l ρ2 =>
      rw [e2] at h
      cases h
      exact ⟨x, ρ1, l, rfl, e2, rfl⟩
    | exc _ _ _ => rw [e2] at h; cases h
    | bad => rw [e2] at h; cases h
  | exc _ _ _ => rw [e1] at h; cases h
  | bad => rw [e1] at h; cases h
theorem disp_pairs {σ : L2.St} {B' : Base} {ρ' : Rho} {K : List (V × V) → Hp → Prop} : ∀ {prs : List (E × E)} {ds : List D} {H G : Hp} {ρ : Rho}, Sta T B' σ H G ρ → evv Γ (flat2 prs) ρ = .ok ds ρ' →
    (∀ ps H2 G2, Ex G G2 → Sta T B' σ H2 G2 ρ' → KVr T G2 ds ps → K ps H2) → tPairs (prs.map fun q => (tAny fun B => RdV T B XE (fun ρ => ev Γ q.1 false ρ), tAny fun B => RdV T B XE (fun ρ => ev Γ q.2 false ρ))) σ H K
  | [], ds, H, G, ρ, S, h, k => by
    unfold flat2 evv at h
    cases h
    exact k [] H G (Ex.refl G) S .nil
  | (a, b) :: r, ds, H, G, ρ, S, h, k => by
    unfold flat2 at h
    obtain ⟨x, ρ1, l, e1, h2, rfl⟩ := evv_one h
    obtain ⟨y, ρ2, l2, e2, h3, rfl⟩ := evv_one h2
    refine ⟨B', G, ρ, S, ?_⟩
    show Pst (ev Γ a false ρ) _ _
    rw [e1]
    intro v H1 G1 x1 S1 r1
    refine ⟨B', G1, ρ1, S1, ?_⟩
    show Pst (ev Γ b false ρ1) _ _
    rw [e2]
    intro w H2 G2 x2 S2 r2
    exact disp_pairs S2 h3 fun ps H3 G3 x3 S3 r3 => k ((v, w) :: ps) H3 G3 (x1.trans (x2.trans x3)) S3 (.cons (Rep.mono (x2.trans x3) r1) (Rep.mono x3 r2) r3)
theorem stowAll_put {G : Hp} {d : D} : ∀ {ds : List D} {ps : List (V × V)} {ks : List Key} {ls : List D} {kvs : List (Key × V)}, KVr T G ds ps → stowAll ds ks ls = some d → kvs.map (·.1) = ks → RepL T G ls (kvs.map (·.2)) →
    ∃ more : List (Key × V), ps = more.map (fun kv => (kV kv.1, kv.2)) ∧ ∃ ks' ls', d = .dic ks' ls' ∧ (mergeK kvs more).map (·.1) = ks' ∧ RepL T G ls' ((mergeK kvs more).map (·.2))
  | _, _, ks, ls, kvs, .nil, h, h1, h2 => by
    unfold stowAll at h
    cases h
    exact ⟨[], rfl, ks, ls, rfl, h1, h2⟩
  | _, _, ks, ls, kvs, .cons (k := k) (d := e) (x := x) (y := y) hk hd r, h, h1, h2 => by
    unfold stowAll at h
    cases hj : k.key with
    | none => rw [hj] at h; cases h
    | some j =>
      rw [hj] at h
      obtain ⟨p1, p2⟩ := stow_put (k := j) h1 h2 hd
      obtain ⟨more, e1, e2⟩ := stowAll_put (kvs := putK kvs j y) r h p1 p2
      refine ⟨(j, y) :: more, ?_, e2⟩
      rw [List.map_cons, ← e1, key_rep hj hk]
theorem KVr.len {G : Hp} {ds : List D} {ps : List (V × V)} (h : KVr T G ds ps) : ds.length = 2 * ps.length := by
  induction h with
  | nil => rfl
  | cons _ _ _ ih => rw [List.length_cons, List.length_cons, ih, List.length_cons]; omega
theorem evv_len : ∀ {irs : List E} {ρ ρ' : Rho} {ds : List D}, evv Γ irs ρ = .ok ds ρ' → ds.length = irs.length
  | [], _, _, _, h => by unfold evv at h; cases h; rfl
  | a :: r, _, _, _, h => by
    obtain ⟨x, ρ1, l, e1, h2, rfl⟩ := evv_one h
    rw [List.length_cons, List.length_cons, evv_len h2]
theorem flat2_len : ∀ prs : List (E × E), (flat2 prs).length = 2 * prs.length
  | [] => rfl
  | (a, b) :: r => by
    unfold flat2
    rw [List.length_cons, List.length_cons, flat2_len r, List.length_cons]
    omega
theorem paired_imp {α β : Type} {P Q : α → β → Prop} (k : ∀ a b, P a b → Q a b) {l : List α} {m : List β} (h : Paired P l m) : Paired Q l m := by
  induction h with
  | nil => exact .nil
  | cons a _ ih => exact .cons (k _ _ a) ih
theorem pps_all : ∀ {ks vs : List Expr} {prs : List (E × E)}, Paired (fun (q : Expr × Expr) (ir : E × E) => PE X q.1 (tAny fun B => RdV T B XE (fun ρ => ev Γ ir.1 false ρ)) ∧ PE X q.2 (tAny fun B => RdV T B XE (fun ρ => ev Γ ir.2 false ρ))) (ks.zip vs) prs → ks.length = vs.length →
    PPs X pos (ks.map some) vs (prs.map fun q => (tAny fun B => RdV T B XE (fun ρ => ev Γ q.1 false ρ), tAny fun B => RdV T B XE (fun ρ => ev Γ q.2 false ρ)))
  | [], [], _, .nil, _ => pps_nil
  | k :: ks, v :: vs, _, .cons h t, hl => pps_cons h.1 h.2 (pps_all t (Nat.succ.inj hl))
  | [], v :: vs, _, _, hl => by cases hl
  | k :: ks, [], _, _, hl => by cases hl
theorem ok_dic (g : Gd T Γ CX k X ctx XE) {ks vs : List Expr} {prs : List (E × E)} (h : Paired (fun (q : Expr × Expr) (ir : E × E) => ∀ B, Ok X T B XE Γ q.1 ir.1 ∧ Ok X T B XE Γ q.2 ir.2) (ks.zip vs) prs) (hl : ks.length = vs.length) (h15 : ks.length ≤ 15) :
    Ok X T B XE Γ (.Dict (ks.map some) vs pos) (.dic (flat2 prs)) := by
  refine Ok.plain g.hK ?_ rfl (fun _ => rfl) fun _ => rfl
  cases ks with
  | nil =>
    cases vs with
    | cons v vs => cases hl
    | nil =>
      cases h
      refine wkE pe_dnewK fun σ H Q q => ?_
      obtain ⟨G, ρ, S, p⟩ := q
      simp only [ev, tr, flat2, evv] at p
      intro pa hpa
      have p : okE T B (rR T B) σ G Q (true, .dic [] []) ρ := p
      exact p _ _ G (Ex.refl G) (S.step (ex_cell S.ex hpa) (stp_cell S.ex hpa)) ⟨pa, rfl, ⟨S.ex.none hpa, [], upd_same, rfl, RepL.nil⟩, S.baseNone hpa, S.nosl hpa⟩
  | cons k0 ks =>
    have pp : PPs X pos ((k0 :: ks).map some) vs (prs.map fun q => (tAny fun B => RdV T B XE (fun ρ => ev Γ q.1 false ρ), tAny fun B => RdV T B XE (fun ρ => ev Γ q.2 false ρ))) :=
      pps_all (paired_imp (fun q ir h => ⟨pe_any fun B => Go.rep (h B).1.pe, pe_any fun B => Go.rep (h B).2.pe⟩) h) hl
    have hprs : prs.length = (k0 :: ks).length := by
      have e : ((k0 :: ks).zip vs).length = prs.length := h.length
      rw [List.length_zip, ← hl, Nat.min_self] at e
      exact e.symm
    refine ⟨fun pins s σ H Q I q => ?_⟩
    obtain ⟨G, ρ, S, p⟩ := q
    simp only [ev, tr] at p
    cases hv : evv Γ (flat2 prs) ρ with
    | bad => rw [hv] at p; exact p.elim
    | exc c l ρ1 => rw [hv] at p; exact (show False from p).elim
    | ok ds ρ1 =>
      rw [hv] at p
      have p : Pst ((lift (stowAll ds [] []) ρ1).bnd fun d ρ2 => .ok (true, d) ρ2) (okE T B (rR T B) σ G Q) (exE T B XE σ G) := p
      obtain ⟨d, hd, p⟩ := p.bnd.lift
      refine (pe_disp pp (by simp) (by rw [List.length_map]; exact hl) (by simp) (by rw [List.length_map]; exact h15)).run pins s σ H Q I fun pa hpa => ?_
      have S0 : Sta T B σ (upd H pa (.dK [])) G ρ := S.step (ex_cell S.ex hpa) (stp_cell S.ex hpa)
      have hG : G pa = none := S.ex.none hpa
      have hB : B.H pa = none := S.baseNone hpa
      have hNs : ¬ (B.at σ (upd H pa (.dK [])) G ρ).cs pa := fun ⟨j, b, dd, h1, h2⟩ => S.nosl hpa j b dd h1 h2
      refine disp_pairs S0.rebase hv fun ps H2 G2 e2 S2 r2 => ?_
      have hH2 : H2 pa = some (.dK []) := S2.st.k _ _ (show (upd H pa (.dK [])) pa = _ from upd_same) hNs
      have hG2 : G2 pa = none := S2.st.n _ hG (by show (upd H pa (.dK [])) pa ≠ none; rw [upd_same]; exact fun z => nomatch z) hNs
      have noD : NoSl σ ρ1 pa := fun j b dd h1 h2 => by
        obtain ⟨q, h3, _, h5⟩ := S2.cl j b dd h1
        rw [h2] at h3
        cases h3
        rcases h5 with h5 | h5
        · exact hNs h5
        · rw [show (B.at σ (upd H pa (.dK [])) G ρ).H pa = (upd H pa (.dK [])) pa from rfl, upd_same] at h5
          cases h5
      obtain ⟨more, em, ks', ls', ed, p1, p2⟩ := stowAll_put (kvs := []) r2 hd rfl RepL.nil
      refine ⟨hH2, more, em, ?_, ?_⟩
      · have l1 := r2.len
        have l2 := evv_len hv
        rw [flat2_len, hprs] at l2
        have l3 : ps.length = more.length := by rw [em, List.length_map]
        omega
      · have S3 := (S0.unbase S2).upd (o := .dK (mergeK [] more)) (by rw [hH2]; exact fun z => nomatch z) hG2 noD (.inr hB)
        have p : okE T B (rR T B) σ G Q (true, d) ρ1 := p
        subst ed
        exact p _ _ G2 e2 S3 ⟨pa, rfl, ⟨hG2, _, upd_same, p1, p2⟩, hB, noD⟩
end
end Pf
end
section
set_option Elab.async false
set_option linter.all false
set_option maxRecDepth 100000
set_option maxHeartbeats 2000000
/-! Rf14: from the text to the small language: expressions. -/
namespace Pf
open PySem PySem.Spec PyProof.Rows L2
def bopOf : Operator → Option Bop
  | .Add => some .add
  | .Sub => some .sub
  | .Mult => some .mul
  | .FloorDiv => some .fdiv
  | .Mod => some .mod
  | .Pow => some .pow
  | _ => none
theorem bopOf_ast {op : Operator} {o : Bop} (h : bopOf op = some o) : astB o = op := by
  cases op <;> cases h <;> rfl
def copOf : CmpOp → Option Cop
  | .Eq => some .eq
  | .NotEq => some .ne
  | .Lt => some .lt
  | .LtE => some .le
  | .Gt => some .gt
  | .GtE => some .ge
  | .In => some .isin
  | .NotIn => some .notin
  | _ => none
theorem copOf_ast {op : CmpOp} {o : Cop} (h : copOf op = some o) : astC o = op := by
  cases op <;> cases h <;> rfl
def okNm (x : Str) : Bool := !(x == ("__debug__" : Str)) && !(x == ("__classdict__" : Str)) && !(x == ("__name__" : Str)) && !(x == ("super" : Str))
def glb (c : Ctx) (x : Str) : Bool := okNm x && decide (c.sc.names.lookup x = some .globalImplicit)
def biTab : List (Str × Nat × Bi) := [("len", 1, .len), ("abs", 1, .abs), ("int", 1, .int), ("str", 1, .str), ("tuple", 1, .tuple), ("list", 1, .list), ("sum", 1, .sum), ("all", 1, .all), ("any", 1, .any), ("min", 1, .min), ("max", 1, .max), ("min", 2, .min2), ("max", 2, .max2), ("dict", 1, .dictc)]
def biIn (x : Str) (n : Nat) : List (Str × Nat × Bi) → Option Bi
  | [] => none
  | (y, m, b) :: l => if x = y ∧ n = m then some b else biIn x n l
def biOf (x : Str) (n : Nat) : Option Bi := biIn x n biTab
theorem biIn_mem {x : Str} {n : Nat} {b : Bi} : ∀ {l : List (Str × Nat × Bi)}, biIn x n l = some b → (x, n, b) ∈ l
  | [], h => by cases h
  | (y, m, b') :: l, h => by
    unfold biIn at h
    by_cases z : x = y ∧ n = m
    · rw [if_pos z] at h
      cases h
      rw [z.1, z.2]
      exact List.mem_cons_self
    · rw [if_neg z] at h
      exact List.mem_cons_of_mem _ (biIn_mem h)
/-- a class by its name -/
def tyOf (ow : Str → Option Nat) (x : Str) : Option Ty :=
  if x = "int" then some .int else if x = "bool" then some .bool else if x = "str" then some .str else if x = "list" then some .list else if x = "tuple" then some .tuple
  else if x = "dict" then some .dict else (ow x).map .own
def clsOf (ow : Str → Option Nat) (c : Ctx) : Expr → Option Ty
  | .Name x _ => if glb c x = true then tyOf ow x else none
  | _ => none
def clsAll (ow : Str → Option Nat) (c : Ctx) : List Expr → Option (List Ty)
  | [] => some []
  | e :: es => match clsOf ow c e, clsAll ow c es with
    | some t, some ts => some (t :: ts)
    | _, _ => none
def ownOf (c : Ctx) (scope : Scope) : List (Str × Nat) := scope.names.filterMap fun (n, k) => match k with
  | .local => (ixOf n c.N).map fun i => (n, i)
  | .cell => (ixOf n c.N).map fun i => (n, i)
  | _ => none
def trT : Nat → Ctx → Expr → Tg
  | 0, _, _ => .bad
  | n + 1, c, e => match e with
    | .Name x _ => (match ixOf x c.N with
      | some i => (match c.sc.names.lookup x with
        | some .local => .nm i
        | some .cell => if c.blk = true then .bad else .nm i
        | _ => .bad)
      | none => .bad)
    | .Tuple es _ _ => if es.all noStar = true then .tp (es.map (trT n c)) else .bad
    | _ => .bad
def notSet : Expr → Bool
  | .Set .. => false
  | _ => true
section
variable (ow : Str → Option Nat)
def isNm : Expr → Bool
  | .Name .. => true
  | _ => false
def isFld : Expr → Bool
  | .Attribute .. => true
  | .Call (.Name x _) _ _ _ => decide (x ∉ blts)
  | _ => false
/-- an own __eq__ may stand here -/
def oeqB (a b : Expr) : Bool := (isNm a && (isNm b || isFld b)) || (isFld a && isNm b)
def trEq (n : Bool) (a b : Expr) (ia ib : E) : E := if behindInMarks (if n then .NotEq else .Eq) b = false then (if oeqB a b = true then .oeq n [ia, ib] else .ap (.cmp (if n then .ne else .eq)) [ia, ib]) else .bad
def trCmp (op : CmpOp) (a b : Expr) (ia ib : E) : E := match op with
  | .Eq => trEq false a b ia ib
  | .NotEq => trEq true a b ia ib
  | .Is => (match b with
    | .Constant .none _ _ => .ap (.isn true) [ia]
    | .Constant (.bool k) _ _ => .ap (.isb false k) [ia]
    | _ => .bad)
  | .IsNot => (match b with
    | .Constant .none _ _ => .ap (.isn false) [ia]
    | .Constant (.bool k) _ _ => .ap (.isb true k) [ia]
    | _ => .bad)
  | op => (match copOf op with
    | some o => if behindInMarks op b = false then .ap (.cmp o) [ia, ib] else .bad
    | none => .bad)
def trChn (o1 o2 : CmpOp) (b d : Expr) (ia ib ic : E) : E := match copOf o1, copOf o2 with
  | some p, some q => if lastMarks [o1, o2] [b, d] = false then .chn p q ia ib ic else .bad
  | _, _ => .bad
def partE (f : Expr → E) : Option Expr → E
  | none => .cst .non
  | some e => f e
def partB (f : Expr → E) : Option Expr → Bool
  | none => true
  | some e => noStar e && !(f e).noPart
def trCallN (c : Ctx) (f : Expr → E) (x : Str) (args : List Expr) : E :=
  if glb c x = true then
    (if x = "isinstance" then (match args with
      | [a, .Tuple es _ _] => (match clsAll ow c es with
        | some ts => if ts.length ≤ 100 then .ap (.isi ts) [f a] else .bad
        | none => .bad)
      | [a, C] => (match clsOf ow c C with
        | some t => .ap (.isi [t]) [f a]
        | none => .bad)
      | _ => .bad)
    else match biOf x args.length with
      | some b => .ap (.bi b) (args.map f)
      | none => if x ∈ blts then .bad else .call x (args.map f))
  else .bad
def trCallM (f : Expr → E) (o : Expr) (m : Str) (apos pos : PySem.Pos) (args : List Expr) : E :=
  if (apos.endLine == pos.line) = true ∧ baseOk o = true ∧ args.length < 30 then (match decide (m = "get"), args with
    | true, [a, b] => .get (f o) (f a) (f b)
    | true, _ => .bad
    | false, args => .meth m (f o) (args.map f)) else .bad
def someAll {α : Type} : List (Option α) → Option (List α)
  | [] => some []
  | some a :: l => (someAll l).map (a :: ·)
  | none :: _ => none
theorem someAll_eq {α : Type} : ∀ {l : List (Option α)} {m : List α}, someAll l = some m → l = m.map some
  | [], m, h => by cases h; rfl
  | some a :: l, m, h => by
    unfold someAll at h
    cases e : someAll l with
    | none => rw [e] at h; cases h
    | some k =>
      rw [e] at h
      cases h
      rw [someAll_eq e]
      rfl
  | none :: _, m, h => by cases h
/-- a part of an f-string -/
def partOk : Expr → Bool
  | .Constant (.str _) _ _ => true
  | .FormattedValue e k none _ => decide (k = -1) && noStar e
  | _ => false
def trPart (f : Expr → E) : Expr → E
  | .Constant (.str s) _ _ => .cst (.str s)
  | .FormattedValue e _ _ _ => f e
  | _ => .bad
def isTup : Expr → Bool
  | .Tuple .. => true
  | _ => false
/-- a walk's kind and operands -/
def trSrc (c : Ctx) (f : Expr → E) (tg iter : Expr) : Ik × List E := match iter with
  | .Call (.Name x _) args [] _ => if glb c x = true ∧ x = "range" ∧ args.all noStar = true ∧ (args.length = 1 ∨ args.length = 2) then (.rng, args.map f)
    else if glb c x = true ∧ x = "zip" ∧ args.all noStar = true ∧ args.length = 2 ∧ isTup tg = true then (.zip, args.map f)
    else if glb c x = true ∧ x = "enumerate" ∧ args.all noStar = true ∧ args.length = 1 ∧ isTup tg = true then (.enm, args.map f) else (.seq, [f iter])
  | _ => (.seq, [f iter])
def trE : Nat → Ctx → Expr → E
  | 0, _, _ => .bad
  | n + 1, c, e => match e with
    | .Name x _ => if okNm x = true then (match c.sc.names.lookup x with
      | some .local => (match ixOf x c.N with
        | some i => .var i
        | none => .bad)
      | some .cell => (match ixOf x c.N with
        | some i => .var i
        | none => .bad)
      | some .free => (match ixOf x c.N with
        | some i => .var i
        | none => .bad)
      | some .globalImplicit => .glo x
      | _ => .bad) else .bad
    | .Constant k _ _ => (match k with
      | .int i => .cst (.int i)
      | .bool b => .cst (.bl b)
      | .none => .cst .non
      | .str s => .cst (.str s)
      | _ => .bad)
    | .BinOp a op b _ => (match bopOf op with
      | some o => if noStar a = true ∧ noStar b = true then .ap (.bin o) [trE n c a, trE n c b] else .bad
      | none => .bad)
    | .UnaryOp op a _ => if noStar a = true then (match op with
      | .Not => .not (trE n c a)
      | .USub => .ap .neg [trE n c a]
      | _ => .bad) else .bad
    | .BoolOp op vs _ => if vs.all noStar = true ∧ vs.isEmpty = false then (match op with
      | .And => .and (vs.map (trE n c))
      | .Or => .or (vs.map (trE n c))) else .bad
    | .Compare a ops cs _ => if noStar a = true ∧ cs.all noStar = true then (match ops, cs with
      | [op], [b] => trCmp op a b (trE n c a) (trE n c b)
      | [o1, o2], [b, d] => trChn o1 o2 b d (trE n c a) (trE n c b) (trE n c d)
      | _, _ => .bad) else .bad
    | .IfExp t a b _ => if noStar t = true ∧ noStar a = true ∧ noStar b = true then .ife (trE n c t) (trE n c a) (trE n c b) else .bad
    | .Attribute o f _ => if baseOk o = true ∧ noStar o = true then .ap (.fld f) [trE n c o] else .bad
    | .Subscript a i _ => if noStar a = true then (match i with
      | .Slice lo hi none _ => if partB (trE n c) lo = true ∧ partB (trE n c) hi = true then .slc (trE n c a) (partE (trE n c) lo) (partE (trE n c) hi) else .bad
      | i => if ixOk i = true ∧ noStar i = true then .ap .idx [trE n c a, trE n c i] else .bad) else .bad
    | .Dict ks vs _ => (match someAll ks with
      | some ks => if ks.all noStar = true ∧ vs.all noStar = true ∧ ks.length = vs.length ∧ ks.length ≤ 15 then .dic (flat2 ((ks.zip vs).map fun q => (trE n c q.1, trE n c q.2))) else .bad
      | none => .bad)
    | .List es _ => if es.all noStar = true ∧ es.length ≤ 1000 then .lst (es.map (trE n c)) else .bad
    | .Tuple es _ _ => if es.all noStar = true ∧ es.length ≤ 1000 then .tup (es.map (trE n c)) else .bad
    | .Call f args kws pos => if args.all noStar = true ∧ kws.isEmpty = true then (match f with
      | .Name x _ => trCallN ow c (trE n c) x args
      | .Attribute o m apos => if noStar o = true then trCallM (trE n c) o m apos pos args else .bad
      | _ => .bad) else .bad
    | .JoinedStr vs _ => (match vs with
      | v1 :: v2 :: rest => if (v1 :: v2 :: rest).all partOk = true then .fst ((v1 :: v2 :: rest).map (trPart (trE n c))) else .bad
      | _ => .bad)
    | .ListComp elt gens scope _ => (match gens with
      | [⟨tg, iter, ifs, 0⟩] =>
        if notSet iter = true ∧ noStar iter = true ∧ noStar elt = true ∧ ifs.all noStar = true ∧ ifs.length ≤ 1 ∧ blkC c.N c.sc scope (ownOf c scope) = true ∧ (trT n (c.inner scope) tg).names.all (fun i => ((ownOf c scope).map (·.2)).contains i) = true then
          .comp ((ownOf c scope).map (·.2)) (trT n (c.inner scope) tg) (trSrc c (trE n c) tg iter).1 (trSrc c (trE n c) tg iter).2 (ifs.map (trE n (c.inner scope))) (trE n (c.inner scope) elt)
        else .bad
      | _ => .bad)
    | .DictComp ke elt gens scope _ => (match gens with
      | [⟨tg, iter, ifs, 0⟩] =>
        if notSet iter = true ∧ noStar iter = true ∧ noStar ke = true ∧ noStar elt = true ∧ ifs.all noStar = true ∧ ifs.length ≤ 1 ∧ blkC c.N c.sc scope (ownOf c scope) = true ∧ (trT n (c.inner scope) tg).names.all (fun i => ((ownOf c scope).map (·.2)).contains i) = true then
          .dcmp ((ownOf c scope).map (·.2)) (trT n (c.inner scope) tg) (trSrc c (trE n c) tg iter).1 (trSrc c (trE n c) tg iter).2 (ifs.map (trE n (c.inner scope))) (trE n (c.inner scope) ke) (trE n (c.inner scope) elt)
        else .bad
      | _ => .bad)
    | _ => .bad
end
end Pf
end
section
set_option Elab.async false
set_option linter.all false
set_option maxRecDepth 100000
set_option maxHeartbeats 4000000
/-! Rf15: the expressions' translation is sound. -/
namespace Pf
open PySem PySem.Spec PyProof.Rows L2
section
variable {X : Cx} {T : Tab} {B : Base} {XE : XK} {Γ : Ga} {CX : CXT} {k : Nat} {c : Ctx} {a b o : Expr} {es : List Expr} {pos p p2 : PySem.Pos} {ir ia ib ic : E} {irs : List E}
theorem glb_gl (g : Gd T Γ CX k X c XE) {x : Str} (h : glb c x = true) : Gl X x ∧ (x == ("__debug__" : Str)) = false ∧ x ≠ ("__name__" : Str) := by
  unfold glb okNm at h
  simp only [Bool.and_eq_true, Bool.not_eq_true', decide_eq_true_eq] at h
  refine ⟨?_, h.1.1.1.1, fun z => by rw [z] at h; simp at h⟩
  show X.env.scope.names.lookup x = some .globalImplicit
  rw [g.sc]
  exact h.2
theorem okNm_d {x : Str} (h : okNm x = true) : (x == ("__debug__" : Str)) = false ∧ (x == ("__classdict__" : Str)) = false := by
  unfold okNm at h
  simp only [Bool.and_eq_true, Bool.not_eq_true'] at h
  exact ⟨h.1.1.1, h.1.1.2⟩
theorem ok_bad' (h : noStar a = true) : Ok X T B XE Γ a .bad := ok_bad (star_one h)
theorem ok_glo' (g : Gd T Γ CX k X c XE) {x : Str} (hg : Gl X x) (hdb : (x == ("__debug__" : Str)) = false) : Ok X T B XE Γ (.Name x pos) (.glo x) := by
  cases h : Γ.glo x with
  | some d =>
    obtain ⟨v, u, hm, r, rep⟩ := g.glo x d h
    exact ok_glo g.hK (pe_glob hg hm r hdb) h rep (fun _ => rfl) fun _ => rfl
  | none =>
    refine ⟨⟨fun pins s σ H Q I q => ?_⟩, ⟨fun pins s σ H Q I q => ?_⟩, fun i z => (nomatch z), fun _ => rfl⟩
    · obtain ⟨G, ρ, S, p⟩ := q
      simp only [ev, h] at p
      exact (show False from p).elim
    · obtain ⟨G, ρ, S, p⟩ := q
      simp only [ev, h] at p
      exact (show False from p).elim
theorem ok_bi (g : Gd T Γ CX k X c XE) {x : Str} {bo : Bi} (hb : biOf x es.length = some bo) (hg : Gl X x) (hs : es.all noStar = true) (h : Paired (fun e ir => Ok X T B XE Γ e ir) es irs) : Ok X T B XE Γ (.Call (.Name x p) es [] pos) (.ap (.bi bo) irs) := by
  have hm := biIn_mem hb
  clear hb
  generalize hl : es.length = n at hm
  cases h with
  | nil =>
    exfalso
    cases hl
    unfold biTab at hm
    iterate 14
      rcases List.mem_cons.mp hm with z | hm
      · exact absurd (congrArg (fun q => q.2.1) z) (fun z => nomatch z)
    exact (List.not_mem_nil hm).elim
  | @cons e ir es irs h t =>
    unfold biTab at hm
    rcases List.mem_cons.mp hm with z | hm
    · obtain ⟨rfl, z2⟩ := Prod.mk.inj z
      obtain ⟨_, rfl⟩ := Prod.mk.inj z2
      exact ok_biB g (.cons h t) hs (rn_len g.hK) hg (by decide) boot_len (by decide) (by decide)
    rcases List.mem_cons.mp hm with z | hm
    · obtain ⟨rfl, z2⟩ := Prod.mk.inj z
      obtain ⟨_, rfl⟩ := Prod.mk.inj z2
      exact ok_biB g (.cons h t) hs rn_abs hg (by decide) boot_abs (by decide) (by decide)
    rcases List.mem_cons.mp hm with z | hm
    · obtain ⟨rfl, z2⟩ := Prod.mk.inj z
      obtain ⟨_, rfl⟩ := Prod.mk.inj z2
      exact ok_biT g (.cons h t) hs rn_int hg (by decide) boot_int (by decide) (by decide)
    rcases List.mem_cons.mp hm with z | hm
    · obtain ⟨rfl, z2⟩ := Prod.mk.inj z
      obtain ⟨_, rfl⟩ := Prod.mk.inj z2
      exact ok_biT g (.cons h t) hs rn_str hg (by decide) boot_str (by decide) (by decide)
    rcases List.mem_cons.mp hm with z | hm
    · obtain ⟨rfl, z2⟩ := Prod.mk.inj z
      obtain ⟨_, rfl⟩ := Prod.mk.inj z2
      exact ok_biT g (.cons h t) hs (rn_tuple g.hK) hg (by decide) boot_tuple (by decide) (by decide)
    rcases List.mem_cons.mp hm with z | hm
    · obtain ⟨rfl, z2⟩ := Prod.mk.inj z
      obtain ⟨_, rfl⟩ := Prod.mk.inj z2
      exact ok_biT g (.cons h t) hs (rn_list g.hK) hg (by decide) boot_list (by decide) (by decide)
    rcases List.mem_cons.mp hm with z | hm
    · obtain ⟨rfl, z2⟩ := Prod.mk.inj z
      obtain ⟨_, rfl⟩ := Prod.mk.inj z2
      exact ok_biB g (.cons h t) hs (rn_sum g.calm g.hK) hg (by decide) boot_sum (by decide) (by decide)
    rcases List.mem_cons.mp hm with z | hm
    · obtain ⟨rfl, z2⟩ := Prod.mk.inj z
      obtain ⟨_, rfl⟩ := Prod.mk.inj z2
      exact ok_biB g (.cons h t) hs (rn_all g.calm g.hK) hg (by decide) boot_all (by decide) (by decide)
    rcases List.mem_cons.mp hm with z | hm
    · obtain ⟨rfl, z2⟩ := Prod.mk.inj z
      obtain ⟨_, rfl⟩ := Prod.mk.inj z2
      exact ok_biB g (.cons h t) hs (rn_any g.calm g.hK) hg (by decide) boot_any (by decide) (by decide)
    rcases List.mem_cons.mp hm with z | hm
    · obtain ⟨rfl, z2⟩ := Prod.mk.inj z
      obtain ⟨_, rfl⟩ := Prod.mk.inj z2
      exact ok_biB g (.cons h t) hs (rn_min g.calm g.hK) hg (by decide) boot_min (by decide) (by decide)
    rcases List.mem_cons.mp hm with z | hm
    · obtain ⟨rfl, z2⟩ := Prod.mk.inj z
      obtain ⟨_, rfl⟩ := Prod.mk.inj z2
      exact ok_biB g (.cons h t) hs (rn_max g.calm g.hK) hg (by decide) boot_max (by decide) (by decide)
    rcases List.mem_cons.mp hm with z | hm
    · obtain ⟨rfl, z2⟩ := Prod.mk.inj z
      obtain ⟨_, rfl⟩ := Prod.mk.inj z2
      exact ok_biB g (.cons h t) hs (rn_min2 g.calm) hg (by decide) boot_min (by decide) (by decide)
    rcases List.mem_cons.mp hm with z | hm
    · obtain ⟨rfl, z2⟩ := Prod.mk.inj z
      obtain ⟨_, rfl⟩ := Prod.mk.inj z2
      exact ok_biB g (.cons h t) hs (rn_max2 g.calm) hg (by decide) boot_max (by decide) (by decide)
    rcases List.mem_cons.mp hm with z | hm
    · obtain ⟨rfl, z2⟩ := Prod.mk.inj z
      obtain ⟨_, rfl⟩ := Prod.mk.inj z2
      exact ok_biT g (.cons h t) hs rn_dictc hg (by decide) boot_dict (by decide) (by decide)
    exact (List.not_mem_nil hm).elim
theorem guard_some' {α : Type} {c : Prop} [Decidable c] {a : Option α} {b : α} (h : (if c then a else none) = some b) : c ∧ a = some b := by
  by_cases z : c
  · rw [if_pos z] at h
    exact ⟨z, h⟩
  · rw [if_neg z] at h
    cases h
theorem cls_ok (g : Gd T Γ CX k X c XE) {C : Expr} {t : Ty} (h : clsOf T.own c C = some t) : PE X C (tC (clsV T t).1) ∧ noStar C = true ∧ ∀ j, t = .own j → T.flds j ≠ [] := by
  unfold clsOf at h
  split at h
  · rename_i x pp
    have h2 := guard_some' h
    clear h
    obtain ⟨hg, h⟩ := h2
    obtain ⟨hgl, hdb, hn⟩ := glb_gl g hg
    unfold tyOf at h
    split at h
    · rename_i hx; subst hx; cases h
      exact ⟨pe_bltn hgl (g.blt _ (by decide)) boot_int rfl, rfl, fun j z => nomatch z⟩
    split at h
    · rename_i hx; subst hx; cases h
      exact ⟨pe_bltn hgl (g.blt _ (by decide)) boot_bool rfl, rfl, fun j z => nomatch z⟩
    split at h
    · rename_i hx; subst hx; cases h
      exact ⟨pe_bltn hgl (g.blt _ (by decide)) boot_str rfl, rfl, fun j z => nomatch z⟩
    split at h
    · rename_i hx; subst hx; cases h
      exact ⟨pe_bltn hgl (g.blt _ (by decide)) boot_list rfl, rfl, fun j z => nomatch z⟩
    split at h
    · rename_i hx; subst hx; cases h
      exact ⟨pe_bltn hgl (g.blt _ (by decide)) boot_tuple rfl, rfl, fun j z => nomatch z⟩
    split at h
    · rename_i hx; subst hx; cases h
      exact ⟨pe_bltn hgl (g.blt _ (by decide)) boot_dict rfl, rfl, fun j z => nomatch z⟩
    · cases ho : T.own x with
      | none => rw [ho] at h; cases h
      | some j =>
        rw [ho] at h
        cases h
        obtain ⟨h1, h2⟩ := g.own x j ho
        exact ⟨pe_glob hgl h1 rfl hdb, rfl, fun i z => by cases z; exact h2⟩
  · cases h
theorem cls_all (g : Gd T Γ CX k X c XE) : ∀ {es : List Expr} {ts : List Ty}, clsAll T.own c es = some ts → Paired (fun e t => PE X e (tC (clsV T t).1) ∧ noStar e = true) es ts ∧ ∀ t ∈ ts, ∀ j, t = .own j → T.flds j ≠ []
  | [], ts, h => by
    cases h
    exact ⟨.nil, fun t h => nomatch h⟩
  | e :: es, ts, h => by
    unfold clsAll at h
    cases h1 : clsOf T.own c e with
    | none => rw [h1] at h; cases h
    | some t =>
      cases h2 : clsAll T.own c es with
      | none => rw [h1, h2] at h; cases h
      | some ts2 =>
        rw [h1, h2] at h
        cases h
        obtain ⟨i1, i2, i3⟩ := cls_ok g h1
        obtain ⟨j1, j2⟩ := cls_all g h2
        exact ⟨.cons ⟨i1, i2⟩ j1, fun t' ht => (List.mem_cons.mp ht).elim (fun z => by rw [z]; exact i3) (j2 t')⟩
theorem pg_ok : ∀ (n : Nat) (e : Expr), Gd T Γ CX k X c XE → PG X e (gB T (trT n c e))
  | 0, e, g => pg_bad
  | n + 1, e, g => by
    unfold trT
    split
    · rename_i x pp
      cases hi : ixOf x c.N with
      | none => exact pg_bad
      | some i =>
        dsimp only
        have hN : X.N[i]? = some x := by rw [g.nN]; exact ixOf_lt hi
        split
        · rename_i hl
          rw [← g.sc] at hl
          exact pg_nm g hN (.inl hl) (.inr hl)
        · rename_i hl
          rw [← g.sc] at hl
          cases hb : c.blk with
          | true => exact pg_bad
          | false => exact pg_nm g hN (.inr hl) (.inl (g.fn hb x))
        · exact pg_bad
    · rename_i es kk pp
      split
      · rename_i hs
        exact pg_tp g (pairedT n es g hs)
      · exact pg_bad
    · exact pg_bad
where pairedT (n : Nat) : ∀ (es : List Expr), Gd T Γ CX k X c XE → es.all noStar = true → Paired (fun e t => PG X e (gB T t) ∧ noStar e = true) es (es.map (trT n c))
  | [], g, _ => .nil
  | e :: es, g, h => by
    rw [List.all_cons, Bool.and_eq_true] at h
    exact .cons ⟨pg_ok n e g, h.1⟩ (pairedT n es g h.2)
end
end Pf
end
section
set_option Elab.async false
set_option linter.all false
set_option maxRecDepth 100000
set_option maxHeartbeats 4000000
/-! Rf16: the expressions' translation is sound (the theorem). -/
namespace Pf
open PySem PySem.Spec PyProof.Rows L2
section
variable {T : Tab} {Γ : Ga} {CX : CXT} {k : Nat}
/-- each expression at fuel n -/
def TrOk (T : Tab) (Γ : Ga) (CX : CXT) (k n : Nat) : Prop := ∀ (X : Cx) (c : Ctx) (XE : XK), Gd T Γ CX k X c XE → ∀ (B : Base) (e : Expr), noStar e = true → Ok X T B XE Γ e (trE T.own n c e)
variable {X : Cx} {c : Ctx} {XE : XK} {B : Base} {n : Nat}
theorem TrOk.list (h : TrOk T Γ CX k n) (g : Gd T Γ CX k X c XE) : ∀ {es : List Expr}, es.all noStar = true → Paired (fun e ir => Ok X T B XE Γ e ir) es (es.map (trE T.own n c))
  | [], _ => .nil
  | e :: es, hs => by
    rw [List.all_cons, Bool.and_eq_true] at hs
    exact .cons (h X c XE g B e hs.1) (TrOk.list h g hs.2)
theorem TrOk.part (h : TrOk T Γ CX k n) (g : Gd T Γ CX k X c XE) {o : Option Expr} (hp : partB (trE T.own n c) o = true) : PartOk X T B XE Γ o (partE (trE T.own n c) o) := by
  cases o with
  | none => exact .none
  | some e =>
    have hp : (noStar e && !(trE T.own n c e).noPart) = true := hp
    rw [Bool.and_eq_true, Bool.not_eq_true'] at hp
    exact .some (h X c XE g B e hp.1) hp.2
theorem ownOf_ix (g : Gd T Γ CX k X c XE) : True := trivial
theorem TrOk.src (h : TrOk T Γ CX k n) (g : Gd T Γ CX k X c XE) {tg iter : Expr} (hs : noStar iter = true) : PI X tg iter (iB T B XE Γ (trSrc c (trE T.own n c) tg iter).1 (trSrc c (trE T.own n c) tg iter).2) := by
  have base : PI X tg iter (iB T B XE Γ .seq [trE T.own n c iter]) := pi_seq g (h X c XE g B iter hs)
  unfold trSrc
  split
  · rename_i x p args pos
    split
    · rename_i hx
      obtain ⟨h1, rfl, h2, h3⟩ := hx
      have hl := TrOk.list (B := B) h g h2
      have hg := (glb_gl g h1).1
      rcases args with _ | ⟨a, _ | ⟨b, _ | ⟨d, l⟩⟩⟩
      · simp at h3
      · rw [List.all_cons, Bool.and_eq_true] at h2
        cases hl with
        | cons ha _ => exact pi_rng1 g ha h2.1 hg
      · rw [List.all_cons, List.all_cons, Bool.and_eq_true, Bool.and_eq_true] at h2
        cases hl with
        | cons ha hl =>
          cases hl with
          | cons hb _ => exact pi_rng2 g ha hb h2.1 h2.2.1 hg
      · simp at h3
    · split
      · rename_i hx
        obtain ⟨h1, rfl, h2, h3, h4⟩ := hx
        have hl := TrOk.list (B := B) h g h2
        have hg := (glb_gl g h1).1
        rcases args with _ | ⟨a, _ | ⟨b, _ | ⟨d, l⟩⟩⟩
        · simp at h3
        · simp at h3
        · rw [List.all_cons, List.all_cons, Bool.and_eq_true, Bool.and_eq_true] at h2
          cases hl with
          | cons ha hl =>
            cases hl with
            | cons hb _ =>
              cases tg <;> first | (cases h4; done) | exact pi_zip0 g ha hb h2.1 h2.2.1 hg
        · simp at h3
      · split
        · rename_i hx
          obtain ⟨h1, rfl, h2, h3, h4⟩ := hx
          have hl := TrOk.list (B := B) h g h2
          have hg := (glb_gl g h1).1
          rcases args with _ | ⟨a, _ | ⟨b, l⟩⟩
          · simp at h3
          · rw [List.all_cons, Bool.and_eq_true] at h2
            cases hl with
            | cons ha _ =>
              cases tg <;> first | (cases h4; done) | exact pi_enm g ha h2.1 hg
          · simp at h3
        · exact base
  · exact base
theorem blkN {N : List Str} {sc scope : Scope} {own : List (Str × Nat)} (h : blkC N sc scope own = true) : BlkOk N sc scope own := blkOk_by h
theorem pairs_ok {n : Nat} (ih : TrOk T Γ CX k n) (g : Gd T Γ CX k X c XE) : ∀ {ks vs : List Expr}, ks.all noStar = true → vs.all noStar = true → Paired (fun (q : Expr × Expr) (ir : E × E) => ∀ B, Ok X T B XE Γ q.1 ir.1 ∧ Ok X T B XE Γ q.2 ir.2) (ks.zip vs) ((ks.zip vs).map fun q => (trE T.own n c q.1, trE T.own n c q.2))
  | [], _, _, _ => .nil
  | _ :: _, [], _, _ => .nil
  | k :: ks, v :: vs, h1, h2 => by
    rw [List.all_cons, Bool.and_eq_true] at h1 h2
    exact .cons (fun B => ⟨ih X c XE g B k h1.1, ih X c XE g B v h2.1⟩) (pairs_ok ih g h1.2 h2.2)
theorem parts_ok {n : Nat} (ih : TrOk T Γ CX k n) (g : Gd T Γ CX k X c XE) : ∀ {vs : List Expr}, vs.all partOk = true → Paired (fun e ir => PartF X T B XE Γ e ir) vs (vs.map (trPart (trE T.own n c)))
  | [], _ => .nil
  | v :: vs, h => by
    rw [List.all_cons, Bool.and_eq_true] at h
    refine .cons ?_ (parts_ok ih g h.2)
    have h1 := h.1
    unfold partOk at h1
    split at h1
    · exact .cst pe_str
    · rename_i e kk p2
      obtain ⟨z, hs⟩ := Bool.and_eq_true_iff.mp h1
      have z := of_decide_eq_true z
      subst z
      exact .fmt (ih X c XE g B e hs)
    · cases h1
theorem tr_ok : ∀ n : Nat, TrOk T Γ CX k n
  | 0 => fun X c XE g B e hs => by
    unfold trE
    exact ok_bad' hs
  | n + 1 => fun X c XE g B e hs => by
    have ih : TrOk T Γ CX k n := tr_ok n
    have bad : Ok X T B XE Γ e .bad := ok_bad' hs
    unfold trE
    cases e with
    | Name x p =>
      dsimp only
      split
      · rename_i hx
        obtain ⟨hd1, hd2⟩ := okNm_d hx
        have var : Vis X.env.scope x → ∀ i, ixOf x c.N = some i → Ok X T B XE Γ (.Name x p) (.var i) := fun hv i hi => ok_var g.hK (pe_var (by rw [g.nN]; exact ixOf_lt hi) hv hd1 hd2)
        split
        · rename_i hl
          cases hi : ixOf x c.N with
          | none => exact bad
          | some i => exact var (.inl (by rw [g.sc]; exact hl)) i hi
        · rename_i hl
          cases hi : ixOf x c.N with
          | none => exact bad
          | some i => exact var (.inr (.inl (by rw [g.sc]; exact hl))) i hi
        · rename_i hl
          cases hi : ixOf x c.N with
          | none => exact bad
          | some i => exact var (.inr (.inr (by rw [g.sc]; exact hl))) i hi
        · rename_i hl
          exact ok_glo' g (show X.env.scope.names.lookup x = _ by rw [g.sc]; exact hl) hd1
        · exact bad
      · exact bad
    | Constant kk j p =>
      cases kk with
      | int i => exact ok_cst g.hK pe_int (fun G => rep_int) (fun _ => rfl) fun _ => rfl
      | bool b => exact ok_cst g.hK pe_bl (fun G => rep_bl) (fun _ => rfl) fun _ => rfl
      | none => exact ok_cst g.hK pe_non (fun G => rep_non) (fun _ => rfl) fun _ => rfl
      | str s => exact ok_cst g.hK pe_str (fun G => rep_str) (fun _ => rfl) fun _ => rfl
      | _ => exact bad
    | BinOp a op b p =>
      dsimp only
      cases ho : bopOf op with
      | none => exact bad
      | some o =>
        dsimp only
        split
        · rename_i h
          have := bopOf_ast ho
          subst this
          exact ok_bin g o (ih X c XE g B a h.1) (ih X c XE g B b h.2)
        · exact bad
    | UnaryOp op a p =>
      dsimp only
      split
      · rename_i h
        cases op with
        | Not => exact ok_not g (ih X c XE g B a h)
        | USub => exact ok_neg g (ih X c XE g B a h)
        | _ => exact bad
      · exact bad
    | BoolOp op vs p =>
      dsimp only
      split
      · rename_i h
        have hn : vs ≠ [] := fun z => by rw [z] at h; exact absurd h.2 (by decide)
        cases op with
        | And => exact ok_andE (TrOk.list ih g h.1) hn
        | Or => exact ok_orE (TrOk.list ih g h.1) hn
      · exact bad
    | Compare a ops cs p =>
      dsimp only
      split
      · rename_i h
        have ha := ih X c XE g B a h.1
        rcases ops with _ | ⟨o1, _ | ⟨o2, _ | _⟩⟩
        · exact bad
        · rcases cs with _ | ⟨b, _ | _⟩
          · exact bad
          · have h2 := h.2
            rw [List.all_cons, Bool.and_eq_true] at h2
            have hb := ih X c XE g B b h2.1
            dsimp only
            have own : ∀ nn : Bool, Ok X T B XE Γ (.Compare a [if nn then .NotEq else .Eq] [b] p) (trEq nn a b (trE T.own n c a) (trE T.own n c b)) := fun nn => by
              unfold trEq
              by_cases hm : behindInMarks (if nn then .NotEq else .Eq) b = false
              · rw [if_pos hm]
                by_cases ho : oeqB a b = true
                · rw [if_pos ho]
                  exact ok_oeq g nn ha hb hm
                · rw [if_neg ho]
                  have e : astC (if nn then .ne else .eq) = (if nn then .NotEq else .Eq) := by cases nn <;> rfl
                  rw [← e] at hm ⊢
                  exact ok_cmp g _ ha hb hm
              · rw [if_neg hm]
                exact ok_bad' rfl
            unfold trCmp
            split
            · exact own false
            · exact own true
            · split
              · exact ok_isn g true ha
              · exact ok_isb g false _ ha
              · exact bad
            · split
              · exact ok_isn g false ha
              · exact ok_isb g true _ ha
              · exact bad
            · split
              · rename_i o ho
                split
                · rename_i hm
                  have := copOf_ast ho
                  subst this
                  exact ok_cmp g o ha hb hm
                · exact bad
              · exact bad
          · exact bad
        · rcases cs with _ | ⟨b, _ | ⟨d, _ | _⟩⟩
          · exact bad
          · exact bad
          · have h2 := h.2
            rw [List.all_cons, List.all_cons, Bool.and_eq_true, Bool.and_eq_true] at h2
            have hb := ih X c XE g B b h2.1
            have hd := ih X c XE g B d h2.2.1
            dsimp only
            unfold trChn
            split
            · rename_i q1 q2 h3 h4
              split
              · rename_i hm
                have e1 := copOf_ast h3
                have e2 := copOf_ast h4
                subst e1 e2
                exact ok_chn g _ _ ha hb hd hm
              · exact bad
            · exact bad
          · exact bad
        · exact bad
      · exact bad
    | IfExp t a b p =>
      dsimp only
      split
      · rename_i h
        exact ok_ife (ih X c XE g B t h.1) (ih X c XE g B a h.2.1) (ih X c XE g B b h.2.2)
      · exact bad
    | Attribute o f p =>
      dsimp only
      split
      · rename_i h
        exact ok_fld g h.1 (ih X c XE g B o h.2)
      · exact bad
    | Subscript a i p =>
      dsimp only
      split
      · rename_i h
        have ha := ih X c XE g B a h
        split
        · split
          · rename_i hp
            exact ok_slc g ha (ih.part g hp.1) (ih.part g hp.2)
          · exact bad
        · split
          · rename_i hp
            exact ok_idx g hp.1 ha (ih X c XE g B i hp.2)
          · exact bad
      · exact bad
    | Dict ks vs p =>
      dsimp only
      cases hk : someAll ks with
      | none => exact bad
      | some ks' =>
        dsimp only
        by_cases h : ks'.all noStar = true ∧ vs.all noStar = true ∧ ks'.length = vs.length ∧ ks'.length ≤ 15
        · rw [if_pos h]
          obtain ⟨h1, h2, h3, h4⟩ := h
          rw [someAll_eq hk]
          refine ok_dic g (pairs_ok ih g h1 h2) h3 h4
        · rw [if_neg h]
          exact bad
    | List es p =>
      dsimp only
      split
      · rename_i h
        exact ok_lst g (TrOk.list ih g h.1) (by rw [List.length_map]; exact h.2)
      · exact bad
    | Tuple es j p =>
      dsimp only
      split
      · rename_i h
        exact ok_tup g (TrOk.list ih g h.1) (by rw [List.length_map]; exact h.2)
      · exact bad
    | Call f args kws p =>
      dsimp only
      split
      · rename_i h
        obtain ⟨hs2, hk⟩ := h
        have hk : kws = [] := List.isEmpty_iff.mp hk
        subst hk
        have hl := TrOk.list (B := B) ih g hs2
        split
        · rename_i x pp
          unfold trCallN
          split
          · rename_i hg
            obtain ⟨hgl, hdb, _⟩ := glb_gl g hg
            split
            · rename_i hx
              subst hx
              split
              · rename_i a es j p2
                rw [List.all_cons, Bool.and_eq_true] at hs2
                split
                · rename_i ts hts
                  split
                  · rename_i hlen
                    obtain ⟨q1, q2⟩ := cls_all g hts
                    exact ok_isiT g (ih X c XE g B a hs2.1) hs2.1 q1 hlen q2 hgl
                  · exact bad
                · exact bad
              · rename_i a C _
                rw [List.all_cons, Bool.and_eq_true] at hs2
                split
                · rename_i t ht
                  obtain ⟨q1, q2, q3⟩ := cls_ok g ht
                  exact ok_isi g (ih X c XE g B a hs2.1) hs2.1 q1 q2 q3 hgl
                · exact bad
              · exact bad
            · split
              · rename_i b hb
                exact ok_bi g hb hgl hs2 hl
              · split
                · exact bad
                · exact ok_call g hgl hl hs2 hdb
          · exact bad
        · rename_i o m apos
          split
          · rename_i ho
            have hoo := ih X c XE g B o ho
            unfold trCallM
            split
            · rename_i hc
              obtain ⟨hl1, hb, hn⟩ := hc
              split
              · rename_i hm
                have hm : m = "get" := of_decide_eq_true hm
                subst hm
                rename_i a b
                rw [List.all_cons, List.all_cons, Bool.and_eq_true, Bool.and_eq_true] at hs2
                exact ok_get g hoo (ih X c XE g B a hs2.1) (ih X c XE g B b hs2.2.1) hb hs2.1 hs2.2.1 hl1
              · exact bad
              · exact ok_meth g hoo hl hb hs2 hn hl1
            · exact bad
          · exact bad
        · exact bad
      · exact bad
    | JoinedStr vs p =>
      dsimp only
      split
      · split
        · rename_i h
          exact ok_fst g (parts_ok ih g h)
        · exact bad
      · exact bad
    | ListComp elt gens scope p =>
      dsimp only
      split
      · rename_i tg iter ifs
        split
        · rename_i h
          obtain ⟨h1, h2, h3, h4, h5, h6, h7⟩ := h
          have hblk : BlkOk X.N X.env.scope scope (ownOf c scope) := by
            rw [g.nN, g.sc]
            exact blkOk_by h6
          have gb : ∀ (s : Shared) (H : Hp) (C : Addr) (cl : List (Str × Addr)) (fp : List Addr), Gd T Γ CX k (X.blk s H scope (compEnvC scope cl C X.env) fp) (c.inner scope) XN := fun s H C cl fp => g.blk s H scope cl C fp hblk.kind
          refine Ok.plain g.hK (wkE (pe_lc g.calm g.nd (ih.src (B := B) g h2) hblk (fun s H C cl fp => pg_ok n tg (gb s H C cl fp)) (fun s H C cl fp => pts_any fun B => pts_of (T := T) (B := B) (XE := XN) (Γ := Γ) (TrOk.list ih (gb s H C cl fp) h4) h5) (fun s H C cl fp => pe_any fun B => Go.rep (ih _ _ _ (gb s H C cl fp) B elt h3).pe) (fold_no (by cases iter <;> first | rfl | cases h1))) ?_) rfl (fun _ => rfl) fun _ => rfl
          exact fun σ H Q q => lc_imp (fun i hi => List.contains_iff_mem.mp (List.all_eq_true.mp h7 i hi)) σ H Q q
        · exact bad
      · exact bad
    | DictComp ke elt gens scope p =>
      dsimp only
      split
      · rename_i tg iter ifs
        split
        · rename_i h
          obtain ⟨h1, h2, h0, h3, h4, h5, h6, h7⟩ := h
          have hblk : BlkOk X.N X.env.scope scope (ownOf c scope) := by
            rw [g.nN, g.sc]
            exact blkOk_by h6
          have gb : ∀ (s : Shared) (H : Hp) (C : Addr) (cl : List (Str × Addr)) (fp : List Addr), Gd T Γ CX k (X.blk s H scope (compEnvC scope cl C X.env) fp) (c.inner scope) XN := fun s H C cl fp => g.blk s H scope cl C fp hblk.kind
          refine Ok.plain g.hK (wkE (pe_dc g.calm g.nd (ih.src (B := B) g h2) hblk (fun s H C cl fp => pg_ok n tg (gb s H C cl fp)) (fun s H C cl fp => pts_any fun B => pts_of (T := T) (B := B) (XE := XN) (Γ := Γ) (TrOk.list ih (gb s H C cl fp) h4) h5) (fun s H C cl fp => pe_any fun B => Go.rep (ih _ _ _ (gb s H C cl fp) B ke h0).pe) (fun s H C cl fp => pe_any fun B => Go.rep (ih _ _ _ (gb s H C cl fp) B elt h3).pe) (fold_no (by cases iter <;> first | rfl | cases h1))) ?_) rfl (fun _ => rfl) fun _ => rfl
          exact fun σ H Q q => dc_imp (fun i hi => List.contains_iff_mem.mp (List.all_eq_true.mp h7 i hi)) σ H Q q
        · exact bad
      · exact bad
    | _ => exact bad
end
end Pf
end
section
set_option Elab.async false
set_option linter.all false
set_option maxRecDepth 100000
set_option maxHeartbeats 2000000
/-! Rf17: statements, form by form. -/
namespace Pf
open PySem PySem.Spec PyProof.Rows L2
/-- what is wanted of a statement's end by data -/
def EndS (T : Tab) (B : Base) (XE : XK) (D : Ends) (G : Hp) : SO → Prop
  | .nx ρ => ∀ σ' H' G', Ex G G' → Sta T B σ' H' G' ρ → D.nx σ' H'
  | .brk ρ => ∀ σ' H' G', Ex G G' → Sta T B σ' H' G' ρ → D.bk σ' H'
  | .cnt ρ => ∀ σ' H' G', Ex G G' → Sta T B σ' H' G' ρ → D.ct σ' H'
  | .ret r ρ => ∀ σ' v H' G', Ex G G' → Sta T B σ' H' G' ρ → RR T B σ' H' G' ρ r.1 r.2 v → D.rt v H'
  | .exc c l ρ => ∀ σ' x od H' G', Ex G G' → Sta T B σ' H' G' ρ → ExR T H' G' c l x od → XE x od H'
  | .bad => False
def RdS (T : Tab) (B : Base) (XE : XK) (o : Rho → SO) : TS := fun D σ H => ∃ G ρ, Sta T B σ H G ρ ∧ EndS T B XE D G (o ρ)
section
variable {T : Tab} {B : Base} {XE : XK} {D : Ends} {G G' : Hp}
theorem EndS.mono {o : SO} (e : Ex G G') (h : EndS T B XE D G o) : EndS T B XE D G' o := by
  cases o with
  | nx ρ => exact fun σ' H' G2 e2 => h σ' H' G2 (e.trans e2)
  | brk ρ => exact fun σ' H' G2 e2 => h σ' H' G2 (e.trans e2)
  | cnt ρ => exact fun σ' H' G2 e2 => h σ' H' G2 (e.trans e2)
  | ret r ρ => exact fun σ' v H' G2 e2 => h σ' v H' G2 (e.trans e2)
  | exc c l ρ => exact fun σ' x od H' G2 e2 => h σ' x od H' G2 (e.trans e2)
  | bad => exact h
theorem EndS.of {α : Type} {o : Out α} {f : α → Rho → SO} (σ : L2.St) (h : EndS T B XE D G (SO.of o f)) : Pst o (fun a ρ => EndS T B XE D G (f a ρ)) (exE T B XE σ G) := by
  cases o with
  | ok a ρ => exact h
  | exc c l ρ => exact fun x od H' G' => h σ x od H' G'
  | bad => exact h
theorem EndS.opt {o : Option Rho} (h : EndS T B XE D G (ofOpt o)) : ∃ ρ, o = some ρ ∧ EndS T B XE D G (.nx ρ) := by
  cases o with
  | none => exact h.elim
  | some ρ => exact ⟨ρ, rfl, h⟩
end
theorem blkK {env : Env} (h : env.scope.kind = .function) : env.blockKind = .function := by
  unfold Env.blockKind
  rw [h]
  rfl
def noComp : Expr → Bool
  | .ListComp .. => false
  | .SetComp .. => false
  | .DictComp .. => false
  | _ => true
theorem sw_no {v : Expr} {t : Option Expr} {l : Nat} {env : Env} (h : noComp v = true) : swapsWith v t l env = pure false := by
  unfold swapsWith
  cases v <;> first | rfl | cases h
def notTup : Expr → Bool
  | .Tuple .. => false
  | _ => true
theorem st_no {t v : Expr} {env : Env} (h : notTup v = true) : swappedStores [t] v env = pure none := by
  unfold swappedStores
  cases v <;> first | (cases h; done) | (cases t <;> rfl)
section
variable {X : Cx} {T : Tab} {B : Base} {XE : XK} {Γ : Ga} {CX : CXT} {k : Nat} {c : Ctx} {e a b o : Expr} {es : List Expr} {pos p p2 : PySem.Pos} {ir ia ib ic : E} {irs : List E} {st : Stmt} {sts : List Stmt}
theorem ps_bad : PS X st (RdS T B XE (ex Γ .bad)) := ⟨fun pins s σ H D I h => by
  obtain ⟨G, ρ, S, p⟩ := h
  unfold ex at p
  exact (show False from p).elim⟩
theorem s_pass (h : PS X st tNext) : PS X st (RdS T B XE (ex Γ .pass)) := wkS h fun D σ H q => by
  obtain ⟨G, ρ, S, p⟩ := q
  unfold ex at p
  exact p σ H G (Ex.refl G) S
theorem s_brk : PS X (.Break pos) (RdS T B XE (ex Γ .brk)) := wkS ps_break fun D σ H q => by
  obtain ⟨G, ρ, S, p⟩ := q
  unfold ex at p
  exact p σ H G (Ex.refl G) S
theorem s_cnt : PS X (.Continue pos) (RdS T B XE (ex Γ .cnt)) := wkS ps_continue fun D σ H q => by
  obtain ⟨G, ρ, S, p⟩ := q
  unfold ex at p
  exact p σ H G (Ex.refl G) S
theorem s_retN : PS X (.Return none pos) (RdS T B XE (ex Γ .retN)) := wkS ps_retN fun D σ H q => by
  obtain ⟨G, ρ, S, p⟩ := q
  unfold ex at p
  exact p σ .non H G (Ex.refl G) S (show Rep T G .non .non by unfold Rep; rfl)
theorem s_ret (h : Ok X T B XE Γ e ir) (hf : ∀ a, ¬ B.ow a) : PS X (.Return (some e) pos) (RdS T B XE (ex Γ (.ret ir))) := by
  have gen : ∀ D σ H G ρ, Sta T B σ H G ρ → EndS T B XE D G (SO.of (ev Γ ir false ρ) fun r ρ1 => .ret r ρ1) → tRet (RdE T B XE fun ρ => ev Γ ir false ρ) D σ H := fun D σ H G ρ S p =>
    ⟨G, ρ, S, (EndS.of σ p).mono (fun r ρ1 q v H1 G1 e1 S1 r1 => q σ v H1 G1 e1 S1 r1) fun _ _ _ q => q⟩
  by_cases hv : ∃ i, ir = .var i
  · obtain ⟨i, rfl⟩ := hv
    have hvar := h.va i rfl
    -- a name: its own cell goes out as it is
    refine ⟨fun pins s σ H D I q => ?_⟩
    obtain ⟨G, ρ, S, p⟩ := q
    unfold ex at p
    cases hs : slot ρ i with
    | some sl =>
      cases sl with
      | cel bb d =>
        cases bb with
        | false =>
          simp only [hs] at p
          refine (ps_ret (pos := pos) hvar).run pins s σ H D I ?_
          obtain ⟨pa, h1, h2, h3⟩ := S.cl i false d (slot_some hs)
          refine ⟨_, h1, p σ _ H G (Ex.refl G) (S.drop (by rw [List.length_set]; exact S.ln) fun j sj hj => ?_) ⟨pa, rfl, h2, (S.nw i d pa (slot_some hs) h1).resolve_left (hf pa), fun j b' d' hj hp => ?_⟩⟩
          · by_cases z : j = i
            · subst z
              cases get_set_eq hj
            · rw [get_set_ne z] at hj
              exact ⟨hj, rfl⟩
          · by_cases z : j = i
            · subst z
              cases get_set_eq hj
            · rw [get_set_ne z] at hj
              exact z (S.dj j i b' false d' d pa hj (slot_some hs) hp h1)
        | true =>
          simp only [hs] at p
          exact (ps_ret (pos := pos) h.pe).run pins s σ H D I (gen D σ H G ρ S p)
      | val bb d =>
        simp only [hs] at p
        exact (ps_ret (pos := pos) h.pe).run pins s σ H D I (gen D σ H G ρ S p)
    | none =>
      simp only [hs] at p
      exact (ps_ret (pos := pos) h.pe).run pins s σ H D I (gen D σ H G ρ S p)
  · refine wkS (ps_ret (pos := pos) h.pe) fun D σ H q => ?_
    obtain ⟨G, ρ, S, p⟩ := q
    refine gen D σ H G ρ S ?_
    have : ex Γ (.ret ir) ρ = SO.of (ev Γ ir false ρ) fun r ρ1 => .ret r ρ1 := by
      cases ir <;> first | (exact absurd ⟨_, rfl⟩ hv) | (unfold ex; rfl)
    rw [this] at p
    exact p
theorem s_ex (h : Ok X T B XE Γ e ir) (hc : noComp e = true) : PS X (.Expr e pos) (RdS T B XE (ex Γ (.ex ir))) := wkS (ps_expr (Go.rep h.pe) (sw_no hc)) fun D σ H q => by
  obtain ⟨G, ρ, S, p⟩ := q
  unfold ex at p
  exact ⟨G, ρ, S, (EndS.of σ p).mono (fun r ρ1 q v H1 G1 e1 S1 r1 => q σ H1 G1 e1 S1) fun _ _ _ q => q⟩
/-- an assignment's reading -/
theorem set_imp {i : Nat} (D : Ends) (σ : L2.St) (H : Hp) (q : RdS T B XE (ex Γ (.set i ir)) D σ H) : tAsg (RdE T B XE fun ρ => ev Γ ir false ρ) (gName i) D σ H := by
  obtain ⟨G, ρ, S, p⟩ := q
  unfold ex at p
  refine ⟨G, ρ, S, (EndS.of σ p).mono (fun r ρ1 q v H1 G1 e1 S1 r1 => ?_) fun _ _ _ q => q⟩
  obtain ⟨ρ2, hp, q⟩ := q.opt
  exact q _ H1 G1 e1 (S1.put' r1 hp)
theorem s_set {i : Nat} {x : Str} (g : Gd T Γ CX k X c XE) (h : Ok X T B XE Γ e ir) (hi : X.N[i]? = some x) (hx : Loc X.env.scope x) (hf : X.fn x = true ∨ X.env.scope.names.lookup x = some .local) (hc : noComp e = true) : PS X (.Assign [.Name x p] e pos) (RdS T B XE (ex Γ (.set i ir))) :=
  wkS (ps_set (pos := pos) g.nd hi hx h.pe (sw_no hc) hf) set_imp
theorem s_tgt {t : Expr} {tg : Tg} (h : Ok X T B XE Γ e ir) (ht : PG X t (gB T tg)) (hc : noComp e = true) (hn : notTup e = true) (hs : noStar t = true) : PS X (.Assign [t] e pos) (RdS T B XE (ex Γ (.tgt tg ir))) :=
  wkS (ps_asg (pos := pos) (Go.rep h.pe) ht (sw_no hc) (st_no hn) (by rw [as_one hs] <;> rfl)) fun D σ H q => by
    obtain ⟨G, ρ, S, p⟩ := q
    unfold ex at p
    refine ⟨G, ρ, S, (EndS.of σ p).mono (fun r ρ1 q v H1 G1 e1 S1 r1 => ?_) fun _ _ _ q => q⟩
    obtain ⟨ρ2, hp, q⟩ := q.opt
    exact ⟨B, G1, ρ1, r.2, ρ2, S1, r1, hp, fun σ' S' _ => q σ' H1 G1 e1 S'⟩
theorem s_if {t : Expr} {sa sb : List Stmt} {la lb : List S} (ht : Ok X T B XE Γ t ir) (ha : PSs X sa (RdS T B XE (exs Γ la))) (hb : PSs X sb (RdS T B XE (exs Γ lb))) : PS X (.If t sa sb pos) (RdS T B XE (ex Γ (.iff ir la lb))) :=
  wkS (ps_if ht.pt ha hb) fun D σ H q => by
    obtain ⟨G, ρ, S, p⟩ := q
    unfold ex at p
    refine ⟨G, ρ, S, (EndS.of σ p).mono (fun r ρ1 q v H1 G1 e1 S1 r1 => ?_) fun _ _ _ q => q⟩
    have r1 : r.2 = .bl v := r1
    rw [r1] at q
    cases v with
    | true =>
      dsimp only
      rw [if_pos rfl]
      exact ⟨G1, ρ1, S1, EndS.mono e1 q⟩
    | false =>
      dsimp only
      rw [if_neg Bool.false_ne_true]
      exact ⟨G1, ρ1, S1, EndS.mono e1 q⟩
theorem ss_nil : PSs X [] (RdS T B XE (exs Γ [])) := wkSs pss_nil fun D σ H q => by
  obtain ⟨G, ρ, S, p⟩ := q
  unfold exs at p
  exact p σ H G (Ex.refl G) S
theorem ss_cons {s : S} {l : List S} (h : PS X st (RdS T B XE (ex Γ s))) (ht : PSs X sts (RdS T B XE (exs Γ l))) : PSs X (st :: sts) (RdS T B XE (exs Γ (s :: l))) := wkSs (pss_cons h ht) fun D σ H q => by
  obtain ⟨G, ρ, S, p⟩ := q
  unfold exs at p
  refine ⟨G, ρ, S, ?_⟩
  cases hs : ex Γ s ρ with
  | nx ρ1 =>
    rw [hs] at p
    exact fun σ1 H1 G1 e1 S1 => ⟨G1, ρ1, S1, EndS.mono e1 p⟩
  | ret r ρ1 => rw [hs] at p; exact p
  | brk ρ1 => rw [hs] at p; exact p
  | cnt ρ1 => rw [hs] at p; exact p
  | exc cc l ρ1 => rw [hs] at p; exact p
  | bad => rw [hs] at p; exact p
theorem s_while {t : Expr} {body : List Stmt} {lb : List S} (g : Gd T Γ CX k X c XE) (ht : Ok X T B XE Γ t ir) (hb : PSs X body (RdS T B XE (exs Γ lb))) : PS X (.While t body [] pos) (RdS T B XE (ex Γ (.whl ir lb))) :=
  wkS (ps_while g.po ht.pt hb) fun D σ H q => by
    obtain ⟨G, ρ, S, p⟩ := q
    unfold ex at p
    refine ⟨fun m σ H => ∃ G ρ, Sta T B σ H G ρ ∧ EndS T B XE D G (wloop (fun ρ => ev Γ ir true ρ) (fun ρ => exs Γ lb ρ) m ρ), ⟨Γ.wf, G, ρ, S, p⟩, ?_⟩
    rintro m σ H ⟨G, ρ, S, p⟩
    cases m with
    | zero =>
      unfold wloop at p
      exact p.elim
    | succ m =>
      unfold wloop at p
      refine ⟨G, ρ, S, (EndS.of σ p).mono (fun r ρ1 q v H1 G1 e1 S1 r1 => ?_) fun _ _ _ q => q⟩
      have r1 : r.2 = .bl v := r1
      simp only [r1] at q
      cases v with
      | false =>
        dsimp only
        rw [if_neg Bool.false_ne_true]
        exact q σ H1 G1 e1 S1
      | true =>
        dsimp only
        rw [if_pos rfl]
        refine ⟨fun σ H => ∃ G ρ, Sta T B σ H G ρ ∧ EndS T B XE D G (wloop (fun ρ => ev Γ ir true ρ) (fun ρ => exs Γ lb ρ) m ρ), fun σ' H' h => ⟨m, Nat.lt_succ_self m, h⟩, G1, ρ1, S1, ?_⟩
        cases he : exs Γ lb ρ1 with
        | nx ρ2 =>
          simp only [he] at q
          exact fun σ2 H2 G2 e2 S2 => ⟨G2, ρ2, S2, EndS.mono (e1.trans e2) q⟩
        | cnt ρ2 =>
          simp only [he] at q
          exact fun σ2 H2 G2 e2 S2 => ⟨G2, ρ2, S2, EndS.mono (e1.trans e2) q⟩
        | brk ρ2 =>
          simp only [he] at q
          exact fun σ2 H2 G2 e2 S2 => q σ2 H2 G2 (e1.trans e2) S2
        | ret r2 ρ2 =>
          simp only [he] at q
          exact fun σ2 v H2 G2 e2 S2 => q σ2 v H2 G2 (e1.trans e2) S2
        | exc cc l ρ2 =>
          simp only [he] at q
          exact fun σ2 x od H2 G2 e2 S2 => q σ2 x od H2 G2 (e1.trans e2) S2
        | bad =>
          simp only [he] at q
          exact q.elim
theorem s_for {t iter : Expr} {tg : Tg} {kk : Ik} {src : List E} {body : List Stmt} {lb : List S} (g : Gd T Γ CX k X c XE) (hi : PI X t iter (iB T B XE Γ kk src)) (hn : ∀ ρ as ρ1, evs Γ src ρ = .ok as ρ1 → slots as = []) (ht : PG X t (gB T tg)) (hb : PSs X body (RdS T B XE (exs Γ lb))) (hs : notSet iter = true) : PS X (.For t iter body [] pos) (RdS T B XE (ex Γ (.for_ tg kk src lb))) :=
  wkS (ps_for g.po g.calm hi ht hb (fold_no (by cases iter <;> first | rfl | cases hs))) fun D σ H q => by
    obtain ⟨G, ρ, S, p⟩ := q
    unfold ex at p
    refine ⟨G, ρ, S, ?_⟩
    have p2 := EndS.of σ p
    cases hE : evs Γ src ρ with
    | bad => rw [hE] at p2; exact p2.elim
    | exc cc l ρ1 => rw [hE] at p2; exact p2
    | ok as ρ1 =>
    rw [hE] at p2
    have hsl := hn ρ as ρ1 hE
    have p2 : EndS T B XE D G (match fillD ρ1 as with
      | some ds => (match walk kk ds with
        | some xs => loop (fun ρ => held ρ as ds) (fun x ρ2 => match bind1 tg x ρ2 with
            | some ρ3 => exs Γ lb ρ3
            | none => .bad) xs ρ1
        | none => .bad)
      | none => .bad) := p2
    cases hf : fillD ρ1 as with
    | none => rw [hf] at p2; exact p2.elim
    | some ds =>
    rw [hf] at p2
    cases hw : walk kk ds with
    | none => simp only [hw] at p2; exact p2.elim
    | some xs =>
    simp only [hw] at p2
    refine ⟨ds, xs, hf, hw, fun J H1 G1 e1 S1 wk => ?_⟩
    refine ⟨fun i m σ H => m = xs.length - i ∧ i ≤ xs.length ∧ ∃ G ρ, Ex G1 G ∧ Sta T B σ H G ρ ∧ EndS T B XE D G (loop (fun ρ => held ρ as ds) (fun x ρ2 => match bind1 tg x ρ2 with
            | some ρ3 => exs Γ lb ρ3
            | none => .bad) (xs.drop i) ρ), ⟨xs.length, by simp, Nat.zero_le _, G1, ρ1, Ex.refl G1, S1, by rw [List.drop_zero]; exact EndS.mono e1 p2⟩, ?_⟩
    rintro i m σ2 H2 ⟨rfl, hi, G2, ρ2, e2, S2, p3⟩
    have nosl : ∀ i ∈ slots as, σ2[i]? = σ[i]? := fun i hi => by rw [hsl] at hi; cases hi
    by_cases hlt : i < xs.length
    · obtain ⟨x, hxi⟩ : ∃ x, xs[i]? = some x := ⟨_, List.getElem?_eq_getElem hlt⟩
      have hdrop : xs.drop i = x :: xs.drop (i + 1) := by
        rw [List.drop_eq_getElem_cons hlt]
        congr 1
        rw [List.getElem?_eq_getElem hlt] at hxi
        exact Option.some.inj hxi
      rw [hdrop] at p3
      unfold loop at p3
      cases hh : held ρ2 as ds with
      | false => rw [hh] at p3; exact (show False from p3).elim
      | true =>
      rw [hh] at p3
      obtain ⟨w1, w2, w3⟩ := wk B H2 G2 ρ2 σ2 S2 e2 nosl hh
      refine .inr ⟨w1 i hlt, fun σ H => ∃ G ρ, Ex G1 G ∧ Sta T B σ H G ρ ∧ EndS T B XE D G (loop (fun ρ => held ρ as ds) (fun x ρ2 => match bind1 tg x ρ2 with
            | some ρ3 => exs Γ lb ρ3
            | none => .bad) (xs.drop (i + 1)) ρ), fun σ' H' h => ⟨xs.length - (i + 1), by omega, rfl, hlt, h⟩, fun v H3 y => ?_⟩
      obtain ⟨d, G3, hd, t3, e3, r3⟩ := w3 i v H3 hlt y
      rw [hxi] at hd
      cases hd
      have S3 := S2.step e3 t3
      cases hb1 : bind1 tg x ρ2 with
      | none => simp only [hb1] at p3; exact (show False from p3).elim
      | some ρ3 =>
      simp only [hb1] at p3
      refine ⟨B, G3, ρ2, x, ρ3, S3, r3, hb1, fun σ3 S4 _ => ⟨G3, ρ3, S4, ?_⟩⟩
      cases he : exs Γ lb ρ3 with
      | nx ρ4 =>
        simp only [he] at p3
        exact fun σ5 H5 G5 e5 S5 => ⟨G5, ρ4, e2.trans (t3.g.trans e5), S5, EndS.mono (t3.g.trans e5) p3⟩
      | cnt ρ4 =>
        simp only [he] at p3
        exact fun σ5 H5 G5 e5 S5 => ⟨G5, ρ4, e2.trans (t3.g.trans e5), S5, EndS.mono (t3.g.trans e5) p3⟩
      | brk ρ4 =>
        simp only [he] at p3
        exact fun σ5 H5 G5 e5 S5 => p3 σ5 H5 G5 (t3.g.trans e5) S5
      | ret r2 ρ4 =>
        simp only [he] at p3
        exact fun σ5 v H5 G5 e5 S5 => p3 σ5 v H5 G5 (t3.g.trans e5) S5
      | exc cc l ρ4 =>
        simp only [he] at p3
        exact fun σ5 x od H5 G5 e5 S5 => p3 σ5 x od H5 G5 (t3.g.trans e5) S5
      | bad =>
        simp only [he] at p3
        exact (show False from p3).elim
    · have hi2 : i = xs.length := by omega
      subst hi2
      rw [List.drop_length] at p3
      unfold loop at p3
      cases hh : held ρ2 as ds with
      | false => rw [hh] at p3; exact (show False from p3).elim
      | true =>
      rw [hh] at p3
      obtain ⟨w1, w2, w3⟩ := wk B H2 G2 ρ2 σ2 S2 e2 nosl hh
      exact .inl ⟨w2, p3 σ2 H2 G2 (Ex.refl G2) S2⟩
end
end Pf
end
section
set_option Elab.async false
set_option linter.all false
set_option maxRecDepth 100000
set_option maxHeartbeats 2000000
/-! Rf18: statements that change cells; stores in a row. -/
namespace Pf
open PySem PySem.Spec PyProof.Rows L2
theorem putF_at {f : Str} {v : V} : ∀ {fs : List (Str × V)} {k : Nat}, (fs.map (·.1)).Nodup → (fs.map (·.1))[k]? = some f → (putF f v fs).map (·.1) = fs.map (·.1) ∧ (putF f v fs).map (·.2) = (fs.map (·.2)).set k v
  | [], k, _, h => by simp at h
  | (x, y) :: fs, 0, n, h => by
    have hx : x = f := by simpa using h
    subst hx
    unfold putF
    rw [if_pos rfl]
    exact ⟨rfl, rfl⟩
  | (x, y) :: fs, k + 1, n, h => by
    have n1 : x ∉ fs.map (·.1) := (List.nodup_cons.mp n).1
    have h' : (fs.map (·.1))[k]? = some f := by simpa using h
    have hx : x ≠ f := fun z => n1 (by rw [z]; exact List.mem_of_getElem? h')
    obtain ⟨h1, h2⟩ := putF_at (v := v) (List.nodup_cons.mp n).2 h'
    unfold putF
    rw [if_neg hx]
    constructor
    · rw [List.map_cons, List.map_cons, h1]
    · rw [List.map_cons, List.map_cons, h2]
      rfl
theorem putF_new {f : Str} {v : V} : ∀ {fs : List (Str × V)}, f ∉ fs.map (·.1) → putF f v fs = fs ++ [(f, v)]
  | [], _ => rfl
  | (x, y) :: fs, h => by
    have hx : x ≠ f := fun z => h (by rw [z]; exact List.mem_cons_self)
    unfold putF
    rw [if_neg hx, putF_new (fs := fs) fun z => h (List.mem_cons_of_mem _ z)]
    rfl
theorem setF_put {T : Tab} {G : Hp} {fl : List Str} {fs : List (Str × V)} {l : List D} {f : Str} {k : Nat} {d : D} {v : V} (n : fl.Nodup) (h : fs.map (·.1) = fl.take l.length) (r : RepL T G l (fs.map (·.2))) (hk : ixOf f fl = some k) (rv : Rep T G d v) :
    (k < l.length → (putF f v fs).map (·.1) = fl.take (l.set k d).length ∧ RepL T G (l.set k d) ((putF f v fs).map (·.2))) ∧
    (k = l.length → (putF f v fs).map (·.1) = fl.take (l ++ [d]).length ∧ RepL T G (l ++ [d]) ((putF f v fs).map (·.2))) := by
  have hf := ixOf_lt hk
  have nf : (fs.map (·.1)).Nodup := by rw [h]; exact n.sublist (List.take_sublist _ _)
  refine ⟨fun hl => ?_, fun hl => ?_⟩
  · obtain ⟨h1, h2⟩ := putF_at (v := v) nf (k := k) (by rw [h, List.getElem?_take_of_lt hl]; exact hf)
    rw [h1, h2, List.length_set]
    exact ⟨h, r.set k rv⟩
  · subst hl
    have hn : f ∉ fs.map (·.1) := fun z => by
      rw [h] at z
      obtain ⟨j, hj⟩ := List.getElem?_of_mem z
      have hjl : j < l.length := by
        by_cases hj2 : j < l.length
        · exact hj2
        · rw [List.getElem?_eq_none (by rw [List.length_take]; omega)] at hj
          cases hj
      rw [List.getElem?_take_of_lt hjl] at hj
      have e1 := (List.getElem?_inj (by obtain ⟨z, _⟩ := List.getElem?_eq_some_iff.mp hj; exact z) n).mp (hj.trans hf.symm)
      omega
    rw [putF_new hn]
    constructor
    · have hl2 : l.length < fl.length := by
        obtain ⟨z, _⟩ := List.getElem?_eq_some_iff.mp hf
        exact z
      rw [List.map_append, h, List.length_append]
      show fl.take l.length ++ [f] = fl.take (l.length + 1)
      rw [List.take_add_one, hf]
      rfl
    · rw [List.map_append]
      exact r.append (RepL.cons rv RepL.nil)
section
variable {X : Cx} {T : Tab} {B : Base} {XE : XK} {Γ : Ga} {CX : CXT} {k : Nat} {c : Ctx} {e a b o : Expr} {es : List Expr} {pos p p2 : PySem.Pos} {ir ia ib ic ik : E} {irs : List E} {σ : L2.St} {H G : Hp} {ρ ρ' : Rho} {i : Nat} {x : Str}
theorem cellOf_some {d : D} (h : cellOf ρ i = some d) : ∃ b, ρ[i]? = some (some (Sl.cel b d)) ∧ slot ρ i = some (.cel b d) := by
  unfold cellOf at h
  cases hs : slot ρ i with
  | none => rw [hs] at h; cases h
  | some s =>
    rw [hs] at h
    cases s with
    | val b d => cases h
    | cel b d =>
      cases h
      exact ⟨b, slot_some hs, rfl⟩
/-- a cell changes -/
theorem Sta.putAt {d d' : D} {pa : Addr} {u : HO} (S : Sta T B σ H G ρ) (h : cellOf ρ i = some d) (hp : Pf.putAt i d' ρ = some ρ') (hs : σ[i]? = some (some (V.ref pa))) (c : Cell T (L2.upd H pa u) G pa d') : Sta T B σ (L2.upd H pa u) G ρ' := by
  obtain ⟨b, h1, h2⟩ := cellOf_some h
  unfold Pf.putAt at hp
  rw [h2] at hp
  cases hp
  exact S.mut h1 hs c
theorem sw_att {v o : Expr} {f : Str} {l : Nat} {env : Env} : swapsWith v (some (.Attribute o f p)) l env = pure false := by
  unfold swapsWith
  cases v <;> rfl
theorem sw_sub {v o y : Expr} {l : Nat} {env : Env} : swapsWith v (some (.Subscript o y p)) l env = pure false := by
  unfold swapsWith
  cases v <;> rfl
theorem s_stf (g : Gd T Γ CX k X c XE) {f : Str} (h : Ok X T B XE Γ e ir) (hv : PE X (.Name x p) (tVar i)) : PS X (.Assign [.Attribute (.Name x p) f p2] e pos) (RdS T B XE (ex Γ (.stf i f ir))) :=
  wkS (ps_fld (pos := pos) hv (Go.rep h.pe) sw_att) fun D σ H q => by
    obtain ⟨G, ρ, S, p⟩ := q
    unfold ex at p
    refine ⟨G, ρ, S, (EndS.of σ p).mono (fun r ρ1 q v H1 G1 e1 S1 r1 => ?_) fun _ _ _ q => q⟩
    cases hce : cellOf ρ1 i with
    | none => simp only [hce] at q; exact q.elim
    | some d =>
    simp only [hce] at q
    cases hse : setF Γ.flds f d r.2 with
    | none => simp only [hse] at q; exact q.elim
    | some d' =>
    simp only [hse] at q
    obtain ⟨ρ2, hp, q⟩ := q.opt
    obtain ⟨bb, h1, h2⟩ := cellOf_some hce
    obtain ⟨pa, h3, h4, h5⟩ := S1.cl i bb d h1
    rw [g.fl] at hse
    cases d with
    | ins cc l =>
      obtain ⟨hfree, dx, fs, h6, h7, h8⟩ := h4
      have r1 : Rep T G1 r.2 v := r1
      simp only [setF] at hse
      cases hix : ixOf f (T.flds cc) with
      | none => rw [hix] at hse; cases hse
      | some kk =>
      rw [hix] at hse
      have hse : (if kk < l.length then some (Pf.D.ins cc (l.set kk r.2)) else if kk = l.length then some (Pf.D.ins cc (l ++ [r.2])) else none) = some d' := hse
      have hmem : f ∈ T.flds cc := List.mem_of_getElem? (ixOf_lt hix)
      obtain ⟨s1, s2⟩ := setF_put (d := r.2) (v := v) (g.fnd cc).1 h7 h8 hix r1
      have hfl : fs.length < 1000 := by
        have hlen : fs.length ≤ (T.flds cc).length := by
          have := congrArg List.length h7
          rw [List.length_map, List.length_take] at this
          omega
        exact Nat.lt_of_le_of_lt hlen (g.fnd cc).2
      refine ⟨_, h3, pa, T.cls cc, dx, fs, rfl, h6, g.cls cc (fun z => by rw [z] at hmem; cases hmem), g.noat cc f hmem, hfl, q σ _ G1 e1 (S1.putAt hce hp h3 ?_)⟩
      by_cases hlt : kk < l.length
      · rw [if_pos hlt] at hse
        cases hse
        exact ⟨hfree, dx, _, upd_same, (s1 hlt).1, (s1 hlt).2⟩
      · rw [if_neg hlt] at hse
        obtain ⟨heq, hse⟩ := guard_some hse
        subst hse
        exact ⟨hfree, dx, _, upd_same, (s2 heq).1, (s2 heq).2⟩
    | _ => cases hse
/-- an item of a list or of a dict is set -/
def rSetA : V → V → V → Hp → (Hp → Prop) → Prop := fun o i v H Q => rSetL o i v H Q ∨ ∃ pa kvs kk, o = .ref pa ∧ i = kV kk ∧ H pa = some (.dK kvs) ∧ kvs.length < sizeLine ∧ Q (upd H pa (.dK (putK kvs kk v)))
theorem set_any (hu : X.A.units + 1 < cLine) : PSet X rSetA := by
  intro pins s σ H o i v ov iv u Q I ro ri rv h
  rcases h with h | ⟨pa, kvs, kk, rfl, rfl, hp, hl, q⟩
  · exact set_list pins s σ H o i v ov iv u Q I ro ri rv h
  · cases ro
    exact d_setItem hu I (DPut.k hp hl) ri rv fun s' I' => ⟨_, I', q⟩
theorem s_sti (g : Gd T Γ CX k X c XE) {ke : Expr} (h : Ok X T B XE Γ e ir) (hk : Ok X T B XE Γ ke ik) (hv : PE X (.Name x p) (tVar i)) (hn : notTup e = true) (hx : ixOk ke = true) : PS X (.Assign [.Subscript (.Name x p) ke p2] e pos) (RdS T B XE (ex Γ (.sti i ik ir))) :=
  wkS (ps_asg (pos := pos) (Go.rep h.pe) (pg_sub hv (Go.rep hk.pe) (set_any (by have := g.un; omega)) (fun v => by cases ke <;> first | rfl | cases hx)) (sw_sub (o := .Name x p) (y := ke) (p := p2) (l := pos.line) (env := X.env)) (st_no hn) rfl) fun D σ H q => by
    obtain ⟨G, ρ, S, p⟩ := q
    unfold ex at p
    refine ⟨G, ρ, S, (EndS.of σ p).mono (fun r ρ1 q v H1 G1 e1 S1 r1 => ?_) fun _ _ _ q => q⟩
    cases hc0 : cellOf ρ1 i with
    | none => simp only [hc0] at q; exact q.elim
    | some d0 =>
    simp only [hc0] at q
    obtain ⟨b0, hs0, _⟩ := cellOf_some hc0
    obtain ⟨pa0, hw, _⟩ := S1.cl i b0 d0 hs0
    obtain ⟨w, hw⟩ : ∃ v, σ[i]? = some (some v) := ⟨_, hw⟩
    refine ⟨w, hw, G1, ρ1, S1, (EndS.of σ q).mono (fun y ρ2 q2 kv H2 G2 e2 S2 r2 => ?_) fun _ _ _ q => q.mono e1⟩
    cases hce : cellOf ρ2 i with
    | none => simp only [hce] at q2; exact q2.elim
    | some d =>
    simp only [hce] at q2
    cases hse : setD d y.2 r.2 with
    | none => simp only [hse] at q2; exact q2.elim
    | some d' =>
    simp only [hse] at q2
    obtain ⟨ρ3, hp, q3⟩ := q2.opt
    obtain ⟨bb, h1, h2⟩ := cellOf_some hce
    obtain ⟨pa, h3, h4, h5⟩ := S2.cl i bb d h1
    rw [hw] at h3
    cases h3
    cases d with
    | lst l =>
      cases hy : y.2 with
      | int z =>
        rw [hy] at hse
        have r2 : Rep T G2 y.2 kv := r2
        rw [hy] at r2
        cases r2.int
        obtain ⟨hfree, vs, h6, h7⟩ := h4
        have hse : (ixN l.length z).map (fun j => Pf.D.lst (l.set j r.2)) = some d' := hse
        cases hj : ixN l.length z with
        | none => rw [hj] at hse; cases hse
        | some j =>
          rw [hj] at hse
          cases hse
          have r1 : Rep T G1 r.2 v := r1
          refine .inl ⟨pa, vs, z, j, rfl, rfl, h6, by rw [h7.length]; exact hj, q3 σ _ G2 (e1.trans e2) (S2.putAt hce hp hw ⟨hfree, _, upd_same, h7.set j (r1.mono e2)⟩)⟩
      | _ => rw [hy] at hse; cases hse
    | dic ks l =>
      have r2 : Rep T G2 y.2 kv := r2
      have r1 : Rep T G1 r.2 v := r1
      have hse : (match y.2.key with
        | some j => if szl ks.length = true then some (Pf.D.dic (stow j r.2 ks l).1 (stow j r.2 ks l).2) else none
        | none => none) = some d' := hse
      cases hj : y.2.key with
      | none => rw [hj] at hse; cases hse
      | some j =>
        rw [hj] at hse
        obtain ⟨hz, rfl⟩ := guard_some hse
        obtain ⟨hfree, kvs, h6, h7, h8⟩ := h4
        obtain ⟨p1, p2⟩ := stow_put (k := j) h7 h8 (r1.mono e2)
        have hlen : kvs.length = ks.length := by rw [← h7, List.length_map]
        refine .inr ⟨pa, kvs, j, rfl, key_rep hj r2, h6, by rw [hlen]; exact Nat.lt_of_le_of_lt (of_decide_eq_true hz) (by rw [sizeLine_eq]; decide), q3 σ _ G2 (e1.trans e2) (S2.putAt hce hp hw ⟨hfree, _, upd_same, p1, p2⟩)⟩
    | _ => cases hse
end
end Pf
end
section
set_option Elab.async false
set_option linter.all false
set_option maxRecDepth 100000
set_option maxHeartbeats 2000000
/-! Rf19: methods of lists whose value is dropped; stores in a row. -/
namespace Pf
open PySem PySem.Spec PyProof.Rows L2
section
variable {X : Cx} {T : Tab} {B : Base} {XE : XK} {Γ : Ga} {CX : CXT} {k : Nat} {c : Ctx} {e a b o : Expr} {es : List Expr} {pos p p2 apos cpos : PySem.Pos} {ir ia ib ic ik : E} {irs : List E} {σ : L2.St} {H G : Hp} {ρ ρ' : Rho} {i : Nat} {x : Str}
def MtOk (m : Mt) (r : V → List V → Hp → VK → Prop) : Prop := ∀ (T : Tab) (H G : Hp) (pa : Addr) (l : List D) (vs : List V) (ds : List D) (ws : List V) (d' : D), Ex G H → H pa = some (.lst vs) → RepL T G l vs → RepL T G ds ws → mtD m (.lst l) ds = some d' →
  ∃ l' vs', d' = .lst l' ∧ RepL T G l' vs' ∧ ∀ K : Hp → Prop, K (upd H pa (.lst vs')) → r (.ref pa) ws H (fun _ H3 => K H3)
theorem mo_append : MtOk .append rAppend := fun T H G pa l vs ds ws d' e h1 h2 h3 h4 => by
  rcases ds with _ | ⟨d, _ | _⟩
  · cases h4
  · obtain ⟨hz, rfl⟩ := guard_some (c := szl (l.length + 1) = true) h4
    unfold RepL at h3
    obtain ⟨w, r, rfl, h5, h6⟩ := h3
    unfold RepL at h6
    subst h6
    refine ⟨_, _, rfl, h2.append (RepL.cons h5 RepL.nil), fun K q => ⟨pa, vs, w, rfl, rfl, h1, ?_, q⟩⟩
    rw [h2.length]
    exact szl_le hz
  · cases h4
theorem mo_extend : MtOk .extend rExtend := fun T H G pa l vs ds ws d' e h1 h2 h3 h4 => by
  rcases ds with _ | ⟨d, _ | _⟩
  · cases h4
  · cases d with
    | lst m =>
      obtain ⟨hz, rfl⟩ := guard_some (c := szl (l.length + m.length) = true) h4
      unfold RepL at h3
      obtain ⟨w, r, rfl, h5, h6⟩ := h3
      unfold RepL at h6
      subst h6
      unfold Rep at h5
      obtain ⟨q, zs, rfl, h7, h8⟩ := h5
      refine ⟨_, _, rfl, h2.append h8, fun K q' => ⟨pa, q, vs, zs, rfl, rfl, h1, e.lst h7, ?_, q'⟩⟩
      rw [h2.length, h8.length]
      exact szl_le hz
    | _ => cases h4
  · cases d <;> cases h4
theorem mo_reverse : MtOk .reverse rReverse := fun T H G pa l vs ds ws d' e h1 h2 h3 h4 => by
  cases ds with
  | nil =>
    cases h4
    unfold RepL at h3
    subst h3
    exact ⟨_, _, rfl, h2.reverse, fun K q => ⟨pa, vs, rfl, rfl, h1, q⟩⟩
  | cons _ _ => cases h4
theorem mo_clear : MtOk .clear rClear := fun T H G pa l vs ds ws d' e h1 h2 h3 h4 => by
  cases ds with
  | nil =>
    cases h4
    unfold RepL at h3
    subst h3
    exact ⟨_, _, rfl, RepL.nil, fun K q => ⟨pa, vs, rfl, rfl, h1, q⟩⟩
  | cons _ _ => cases h4
theorem repL_dropLast {G : Hp} : ∀ {l : List D} {vs : List V}, RepL T G l vs → RepL T G l.dropLast vs.dropLast := fun {l vs} h => by
  rw [List.dropLast_eq_take, List.dropLast_eq_take, h.length]
  exact h.take _
theorem mo_pop : MtOk .pop rPop := fun T H G pa l vs ds ws d' e h1 h2 h3 h4 => by
  cases ds with
  | nil =>
    have h4 : (if l.isEmpty = true then none else some (D.lst l.dropLast)) = some d' := h4
    cases he : l.isEmpty with
    | true => rw [he] at h4; cases h4
    | false =>
      rw [he] at h4
      cases h4
      unfold RepL at h3
      subst h3
      have hv : vs ≠ [] := fun z => by
        have := h2.isNil.mp z
        rw [this] at he
        cases he
      have hl : vs.length - 1 < vs.length := by
        have := List.length_pos_iff.mpr hv
        omega
      exact ⟨_, _, rfl, repL_dropLast h2, fun K q => ⟨pa, vs, _, rfl, rfl, h1, List.getElem?_eq_getElem hl, q⟩⟩
  | cons _ _ => cases h4
theorem mt_imp {m : Mt} {r : V → List V → Hp → VK → Prop} (hr : MtOk m r) (D : Ends) (σ : L2.St) (H : Hp) (q : RdS T B XE (ex Γ (.mt i m irs)) D σ H) : tDrop (tBM X.K "list" r (tVar i) (RdVs T B XE fun ρ => evv Γ irs ρ)) D σ H := by
  obtain ⟨G, ρ, S, p⟩ := q
  unfold ex at p
  cases hc : cellOf ρ i with
  | none => simp only [hc] at p; exact p.elim
  | some d =>
  cases d with
  | lst l =>
    simp only [hc] at p
    obtain ⟨b0, hs0, _⟩ := cellOf_some hc
    obtain ⟨pa, hw, hcell, _⟩ := S.cl i b0 _ hs0
    obtain ⟨_, vs, hv, _⟩ := hcell
    refine ⟨_, hw, .inl ⟨rfl, vs, SqL.of hv⟩, G, ρ, S, (EndS.of σ p).mono (fun ds ρ1 q ws H1 G1 e1 S1 r1 => ?_) fun _ _ _ q => q⟩
    cases hc1 : cellOf ρ1 i with
    | none => simp only [hc1] at q; exact q.elim
    | some d1 =>
    simp only [hc1] at q
    cases hm : mtD m d1 ds with
    | none => simp only [hm] at q; exact q.elim
    | some d' =>
    simp only [hm] at q
    obtain ⟨ρ2, hp, q2⟩ := q.opt
    obtain ⟨b1, hs1, _⟩ := cellOf_some hc1
    obtain ⟨pa', hw1, hcell1, _⟩ := S1.cl i b1 _ hs1
    rw [hw] at hw1
    cases hw1
    cases d1 with
    | lst l1 =>
      obtain ⟨hfree, vs1, h1, h2⟩ := hcell1
      obtain ⟨l', vs', rfl, h3, h4⟩ := hr T H1 G1 pa l1 vs1 ds ws d' S1.ex h1 h2 r1 hm
      exact h4 _ (q2 σ _ G1 e1 (S1.putAt hc1 hp hw ⟨hfree, vs', upd_same, h3⟩))
    | _ => cases m <;> cases hm
  | _ => simp only [hc] at p; exact p.elim
def mtName : Mt → Str
  | .append => "append"
  | .extend => "extend"
  | .pop => "pop"
  | .reverse => "reverse"
  | .clear => "clear"
  | _ => ""
theorem s_mt1 {m : Mt} {r : V → List V → Hp → VK → Prop} {nm : Str} {id : String} (slot : Slot "list" nm id) (hty : typeOf (.builtin id) = pure (.type "method_descriptor")) (hm : MtR X id r) (hr : MtOk m r) (hv : PE X (.Name x p) (tVar i)) (he : noStar e = true) (h : Ok X T B XE Γ e ir) (hl : (apos.endLine == cpos.line) = true) :
    PS X (.Expr (.Call (.Attribute (.Name x p) nm apos) [e] [] cpos) pos) (RdS T B XE (ex Γ (.mt i m [ir]))) := by
  have hst : starEach [e] X.env = [(false, eval e X.env)] := star_one he []
  refine wkS (ps_expr (pe_bm PySem.F.plainAttrs_list slot hty hm hv (pa_vs (pairedStar (.cons h .nil))) (att_ok rfl) (by rw [hst] <;> rfl) hl hst rfl) (sw_no rfl)) (mt_imp hr)
theorem s_mt0 {m : Mt} {r : V → List V → Hp → VK → Prop} {nm : Str} {id : String} (slot : Slot "list" nm id) (hty : typeOf (.builtin id) = pure (.type "method_descriptor")) (hm : MtR X id r) (hr : MtOk m r) (hv : PE X (.Name x p) (tVar i)) (hl : (apos.endLine == cpos.line) = true) :
    PS X (.Expr (.Call (.Attribute (.Name x p) nm apos) [] [] cpos) pos) (RdS T B XE (ex Γ (.mt i m []))) := by
  refine wkS (ps_expr (pe_bm0 PySem.F.plainAttrs_list slot hty hm hv (att_ok rfl) hl) (sw_no rfl)) fun D σ H q => ?_
  obtain ⟨v, h1, h2, G, ρ, S, h3⟩ := mt_imp (X := X) hr D σ H q
  unfold evv at h3
  exact ⟨v, h1, h2, h3 [] H G (Ex.refl G) S RepL.nil⟩
theorem s_aug {e : Expr} (g : Gd T Γ CX k X c XE) (h : Ok X T B XE Γ e ir) (hi : X.N[i]? = some x) (hx : Loc X.env.scope x) (hf : X.fn x = true ∨ X.env.scope.names.lookup x = some .local) : PS X (.AugAssign (.Name x p) .Add e pos) (RdS T B XE (ex Γ (.aug i .add ir))) :=
  wkS (ps_aug (pos := pos) g.nd hi hx (Go.rep h.pe) ip_add hf) fun D σ H q => by
    obtain ⟨G, ρ, S, p⟩ := q
    unfold ex at p
    cases hs : slot ρ i with
    | none => simp only [hs] at p; exact p.elim
    | some s =>
    cases s with
    | cel b d => simp only [hs] at p; exact p.elim
    | val b d =>
    cases d with
    | int z =>
      simp only [hs] at p
      obtain ⟨v, h1, h2⟩ := S.vl i b _ (slot_some hs)
      cases h2.int
      refine ⟨_, h1, G, ρ, S, (EndS.of σ p).mono (fun r ρ1 q v H1 G1 e1 S1 r1 => ?_) fun _ _ _ q => q⟩
      have r1 : Rep T G1 r.2 v := r1
      cases hr : r.2 with
      | int y =>
        rw [hr] at r1
        simp only [hr] at q
        cases r1.int
        obtain ⟨ρ2, hp, q⟩ := q.opt
        exact ⟨z, y, rfl, rfl, q _ H1 G1 e1 (S1.put' (r := (false, .int (z + y))) (v := .int (z + y)) (rep_int (T := T) (G := G1)) hp)⟩
      | _ => simp only [hr] at q; exact q.elim
    | _ => simp only [hs] at p; exact p.elim
/-! ### stores in a row -/
def RRL (T : Tab) (B : Base) (σ : L2.St) (H G : Hp) (ρ : Rho) : List Res → List V → Prop
  | [], vs => vs = []
  | r :: rs, vs => ∃ v ws, vs = v :: ws ∧ RR T B σ H G ρ r.1 r.2 v ∧ (∀ pa, r.1 = true → v = .ref pa → ∀ (j : Nat) (r' : Res) (v' : V), rs[j]? = some r' → r'.1 = true → ws[j]? = some v' → v' ≠ V.ref pa) ∧ RRL T B σ H G ρ rs ws
abbrev rRL (T : Tab) (B : Base) : List Res → List V → L2.St → Hp → Hp → Rho → Prop := fun rs vs σ H G ρ => RRL T B σ H G ρ rs vs
theorem RRL.get : ∀ {rs : List Res} {vs : List V} {j : Nat} {r : Res} {v : V}, RRL T B σ H G ρ rs vs → rs[j]? = some r → vs[j]? = some v → RR T B σ H G ρ r.1 r.2 v
  | [], _, j, r, v, _, h, _ => by simp at h
  | x :: rs, _, 0, r, v, h, h1, h2 => by
    obtain ⟨w, ws, rfl, h3, _⟩ := h
    simp at h1 h2
    subst h1 h2
    exact h3
  | x :: rs, _, j + 1, r, v, h, h1, h2 => by
    obtain ⟨w, ws, rfl, _, _, h3⟩ := h
    exact RRL.get (j := j) h3 (by simpa using h1) (by simpa using h2)
theorem RR.unbase {fr : Bool} {d : D} {v : V} {H2 G2 : Hp} {ρ2 : Rho} (S : Sta T B σ H G ρ) (h : RR T (B.at σ H G ρ) σ H2 G2 ρ2 fr d v) : RR T B σ H2 G2 ρ2 fr d v := by
  cases fr with
  | false => exact h
  | true =>
    obtain ⟨q, h1, h2, h3, h4⟩ := h
    exact ⟨q, h1, h2, S.baseNone h3, h4⟩
theorem RRL.unbase {H2 G2 : Hp} {ρ2 : Rho} (S : Sta T B σ H G ρ) : ∀ {rs : List Res} {vs : List V}, RRL T (B.at σ H G ρ) σ H2 G2 ρ2 rs vs → RRL T B σ H2 G2 ρ2 rs vs
  | [], _, h => h
  | r :: rs, _, h => by
    obtain ⟨v, ws, h1, h2, h3, h4⟩ := h
    exact ⟨v, ws, h1, RR.unbase S h2, h3, RRL.unbase S h4⟩
theorem exE.unbase {G2 : Hp} {cc : Nat} {l : List D} {ρ2 : Rho} (S : Sta T B σ H G ρ) (h : exE T B XE σ G2 cc l ρ2) : exE T (B.at σ H G ρ) XE σ G2 cc l ρ2 := fun y od H' G' e S' => h y od H' G' e (S.unbase S')
theorem pa_rs : ∀ {es : List Expr} {irs : List E} {B : Base}, Paired (fun e ir => (∀ B, Ok X T B XE Γ e ir) ∧ noStar e = true) es irs → PA X es (Go T B XE (rRL T B) (fun ρ => evr Γ irs ρ))
  | _, _, B, .nil => wkA pa_nil fun σ H Q q => by
    obtain ⟨G, ρ, S, p⟩ := q
    unfold evr at p
    exact p [] H G (Ex.refl G) S rfl
  | e :: es, ir :: irs, B, .cons h t => by
    refine ⟨fun pos pins s σ H Q I q => ?_⟩
    obtain ⟨G, ρ, S, p⟩ := q
    unfold evr at p
    -- the rest, whatever the base
    have rest : ∀ B', PA X es (Go T B' XE (rRL T B') (fun ρ => evr Γ irs ρ)) := fun B' => pa_rs t
    have ha := (h.1 B).pe
    have hpc : PA X es (fun σ H Q => ∃ B', Go T B' XE (rRL T B') (fun ρ => evr Γ irs ρ) σ H Q) := ⟨fun pos pins s σ H Q I ⟨B', q⟩ => (rest B').run pos pins s σ H Q I q⟩
    refine (pa_cons ha hpc (star_one h.2 _)).run pos pins s σ H Q I ?_
    refine ⟨G, ρ, S, p.bnd.mono (fun r ρ1 q v H1 G1 e1 S1 r1 => ?_) fun _ _ _ q => q⟩
    refine ⟨B.at σ H1 G1 ρ1, G1, ρ1, S1.rebase, q.bnd.mono (fun rs ρ2 q2 vs H2 G2 e2 S2 r2 => ?_) fun _ _ _ q => exE.unbase S1 (q.mono e1)⟩
    refine q2 (v :: vs) H2 G2 (e1.trans e2) (S1.unbase S2) ⟨v, vs, rfl, ?_, fun pa hfr hv j r' v' h1 h2 h3 => ?_, RRL.unbase S1 r2⟩
    · obtain ⟨fr, d⟩ := r
      cases fr with
      | false => exact Rep.mono e2 r1
      | true =>
        obtain ⟨pa, rfl, c1, hB, hn⟩ := r1
        have nc : ¬ (B.at σ H1 G1 ρ1).cs pa := fun ⟨j, b, dd, h1, h2⟩ => hn j b dd h1 h2
        refine ⟨pa, rfl, c1.move e2 (fun u hu => S2.st.k _ _ hu nc) (S2.st.n _ c1.free c1.there nc), hB, fun j b dd h1 h2 => ?_⟩
        obtain ⟨q, h3, _, h5⟩ := S2.cl j b dd h1
        rw [h2] at h3
        cases h3
        exact h5.elim nc fun z => c1.there z
    · have hr2 := r2.get h1 h3
      rw [h2] at hr2
      obtain ⟨q, h4, h5, h6, h7⟩ := hr2
      obtain ⟨fr, d⟩ := r
      have hfr : fr = true := hfr
      subst hfr
      obtain ⟨pa', h8, c1, _⟩ := r1
      rw [hv] at h8
      cases h8
      rw [h4]
      intro z
      cases z
      exact c1.there h6
def setAll (σ : L2.St) : List Nat → List V → L2.St
  | i :: is, v :: vs => setAll (σ.set i (some v)) is vs
  | _, _ => σ
theorem RR.put {r r2 : Res} {v v2 : V} {i : Nat} (S : Sta T B σ H G ρ) (h : RR T B σ H G ρ r.1 r.2 v) (hp : Pf.put i r2 ρ = some ρ') (hne : r.1 = true → r2.1 = true → ∀ pa, v = .ref pa → v2 ≠ .ref pa) : RR T B (σ.set i (some v2)) H G ρ' r.1 r.2 v := by
  have := put_some hp
  subst this
  obtain ⟨fr, d⟩ := r
  cases fr with
  | false => exact h
  | true =>
    obtain ⟨pa, rfl, h2, h3, h4⟩ := h
    refine ⟨pa, rfl, h2, h3, fun j b dd h5 h6 => ?_⟩
    by_cases z : j = i
    · subst z
      have e5 := get_set_eq h5
      have e6 := get_set_eq h6
      obtain ⟨fr2, d2⟩ := r2
      cases fr2 with
      | false => cases e5
      | true => exact hne rfl rfl pa rfl (Option.some.inj e6).symm
    · rw [get_set_ne z] at h5 h6
      exact h4 j b dd h5 h6
theorem Sta.putAll : ∀ {is : List Nat} {rs : List Res} {vs : List V} {σ : L2.St} {ρ : Rho}, Sta T B σ H G ρ → RRL T B σ H G ρ rs vs → Pf.putAll is rs ρ = some ρ' → Sta T B (setAll σ is vs) H G ρ'
  | [], [], vs, σ, ρ, S, h, hp => by
    unfold Pf.putAll at hp
    cases hp
    have : vs = [] := h
    subst this
    exact S
  | [], _ :: _, vs, σ, ρ, S, h, hp => by unfold Pf.putAll at hp; cases hp
  | _ :: _, [], vs, σ, ρ, S, h, hp => by unfold Pf.putAll at hp; cases hp
  | i :: is, r :: rs, vs, σ, ρ, S, h, hp => by
    unfold Pf.putAll at hp
    obtain ⟨v, ws, rfl, h1, h2, h3⟩ := h
    cases e : Pf.put i r ρ with
    | none => rw [e] at hp; cases hp
    | some ρ1 =>
      rw [e] at hp
      have hp : Pf.putAll is rs ρ1 = some ρ' := hp
      have S1 := S.put' h1 e
      have keep : ∀ {rs' : List Res} {ws' : List V}, (∀ pa, r.1 = true → v = .ref pa → ∀ (j : Nat) (r' : Res) (v' : V), rs'[j]? = some r' → r'.1 = true → ws'[j]? = some v' → v' ≠ V.ref pa) → RRL T B σ H G ρ rs' ws' → RRL T B (σ.set i (some v)) H G ρ1 rs' ws' := fun {rs'} => by
        induction rs' with
        | nil => intro ws' _ h; exact h
        | cons r' rs' ih =>
          intro ws' hn h
          obtain ⟨v', ws'', rfl, h4, h5, h6⟩ := h
          exact ⟨v', ws'', rfl, RR.put S h4 e (fun q1 q2 pa hv z => hn pa q2 z 0 r' v' rfl q1 rfl hv), h5, ih (fun pa q1 q2 j rr vv a1 a2 a3 => hn pa q1 q2 (j + 1) rr vv (by simpa using a1) a2 (by simpa using a3)) h6⟩
      show Sta T B (setAll (σ.set i (some v)) is ws) H G ρ'
      exact Sta.putAll S1 (keep h2 h3) hp
theorem par_imp {is : List Nat} (D : Ends) (σ : L2.St) (H : Hp) (q : RdS T B XE (ex Γ (.par is irs)) D σ H) : Go T B XE (rRL T B) (fun ρ => evr Γ irs ρ) σ H fun vs H1 => ∃ G1 ρ1 rs, vs.length = is.length ∧ Sta T B σ H1 G1 ρ1 ∧ RRL T B σ H1 G1 ρ1 rs vs ∧ ∃ ρ2, Pf.putAll is rs ρ1 = some ρ2 ∧ ∀ σ' H' G', Ex G1 G' → Sta T B σ' H' G' ρ2 → D.nx σ' H' := by
  obtain ⟨G, ρ, S, p⟩ := q
  unfold ex at p
  refine ⟨G, ρ, S, (EndS.of σ p).mono (fun rs ρ1 q vs H1 G1 e1 S1 r1 => ?_) fun _ _ _ q => q⟩
  obtain ⟨ρ2, hp, q⟩ := q.opt
  refine ⟨G1, ρ1, rs, ?_, S1, r1, ρ2, hp, fun σ' H' G' e' S' => q σ' H' G' (e1.trans e') S'⟩
  have l1 : ∀ {rs : List Res} {vs : List V}, RRL T B σ H1 G1 ρ1 rs vs → vs.length = rs.length := fun {rs} => by
    induction rs with
    | nil => intro vs h; rw [show vs = [] from h]; rfl
    | cons r rs ih => intro vs h; obtain ⟨v, ws, rfl, _, _, h⟩ := h; rw [List.length_cons, List.length_cons, ih h]
  have l2 : ∀ {is : List Nat} {rs : List Res} {ρ1 ρ2 : Rho}, Pf.putAll is rs ρ1 = some ρ2 → is.length = rs.length := fun {is} => by
    induction is with
    | nil => intro rs a b h; cases rs with | nil => rfl | cons _ _ => unfold Pf.putAll at h; cases h
    | cons i is ih =>
      intro rs a b h
      cases rs with
      | nil => unfold Pf.putAll at h; cases h
      | cons r rs =>
        unfold Pf.putAll at h
        cases e : Pf.put i r a with
        | none => rw [e] at h; cases h
        | some a2 => rw [e] at h; rw [List.length_cons, List.length_cons, ih (show Pf.putAll is rs a2 = some b from h)]
  rw [l1 r1, l2 hp]
end
end Pf
end
section
set_option Elab.async false
set_option linter.all false
set_option maxRecDepth 100000
set_option maxHeartbeats 2000000
/-! Rf20: stores in a row, by form. -/
namespace Pf
open PySem PySem.Spec PyProof.Rows L2
def isStar : Expr → Bool
  | .Starred .. => true
  | _ => false
def swNames (sc : Scope) (line : Nat) (ts : List Expr) : List Str := ts.filterMap fun t => match t with
  | .Name id pos => if (sc.names.lookup id == some .local && pos.line == line) = true then some id else none
  | _ => none
/-- 0: stored from the left, 1: the names are stored from the right, 2: neither is known -/
def swDec (sc : Scope) (ts vs : List Expr) : Nat :=
  if (!(ts.length == 2 || ts.length == 3) || vs.length != ts.length) = true then 0
  else if vs.any isStar = true then 0
  else if ((swNames sc ((ts.head?.map (·.pos.line)).getD 0) ts).length != ts.length || (swNames sc ((ts.head?.map (·.pos.line)).getD 0) ts).eraseDups.length != (swNames sc ((ts.head?.map (·.pos.line)).getD 0) ts).length) = true then 0
  else if vs.all (foldedForSure 8) = true then 0
  else if vs.all (constantsAlone 8) = true then 2
  else 1
theorem sw_key {env : Env} {ts vs : List Expr} {k k2 : Nat} {p p2 : PySem.Pos} : swappedStores [.Tuple ts k p] (.Tuple vs k2 p2) env =
    (if (!(ts.length == 2 || ts.length == 3) || vs.length != ts.length || env.blockKind != .function) = true then pure none
    else if vs.any isStar = true then pure none
    else if ((swNames env.scope ((ts.head?.map (·.pos.line)).getD 0) ts).length != ts.length || (swNames env.scope ((ts.head?.map (·.pos.line)).getD 0) ts).eraseDups.length != (swNames env.scope ((ts.head?.map (·.pos.line)).getD 0) ts).length) = true then pure none
    else if vs.all (foldedForSure 8) = true then pure none
    else if vs.all (constantsAlone 8) = true then (do
      let _ ← (unsupported "assign.tuple-of-constant-expressions:order-of-the-stores" : Sem PUnit)
      pure (some (swNames env.scope ((ts.head?.map (·.pos.line)).getD 0) ts)))
    else pure (some (swNames env.scope ((ts.head?.map (·.pos.line)).getD 0) ts))) := by
  rfl
theorem sw_dec {env : Env} {ts vs : List Expr} {k k2 : Nat} {p p2 : PySem.Pos} (hk : env.scope.kind = .function) :
    (swDec env.scope ts vs = 0 → swappedStores [.Tuple ts k p] (.Tuple vs k2 p2) env = pure none) ∧
    (swDec env.scope ts vs = 1 → swappedStores [.Tuple ts k p] (.Tuple vs k2 p2) env = pure (some (swNames env.scope ((ts.head?.map (·.pos.line)).getD 0) ts))) := by
  have hb : (env.blockKind != .function) = false := by rw [blkK hk]; rfl
  rw [sw_key, hb, Bool.or_false]
  unfold swDec
  constructor
  · intro h
    split at h
    · rename_i h1
      rw [if_pos h1]
    · rename_i h1
      rw [if_neg h1]
      split at h
      · rename_i h2
        rw [if_pos h2]
      · rename_i h2
        rw [if_neg h2]
        split at h
        · rename_i h3
          rw [if_pos h3]
        · rename_i h3
          rw [if_neg h3]
          split at h
          · rename_i h4
            rw [if_pos h4]
          · split at h <;> cases h
  · intro h
    split at h
    · cases h
    · rename_i h1
      rw [if_neg h1]
      split at h
      · cases h
      · rename_i h2
        rw [if_neg h2]
        split at h
        · cases h
        · rename_i h3
          rw [if_neg h3]
          split at h
          · cases h
          · rename_i h4
            rw [if_neg h4]
            split at h
            · cases h
            · rename_i h5
              rw [if_neg h5]
section
variable {X : Cx} {T : Tab} {B : Base} {XE : XK} {Γ : Ga} {CX : CXT} {k : Nat} {c : Ctx} {e a b o : Expr} {es ts : List Expr} {pos p p2 : PySem.Pos} {ir ia ib ic ik : E} {irs : List E} {σ : L2.St} {H H' G : Hp} {ρ ρ' : Rho} {i j l : Nat} {x y z : Str}
theorem RRL.heap (k : ∀ a o, H a = some o → H' a = some o) : ∀ {rs : List Res} {vs : List V}, RRL T B σ H G ρ rs vs → RRL T B σ H' G ρ rs vs
  | [], _, h => h
  | r :: rs, _, ⟨v, ws, h1, h2, h3, h4⟩ => ⟨v, ws, h1, by
      obtain ⟨fr, d⟩ := r
      cases fr with
      | false => exact h2
      | true =>
        obtain ⟨q, e1, e2, e3, e4⟩ := h2
        exact ⟨q, e1, e2.move (Ex.refl G) (fun o ho => k q o ho) e2.free, e3, e4⟩, h3, RRL.heap k h4⟩
def gNs (is : List Nat) : TGs := fun vs σ H K => vs.length = is.length ∧ K (setAll σ is vs) H
theorem pgs_names : ∀ {es : List Expr} {is : List Nat}, Paired (fun e i => PG X e (gName i) ∧ noStar e = true) es is → PGs X es (gNs is)
  | _, _, .nil => wkGs pgs_nil fun vs σ H K q => by
    obtain ⟨h1, h2⟩ := q
    cases vs with
    | nil => exact ⟨rfl, h2⟩
    | cons _ _ => cases h1
  | _, _, .cons (b := i) (l₂ := is) h t => wkGs (pgs_cons h.1 (pgs_names t) (by rw [as_one h.2] <;> rfl)) fun vs σ H K q => by
    obtain ⟨h1, h2⟩ := q
    cases vs with
    | nil => cases h1
    | cons v vs => exact ⟨v, vs, rfl, by simpa using h1, h2⟩
theorem as_names : ∀ {es : List Expr} {is : List Nat} {env : Env}, Paired (fun e i => PG X e (gName i) ∧ noStar e = true) es is → (assignEach es env).length = is.length ∧ (assignEach es env).findIdx? (·.1) = none
  | _, _, _, .nil => ⟨rfl, rfl⟩
  | _, _, env, .cons h hr => by
    obtain ⟨h1, h2⟩ := as_names (env := env) hr
    rw [as_one h.2]
    refine ⟨by rw [List.length_cons, List.length_cons, h1], ?_⟩
    rw [List.findIdx?_cons, h2]
    rfl
/-- stored from the left -/
theorem s_par0 {k1 k2 : Nat} {is : List Nat} {pt pv : PySem.Pos} (g : Gd T Γ CX k X c XE) (ht : Paired (fun e i => PG X e (gName i) ∧ noStar e = true) ts is) (h : Paired (fun e ir => (∀ B, Ok X T B XE Γ e ir) ∧ noStar e = true) es irs) (hl : is.length ≤ 100) (hd : swDec X.env.scope ts es = 0) :
    PS X (.Assign [.Tuple ts k1 pt] (.Tuple es k2 pv) pos) (RdS T B XE (ex Γ (.par is irs))) :=
  wkS (ps_asg (pos := pos) (pe_tup (pa_rs h)) (pg_tup (n := is.length) g.calm (pgs_names ht) (as_names ht).1 (as_names ht).2) (by rfl) ((sw_dec g.kd).1 hd) rfl) fun D σ H q => by
    obtain ⟨G, ρ, S, p⟩ := par_imp D σ H q
    refine ⟨G, ρ, S, p.mono (fun rs ρ1 q vs H1 G1 e1 S1 r1 => ?_) fun _ _ _ q => q⟩
    obtain ⟨G2, ρ2, rs2, hlen, S2, r2, ρ3, hp, q⟩ := q vs H1 G1 e1 S1 r1
    refine ⟨szl_le (decide_eq_true (by rw [hlen]; omega)), fun pa n => ?_⟩
    refine ⟨pa, vs, rfl, SqT.of upd_same, hlen, hlen, ?_⟩
    have S3 := S2.step (ex_cell (o := .tup vs) S2.ex n) (stp_cell S2.ex n)
    exact q _ _ G2 (Ex.refl G2) (S3.putAll (r2.heap fun a o ho => by rw [upd_ne (ne_of_none ho n)]; exact ho) hp)
theorem s_par2 {k1 k2 : Nat} {px py pt pv : PySem.Pos} (g : Gd T Γ CX k X c XE) (hi : X.N[i]? = some x) (hj : X.N[j]? = some y) (hij : i ≠ j) (hx : X.env.scope.names.lookup x = some .local) (hy : X.env.scope.names.lookup y = some .local)
    (h : Paired (fun e ir => (∀ B, Ok X T B XE Γ e ir) ∧ noStar e = true) [a, b] irs) (hd : swDec X.env.scope [.Name x px, .Name y py] [a, b] = 1) (hn : swNames X.env.scope px.line [.Name x px, .Name y py] = [x, y]) :
    PS X (.Assign [.Tuple [.Name x px, .Name y py] k1 pt] (.Tuple [a, b] k2 pv) pos) (RdS T B XE (ex Γ (.par [i, j] irs))) :=
  wkS (ps_par (pos := pos) g.calm g.nd hi hj hij hx hy (pa_rs h) (((sw_dec g.kd).2 hd).trans (by rw [show ((([Expr.Name x px, .Name y py] : List Expr).head?.map (·.pos.line)).getD 0) = px.line from rfl, hn])) (by rfl)) fun D σ H q => by
    obtain ⟨G, ρ, S, p⟩ := par_imp D σ H q
    refine ⟨G, ρ, S, p.mono (fun rs ρ1 q vs H1 G1 e1 S1 r1 => ?_) fun _ _ _ q => q⟩
    obtain ⟨G2, ρ2, rs2, hlen, S2, r2, ρ3, hp, q⟩ := q vs H1 G1 e1 S1 r1
    rcases vs with _ | ⟨v, _ | ⟨w, _ | _⟩⟩
    · cases hlen
    · cases hlen
    · exact ⟨v, w, rfl, q _ _ G2 (Ex.refl G2) (S2.putAll r2 hp)⟩
    · cases hlen
theorem s_par3 {k1 k2 : Nat} {px py pz pt pv : PySem.Pos} {d : Expr} (g : Gd T Γ CX k X c XE) (hi : X.N[i]? = some x) (hj : X.N[j]? = some y) (hl : X.N[l]? = some z) (hij : i ≠ j) (hil : i ≠ l) (hjl : j ≠ l) (hx : X.env.scope.names.lookup x = some .local) (hy : X.env.scope.names.lookup y = some .local) (hz : X.env.scope.names.lookup z = some .local)
    (h : Paired (fun e ir => (∀ B, Ok X T B XE Γ e ir) ∧ noStar e = true) [a, b, d] irs) (hd : swDec X.env.scope [.Name x px, .Name y py, .Name z pz] [a, b, d] = 1) (hn : swNames X.env.scope px.line [.Name x px, .Name y py, .Name z pz] = [x, y, z]) :
    PS X (.Assign [.Tuple [.Name x px, .Name y py, .Name z pz] k1 pt] (.Tuple [a, b, d] k2 pv) pos) (RdS T B XE (ex Γ (.par [i, j, l] irs))) :=
  wkS (ps_par3 (pos := pos) g.calm g.nd hi hj hl hij hil hjl hx hy hz (pa_rs h) (((sw_dec g.kd).2 hd).trans (by rw [show ((([Expr.Name x px, .Name y py, .Name z pz] : List Expr).head?.map (·.pos.line)).getD 0) = px.line from rfl, hn])) (by rfl)) fun D σ H q => by
    obtain ⟨G, ρ, S, p⟩ := par_imp D σ H q
    refine ⟨G, ρ, S, p.mono (fun rs ρ1 q vs H1 G1 e1 S1 r1 => ?_) fun _ _ _ q => q⟩
    obtain ⟨G2, ρ2, rs2, hlen, S2, r2, ρ3, hp, q⟩ := q vs H1 G1 e1 S1 r1
    rcases vs with _ | ⟨v, _ | ⟨w, _ | ⟨u, _ | _⟩⟩⟩
    · cases hlen
    · cases hlen
    · cases hlen
    · exact ⟨v, w, u, rfl, q _ _ G2 (Ex.refl G2) (S2.putAll r2 hp)⟩
    · cases hlen
end
end Pf
end
section
set_option Elab.async false
set_option linter.all false
set_option maxRecDepth 100000
set_option maxHeartbeats 4000000
/-! Rf21: from the text to the small language: statements. -/
namespace Pf
open PySem PySem.Spec PyProof.Rows L2
def fzE : E → E
  | .var i => .fz i
  | e => e
theorem fzE_var (e : E) (i : Nat) : fzE e ≠ .var i := by cases e <;> exact fun z => nomatch z
def slotOf (c : Ctx) (x : Str) : Option Nat := if okNm x = true ∧ c.blk = false then (match c.sc.names.lookup x with
  | some .local => ixOf x c.N
  | some .cell => ixOf x c.N
  | _ => none) else none
def namesOf (c : Ctx) : List Expr → Option (List Nat)
  | [] => some []
  | .Name x _ :: ts => match slotOf c x, namesOf c ts with
    | some i, some is => some (i :: is)
    | _, _ => none
  | _ :: _ => none
def isLoc (c : Ctx) (x : Str) : Bool := decide (c.sc.names.lookup x = some .local)
def mtOf (m : Str) (n : Nat) : Option Mt :=
  if n = 1 then (if m = "append" then some .append else if m = "extend" then some .extend else none)
  else if n = 0 then (if m = "reverse" then some .reverse else if m = "clear" then some .clear else if m = "pop" then some .pop else none) else none
def trPar (c : Ctx) (f : Expr → E) (ts vs : List Expr) : S := match namesOf c ts with
  | some is => if vs.all noStar = true ∧ is.Nodup ∧ is.length ≤ 100 then (match swDec c.sc ts vs with
    | 0 => .par is (vs.map f)
    | 1 => (match ts, vs, is with
      | [.Name x px, .Name y _], [_, _], [_, _] => if isLoc c x = true ∧ isLoc c y = true ∧ swNames c.sc px.line ts = [x, y] then .par is (vs.map f) else .bad
      | [.Name x px, .Name y _, .Name z _], [_, _, _], [_, _, _] => if isLoc c x = true ∧ isLoc c y = true ∧ isLoc c z = true ∧ swNames c.sc px.line ts = [x, y, z] then .par is (vs.map f) else .bad
      | _, _, _ => .bad)
    | _ => .bad) else .bad
  | none => .bad
section
variable (ow : Str → Option Nat)
def trSt : Nat → Ctx → Stmt → S
  | 0, _, _ => .bad
  | n + 1, c, st => match st with
    | .Expr e _ => (match e with
      | .Constant (.str _) _ _ => .pass
      | .Call (.Attribute (.Name x _) m apos) args [] cpos => (match mtOf m args.length, slotOf c x with
        | some mt, some i => if (apos.endLine == cpos.line) = true ∧ args.all noStar = true then .mt i mt (args.map (trE ow n c)) else .bad
        | _, _ => .ex (trE ow n c e))
      | e => if noComp e = true ∧ noStar e = true then .ex (trE ow n c e) else .bad)
    | .Assign targets e _ => (match targets with
      | [.Name x px] => (match slotOf c x with
        | some i => if noComp e = true ∧ noStar e = true then .set i (trE ow n c e) else (match e with
          | .ListComp _ _ scope p => if isLoc c x = true ∧ (px.line == p.line) = true ∧ (scope.names.any fun (n, k) => n == x && (k == .local || k == .cell)) = false then .set i (trE ow n c e) else .bad
          | _ => .bad)
        | none => .bad)
      | [.Tuple ts k p] => (match e with
        | .Tuple vs _ _ => trPar c (trE ow n c) ts vs
        | e => if noComp e = true ∧ notTup e = true ∧ noStar e = true then .tgt (trT n c (.Tuple ts k p)) (trE ow n c e) else .bad)
      | [.Subscript (.Name x _) ke _] => (match slotOf c x with
        | some i => if notTup e = true ∧ noStar e = true ∧ ixOk ke = true ∧ noStar ke = true then .sti i (trE ow n c ke) (trE ow n c e) else .bad
        | none => .bad)
      | [.Attribute (.Name x _) f _] => (match slotOf c x with
        | some i => if noStar e = true then .stf i f (trE ow n c e) else .bad
        | none => .bad)
      | _ => .bad)
    | .AugAssign t op e _ => (match t, op with
      | .Name x _, .Add => (match slotOf c x with
        | some i => if noStar e = true then .aug i .add (trE ow n c e) else .bad
        | none => .bad)
      | _, _ => .bad)
    | .If t a b _ => if noStar t = true then .iff (trE ow n c t) (a.map (trSt n c)) (b.map (trSt n c)) else .bad
    | .While t b els _ => if noStar t = true ∧ els.isEmpty = true then .whl (trE ow n c t) (b.map (trSt n c)) else .bad
    | .For t iter b els _ => if notSet iter = true ∧ noStar iter = true ∧ els.isEmpty = true then .for_ (trT n c t) (trSrc c (fun e => fzE (trE ow n c e)) t iter).1 (trSrc c (fun e => fzE (trE ow n c e)) t iter).2 (b.map (trSt n c)) else .bad
    | .Return eo _ => (match eo with
      | some e => if noStar e = true then .ret (trE ow n c e) else .bad
      | none => .retN)
    | .Pass _ => .pass
    | .Break _ => .brk
    | .Continue _ => .cnt
    | _ => .bad
end
section
variable {X : Cx} {T : Tab} {B : Base} {XE : XK} {Γ : Ga} {CX : CXT} {k n : Nat} {c : Ctx} {e a b o : Expr} {es ts : List Expr} {pos p p2 : PySem.Pos} {ir ia ib ic ik : E} {irs : List E} {σ : L2.St} {H H' G : Hp} {ρ ρ' : Rho} {i j l : Nat} {x y z : Str}
theorem src_ok (g : Gd T Γ CX k X c XE) {f : Expr → E} (hf : ∀ e, noStar e = true → Ok X T B XE Γ e (f e)) {tg iter : Expr} (hs : noStar iter = true) : PI X tg iter (iB T B XE Γ (trSrc c f tg iter).1 (trSrc c f tg iter).2) := by
  have base : PI X tg iter (iB T B XE Γ .seq [f iter]) := pi_seq g (hf iter hs)
  have lst : ∀ {es : List Expr}, es.all noStar = true → Paired (fun e ir => Ok X T B XE Γ e ir) es (es.map f) := fun {es} => by
    induction es with
    | nil => exact fun _ => .nil
    | cons e es ih =>
      intro h
      rw [List.all_cons, Bool.and_eq_true] at h
      exact .cons (hf e h.1) (ih h.2)
  unfold trSrc
  split
  · rename_i x p args pos
    split
    · rename_i hx
      obtain ⟨h1, rfl, h2, h3⟩ := hx
      have hl := lst h2
      have hg := (glb_gl g h1).1
      rcases args with _ | ⟨a, _ | ⟨b, _ | ⟨d, l⟩⟩⟩
      · simp at h3
      · rw [List.all_cons, Bool.and_eq_true] at h2
        cases hl with
        | cons ha _ => exact pi_rng1 g ha h2.1 hg
      · rw [List.all_cons, List.all_cons, Bool.and_eq_true, Bool.and_eq_true] at h2
        cases hl with
        | cons ha hl =>
          cases hl with
          | cons hb _ => exact pi_rng2 g ha hb h2.1 h2.2.1 hg
      · simp at h3
    · split
      · rename_i hx
        obtain ⟨h1, rfl, h2, h3, h4⟩ := hx
        have hl := lst h2
        have hg := (glb_gl g h1).1
        rcases args with _ | ⟨a, _ | ⟨b, _ | ⟨d, l⟩⟩⟩
        · simp at h3
        · simp at h3
        · rw [List.all_cons, List.all_cons, Bool.and_eq_true, Bool.and_eq_true] at h2
          cases hl with
          | cons ha hl =>
            cases hl with
            | cons hb _ =>
              cases tg <;> first | (cases h4; done) | exact pi_zip0 g ha hb h2.1 h2.2.1 hg
        · simp at h3
      · split
        · rename_i hx
          obtain ⟨h1, rfl, h2, h3, h4⟩ := hx
          have hl := lst h2
          have hg := (glb_gl g h1).1
          rcases args with _ | ⟨a, _ | ⟨b, l⟩⟩
          · simp at h3
          · rw [List.all_cons, Bool.and_eq_true] at h2
            cases hl with
            | cons ha _ =>
              cases tg <;> first | (cases h4; done) | exact pi_enm g ha h2.1 hg
          · simp at h3
        · exact base
  · exact base
theorem src_img {f : Expr → E} {tg iter : Expr} : ∀ ir ∈ (trSrc c f tg iter).2, ∃ e, ir = f e := by
  intro ir h
  have one : ir ∈ [f iter] → ∃ e, ir = f e := fun h => ⟨iter, List.mem_singleton.mp h⟩
  have map : ∀ {l : List Expr}, ir ∈ l.map f → ∃ e, ir = f e := fun h => by
    obtain ⟨e, _, rfl⟩ := List.mem_map.mp h
    exact ⟨e, rfl⟩
  unfold trSrc at h
  split at h
  · split at h
    · exact map h
    · split at h
      · exact map h
      · split at h
        · exact map h
        · exact one h
  · exact one h
theorem evs_noslot : ∀ {irs : List E} {ρ ρ1 : Rho} {as : List Ag}, (∀ ir ∈ irs, ∀ i, ir ≠ .var i) → evs Γ irs ρ = .ok as ρ1 → slots as = []
  | [], ρ, ρ1, as, _, h => by
    unfold evs at h
    cases h
    rfl
  | ir :: irs, ρ, ρ1, as, hn, h => by
    rw [evs_cons] at h
    cases e1 : evA Γ ir ρ with
    | ok a ρ2 =>
      rw [e1] at h
      simp only [Out.bnd] at h
      cases e2 : evs Γ irs ρ2 with
      | ok l ρ3 =>
        rw [e2] at h
        cases h
        have h2 := evs_noslot (fun ir' h' => hn ir' (List.mem_cons_of_mem _ h')) e2
        have ha : ∃ d, a = .val d := by
          have hne := hn ir List.mem_cons_self
          have : evA Γ ir ρ = (ev Γ ir false ρ).bnd fun r ρ1 => .ok (Ag.val r.2) ρ1 := by
            cases ir <;> first | rfl | exact absurd rfl (hne _)
          rw [this] at e1
          cases e3 : ev Γ ir false ρ with
          | ok r ρ4 => rw [e3] at e1; cases e1; exact ⟨_, rfl⟩
          | exc _ _ _ => rw [e3] at e1; cases e1
          | bad => rw [e3] at e1; cases e1
        obtain ⟨d, rfl⟩ := ha
        exact h2
      | exc _ _ _ => rw [e2] at h; cases h
      | bad => rw [e2] at h; cases h
    | exc _ _ _ => rw [e1] at h; cases h
    | bad => rw [e1] at h; cases h
theorem slotOf_ok (g : Gd T Γ CX k X c XE) (h : slotOf c x = some i) : X.N[i]? = some x ∧ Loc X.env.scope x ∧ (X.fn x = true ∨ X.env.scope.names.lookup x = some .local) ∧ ∀ p, PE X (.Name x p) (tVar i) := by
  unfold slotOf at h
  obtain ⟨⟨h1, h2⟩, h⟩ := guard_some' h
  obtain ⟨d1, d2⟩ := okNm_d h1
  have key : ∀ hl : Loc X.env.scope x, ixOf x c.N = some i → X.N[i]? = some x ∧ Loc X.env.scope x ∧ (X.fn x = true ∨ X.env.scope.names.lookup x = some .local) ∧ ∀ p, PE X (.Name x p) (tVar i) := fun hl hi => by
    have hN : X.N[i]? = some x := by rw [g.nN]; exact ixOf_lt hi
    exact ⟨hN, hl, .inl (g.fn h2 x), fun p => pe_var hN (hl.elim .inl fun q => .inr (.inl q)) d1 d2⟩
  split at h
  · rename_i hl
    exact key (.inl (by rw [g.sc]; exact hl)) h
  · rename_i hl
    exact key (.inr (by rw [g.sc]; exact hl)) h
  · cases h
theorem isLoc_ok (g : Gd T Γ CX k X c XE) (h : isLoc c x = true) : X.env.scope.names.lookup x = some .local := by
  rw [g.sc]
  exact of_decide_eq_true h
theorem namesOf_ok (g : Gd T Γ CX k X c XE) : ∀ {ts : List Expr} {is : List Nat}, namesOf c ts = some is → Paired (fun e i => PG X e (gName i) ∧ noStar e = true) ts is
  | [], is, h => by
    cases h
    exact .nil
  | t :: ts, is, h => by
    unfold namesOf at h
    split at h
    · rename_i heq
      cases heq
    · rename_i x p ts' heq
      cases heq
      split at h
      · rename_i i is' h1 h2
        cases h
        obtain ⟨q1, q2, q3, q4⟩ := slotOf_ok g h1
        exact .cons ⟨pg_name g.nd q1 q2 q3, rfl⟩ (namesOf_ok g h2)
      · cases h
    · cases h
/-- a list comprehension's parts -/
theorem lc_parts (ih : TrOk T Γ CX k n) (g : Gd T Γ CX k X c XE) {elt : Expr} {gens : List Comprehension} {scope : Scope} : trE T.own (n + 1) c (.ListComp elt gens scope p) = .bad ∨
    ∃ tg iter ifs own wi gg tt te, gens = [⟨tg, iter, ifs, 0⟩] ∧ PI X tg iter wi ∧ BlkOk X.N X.env.scope scope own ∧
    (∀ (s : Shared) (H : Hp) (C : Addr) (cl : List (Str × Addr)) (fp : List Addr), PG (X.blk s H scope (compEnvC scope cl C X.env) fp) tg gg) ∧ (∀ (s : Shared) (H : Hp) (C : Addr) (cl : List (Str × Addr)) (fp : List Addr), PTs (X.blk s H scope (compEnvC scope cl C X.env) fp) ifs tt) ∧
    (∀ (s : Shared) (H : Hp) (C : Addr) (cl : List (Str × Addr)) (fp : List Addr), PE (X.blk s H scope (compEnvC scope cl C X.env) fp) elt te) ∧ (∀ x, foldedSetIterable iter X.env x = pure x) ∧
    ∀ σ H Q, RdE T B XE (fun ρ => ev Γ (trE T.own (n + 1) c (.ListComp elt gens scope p)) false ρ) σ H Q → tLc wi gg tt te (own.map (·.2)) σ H Q := by
  unfold trE
  dsimp only
  split
  · rename_i tg iter ifs
    split
    · rename_i h
      obtain ⟨h1, h2, h3, h4, h5, h6, h7⟩ := h
      have hblk : BlkOk X.N X.env.scope scope (ownOf c scope) := by
        rw [g.nN, g.sc]
        exact blkOk_by h6
      have gb : ∀ (s : Shared) (H : Hp) (C : Addr) (cl : List (Str × Addr)) (fp : List Addr), Gd T Γ CX k (X.blk s H scope (compEnvC scope cl C X.env) fp) (c.inner scope) XN := fun s H C cl fp => g.blk s H scope cl C fp hblk.kind
      exact .inr ⟨tg, iter, ifs, ownOf c scope, _, _, _, _, rfl, ih.src (B := B) g h2, hblk, fun s H C cl fp => pg_ok n tg (gb s H C cl fp), fun s H C cl fp => pts_any fun B => pts_of (T := T) (B := B) (XE := XN) (Γ := Γ) (TrOk.list ih (gb s H C cl fp) h4) h5, fun s H C cl fp => pe_any fun B => Go.rep (ih _ _ _ (gb s H C cl fp) B elt h3).pe, fold_no (by cases iter <;> first | rfl | cases h1),
        fun σ H Q q => lc_imp (fun i hi => List.contains_iff_mem.mp (List.all_eq_true.mp h7 i hi)) σ H Q q⟩
    · exact .inl rfl
  · exact .inl rfl
theorem s_setLc {elt : Expr} {gens : List Comprehension} {scope : Scope} (g : Gd T Γ CX k X c XE) (hi : X.N[i]? = some x) (hl : X.env.scope.names.lookup x = some .local) (hp : (p2.line == p.line) = true) (ha : (scope.names.any fun (n, k) => n == x && (k == .local || k == .cell)) = false) :
    PS X (.Assign [.Name x p2] (.ListComp elt gens scope p) pos) (RdS T B XE (ex Γ (.set i (trE T.own n c (.ListComp elt gens scope p))))) := by
  have bad : ∀ ir, ir = E.bad → PS X (.Assign [.Name x p2] (.ListComp elt gens scope p) pos) (RdS T B XE (ex Γ (.set i ir))) := fun ir hir => ⟨fun pins s σ H D I q => by
    subst hir
    obtain ⟨G, ρ, S, q⟩ := q
    unfold ex ev at q
    exact (show False from q).elim⟩
  cases n with
  | zero => exact bad _ rfl
  | succ n =>
    rcases lc_parts (B := B) (p := p) (elt := elt) (gens := gens) (scope := scope) (tr_ok n) g with hb | ⟨tg, iter, ifs, own, wi, gg, tt, te, rfl, h1, h2, h3, h4, h5, h6, h7⟩
    · exact bad _ hb
    · refine wkS (ps_setLc (pos := p) (spos := pos) g.calm g.nd hi hl (sw_true g.kd hl hp ha) h1 h2 h3 h4 h5 h6) fun D σ H q => ?_
      exact h7 σ H _ (set_imp D σ H q)
theorem mtOf_ok {m : Str} {mt : Mt} (h : mtOf m es.length = some mt) : (es.length = 1 ∧ ((m = "append" ∧ mt = .append) ∨ (m = "extend" ∧ mt = .extend))) ∨ (es = [] ∧ ((m = "reverse" ∧ mt = .reverse) ∨ (m = "clear" ∧ mt = .clear) ∨ (m = "pop" ∧ mt = .pop))) := by
  unfold mtOf at h
  split at h
  · rename_i hl
    refine .inl ⟨hl, ?_⟩
    split at h
    · rename_i hm
      cases h
      exact .inl ⟨hm, rfl⟩
    · split at h
      · rename_i hm
        cases h
        exact .inr ⟨hm, rfl⟩
      · cases h
  · split at h
    · rename_i hl
      refine .inr ⟨List.eq_nil_of_length_eq_zero hl, ?_⟩
      split at h
      · rename_i hm
        cases h
        exact .inl ⟨hm, rfl⟩
      · split at h
        · rename_i hm
          cases h
          exact .inr (.inl ⟨hm, rfl⟩)
        · split at h
          · rename_i hm
            cases h
            exact .inr (.inr ⟨hm, rfl⟩)
          · cases h
    · cases h
end
end Pf
end
section
set_option Elab.async false
set_option linter.all false
set_option maxRecDepth 100000
set_option maxHeartbeats 4000000
/-! Rf22: the statements' translation is sound. -/
namespace Pf
open PySem PySem.Spec PyProof.Rows L2
section
variable {T : Tab} {Γ : Ga} {CX : CXT} {k : Nat}
def TsOk (T : Tab) (Γ : Ga) (CX : CXT) (k n : Nat) : Prop := ∀ (X : Cx) (c : Ctx) (XE : XK) (B : Base), Gd T Γ CX k X c XE → (∀ a, ¬ B.ow a) → ∀ st : Stmt, PS X st (RdS T B XE (ex Γ (trSt T.own n c st)))
variable {X : Cx} {c : Ctx} {XE : XK} {B : Base} {n : Nat}
theorem TsOk.list (h : TsOk T Γ CX k n) (g : Gd T Γ CX k X c XE) (hB : ∀ a, ¬ B.ow a) : ∀ sts : List Stmt, PSs X sts (RdS T B XE (exs Γ (sts.map (trSt T.own n c))))
  | [] => ss_nil
  | s :: sts => ss_cons (h X c XE B g hB s) (TsOk.list h g hB sts)
theorem listB (g : Gd T Γ CX k X c XE) : ∀ {es : List Expr}, es.all noStar = true → Paired (fun e ir => (∀ B, Ok X T B XE Γ e ir) ∧ noStar e = true) es (es.map (trE T.own n c))
  | [], _ => .nil
  | e :: es, h => by
    rw [List.all_cons, Bool.and_eq_true] at h
    exact .cons ⟨fun B => tr_ok n X c XE g B e h.1, h.1⟩ (listB g h.2)
theorem namesOf_two {ts : List Expr} {is : List Nat} {x y : Str} {p q : PySem.Pos} (h : namesOf c [.Name x p, .Name y q] = some is) : ∃ i j, is = [i, j] ∧ slotOf c x = some i ∧ slotOf c y = some j := by
  unfold namesOf at h
  cases h1 : slotOf c x with
  | none => rw [h1] at h; cases h
  | some i =>
    unfold namesOf at h
    cases h2 : slotOf c y with
    | none => rw [h1, h2] at h; cases h
    | some j =>
      rw [h1, h2] at h
      cases h
      exact ⟨i, j, rfl, rfl, rfl⟩
theorem namesOf_three {is : List Nat} {x y z : Str} {p q r : PySem.Pos} (h : namesOf c [.Name x p, .Name y q, .Name z r] = some is) : ∃ i j l, is = [i, j, l] ∧ slotOf c x = some i ∧ slotOf c y = some j ∧ slotOf c z = some l := by
  unfold namesOf at h
  cases h1 : slotOf c x with
  | none => rw [h1] at h; cases h
  | some i =>
    cases h2 : namesOf c [.Name y q, .Name z r] with
    | none => rw [h1, h2] at h; cases h
    | some js =>
      rw [h1, h2] at h
      cases h
      obtain ⟨j, l, rfl, h3, h4⟩ := namesOf_two (ts := []) h2
      exact ⟨i, j, l, rfl, rfl, h3, h4⟩
theorem par_ok (g : Gd T Γ CX k X c XE) {ts vs : List Expr} {k1 k2 : Nat} {pt pv pos : PySem.Pos} : PS X (.Assign [.Tuple ts k1 pt] (.Tuple vs k2 pv) pos) (RdS T B XE (ex Γ (trPar c (trE T.own n c) ts vs))) := by
  unfold trPar
  cases hn : namesOf c ts with
  | none => exact ps_bad
  | some is =>
    dsimp only
    split
    · rename_i h
      obtain ⟨h1, h2, h3⟩ := h
      have hl := listB (n := n) g h1
      split
      · rename_i hd
        rw [← g.sc] at hd
        exact s_par0 g (namesOf_ok g hn) hl h3 hd
      · rename_i hd
        split
        · rename_i x px y py a b i0 j0
          split
          · rename_i hc
            obtain ⟨hx, hy, hs⟩ := hc
            obtain ⟨i, j, he, e1, e2⟩ := namesOf_two (ts := []) hn
            cases he
            obtain ⟨q1, _⟩ := slotOf_ok g e1
            obtain ⟨q2, _⟩ := slotOf_ok g e2
            rw [← g.sc] at hd hs
            exact s_par2 g q1 q2 (fun z => by rw [z] at h2; simp at h2) (isLoc_ok g hx) (isLoc_ok g hy) hl hd hs
          · exact ps_bad
        · rename_i x px y py z pz a b d i0 j0 l0
          split
          · rename_i hc
            obtain ⟨hx, hy, hz, hs⟩ := hc
            obtain ⟨i, j, l, he, e1, e2, e3⟩ := namesOf_three hn
            cases he
            obtain ⟨q1, _⟩ := slotOf_ok g e1
            obtain ⟨q2, _⟩ := slotOf_ok g e2
            obtain ⟨q3, _⟩ := slotOf_ok g e3
            rw [← g.sc] at hd hs
            exact s_par3 g q1 q2 q3 (fun z => by rw [z] at h2; simp at h2) (fun z => by rw [z] at h2; simp at h2) (fun z => by rw [z] at h2; simp at h2) (isLoc_ok g hx) (isLoc_ok g hy) (isLoc_ok g hz) hl hd hs
          · exact ps_bad
        · exact ps_bad
      · exact ps_bad
    · exact ps_bad
theorem ts_ok : ∀ n : Nat, TsOk T Γ CX k n
  | 0 => fun X c XE B g hB st => ps_bad
  | n + 1 => fun X c XE B g hB st => by
    have ih : TsOk T Γ CX k n := ts_ok n
    have tr : ∀ e, noStar e = true → ∀ B, Ok X T B XE Γ e (trE T.own n c e) := fun e he B => tr_ok n X c XE g B e he
    have bad : PS X st (RdS T B XE (ex Γ .bad)) := ps_bad
    unfold trSt
    cases st with
    | Expr e pos =>
      dsimp only
      split
      · exact s_pass ps_doc
      · rename_i x p m apos args cpos
        split
        · rename_i mt i hm hsl
          split
          · rename_i h
            obtain ⟨hN, hL, hf, hv⟩ := slotOf_ok g hsl
            rcases mtOf_ok hm with ⟨hl, hh⟩ | ⟨rfl, hh⟩
            · rcases args with _ | ⟨a, _ | _⟩
              · cases hl
              · have h2 := h.2
                rw [List.all_cons, Bool.and_eq_true] at h2
                rcases hh with ⟨rfl, rfl⟩ | ⟨rfl, rfl⟩
                · exact s_mt1 PySem.F.slot_list_append PySem.F.type_list_append mt_append mo_append (hv p) h2.1 (tr a h2.1 B) h.1
                · exact s_mt1 PySem.F.slot_list_extend PySem.F.type_list_extend mt_extend mo_extend (hv p) h2.1 (tr a h2.1 B) h.1
              · cases hl
            · rcases hh with ⟨rfl, rfl⟩ | ⟨rfl, rfl⟩ | ⟨rfl, rfl⟩
              · exact s_mt0 PySem.F.slot_list_reverse PySem.F.type_list_reverse mt_reverse mo_reverse (hv p) h.1
              · exact s_mt0 PySem.F.slot_list_clear PySem.F.type_list_clear mt_clear mo_clear (hv p) h.1
              · exact s_mt0 PySem.F.slot_list_pop PySem.F.type_list_pop mt_pop mo_pop (hv p) h.1
          · exact bad
        · exact s_ex (tr _ rfl B) rfl
      · split
        · rename_i h
          exact s_ex (tr e h.2 B) h.1
        · exact bad
    | Assign targets e pos =>
      dsimp only
      split
      · rename_i x px
        split
        · rename_i i hsl
          obtain ⟨hN, hL, hf, hv⟩ := slotOf_ok g hsl
          split
          · rename_i h
            exact s_set g (tr e h.2 B) hN hL hf h.1
          · split
            · rename_i elt gens scope p _
              split
              · rename_i h
                exact s_setLc g hN (isLoc_ok g h.1) h.2.1 h.2.2
              · exact bad
            · exact bad
        · exact bad
      · rename_i ts kk p
        split
        · exact par_ok g
        · split
          · rename_i h
            exact s_tgt (tr e h.2.2 B) (pg_ok n _ g) h.1 h.2.1 rfl
          · exact bad
      · rename_i x p ke p2
        split
        · rename_i i hsl
          obtain ⟨hN, hL, hf, hv⟩ := slotOf_ok g hsl
          split
          · rename_i h
            obtain ⟨h2, h3, h4, h5⟩ := h
            exact s_sti g (tr e h3 B) (tr ke h5 B) (hv p) h2 h4
          · exact bad
        · exact bad
      · rename_i x p f p2
        split
        · rename_i i hsl
          obtain ⟨hN, hL, hf, hv⟩ := slotOf_ok g hsl
          split
          · rename_i h
            exact s_stf g (tr e h B) (hv p)
          · exact bad
        · exact bad
      · exact bad
    | AugAssign t op e pos =>
      dsimp only
      split
      · rename_i x p
        split
        · rename_i i hsl
          obtain ⟨hN, hL, hf, hv⟩ := slotOf_ok g hsl
          split
          · rename_i h
            exact s_aug g (tr e h B) hN hL hf
          · exact bad
        · exact bad
      · exact bad
    | If t a b pos =>
      dsimp only
      split
      · rename_i h
        exact s_if (tr t h B) (ih.list g hB a) (ih.list g hB b)
      · exact bad
    | While t b els pos =>
      dsimp only
      split
      · rename_i h
        have he : els = [] := List.isEmpty_iff.mp h.2
        subst he
        exact s_while g (tr t h.1 B) (ih.list g hB b)
      · exact bad
    | For t iter b els pos =>
      dsimp only
      split
      · rename_i h
        obtain ⟨h1, h2, h3⟩ := h
        have he : els = [] := List.isEmpty_iff.mp h3
        subst he
        have hf : ∀ e, noStar e = true → Ok X T B XE Γ e (fzE (trE T.own n c e)) := fun e hs => by
          have := tr e hs B
          cases hh : trE T.own n c e with
          | var i => rw [hh] at this; exact ok_fz this
          | _ => rw [hh] at this; exact this
        exact s_for g (src_ok g hf h2) (fun ρ as ρ1 he => evs_noslot (fun ir hir i => by
          obtain ⟨e', rfl⟩ := src_img ir hir
          exact fzE_var _ i) he) (pg_ok n t g) (ih.list g hB b) h1
      · exact bad
    | Return eo pos =>
      dsimp only
      cases eo with
      | none => exact s_retN
      | some e =>
        dsimp only
        split
        · rename_i h
          exact s_ret (tr e h B) hB
        · exact bad
    | Pass pos => exact s_pass ps_pass
    | Break pos => exact s_brk
    | Continue pos => exact s_cnt
    | _ => exact bad
end
end Pf
end
section
set_option Elab.async false
set_option linter.all false
set_option maxRecDepth 100000
set_option maxHeartbeats 4000000
/-! Rf23: defs: the body's reading is the def's promise; levels of calls. -/
namespace Pf
open PySem PySem.Spec PyProof.Rows L2
/-- what holds of the written part whatever runs -/
structure Wd (T : Tab) (P : Prg) (prog : Program) (w : World) (mg : Str → Option Value) (base : Heap) (CX : CXT) : Prop where
  fl : P.flds = T.flds
  cls : ∀ k, T.flds k ≠ [] → Cls T.K (T.cls k)
  noat : ∀ k f, f ∈ T.flds k → NoAttr T.K (T.cls k) f
  fnd : ∀ k, (T.flds k).Nodup ∧ (T.flds k).length < 1000
  own : ∀ x c, T.own x = some c → mg x = some (.ref (T.cls c)) ∧ T.flds c ≠ []
  isi : ∀ c, T.flds c ≠ [] → IsiC T.K (T.cls c)
  isd : ∀ c j, T.flds c ≠ [] → T.flds j ≠ [] → PySem.W.kitOne T.K (.ref (T.cls c)) (.ref (T.cls j)) = some (decide (c = j))
  glo : ∀ x d, P.glo x = some d → ∃ v u, mg x = some u ∧ RelV v u ∧ ∀ G, Rep T G d v
  blt : ∀ x ∈ blts, mg x = none
  cxF : ∀ outer H s e s', ¬ CX outer H s (fun _ _ _ => False) e s'
  psO : ∀ (N : List Str) (qual : Str) (scope : Scope) (f : Addr) (cd : Value) (A : Around) (outer : List Env) (s : Shared) (H : Hp) (E : XK), Passes CX (cxOf CX prog w T.K mg base N qual scope f cd A outer s H E) E
/-- a def of the written part -/
def DefX (T : Tab) (a : Addr) (fn : Fn) (fd : FuncData) (ps : List Str) : Prop := ∃ (name qual : Str) (params : Arguments) (body : List Stmt) (scope : Scope) (dV kV doc pm cdv ct oc : Value) (an od : Option Addr) (osl : Array (Option Value)) (N : List Str) (n : Nat),
  T.K.lookup a = some ⟨oc, od, .func (PySem.W.fnOf name qual params body scope dV kV doc pm an cdv ct), osl⟩ ∧ PySem.W.codeIn T.K cdv qual = true ∧ FnScope N ps scope ∧
  (∀ us : List Value, us.length = ps.length → bindArgs (PySem.W.fnOf name qual params body scope dV kV doc pm an cdv ct) ⟨us, []⟩ = pure (ps.zip us)) ∧ fn = ⟨ps.length, N.length, body.map (trSt T.own n ⟨N, scope, false⟩)⟩ ∧
  fd = PySem.W.fnOf name qual params body scope dV kV doc pm an cdv ct
def DefF (T : Tab) (a : Addr) (fn : Fn) : Prop := ∃ fd ps, DefX T a fn fd ps
theorem outsOk_get : ∀ {as : List Sl} {os : List (Option Sl)} {i : Nat} {b : Bool} {d : D}, outsOk as os = true → as[i]? = some (.cel b d) → ∃ s, os[i]? = some (some s) ∧ s.bor = true
  | [], _, i, b, d, _, h => by simp at h
  | .val _ _ :: as, [], i, b, d, h, _ => by unfold outsOk at h; cases h
  | .cel _ _ :: as, [], i, b, d, h, _ => by unfold outsOk at h; cases h
  | .val _ _ :: as, o :: os, 0, b, d, h, h2 => by simp at h2
  | .val _ _ :: as, o :: os, i + 1, b, d, h, h2 => by
    unfold outsOk at h
    obtain ⟨s, h3, h4⟩ := outsOk_get (i := i) h (by simpa using h2)
    exact ⟨s, by simpa using h3, h4⟩
  | .cel _ _ :: as, none :: os, i, b, d, h, h2 => by unfold outsOk at h; cases h
  | .cel _ _ :: as, some s :: os, 0, b, d, h, h2 => by
    unfold outsOk at h
    exact ⟨s, rfl, (Bool.and_eq_true_iff.mp h).1⟩
  | .cel _ _ :: as, some s :: os, i + 1, b, d, h, h2 => by
    unfold outsOk at h
    obtain ⟨s, h3, h4⟩ := outsOk_get (i := i) (Bool.and_eq_true_iff.mp h).2 (by simpa using h2)
    exact ⟨s, by simpa using h3, h4⟩
section
variable {T : Tab} {G H : Hp} {ss : List Sl} {vs : List V}
/-- where a body begins -/
def Base.fn (H G : Hp) (ss : List Sl) (vs : List V) : Base := ⟨H, G, argC ss vs, vs, fun _ => False⟩
theorem sta_start {N : List Str} (e : Ex G H) (A : ArgsR T H G ss vs) : Sta T (Base.fn H G ss vs) (L2.start N vs) H G (ss.map some ++ List.replicate (N.length - ss.length) none) := by
  have get : ∀ {i : Nat} {s : Sl}, (ss.map some ++ List.replicate (N.length - ss.length) none)[i]? = some (some s) → ss[i]? = some s := fun {i s} h => by
    by_cases hi : i < ss.length
    · rw [List.getElem?_append_left (by simpa using hi), List.getElem?_map] at h
      cases e1 : ss[i]? with
      | none => rw [e1] at h; cases h
      | some t => rw [e1] at h; cases h; rfl
    · rw [List.getElem?_append_right (by simpa using hi), List.getElem?_replicate] at h
      split at h <;> cases h
  have put : ∀ {i : Nat} {v : V}, vs[i]? = some v → (L2.start N vs)[i]? = some (some v) := fun {i v} h => by
    have hi : i < vs.length := by
      obtain ⟨z, _⟩ := List.getElem?_eq_some_iff.mp h
      exact z
    unfold L2.start
    rw [List.getElem?_append_left (by simpa using hi), List.getElem?_map, h]
    rfl
  have back : ∀ {i : Nat} {v : V}, (L2.start N vs)[i]? = some (some v) → vs[i]? = some v := fun {i v} h => by
    unfold L2.start at h
    by_cases hi : i < vs.length
    · rw [List.getElem?_append_left (by simpa using hi), List.getElem?_map] at h
      cases e1 : vs[i]? with
      | none => rw [e1] at h; cases h
      | some t => rw [e1] at h; cases h; rfl
    · rw [List.getElem?_append_right (by simpa using hi), List.getElem?_replicate] at h
      split at h <;> cases h
  refine ⟨e, ?_, Stp.refl, fun i b d h => ?_, fun i b d h => ?_, fun i j b b' d d' p h h' q q' => ?_, fun i s h k => ?_, fun i d p h q => ?_⟩
  · unfold L2.start
    rw [List.length_append, List.length_append, List.length_map, List.length_map, List.length_replicate, List.length_replicate, A.ln]
  · obtain ⟨_, v, h1, h2⟩ := A.vl i b d (get h)
    exact ⟨v, put h1, h2⟩
  · obtain ⟨_, p, h1, h2⟩ := A.cl i b d (get h)
    exact ⟨p, put h1, h2, .inl ⟨i, b, d, get h, h1⟩⟩
  · exact A.dj i j b b' d d' p (get h) (get h') (back q) (back q')
  · cases s with
    | val b d =>
      obtain ⟨hb, _⟩ := A.vl i b d (get h)
      have k : b = true := k
      rw [hb] at k
      cases k
    | cel b d =>
      obtain ⟨_, p, h1, _⟩ := A.cl i b d (get h)
      exact ⟨_, h1, put h1⟩
  · obtain ⟨hb, _⟩ := A.cl i false d (get h)
    cases hb
theorem outs_of {σ' : L2.St} {H' G' : Hp} {ρ : Rho} {np : Nat} (S : Sta T (Base.fn H G ss vs) σ' H' G' ρ) (hl : ss.length = np) (h : outsOk ss (ρ.take np) = true) : OutsR T H' G' ss vs (ρ.take np) := fun i b d hi => by
  obtain ⟨s, h1, h2⟩ := outsOk_get h hi
  have hi2 : i < np := by
    rw [← hl]
    obtain ⟨z, _⟩ := List.getElem?_eq_some_iff.mp hi
    exact z
  have h3 : ρ[i]? = some (some s) := by rw [List.getElem?_take_of_lt hi2] at h1; exact h1
  obtain ⟨v, h4, h5⟩ := S.bo i s h3 h2
  refine ⟨v, h4, ?_⟩
  rw [h1]
  cases s with
  | val b2 d2 =>
    have hb : b2 = true := h2
    subst hb
    obtain ⟨v', h6, h7⟩ := S.vl i true d2 h3
    rw [h5] at h6
    cases h6
    exact h7
  | cel b2 d2 =>
    have hb : b2 = true := h2
    subst hb
    obtain ⟨p, h6, h7, _⟩ := S.cl i true d2 h3
    rw [h5] at h6
    cases h6
    exact ⟨p, rfl, h7⟩
end
section
variable {T : Tab} {P : Prg} {prog : Program} {w : World} {mg : Str → Option Value} {base : Heap} {CX : CXT} {Γ : Ga} {k : Nat}
theorem Wd.gd (W : Wd T P prog w mg base CX) (h1 : Γ.flds = P.flds) (h2 : Γ.glo = P.glo) (cal : ∀ f, Γ.has f = true → CalG T Γ prog w T.K mg base CX k f) (met : ∀ c m, Γ.hasM c m = true → MetG T Γ prog w T.K mg base CX k c m)
    {N ps : List Str} {qual : Str} {scope : Scope} {f : Addr} {cd : Value} {A : Around} {outer : List Env} {s : Shared} {H : Hp} {E : XK} (S : FnScope N ps scope) (hr : Room (k + 1) (A.deeper (envOfC qual scope s.heap.objs.size f cd))) :
    Gd T Γ CX k (cxOf CX prog w T.K mg base N qual scope f cd A outer s H E) ⟨N, scope, false⟩ E where
  nN := rfl
  nd := S.nd
  sc := rfl
  kd := S.kind
  calm := rfl
  hK := rfl
  room := hr
  fn := fun _ _ => rfl
  fl := h1.trans W.fl
  cls := W.cls
  noat := W.noat
  fnd := W.fnd
  own := W.own
  isi := W.isi
  isd := W.isd
  glo := fun x d hd => W.glo x d (by rw [← h2]; exact hd)
  blt := W.blt
  cal := cal
  met := met
  cxF := W.cxF
  ps := W.psO N qual scope f cd A outer s H E
  po := passes_of rfl
/-- a def keeps what the interpreter says -/
theorem fn_ok (W : Wd T P prog w mg base CX) (h1 : Γ.flds = P.flds) (h2 : Γ.glo = P.glo) (cal : ∀ f, Γ.has f = true → CalG T Γ prog w T.K mg base CX k f) (met : ∀ c m, Γ.hasM c m = true → MetG T Γ prog w T.K mg base CX k c m)
    {a : Addr} {fn : Fn} {fd : FuncData} {ps : List Str} (h : DefX T a fn fd ps) : Binds T.K fd ps [] ∧ FnOk prog w T.K mg base CX (k + 2) a fd ps (spF T (run1 Γ fn)) := by
  obtain ⟨name, qual, params, body, scope, dV, kV, doc, pm, cdv, ct, oc, an, od, osl, N, n, lk, hcd, S, hB, rfl, rfl⟩ := h
  have hpl : ps.length ≤ N.length := by have := congrArg List.length S.pre; rw [List.length_take] at this; omega
  have len : ∀ vs H Q E, spF T (run1 Γ ⟨ps.length, N.length, body.map (trSt T.own n ⟨N, scope, false⟩)⟩) vs H Q E → vs.length = ps.length := fun vs H Q E ⟨G, ss, e, A, m⟩ => by
    unfold run1 at m
    by_cases hl : ss.length = ps.length
    · rw [A.ln, hl]
    · rw [if_neg hl] at m
      exact m.elim
  refine ⟨Binds.all hB, fn_of (k := k + 1) lk hcd S len fun A outer s H vs Q E hr hsp => ?_⟩
  obtain ⟨G, ss, e, A0, m⟩ := hsp
  have g := W.gd (Γ := Γ) h1 h2 cal met (f := a) (cd := cdv) (s := s) (H := H) (A := A) (outer := outer) (E := E) S hr
  refine ⟨_, TsOk.list (B := Base.fn H G ss vs) (ts_ok n) g (fun _ z => z) body, ?_⟩
  unfold run1 at m
  by_cases hl : ss.length = ps.length
  · rw [if_pos hl] at m
    refine ⟨G, _, sta_start e A0, ?_⟩
    rw [hl]
    have m : (match (match exs Γ (body.map (trSt T.own n ⟨N, scope, false⟩)) (ss.map some ++ List.replicate (N.length - ps.length) none) with
      | .nx ρ => fin ⟨ps.length, N.length, body.map (trSt T.own n ⟨N, scope, false⟩)⟩ ss (false, .non) ρ
      | .ret r ρ => fin ⟨ps.length, N.length, body.map (trSt T.own n ⟨N, scope, false⟩)⟩ ss r ρ
      | .exc c l ρ => if outsOk ss (ρ.take ps.length) = true then FOut.exc c l (ρ.take ps.length) else .bad
      | _ => .bad) with
      | .ok r outs => ∀ v H' G', Ex G' H' → Stp (argC ss vs) H G H' G' → RN T H H' G' r.1 r.2 v → OutsR T H' G' ss vs outs → Q v H'
      | .exc c l outs => ∀ x od H' G', Ex G' H' → Stp (argC ss vs) H G H' G' → ExR T H' G' c l x od → OutsR T H' G' ss vs outs → E x od H'
      | .bad => False) := m
    cases he : exs Γ (body.map (trSt T.own n ⟨N, scope, false⟩)) (ss.map some ++ List.replicate (N.length - ps.length) none) with
    | nx ρ =>
      rw [he] at m
      simp only [fin] at m
      by_cases ho : outsOk ss (ρ.take ps.length) = true
      · rw [if_pos ho] at m
        exact fun σ' H' G' e' S' => m .non H' G' S'.ex S'.st (show Rep T G' .non .non by unfold Rep; rfl) (outs_of S' hl ho)
      · rw [if_neg ho] at m
        exact m.elim
    | ret r ρ =>
      rw [he] at m
      simp only [fin] at m
      by_cases ho : outsOk ss (ρ.take ps.length) = true
      · rw [if_pos ho] at m
        refine fun σ' v H' G' e' S' rr => m v H' G' S'.ex S'.st ?_ (outs_of S' hl ho)
        obtain ⟨fr, d⟩ := r
        cases fr with
        | false => exact rr
        | true =>
          obtain ⟨p, h3, h4, h5, _⟩ := rr
          exact ⟨p, h3, h5, h4⟩
      · rw [if_neg ho] at m
        exact m.elim
    | exc c l ρ =>
      rw [he] at m
      by_cases ho : outsOk ss (ρ.take ps.length) = true
      · simp only [if_pos ho] at m
        exact fun σ' x od H' G' e' S' xr => m x od H' G' S'.ex S'.st xr (outs_of S' hl ho)
      · simp only [if_neg ho] at m
    | brk ρ => rw [he] at m; exact m.elim
    | cnt ρ => rw [he] at m; exact m.elim
    | bad => rw [he] at m; exact m.elim
  · rw [if_neg hl] at m
    exact m.elim
/-- the program's table is right -/
structure PrgOk (T : Tab) (P : Prg) (mg : Str → Option Value) : Prop where
  fns : ∀ x fn, P.fns x = some fn → ∃ a, mg x = some (.ref a) ∧ PySem.W.keepIn T.K (.ref a) = true ∧ DefF T a fn
  clss : ∀ x q, P.clss x = some q → mg x = some (.ref (T.cls q.1)) ∧ ∃ a, Mk T.K (T.cls q.1) a ∧ DefF T a q.2.1
  mets : ∀ c m fn, P.mets c m = some fn → ∃ a, Cls T.K (T.cls c) ∧ Meth T.K (T.cls c) m a ∧ DefF T a fn
theorem ok_bad0 {a : Addr} {fd : FuncData} {ps : List Str} {k : Nat} {F : List Sl → FOut} (h : ∀ ss, F ss = .bad) : FnOk prog w T.K mg base CX k a fd ps (spF T F) :=
  ⟨fun vs H Q E ⟨G, ss, e, A, m⟩ => by rw [h ss] at m; exact m.elim, fun A outer s H args us vs Q E _ _ _ _ ⟨G, ss, e, A', m⟩ => by rw [h ss] at m; exact m.elim⟩
theorem DefF.fd {a : Addr} {fn : Fn} (h : DefF T a fn) : ∃ fd ps, Binds T.K fd ps [] := by
  obtain ⟨fd, ps, name, qual, params, body, scope, dV, kV, doc, pm, cdv, ct, oc, an, od, osl, N, n, lk, hcd, S, hB, rfl, rfl⟩ := h
  exact ⟨_, ps, Binds.all hB⟩
theorem level (W : Wd T P prog w mg base CX) (O : PrgOk T P mg) : ∀ L : Nat, (∀ f, (ga P L).has f = true → CalG T (ga P L) prog w T.K mg base CX (2 * L) f) ∧ (∀ c m, (ga P L).hasM c m = true → MetG T (ga P L) prog w T.K mg base CX (2 * L) c m)
  | 0 => by
    refine ⟨fun f hf => ?_, fun c m hm => ?_⟩
    · have hf : ((P.fns f).isSome || (P.clss f).isSome) = true := hf
      cases h1 : P.fns f with
      | some fn =>
        obtain ⟨a, h2, h3, h4⟩ := O.fns f fn h1
        obtain ⟨fd, ps, hB⟩ := h4.fd
        exact .inl ⟨a, fd, ps, h2, h3, hB, ok_bad0 fun ss => rfl⟩
      | none =>
        rw [h1] at hf
        cases h2 : P.clss f with
        | none => rw [h2] at hf; cases hf
        | some q =>
          obtain ⟨h3, a, h4, h5⟩ := O.clss f q h2
          obtain ⟨fd, ps, hB⟩ := h5.fd
          exact .inr ⟨q.1, a, fd, ps, fun _ => .bad, h3, h4, hB, ok_bad0 fun ss => rfl, fun ss => rfl⟩
    · have hm : (P.mets c m).isSome = true := hm
      cases h1 : P.mets c m with
      | none => rw [h1] at hm; cases hm
      | some fn =>
        obtain ⟨a, h2, h3, h4⟩ := O.mets c m fn h1
        obtain ⟨fd, ps, hB⟩ := h4.fd
        exact ⟨a, fd, ps, h2, h3, hB, ok_bad0 fun ss => rfl⟩
  | L + 1 => by
    obtain ⟨i1, i2⟩ := level W O L
    have fl : (ga P L).flds = P.flds := by cases L <;> rfl
    have gl : (ga P L).glo = P.glo := by cases L <;> rfl
    have ok : ∀ {a : Addr} {fn : Fn}, DefF T a fn → ∃ fd ps, Binds T.K fd ps [] ∧ FnOk prog w T.K mg base CX (2 * (L + 1)) a fd ps (spF T (run1 (ga P L) fn)) := fun ⟨fd, ps, h⟩ => ⟨fd, ps, fn_ok W fl gl i1 i2 h⟩
    refine ⟨fun f hf => ?_, fun c m hm => ?_⟩
    · have hf : ((P.fns f).isSome || (P.clss f).isSome) = true := hf
      cases h1 : P.fns f with
      | some fn =>
        obtain ⟨a, h2, h3, h4⟩ := O.fns f fn h1
        obtain ⟨fd, ps, hB, F⟩ := ok h4
        have hc : (ga P (L + 1)).cal f = run1 (ga P L) fn := by
          funext ss
          show (match P.fns f with
            | some f => run1 (ga P L) f ss
            | none => _) = _
          rw [h1]
        exact .inl ⟨a, fd, ps, h2, h3, hB, by rw [hc]; exact F⟩
      | none =>
        rw [h1] at hf
        cases h2 : P.clss f with
        | none => rw [h2] at hf; cases hf
        | some q =>
          obtain ⟨h3, a, h4, h5⟩ := O.clss f q h2
          obtain ⟨fd, ps, hB, F⟩ := ok h5
          refine .inr ⟨q.1, a, fd, ps, run1 (ga P L) q.2.1, h3, h4, hB, F, fun ss => ?_⟩
          show (match P.fns f with
            | some f => run1 (ga P L) f ss
            | none => (match P.clss f with
              | some q => mkF q.1 (run1 (ga P L) q.2.1) ss
              | none => .bad)) = _
          rw [h1, h2]
    · have hm : (P.mets c m).isSome = true := hm
      cases h1 : P.mets c m with
      | none => rw [h1] at hm; cases hm
      | some fn =>
        obtain ⟨a, h2, h3, h4⟩ := O.mets c m fn h1
        obtain ⟨fd, ps, hB, F⟩ := ok h4
        have hc : (ga P (L + 1)).met c m = run1 (ga P L) fn := by
          funext ss
          show (match P.mets c m with
            | some f => run1 (ga P L) f ss
            | none => _) = _
          rw [h1]
        exact ⟨a, fd, ps, h2, h3, hB, by rw [hc]; exact F⟩
end
end Pf
end
section
set_option Elab.async false
set_option linter.all false
set_option maxRecDepth 100000
set_option maxHeartbeats 4000000
/-! Rf24: a program's layout; the head's facts give the layer's world. -/
namespace Pf
open PySem PySem.Spec PyProof.Rows L2
structure Cl where
  name : Str
  flds : List Str
  frz : Bool
structure Df where
  d : He.DefD
  N : List Str
  ps : List Str
structure Lay where
  defs : List Df
  cls : List Cl
  gi : List (Str × Int)
  gs : List (Str × Str)
  gt : List (Str × List Int) := []
variable (L : Lay)
def Lay.own (x : Str) : Option Nat := ixOf x (L.cls.map (·.name))
def Lay.flds (c : Nat) : List Str := match L.cls[c]? with
  | some q => q.flds
  | none => []
def Lay.tab (K : PySem.W.Frag) : Tab := ⟨K, fun c => match L.cls[c]? with
  | some q => He.ga K q.name
  | none => 0, L.flds, L.own⟩
def Lay.fn (n : Nat) (d : Df) : Fn := ⟨d.ps.length, d.N.length, d.d.body.map (trSt L.own n ⟨d.N, d.d.scope, false⟩)⟩
def findDf (p : Str × Option Str) : List Df → Option Df
  | [] => none
  | d :: l => if d.d.at_ = p then some d else findDf p l
def findK {α : Type} (x : Str) : List (Str × α) → Option α
  | [] => none
  | (y, a) :: l => if y = x then some a else findK x l
def Lay.prg (n wf : Nat) : Prg where
  fns := fun x => (findDf (x, none) L.defs).map (L.fn n)
  clss := fun x => match L.own x, findDf (x, some "__init__") L.defs with
    | some c, some d => (L.cls[c]?).map fun q => (c, L.fn n d, q.frz)
    | _, _ => none
  mets := fun c m => match L.cls[c]? with
    | some q => if m = "__init__" then none else (findDf (q.name, some m) L.defs).map (L.fn n)
    | none => none
  glo := fun x => match findK x L.gi with
    | some i => some (.int i)
    | none => match findK x L.gs with
      | some z => some (.str z)
      | none => (findK x L.gt).map fun ns => .tup (ns.map .int)
  flds := L.flds
  wf := wf
theorem findDf_some {p : Str × Option Str} {d : Df} : ∀ {l : List Df}, findDf p l = some d → d ∈ l ∧ d.d.at_ = p
  | [], h => by cases h
  | e :: l, h => by
    unfold findDf at h
    by_cases z : e.d.at_ = p
    · rw [if_pos z] at h
      cases h
      exact ⟨List.mem_cons_self, z⟩
    · rw [if_neg z] at h
      obtain ⟨h1, h2⟩ := findDf_some h
      exact ⟨List.mem_cons_of_mem _ h1, h2⟩
theorem findK_some {α : Type} {x : Str} {a : α} : ∀ {l : List (Str × α)}, findK x l = some a → (x, a) ∈ l
  | [], h => by cases h
  | (y, b) :: l, h => by
    unfold findK at h
    by_cases z : y = x
    · rw [if_pos z] at h
      cases h
      rw [z]
      exact List.mem_cons_self
    · rw [if_neg z] at h
      exact List.mem_cons_of_mem _ (findK_some h)
/-! ### what the head must say -/
def isiB (K : PySem.W.Frag) (C : Addr) : Bool := decide (PySem.W.findIn K (.ref C) "__class__" = some (some (.builtin "object.__class__"))) && (decide (PySem.W.specialIn K (.builtin "object.__class__") "__get__" = some (some (.builtin "getset_descriptor.__get__"))) &&
  (decide (PySem.W.takesIn K (.builtin "object.__class__") = some true) && (decide (PySem.W.mroIn K C (.type "object") = some true) && (tyNames.all (fun n => decide (PySem.W.kitOne K (.ref C) (.type n) = some false)) && (tyNames.all (fun n => decide (PySem.W.kitOne K (.type n) (.ref C) = some false)) && decide (PySem.W.findIn K (.ref C) "__ne__" = some (some (.builtin "object.__ne__"))))))))
theorem isiB_ok {K : PySem.W.Frag} {C : Addr} (h : isiB K C = true) : IsiC K C := by
  unfold isiB at h
  simp only [Bool.and_eq_true, decide_eq_true_eq, List.all_eq_true] at h
  exact ⟨h.1, h.2.1, h.2.2.1, h.2.2.2.1, h.2.2.2.2.1, h.2.2.2.2.2.1, h.2.2.2.2.2.2⟩
def facOf (d : Df) : List He.Fa := match d.d.at_ with
  | (x, none) => [.glo x]
  | (x, some m) => if m = "__init__" then [.mkr x] else [.meth x m]
def clsFa (q : Cl) : List He.Fa := .glo q.name :: .cls q.name :: q.flds.map (.noat q.name)
def Lay.fas : List He.Fa := L.defs.flatMap facOf ++ (L.cls.flatMap clsFa ++ (L.gi.map (fun q => He.Fa.int q.1 q.2) ++ (L.gs.map (fun q => He.Fa.str q.1 q.2) ++ blts.map .free)))
def Lay.isiAll (K : PySem.W.Frag) : Bool := L.cls.all (fun q => isiB K (He.ga K q.name)) && (List.range L.cls.length).all fun i => (List.range L.cls.length).all fun j => decide (PySem.W.kitOne K (.ref ((L.tab K).cls i)) (.ref ((L.tab K).cls j)) = some (decide (i = j)))
/-- a global tuple of ints -/
def intsB : List Value → List Int → Bool
  | [], [] => true
  | .int i _ :: us, j :: ns => decide (i = j) && intsB us ns
  | _, _ => false
theorem intsB_ok : ∀ {us : List Value} {ns : List Int}, intsB us ns = true → Vals (ns.map V.int) us
  | [], [], _ => .nil
  | .int i t :: us, j :: ns, h => by
    unfold intsB at h
    obtain ⟨h1, h2⟩ := Bool.and_eq_true_iff.mp h
    rw [← of_decide_eq_true h1]
    exact .cons ⟨t, rfl⟩ (intsB_ok h2)
  | .none :: _, _ :: _, h => by cases h
  | .bool _ :: _, _ :: _, h => by cases h
  | .ref _ :: _, _ :: _, h => by cases h
  | .str _ _ :: _, _ :: _, h => by cases h
  | .int _ _ :: _, [], h => by cases h
  | [], _ :: _, h => by cases h
  | .type _ :: _, _ :: _, h => by cases h
  | .builtin _ :: _, _ :: _, h => by cases h
  | .notImplemented :: _, _ :: _, h => by cases h
  | .ellipsis :: _, _ :: _, h => by cases h
  | .float _ _ :: _, _ :: _, h => by cases h
  | .bytes _ _ :: _, _ :: _, h => by cases h
theorem ints_rep {T : Tab} {G : Hp} : ∀ ns : List Int, RepL T G (ns.map D.int) (ns.map V.int)
  | [] => RepL.nil
  | n :: ns => RepL.cons rep_int (ints_rep ns)
def tupB (K : PySem.W.Frag) (q : Str × List Int) : Bool := match PySem.W.nsIn K mainGlobals q.1 with
  | some (some (.ref a)) => (match K.lookup a with
    | some o => decide (o.cls = .type "tuple") && (match o.data with
      | .seq its _ => decide (its.size ≤ 1000) && intsB its.toList q.2
      | _ => false)
    | none => false)
  | _ => false
def Lay.ok (K : PySem.W.Frag) : Bool := (L.fas.all fun f => f.ok K) && ((L.defs.all fun d => d.d.ok K) && (L.isiAll K && L.gt.all (tupB K)))
def Lay.obs (K : PySem.W.Frag) : He.AlD := (L.ok K, L.defs.map fun d => He.fnW K d.d.at_)
def Lay.val : He.AlD := (true, L.defs.map fun d => d.d.val)
def Lay.Says (K : PySem.W.Frag) : Prop := L.obs K = L.val
def Lay.obsG (n : Nat) (g : Addr → Option Obj) : He.AlD := L.obs (He.frG g (He.asD g n))
def Lay.hook (n : Nat) : PySem.W.Hook where
  α := He.AlD
  obs := fun s => L.obsG n s.heap.get?
  val := fun _ => L.val
  says := fun _ h => ∃ K : PySem.W.Frag, K.In h ∧ L.Says K
  of := fun _ _ e => ⟨_, He.frG_in, e⟩
  keeps := fun _ _ _ ⟨K, hK, c⟩ k => ⟨K, PySem.W.Frag.In.keeps hK k, c⟩
theorem Lay.obsG_eq {n : Nat} {g : Addr → Option Obj} {s : Shared} (h : ∀ a, g a = s.heap.get? a) : L.obsG n g = (L.hook n).obs s := by
  have e : g = s.heap.get? := funext h
  rw [e] <;> rfl
/-! ### what the text itself must give -/
def isLocK (sc : Scope) (x : Str) : Bool := match sc.names.lookup x with
  | some .local => true
  | some .cell => true
  | _ => false
def isFree : NameKind → Bool
  | .free => true
  | _ => false
def scB (N ps : List Str) (sc : Scope) : Bool := (match sc.kind with
  | .function => true
  | _ => false) && (!sc.isCoroutine && (!sc.isGenerator && (decide N.Nodup && (decide (N.take ps.length = ps) && (ps.all (isLocK sc) && sc.names.all fun y => !isFree y.2)))))
theorem scB_ok {N ps : List Str} {sc : Scope} (h : scB N ps sc = true) : FnScope N ps sc := by
  unfold scB at h
  simp only [Bool.and_eq_true, decide_eq_true_eq, List.all_eq_true, Bool.not_eq_true'] at h
  obtain ⟨h1, h2, h3, h4, h5, h6, h7⟩ := h
  refine ⟨?_, h2, h3, h4, h5, fun x hx => ?_, fun y hy z => ?_⟩
  · cases hk : sc.kind <;> rw [hk] at h1 <;> first | rfl | cases h1
  · have := h6 x hx
    unfold isLocK at this
    split at this
    · rename_i e
      exact .inl e
    · rename_i e
      exact .inr e
    · cases this
  · have := h7 y hy
    rw [z] at this
    cases this
def Bd (d : Df) : Prop := ∀ (kV doc pm : Value) (an : Option Addr) (cdv ct : Value) (us : List Value), us.length = d.ps.length → bindArgs (PySem.W.fnOf d.d.name d.d.qual d.d.params d.d.body d.d.scope .none kV doc pm an cdv ct) ⟨us, []⟩ = pure (d.ps.zip us)
def AllBd : List Df → Prop
  | [] => True
  | d :: l => Bd d ∧ AllBd l
theorem AllBd.get : ∀ {l : List Df} {d : Df}, AllBd l → d ∈ l → Bd d
  | e :: l, d, h, hm => (List.mem_cons.mp hm).elim (fun z => by rw [z]; exact h.1) (AllBd.get h.2)
def Lay.good : Bool := (L.defs.all fun d => scB d.N d.ps d.d.scope && (d.d.dfl.isEmpty && d.d.kwd.isEmpty)) && (L.cls.all fun q => decide q.flds.Nodup && (decide (q.flds.length < 1000) && !q.flds.isEmpty))
variable {L}
section
variable {K : PySem.W.Frag} {h : Heap} {mg : Str → Option Value}
theorem Lay.Says.ok (c : L.Says K) : L.ok K = true := congrArg (fun z : He.AlD => z.1) c
theorem Lay.Says.fact (c : L.Says K) {f : He.Fa} (hf : f ∈ L.fas) : f.ok K = true := by
  have h := c.ok
  unfold Lay.ok at h
  simp only [Bool.and_eq_true, List.all_eq_true] at h
  exact h.1 f hf
theorem Lay.Says.isi (c : L.Says K) : L.isiAll K = true := by
  have h := c.ok
  unfold Lay.ok at h
  simp only [Bool.and_eq_true] at h
  exact h.2.2.1
theorem Lay.Says.tup (c : L.Says K) (X : K.In h) (G : h.Ns mainGlobals mg) {q : Str × List Int} (hq : q ∈ L.gt) : ∃ a, mg q.1 = some (.ref a) ∧ ∀ G : Hp, SqT K G a (q.2.map V.int) := by
  have h1 := c.ok
  unfold Lay.ok at h1
  simp only [Bool.and_eq_true, List.all_eq_true] at h1
  have h2 := h1.2.2.2 q hq
  unfold tupB at h2
  split at h2
  · rename_i a ha
    split at h2
    · rename_i o ho
      obtain ⟨h3, h4⟩ := Bool.and_eq_true_iff.mp h2
      split at h4
      · rename_i its n hd
        obtain ⟨h5, h6⟩ := Bool.and_eq_true_iff.mp h4
        exact ⟨a, PySem.W.mg_of X G ha, fun G => .inr ⟨o, its, n, ho, of_decide_eq_true h3, hd, Nat.le_trans (of_decide_eq_true h5) (by rw [sizeLine_eq]; decide), intsB_ok h6⟩⟩
      · cases h4
    · cases h2
  · cases h2
theorem Lay.Says.fun_ (c : L.Says K) {d : Df} (hd : d ∈ L.defs) : ∃ fd, FunD K d.d.name d.d.qual d.d.params d.d.body d.d.scope (d.d.dvs K) (d.d.kws K) (He.fAd K d.d.at_) fd := by
  have h := c.ok
  unfold Lay.ok at h
  simp only [Bool.and_eq_true, List.all_eq_true] at h
  have e : L.defs.map (fun d => He.fnW K d.d.at_) = L.defs.map fun d => d.d.val := congrArg (fun z : He.AlD => z.2) c
  obtain ⟨i, hi⟩ := List.getElem?_of_mem hd
  have e2 : (L.defs.map fun d => He.fnW K d.d.at_)[i]? = (L.defs.map fun d => d.d.val)[i]? := by rw [e]
  rw [List.getElem?_map, List.getElem?_map, hi] at e2
  exact He.DefD.funD (Option.some.inj e2) (h.2.1 d hd)
theorem Lay.Says.defX (c : L.Says K) (hg : L.good = true) (hb : AllBd L.defs) {d : Df} (hd : d ∈ L.defs) (n : Nat) : (∃ fd, FunD K d.d.name d.d.qual d.d.params d.d.body d.d.scope [] (d.d.kws K) (He.fAd K d.d.at_) fd ∧ DefX (L.tab K) (He.fAd K d.d.at_) (L.fn n d) fd d.ps) ∧ PySem.W.keepIn K (.ref (He.fAd K d.d.at_)) = true := by
  obtain ⟨fd, F⟩ := c.fun_ hd
  unfold Lay.good at hg
  simp only [Bool.and_eq_true, List.all_eq_true] at hg
  obtain ⟨h1, h2, h3⟩ := hg.1 d hd
  obtain ⟨oc, od, dV, kV, doc, pm, an, cdv, ct, osl, rfl, lk, hcd, hD, hK⟩ := F.ex
  have hdv : d.d.dvs K = [] := by
    unfold He.DefD.dvs
    rw [List.isEmpty_iff.mp h2]
    rfl
  rw [hdv] at hD
  rcases hD with ⟨_, rfl⟩ | ⟨z, _⟩
  · rw [hdv] at F
    exact ⟨⟨_, F, _, _, _, _, _, _, _, _, _, _, _, _, _, _, _, d.N, n, lk, hcd, scB_ok h1, fun us hl => hb.get hd kV doc pm an cdv ct us hl, rfl, rfl⟩, F.kp⟩
  · exact absurd rfl z
theorem Lay.Says.def_ (c : L.Says K) (hg : L.good = true) (hb : AllBd L.defs) {d : Df} (hd : d ∈ L.defs) (n : Nat) : DefF (L.tab K) (He.fAd K d.d.at_) (L.fn n d) ∧ PySem.W.keepIn K (.ref (He.fAd K d.d.at_)) = true := by
  obtain ⟨⟨fd, _, h⟩, h2⟩ := c.defX hg hb hd n
  exact ⟨⟨fd, d.ps, h⟩, h2⟩
theorem Lay.fa_def {d : Df} (hd : d ∈ L.defs) {f : He.Fa} (hf : f ∈ facOf d) : f ∈ L.fas := List.mem_append_left _ (List.mem_flatMap.mpr ⟨d, hd, hf⟩)
theorem Lay.fa_cls {q : Cl} (hd : q ∈ L.cls) {f : He.Fa} (hf : f ∈ clsFa q) : f ∈ L.fas := List.mem_append_right _ (List.mem_append_left _ (List.mem_flatMap.mpr ⟨q, hd, hf⟩))
theorem Lay.fa_int {q : Str × Int} (hd : q ∈ L.gi) : He.Fa.int q.1 q.2 ∈ L.fas := List.mem_append_right _ (List.mem_append_right _ (List.mem_append_left _ (List.mem_map_of_mem hd)))
theorem Lay.fa_str {q : Str × Str} (hd : q ∈ L.gs) : He.Fa.str q.1 q.2 ∈ L.fas := List.mem_append_right _ (List.mem_append_right _ (List.mem_append_right _ (List.mem_append_left _ (List.mem_map_of_mem hd))))
theorem Lay.fa_blt {x : Str} (hd : x ∈ blts) : He.Fa.free x ∈ L.fas := List.mem_append_right _ (List.mem_append_right _ (List.mem_append_right _ (List.mem_append_right _ (List.mem_map_of_mem hd))))
theorem Lay.own_at {x : Str} {c : Nat} (h : L.own x = some c) : ∃ q, L.cls[c]? = some q ∧ q.name = x := by
  have := ixOf_lt h
  rw [List.getElem?_map] at this
  cases e : L.cls[c]? with
  | none => rw [e] at this; cases this
  | some q =>
    rw [e] at this
    exact ⟨q, rfl, Option.some.inj this⟩
theorem Lay.tab_cls {c : Nat} {q : Cl} (h : L.cls[c]? = some q) : (L.tab K).cls c = He.ga K q.name := by
  show (match L.cls[c]? with
    | some q => He.ga K q.name
    | none => 0) = _
  rw [h]
theorem Lay.flds_at {c : Nat} {q : Cl} (h : L.cls[c]? = some q) : L.flds c = q.flds := by
  unfold Lay.flds
  rw [h]
theorem Lay.flds_ne {c : Nat} (h : L.flds c ≠ []) : ∃ q, L.cls[c]? = some q := by
  unfold Lay.flds at h
  cases e : L.cls[c]? with
  | none => rw [e] at h; exact absurd rfl h
  | some q => exact ⟨q, rfl⟩
theorem Lay.prgOk (c : L.Says K) (X : K.In h) (G : h.Ns mainGlobals mg) (hg : L.good = true) (hb : AllBd L.defs) (n wf : Nat) : PrgOk (L.tab K) (L.prg n wf) mg where
  fns := fun x fn hx => by
    have hx : (findDf (x, none) L.defs).map (L.fn n) = some fn := hx
    cases e : findDf (x, none) L.defs with
    | none => rw [e] at hx; cases hx
    | some d =>
      rw [e] at hx
      cases hx
      obtain ⟨h1, h2⟩ := findDf_some e
      obtain ⟨h3, h4⟩ := c.def_ hg hb h1 n
      have hga : mg x = some (.ref (He.ga K x)) := He.glo_ok X G (c.fact (L.fa_def h1 (by unfold facOf; rw [h2]; exact List.mem_singleton.mpr rfl)))
      have e3 : He.fAd K d.d.at_ = He.ga K x := by rw [h2]; rfl
      rw [e3] at h3 h4
      exact ⟨_, hga, h4, h3⟩
  clss := fun x q hx => by
    have hx : (match L.own x, findDf (x, some "__init__") L.defs with
      | some c, some d => (L.cls[c]?).map fun q => (c, L.fn n d, q.frz)
      | _, _ => none) = some q := hx
    cases e1 : L.own x with
    | none => rw [e1] at hx; cases hx
    | some cc =>
    cases e2 : findDf (x, some "__init__") L.defs with
    | none => rw [e1, e2] at hx; cases hx
    | some d =>
    rw [e1, e2] at hx
    have hx2 : (L.cls[cc]?).map (fun q => (cc, L.fn n d, q.frz)) = some q := hx
    obtain ⟨q2, h1, rfl⟩ := L.own_at e1
    rw [h1] at hx2
    cases hx2
    obtain ⟨h3, h4⟩ := findDf_some e2
    obtain ⟨h5, h6⟩ := c.def_ hg hb h3 n
    have hm : q2 ∈ L.cls := List.mem_of_getElem? h1
    have hga : mg q2.name = some (.ref (He.ga K q2.name)) := He.glo_ok X G (c.fact (L.fa_cls hm List.mem_cons_self))
    have hmk := He.mkr_ok (c.fact (f := .mkr q2.name) (L.fa_def h3 (by unfold facOf; rw [h4]; exact List.mem_singleton.mpr rfl)))
    have e3 : He.fAd K d.d.at_ = He.ma K (He.ga K q2.name) "__init__" := by rw [h4]; rfl
    rw [e3] at h5
    have e4 : (L.tab K).cls cc = He.ga K q2.name := L.tab_cls h1
    refine ⟨by rw [e4]; exact hga, _, by rw [e4]; exact hmk, h5⟩
  mets := fun cc m fn hx => by
    have hx : (match L.cls[cc]? with
      | some q => if m = "__init__" then none else (findDf (q.name, some m) L.defs).map (L.fn n)
      | none => none) = some fn := hx
    cases e1 : L.cls[cc]? with
    | none => rw [e1] at hx; cases hx
    | some q =>
    rw [e1] at hx
    by_cases hm : m = "__init__"
    · simp only [if_pos hm] at hx
      cases hx
    · simp only [if_neg hm] at hx
      cases e2 : findDf (q.name, some m) L.defs with
      | none => rw [e2] at hx; cases hx
      | some d =>
        rw [e2] at hx
        cases hx
        obtain ⟨h3, h4⟩ := findDf_some e2
        obtain ⟨h5, h6⟩ := c.def_ hg hb h3 n
        have hq : q ∈ L.cls := List.mem_of_getElem? e1
        have hme := He.meth_ok (c.fact (f := .meth q.name m) (L.fa_def h3 (by unfold facOf; rw [h4]; dsimp only; rw [if_neg hm]; exact List.mem_singleton.mpr rfl)))
        have hcl := He.cls_ok (c.fact (f := .cls q.name) (L.fa_cls hq (List.mem_cons_of_mem _ List.mem_cons_self)))
        have e3 : He.fAd K d.d.at_ = He.ma K (He.ga K q.name) m := by rw [h4]; rfl
        rw [e3] at h5
        have e4 : (L.tab K).cls cc = He.ga K q.name := L.tab_cls e1
        exact ⟨_, by rw [e4]; exact hcl, by rw [e4]; exact hme, h5⟩
theorem Lay.wd (c : L.Says K) (X : K.In h) (G : h.Ns mainGlobals mg) (hg : L.good = true) (n wf : Nat) {prog : Program} {w : World} {base : Heap} {CX : CXT} (h1 : ∀ outer H s e s', ¬ CX outer H s (fun _ _ _ => False) e s')
    (h2 : ∀ (N : List Str) (qual : Str) (scope : Scope) (f : Addr) (cd : Value) (A : Around) (outer : List Env) (s : Shared) (H : Hp) (E : XK), Passes CX (cxOf CX prog w K mg base N qual scope f cd A outer s H E) E) : Wd (L.tab K) (L.prg n wf) prog w mg base CX where
  fl := rfl
  cls := fun k hk => by
    obtain ⟨q, hq⟩ := L.flds_ne hk
    rw [L.tab_cls hq]
    exact He.cls_ok (c.fact (f := .cls q.name) (L.fa_cls (List.mem_of_getElem? hq) (List.mem_cons_of_mem _ List.mem_cons_self)))
  noat := fun k f hf => by
    obtain ⟨q, hq⟩ := L.flds_ne (c := k) (fun z => by rw [show (L.tab K).flds k = L.flds k from rfl, z] at hf; cases hf)
    rw [L.tab_cls hq]
    have hf : f ∈ q.flds := by rw [← L.flds_at hq]; exact hf
    exact He.noat_ok (c.fact (f := .noat q.name f) (L.fa_cls (List.mem_of_getElem? hq) (List.mem_cons_of_mem _ (List.mem_cons_of_mem _ (List.mem_map_of_mem hf)))))
  fnd := fun k => by
    show (L.flds k).Nodup ∧ (L.flds k).length < 1000
    cases e : L.cls[k]? with
    | none =>
      unfold Lay.flds
      rw [e]
      exact ⟨List.nodup_nil, by decide⟩
    | some q =>
      rw [L.flds_at e]
      unfold Lay.good at hg
      simp only [Bool.and_eq_true, List.all_eq_true, decide_eq_true_eq] at hg
      obtain ⟨h1, h2, h3⟩ := hg.2 q (List.mem_of_getElem? e)
      exact ⟨h1, h2⟩
  own := fun x cc hx => by
    obtain ⟨q, hq, rfl⟩ := L.own_at hx
    rw [L.tab_cls hq]
    refine ⟨He.glo_ok X G (c.fact (L.fa_cls (List.mem_of_getElem? hq) List.mem_cons_self)), ?_⟩
    show L.flds cc ≠ []
    rw [L.flds_at hq]
    unfold Lay.good at hg
    simp only [Bool.and_eq_true, List.all_eq_true, decide_eq_true_eq, Bool.not_eq_true'] at hg
    obtain ⟨h1, h2, h3⟩ := hg.2 q (List.mem_of_getElem? hq)
    exact fun z => by rw [z] at h3; cases h3
  isi := fun k hk => by
    obtain ⟨q, hq⟩ := L.flds_ne hk
    rw [L.tab_cls hq]
    have := c.isi
    unfold Lay.isiAll at this
    rw [Bool.and_eq_true, List.all_eq_true] at this
    exact isiB_ok (this.1 q (List.mem_of_getElem? hq))
  isd := fun i j hi hj => by
    obtain ⟨q, hq⟩ := L.flds_ne hi
    obtain ⟨r, hr⟩ := L.flds_ne hj
    have := c.isi
    unfold Lay.isiAll at this
    simp only [Bool.and_eq_true, List.all_eq_true, decide_eq_true_eq] at this
    have li : i < L.cls.length := by
      obtain ⟨z, _⟩ := List.getElem?_eq_some_iff.mp hq
      exact z
    have lj : j < L.cls.length := by
      obtain ⟨z, _⟩ := List.getElem?_eq_some_iff.mp hr
      exact z
    exact this.2 i (List.mem_range.mpr li) j (List.mem_range.mpr lj)
  glo := fun x d hd => by
    have hd : (match findK x L.gi with
      | some i => some (D.int i)
      | none => match findK x L.gs with
        | some z => some (D.str z)
        | none => (findK x L.gt).map fun ns => D.tup (ns.map .int)) = some d := hd
    cases e1 : findK x L.gi with
    | some i =>
      rw [e1] at hd
      cases hd
      obtain ⟨t, ht⟩ := He.int_ok X G (c.fact (L.fa_int (findK_some e1)))
      exact ⟨.int i, _, ht, ⟨_, rfl⟩, fun G => rep_int⟩
    | none =>
      rw [e1] at hd
      cases e2 : findK x L.gs with
      | none =>
        rw [e2] at hd
        cases e3 : findK x L.gt with
        | none => rw [e3] at hd; cases hd
        | some ns =>
          rw [e3] at hd
          cases hd
          obtain ⟨a, ha, hs⟩ := c.tup X G (findK_some e3)
          refine ⟨.ref a, .ref a, ha, rfl, fun G => ?_⟩
          unfold Rep
          exact ⟨a, _, rfl, hs G, ints_rep ns⟩
      | some z =>
        rw [e2] at hd
        cases hd
        obtain ⟨t, ht⟩ := He.str_ok X G (c.fact (L.fa_str (findK_some e2)))
        exact ⟨.str z, _, ht, ⟨_, rfl⟩, fun G => rep_str⟩
  blt := fun x hx => He.free_ok X G (c.fact (L.fa_blt hx))
  cxF := h1
  psO := h2
end
end Pf
end
section
set_option Elab.async false
set_option linter.all false
set_option maxRecDepth 100000
set_option maxHeartbeats 4000000
/-! Rf25: the end: a law's def by its interpreter's answer. -/
namespace Pf
open PySem PySem.Spec PyProof.Rows L2
theorem law_end {L : Lay} {K : PySem.W.Frag} {h : Heap} {mg : Str → Option Value} {fa : Addr} {d : Df} {x nm : Str} {n wf lv : Nat} {prog : Program} {w : World} (c : L.Says K) (X : K.In h) (G : h.Ns mainGlobals mg) (hg : L.good = true) (hb : AllBd L.defs)
    (hfa : mg nm = some (.ref fa)) (hd : d ∈ L.defs) (hat : d.d.at_ = (nm, none)) (hps : d.ps = [x]) (m : Nat)
    (hlaw : ∀ ns : List Int, ns.length ≤ m → ∃ outs, run1 (ga (L.prg n wf) lv) (L.fn n d) [.val false (.scr ns)] = .ok (false, .bl true) outs) :
    ∃ (fd : FuncData) (sp : Sp), (∀ (s : Shared) (u : Value), BindsTo s fd ⟨[u], []⟩ [(x, u)]) ∧
      (∀ (H : Hp) (a : Addr) (ns : List Int), ns.length ≤ m → SqL K H a (ns.map V.int) → sp [.ref a] H (fun v _ => v = .bl true) fun _ _ _ => False) ∧
      ∀ base : Heap, K.In base → base.Ns mainGlobals mg → FnOk prog w K mg base CX0 (2 * lv + 2) fa fd [x] sp := by
  obtain ⟨⟨fd, F, DX⟩, _⟩ := c.defX hg hb hd n
  have hga : mg nm = some (.ref (He.ga K nm)) := He.glo_ok X G (c.fact (L.fa_def hd (by unfold facOf; rw [hat]; exact List.mem_singleton.mpr rfl)))
  have e3 : He.fAd K d.d.at_ = He.ga K nm := by rw [hat]; rfl
  rw [e3] at DX F
  rw [hga] at hfa
  cases hfa
  refine ⟨fd, spF (L.tab K) (run1 (ga (L.prg n wf) lv) (L.fn n d)), fun s u => ?_, fun H a ns hl hS => ?_, fun base hK hN => ?_⟩
  · have := FunD.bindsA (ps := d.ps) F (fun kV doc pm an cdv ct us hl => hb.get hd kV doc pm an cdv ct us hl) s [u] (by rw [hps]; rfl)
    rw [hps] at this
    exact this
  · obtain ⟨outs, ho⟩ := hlaw ns hl
    refine ⟨H, [.val false (.scr ns)], Ex.refl H, ⟨rfl, fun i b d' hi => ?_, fun i b d' hi => ?_, fun i j b b' d' d'' p hi => ?_⟩, ?_⟩
    · cases i with
      | zero =>
        simp at hi
        obtain ⟨rfl, rfl⟩ := hi
        refine ⟨rfl, .ref a, rfl, ?_⟩
        unfold Rep
        exact ⟨a, rfl, hS⟩
      | succ i => simp at hi
    · cases i <;> simp at hi
    · cases i <;> simp at hi
    · rw [ho]
      exact fun v H' G' e' t rn o => Rep.bl (show Rep (L.tab K) G' (.bl true) v from rn)
  · have W := L.wd c X G hg n wf (prog := prog) (w := w) (base := base) (CX := CX0) (fun _ _ _ _ _ z => z) (fun _ _ _ _ _ _ _ _ _ _ _ _ _ _ _ _ _ z => z.elim)
    have O := L.prgOk c X G hg hb n wf
    obtain ⟨i1, i2⟩ := level W O lv
    have fl : (ga (L.prg n wf) lv).flds = (L.prg n wf).flds := by cases lv <;> rfl
    have gl : (ga (L.prg n wf) lv).glo = (L.prg n wf).glo := by cases lv <;> rfl
    have := (fn_ok W fl gl i1 i2 DX).2
    rw [hps] at this
    exact this
end Pf
end
section
set_option Elab.async false
set_option linter.all false
set_option maxRecDepth 100000
/-! Rf26: the interpreter run by rewriting, at told slots. -/
namespace Pf
open PySem PySem.Spec PyProof.Rows L2
section
variable {α β : Type} {a : α} {ρ : Rho} {f : α → Rho → Out β} {g : α → Rho → SO} {k : Rho → SO} {r : Res} {c : Nat} {l : List D}
@[simp] theorem bnd_ok : (Out.ok a ρ).bnd f = f a ρ := rfl
@[simp] theorem bnd_bad : (Out.bad : Out α).bnd f = .bad := rfl
@[simp] theorem of_ok : SO.of (Out.ok a ρ) g = g a ρ := rfl
@[simp] theorem of_bad : SO.of (Out.bad : Out α) g = .bad := rfl
@[simp] theorem thn_nx : (SO.nx ρ).thn k = k ρ := rfl
@[simp] theorem thn_ret : (SO.ret r ρ).thn k = .ret r ρ := rfl
@[simp] theorem thn_brk : (SO.brk ρ).thn k = .brk ρ := rfl
@[simp] theorem thn_cnt : (SO.cnt ρ).thn k = .cnt ρ := rfl
@[simp] theorem thn_bad : SO.bad.thn k = .bad := rfl
@[simp] theorem lift_some : lift (some a) ρ = .ok a ρ := rfl
@[simp] theorem lift_none : lift (none : Option α) ρ = .bad := rfl
@[simp] theorem ofOpt_some : ofOpt (some ρ) = .nx ρ := rfl
@[simp] theorem ofOpt_none : ofOpt none = .bad := rfl
end
/-! ### the matches, named -/
def slotV (o : Option Sl) (i : Nat) (m : Bool) (ρ : Rho) : Out Res := match o with
  | some (.val _ d) => tr m (.ok (false, d) ρ)
  | some (.cel b d) => (match m with
    | true => tr true (.ok (false, d) ρ)
    | false => .ok (false, d) (ρ.set i (some (.val b d))))
  | none => .bad
def slotA (o : Option Sl) (i : Nat) (ρ : Rho) : Out Ag := match o with
  | some (.val _ d) => .ok (Ag.val d) ρ
  | some (.cel _ _) => .ok (Ag.slot i) ρ
  | none => .bad
def apD (fl : Nat → List Str) (o : Op) (ds : Option (List D)) (ρ : Rho) : Out Res := match ds with
  | some ds => (lift (o.ap fl ds) ρ).bnd fun d ρ2 => .ok (o.new && d.obj, d) ρ2
  | none => .bad
def pick {α : Type} (d : D) (a b x : α) : α := match d with
  | .bl true => a
  | .bl false => b
  | _ => x
def chnR (q : Cop) (y : D) (rho : Rho) (z : Rho → Out Res) (k : Option Bool) : Out Res := match k with
  | some true => (z rho).bnd fun z ρ3 => (lift (cop q y z.2) ρ3).bnd fun k ρ4 => .ok (false, .bl k) ρ4
  | some false => .ok (false, .bl false) rho
  | none => .bad
def calR (Γ : Ga) (f : Str) (as : List Ag) (ss : Option (List Sl)) (ρ1 : Rho) : Out Res := match ss with
  | some ss => if (slots as).Nodup then (outF ρ1 as (Γ.cal f ss)).bnd fun r ρ2 => .ok (r.1 && !Γ.frz f, r.2) ρ2 else .bad
  | none => .bad
def agR {α : Type} (s : Option Sl) (f : Sl → Out α) : Out α := match s with
  | some s => f s
  | none => .bad
def retS (Γ : Ga) (o : Option Sl) (i : Nat) (ρ : Rho) : SO := match o with
  | some (.cel false d) => .ret (true, d) (ρ.set i none)
  | _ => SO.of (slotV o i false ρ) fun r ρ1 => .ret r ρ1
def augS (o : Option Sl) (op : Bop) (i : Nat) (e : Out Res) : SO := match o, op with
  | some (.val _ (.int x)), .add => SO.of e fun r ρ1 => (match r.2 with
    | .int y => ofOpt (put i (false, .int (x + y)) ρ1)
    | _ => .bad)
  | _, _ => .bad
def optS {α : Type} (o : Option α) (f : α → SO) : SO := match o with
  | some a => f a
  | none => .bad
def optO {α β : Type} (o : Option α) (f : α → Out β) : Out β := match o with
  | some a => f a
  | none => .bad
def isL (o : Option D) (f : SO) : SO := match o with
  | some (.lst _) => f
  | _ => .bad
def getS (o : Option Sl) (r : Out Res) : Out Res := match o with
  | some (.val _ (.dic _ _)) => r
  | some (.cel _ (.dic _ _)) => r
  | _ => .bad
@[simp] theorem getS_val {b : Bool} {ks : List Key} {l : List D} {r : Out Res} : getS (some (.val b (.dic ks l))) r = r := rfl
@[simp] theorem getS_cel {b : Bool} {ks : List Key} {l : List D} {r : Out Res} : getS (some (.cel b (.dic ks l))) r = r := rfl
@[simp] theorem getO_ok {x : Ag} {y : Res} {ρ : Rho} {f : Rho → Out Res} : getO x (.ok y ρ) f = (f ρ).bnd fun d ρ3 => optO (x.get ρ3) fun s => (lift (getD' s.d y.2 d.2) ρ3).bnd fun d ρ4 => .ok (false, d) ρ4 := by
  unfold getO
  simp only [Out.bnd]
  cases f ρ with
  | ok d ρ3 => cases h : x.get ρ3 <;> simp [h, Out.bnd, optO]
  | exc _ _ _ => rfl
  | bad => rfl
@[simp] theorem getD_dic {ks : List Key} {l : List D} {k d : D} : getD' (.dic ks l) k d = k.key.map fun j => (look j ks l).getD d := rfl
def metR (Γ : Ga) (c : Nat) (f : Str) (as : List Ag) (ρ : Rho) (ss : Option (List Sl)) : Out Res := match ss with
  | some ss => if (slots as).Nodup then outF ρ as (Γ.met c f ss) else .bad
  | none => .bad
def txR (f z : Str) (ρ : Rho) (o : Option (List D)) : Out Res := match o with
  | some ds => (lift (txD f z ds) ρ).bnd fun d ρ3 => .ok (d.obj, d) ρ3
  | none => .bad
def ixQ (z : List D) (ρ : Rho) (o : Option (List D)) : Out Res := match o with
  | some ds => (lift (ixD z ds) ρ).bnd fun d ρ3 => .ok (false, d) ρ3
  | none => .bad
def ixS (z : List D) (as : List Ag) (ρ : Rho) (o : Option Sl) : Out Res := match o with
  | some s2 => if D.sameL [s2.d] [.lst z] = true then ixQ z ρ (fillD ρ as) else .bad
  | none => .bad
def methD (Γ : Ga) (f : Str) (x : Ag) (d : D) (as : Out (List Ag)) : Out Res := match d with
  | .ins c _ => if ((Γ.flds c).contains f || !Γ.hasM c f) = true then .bad else as.bnd fun as ρ2 => metR Γ c f (x :: as) ρ2 (Pf.fill ρ2 (x :: as))
  | .str z => if (f == "split" || f == "join") = true then as.bnd fun as ρ2 => txR f z ρ2 (fillD ρ2 as) else .bad
  | .lst z => if (f == "index") = true then as.bnd fun as ρ2 => ixS z as ρ2 (x.get ρ2) else .bad
  | _ => .bad
def oeqD (Γ : Ga) (n : Bool) (as : List Ag) (s u : Sl) (ρ : Rho) (c : Option Nat) : Out Res := match c with
  | some c => if (Γ.hasM c "__eq__" && decide ((slots as).Nodup)) = true then (outF ρ as (Γ.met c "__eq__" [s, u])).bnd fun r ρ2 => (match r with
          | (false, .bl k) => .ok (false, .bl (k != n)) ρ2
          | _ => .bad) else .bad
  | none => (lift (cop (if n then .ne else .eq) s.d u.d) ρ).bnd fun k ρ2 => .ok (false, .bl k) ρ2
def oeqR (Γ : Ga) (n : Bool) (as : List Ag) (ss : Option (List Sl)) (ρ : Rho) : Out Res := match ss with
  | some [s, u] => oeqD Γ n as s u ρ (eqC s.d u.d)
  | _ => .bad
section
variable {ρ : Rho} {f : Str} {as : List Ag} {ss : List Sl} {Γ : Ga} {c : Nat} {x : Ag} {z : Str} {ds : List D} {o : Out (List Ag)} {s u : Sl} {n : Bool} {d e : D} {l k : List D}
@[simp] theorem metR_some : metR Γ c f as ρ (some ss) = if (slots as).Nodup then outF ρ as (Γ.met c f ss) else .bad := rfl
@[simp] theorem txR_some : txR f z ρ (some ds) = (lift (txD f z ds) ρ).bnd fun d ρ3 => .ok (d.obj, d) ρ3 := rfl
@[simp] theorem methD_ins : methD Γ f x (.ins c l) o = if ((Γ.flds c).contains f || !Γ.hasM c f) = true then .bad else o.bnd fun as ρ2 => metR Γ c f (x :: as) ρ2 (Pf.fill ρ2 (x :: as)) := rfl
@[simp] theorem methD_str : methD Γ f x (.str z) o = if (f == "split" || f == "join") = true then o.bnd fun as ρ2 => txR f z ρ2 (fillD ρ2 as) else .bad := rfl
@[simp] theorem methD_lst : methD Γ f x (.lst l) o = if (f == "index") = true then o.bnd fun as ρ2 => ixS l as ρ2 (x.get ρ2) else .bad := rfl
@[simp] theorem ixS_val {b : Bool} : ixS l as ρ (some (.val b (.lst l))) = ixQ l ρ (fillD ρ as) := by
  show (if D.sameL [D.lst l] [.lst l] = true then ixQ l ρ (fillD ρ as) else .bad) = _
  rw [if_pos (D.sameL_refl _)]
@[simp] theorem ixS_cel {b : Bool} : ixS l as ρ (some (.cel b (.lst l))) = ixQ l ρ (fillD ρ as) := by
  show (if D.sameL [D.lst l] [.lst l] = true then ixQ l ρ (fillD ρ as) else .bad) = _
  rw [if_pos (D.sameL_refl _)]
@[simp] theorem ixQ_some : ixQ l ρ (some ds) = (lift (ixD l ds) ρ).bnd fun d ρ3 => .ok (false, d) ρ3 := rfl
@[simp] theorem nox_ok {α : Type} {a : α} : (Out.ok a ρ).nox = .ok a ρ := rfl
@[simp] theorem stowAll_nil {ks : List Key} : stowAll [] ks l = some (.dic ks l) := rfl
@[simp] theorem stowAll_str {ks : List Key} : stowAll (.str z :: d :: ds) ks l = stowAll ds (stow (.inr z) d ks l).1 (stow (.inr z) d ks l).2 := rfl
@[simp] theorem stowAll_int {ks : List Key} {i : Int} : stowAll (.int i :: d :: ds) ks l = stowAll ds (stow (.inl i) d ks l).1 (stow (.inl i) d ks l).2 := rfl
@[simp] theorem oeqR_some : oeqR Γ n as (some [s, u]) ρ = oeqD Γ n as s u ρ (eqC s.d u.d) := rfl
@[simp] theorem oeqD_none : oeqD Γ n as s u ρ none = (lift (cop (if n then .ne else .eq) s.d u.d) ρ).bnd fun k ρ2 => .ok (false, .bl k) ρ2 := rfl
theorem oeqD_some {ps : List (Option Sl)} {b : Bool} (h : Γ.hasM c "__eq__" = true) (hn : (slots as).Nodup) (hc : Γ.met c "__eq__" [s, u] = .ok (false, .bl b) ps) : oeqD Γ n as s u ρ (some c) = optO (back ρ as ps) fun ρ' => .ok (false, .bl (b != n)) ρ' := by
  unfold oeqD
  dsimp only
  rw [h, hc]
  simp only [hn, decide_true, Bool.and_self, if_true]
  unfold outF
  cases hb : back ρ as ps <;> simp [hb, optO, lift, Out.bnd]
@[simp] theorem eqC_non : eqC .non e = none := rfl
@[simp] theorem eqC_bl {b : Bool} : eqC (.bl b) e = none := rfl
@[simp] theorem eqC_int {i : Int} : eqC (.int i) e = none := rfl
@[simp] theorem eqC_str : eqC (.str z) e = none := rfl
@[simp] theorem eqC_tup : eqC (.tup l) e = none := rfl
@[simp] theorem eqC_lst : eqC (.lst l) e = none := rfl
@[simp] theorem eqC_ins {j : Nat} : eqC (.ins c (d :: l)) (.ins j k) = if c = j then some c else none := rfl
@[simp] theorem fmtO_str {acc : Str} : fmtO acc (.str z) = if szl z.length = true then (if szl (acc ++ z).length = true then some (acc ++ z) else none) else none := by
  unfold fmtO fmtD
  by_cases h : szl z.length = true <;> simp [h]
@[simp] theorem fmtO_int {acc : Str} {i : Int} : fmtO acc (.int i) = if i.natAbs.log2 < 1920 then (if szl (acc ++ (toString i : Str)).length = true then some (acc ++ (toString i : Str)) else none) else none := by
  unfold fmtO fmtD
  by_cases h : i.natAbs.log2 < 1920 <;> simp [h]
@[simp] theorem partO_non {o : Out Res} : partO (.cst .non) o ρ = .ok none ρ := rfl
@[simp] theorem partO_int {i j : Int} {b : Bool} {ρ1 : Rho} : partO (.cst (.int i)) (.ok (b, .int j) ρ1) ρ = .ok (some j) ρ1 := rfl
@[simp] theorem partO_ap {op : Op} {el : List E} {j : Int} {b : Bool} {ρ1 : Rho} : partO (.ap op el) (.ok (b, .int j) ρ1) ρ = .ok (some j) ρ1 := rfl
@[simp] theorem partO_var {i : Nat} {j : Int} {b : Bool} {ρ1 : Rho} : partO (.var i) (.ok (b, .int j) ρ1) ρ = .ok (some j) ρ1 := rfl
end
@[simp] theorem isL_lst {l : List D} {f : SO} : isL (some (.lst l)) f = f := rfl
section
variable {ρ : Rho} {i : Nat} {b m : Bool} {d : D} {op : Bop} {q : Cop} {z : Rho → Out Res} {Γ : Ga} {f : Str} {as : List Ag} {ss : List Sl}
@[simp] theorem slotV_val : slotV (some (.val b d)) i m ρ = tr m (.ok (false, d) ρ) := rfl
@[simp] theorem slotV_cel : slotV (some (.cel b d)) i false ρ = .ok (false, d) (ρ.set i (some (.val b d))) := rfl
@[simp] theorem slotV_celT : slotV (some (.cel b d)) i true ρ = tr true (.ok (false, d) ρ) := rfl
@[simp] theorem slotA_val : slotA (some (.val b d)) i ρ = .ok (Ag.val d) ρ := rfl
@[simp] theorem slotA_cel : slotA (some (.cel b d)) i ρ = .ok (Ag.slot i) ρ := rfl
@[simp] theorem apD_some {fl : Nat → List Str} {o : Op} {ds : List D} : apD fl o (some ds) ρ = (lift (o.ap fl ds) ρ).bnd fun d ρ2 => .ok (o.new && d.obj, d) ρ2 := rfl
@[simp] theorem pick_bl {α : Type} {c : Bool} {a b x : α} : pick (.bl c) a b x = if c = true then a else b := by cases c <;> rfl
@[simp] theorem chnR_some {y : D} {k : Bool} : chnR q y ρ z (some k) = if k = true then (z ρ).bnd (fun z ρ3 => (lift (cop q y z.2) ρ3).bnd fun k ρ4 => .ok (false, .bl k) ρ4) else .ok (false, .bl false) ρ := by cases k <;> rfl
@[simp] theorem calR_some : calR Γ f as (some ss) ρ = if (slots as).Nodup then (outF ρ as (Γ.cal f ss)).bnd fun r ρ2 => .ok (r.1 && !Γ.frz f, r.2) ρ2 else .bad := rfl
@[simp] theorem agR_some {α : Type} {s : Sl} {f : Sl → Out α} : agR (some s) f = f s := rfl
@[simp] theorem retS_new : retS Γ (some (.cel false d)) i ρ = .ret (true, d) (ρ.set i none) := rfl
@[simp] theorem retS_old : retS Γ (some (.cel true d)) i ρ = .ret (false, d) (ρ.set i (some (.val true d))) := rfl
@[simp] theorem retS_val : retS Γ (some (.val b d)) i ρ = .ret (false, d) ρ := rfl
@[simp] theorem augS_int {x y : Int} {r : Bool} : augS (some (.val b (.int x))) .add i (.ok (r, .int y) ρ) = ofOpt (put i (false, .int (x + y)) ρ) := rfl
@[simp] theorem optS_some {α : Type} {a : α} {f : α → SO} : optS (some a) f = f a := rfl
@[simp] theorem optS_none {α : Type} {f : α → SO} : optS none f = .bad := rfl
@[simp] theorem optO_some {α β : Type} {a : α} {f : α → Out β} : optO (some a) f = f a := rfl
@[simp] theorem optO_none {α β : Type} {f : α → Out β} : optO none f = .bad := rfl
@[simp] theorem slot_zero {o : Option Sl} {r : Rho} : slot (o :: r) 0 = o := rfl
@[simp] theorem slot_succ {o : Option Sl} {r : Rho} {i : Nat} : slot (o :: r) (i + 1) = slot r i := rfl
@[simp] theorem slot_nil {i : Nat} : slot [] i = none := rfl
@[simp] theorem tr_false {o : Out Res} : tr false o = o := rfl
@[simp] theorem tr_true {b : Bool} : tr true (.ok (b, d) ρ) = lift (d.truth.map fun b => (false, D.bl b)) ρ := rfl
@[simp] theorem tr_bad {m : Bool} : tr m .bad = .bad := by cases m <;> rfl
@[simp] theorem r_fillD_nil : fillD ρ [] = some [] := rfl
@[simp] theorem fillD_val : fillD ρ (.val d :: as) = (fillD ρ as).map (d :: ·) := by
  unfold fillD
  simp only [Pf.fill, Ag.get]
  cases Pf.fill ρ as <;> rfl
@[simp] theorem fillD_slot : fillD ρ (.slot i :: as) = (slot ρ i).bind fun s => (fillD ρ as).map (s.d :: ·) := by
  unfold fillD
  simp only [Pf.fill, Ag.get]
  cases slot ρ i with
  | none => rfl
  | some s => cases s <;> cases Pf.fill ρ as <;> rfl
def celled : Sl → Sl
  | .cel _ d => .cel true d
  | .val _ d => .val false d
@[simp] theorem celled_cel : celled (.cel b d) = .cel true d := rfl
@[simp] theorem celled_val : celled (.val b d) = .val false d := rfl
@[simp] theorem fill_nil : Pf.fill ρ [] = some [] := rfl
@[simp] theorem fill_val : Pf.fill ρ (.val d :: as) = (Pf.fill ρ as).map (.val false d :: ·) := by
  simp only [Pf.fill, Ag.get]
  cases Pf.fill ρ as <;> rfl
@[simp] theorem fill_slot : Pf.fill ρ (.slot i :: as) = (slot ρ i).bind fun s => (Pf.fill ρ as).map (celled s :: ·) := by
  simp only [Pf.fill, Ag.get]
  cases slot ρ i with
  | none => rfl
  | some s => cases s <;> cases Pf.fill ρ as <;> rfl
@[simp] theorem r_get_val {ρ : Rho} : (Ag.val d).get ρ = some (.val false d) := rfl
@[simp] theorem get_slot {ρ : Rho} : (Ag.slot i).get ρ = (slot ρ i).map celled := by
  simp only [Ag.get]
  cases slot ρ i with
  | none => rfl
  | some s => cases s <;> rfl
@[simp] theorem d_val : (Sl.val b d).d = d := rfl
@[simp] theorem d_cel : (Sl.cel b d).d = d := rfl
@[simp] theorem slots_nil : slots [] = [] := rfl
@[simp] theorem slots_val : slots (.val d :: as) = slots as := rfl
@[simp] theorem slots_slot : slots (.slot i :: as) = i :: slots as := rfl
def backS (ρ : Rho) (i : Nat) (as : List Ag) (ps : List (Option Sl)) (o : Option Sl) (p : Option Sl) : Option Rho := match o with
  | some (.cel b _) => (match p with
    | some (.cel true d) => back (ρ.set i (some (.cel b d))) as ps
    | some (.val true d) => back (ρ.set i (some (.val b d))) as ps
    | _ => none)
  | some (.val _ _) => back ρ as ps
  | none => none
@[simp] theorem back_nil {ps : List (Option Sl)} : back ρ [] ps = some ρ := by cases ps <;> rfl
@[simp] theorem back_val {p : Option Sl} {ps : List (Option Sl)} : back ρ (.val d :: as) (p :: ps) = back ρ as ps := rfl
@[simp] theorem back_slot {p : Option Sl} {ps : List (Option Sl)} : back ρ (.slot i :: as) (p :: ps) = backS ρ i as ps (slot ρ i) p := rfl
@[simp] theorem backS_cel {d' : D} {ps : List (Option Sl)} : backS ρ i as ps (some (.cel b d)) (some (.cel true d')) = back (ρ.set i (some (.cel b d'))) as ps := rfl
@[simp] theorem backS_val {d' : D} {ps : List (Option Sl)} : backS ρ i as ps (some (.cel b d)) (some (.val true d')) = back (ρ.set i (some (.val b d'))) as ps := rfl
@[simp] theorem r_outF_ok {r : Res} {ps : List (Option Sl)} : outF ρ as (.ok r ps) = optO (back ρ as ps) fun ρ' => .ok r ρ' := by
  unfold outF
  cases h : back ρ as ps <;> simp [h, optO]
def putS (i : Nat) (r : Res) (ρ : Rho) (o : Option Sl) : Option Rho := if (o.map Sl.bor).getD false then none else some (ρ.set i (some (if r.1 then .cel false r.2 else .val false r.2)))
@[simp] theorem put_eq {r : Res} : put i r ρ = putS i r ρ (slot ρ i) := rfl
@[simp] theorem putS_none {r : Res} : putS i r ρ none = some (ρ.set i (some (if r.1 = true then .cel false r.2 else .val false r.2))) := rfl
@[simp] theorem putS_val {r : Res} : putS i r ρ (some (.val false d)) = some (ρ.set i (some (if r.1 = true then .cel false r.2 else .val false r.2))) := rfl
@[simp] theorem putS_cel {r : Res} : putS i r ρ (some (.cel false d)) = some (ρ.set i (some (if r.1 = true then .cel false r.2 else .val false r.2))) := rfl
def celS (o : Option Sl) : Option D := match o with
  | some (.cel _ d) => some d
  | _ => none
@[simp] theorem cellOf_eq : Pf.cellOf ρ i = celS (slot ρ i) := rfl
@[simp] theorem celS_cel : celS (some (.cel b d)) = some d := rfl
def putAtS (i : Nat) (d : D) (ρ : Rho) (o : Option Sl) : Option Rho := match o with
  | some (.cel b _) => some (ρ.set i (some (.cel b d)))
  | _ => none
@[simp] theorem putAt_eq : Pf.putAt i d ρ = putAtS i d ρ (slot ρ i) := rfl
@[simp] theorem putAtS_cel {d' : D} : putAtS i d ρ (some (.cel b d')) = some (ρ.set i (some (.cel b d))) := rfl
end
section
variable {Γ : Ga} {o : Option Sl} {r : Rho} {m : Bool} {i j k : Nat} {e a b c : E} {es l src ifs : List E} {s : S} {ss : List S} {d : D} {x f : Str} {op : Op} {p q : Cop} {t : Tg} {kk : Ik} {own : List Nat} {m2 : Bool}
@[simp] theorem exs_nil {ρ : Rho} : exs Γ [] ρ = .nx ρ := by unfold exs; rfl
@[simp] theorem exs_cons : exs Γ (s :: ss) (o :: r) = (ex Γ s (o :: r)).thn fun ρ1 => exs Γ ss ρ1 := by rw [exs]
@[simp] theorem evs_nil {ρ : Rho} : evs Γ [] ρ = .ok [] ρ := by unfold evs; rfl
@[simp] theorem evv_nil {ρ : Rho} : evv Γ [] ρ = .ok [] ρ := by unfold evv; rfl
@[simp] theorem evr_nil {ρ : Rho} : evr Γ [] ρ = .ok [] ρ := by unfold evr; rfl
@[simp] theorem evv_cons : evv Γ (e :: es) (o :: r) = (ev Γ e false (o :: r)).bnd fun y ρ1 => (evv Γ es ρ1).bnd fun l ρ2 => .ok (y.2 :: l) ρ2 := by rw [evv]
@[simp] theorem evr_cons : evr Γ (e :: es) (o :: r) = (ev Γ e false (o :: r)).bnd fun y ρ1 => (evr Γ es ρ1).bnd fun l ρ2 => .ok (y :: l) ρ2 := by rw [evr]
@[simp] theorem evs_var : evs Γ (.var i :: es) (o :: r) = (slotA (slot (o :: r) i) i (o :: r)).bnd fun a ρ1 => (evs Γ es ρ1).bnd fun l ρ2 => .ok (a :: l) ρ2 := by rw [evs]; rfl
@[simp] theorem evs_cst : evs Γ (.cst d :: es) (o :: r) = (evs Γ es (o :: r)).bnd fun l ρ2 => .ok (.val d :: l) ρ2 := by rw [evs]; simp [opd, ev]
@[simp] theorem evs_fz : evs Γ (.fz i :: es) (o :: r) = (ev Γ (.fz i) false (o :: r)).bnd fun y ρ1 => (evs Γ es ρ1).bnd fun l ρ2 => .ok (.val y.2 :: l) ρ2 := by rw [evs]; unfold opd; cases ev Γ (.fz i) false (o :: r) <;> rfl
@[simp] theorem ret_fz : ex Γ (.ret (.fz i)) (o :: r) = SO.of (ev Γ (.fz i) false (o :: r)) fun y ρ1 => .ret y ρ1 := by rw [ex]; intro i z; cases z
@[simp] theorem evs_glo : evs Γ (.glo x :: es) (o :: r) = (ev Γ (.glo x) false (o :: r)).bnd fun y ρ1 => (evs Γ es ρ1).bnd fun l ρ2 => .ok (.val y.2 :: l) ρ2 := by rw [evs]; unfold opd; cases ev Γ (.glo x) false (o :: r) <;> rfl
@[simp] theorem ret_glo : ex Γ (.ret (.glo x)) (o :: r) = SO.of (ev Γ (.glo x) false (o :: r)) fun y ρ1 => .ret y ρ1 := by rw [ex]; intro i z; cases z
@[simp] theorem evs_tup : evs Γ (.tup l :: es) (o :: r) = (ev Γ (.tup l) false (o :: r)).bnd fun y ρ1 => (evs Γ es ρ1).bnd fun l ρ2 => .ok (.val y.2 :: l) ρ2 := by rw [evs]; unfold opd; cases ev Γ (.tup l) false (o :: r) <;> rfl
@[simp] theorem ret_tup : ex Γ (.ret (.tup l)) (o :: r) = SO.of (ev Γ (.tup l) false (o :: r)) fun y ρ1 => .ret y ρ1 := by rw [ex]; intro i z; cases z
@[simp] theorem evs_lst : evs Γ (.lst l :: es) (o :: r) = (ev Γ (.lst l) false (o :: r)).bnd fun y ρ1 => (evs Γ es ρ1).bnd fun l ρ2 => .ok (.val y.2 :: l) ρ2 := by rw [evs]; unfold opd; cases ev Γ (.lst l) false (o :: r) <;> rfl
@[simp] theorem ret_lst : ex Γ (.ret (.lst l)) (o :: r) = SO.of (ev Γ (.lst l) false (o :: r)) fun y ρ1 => .ret y ρ1 := by rw [ex]; intro i z; cases z
@[simp] theorem evs_dic : evs Γ (.dic l :: es) (o :: r) = (ev Γ (.dic l) false (o :: r)).bnd fun y ρ1 => (evs Γ es ρ1).bnd fun l ρ2 => .ok (.val y.2 :: l) ρ2 := by rw [evs]; unfold opd; cases ev Γ (.dic l) false (o :: r) <;> rfl
@[simp] theorem ret_dic : ex Γ (.ret (.dic l)) (o :: r) = SO.of (ev Γ (.dic l) false (o :: r)) fun y ρ1 => .ret y ρ1 := by rw [ex]; intro i z; cases z
@[simp] theorem evs_ap : evs Γ (.ap op l :: es) (o :: r) = (ev Γ (.ap op l) false (o :: r)).bnd fun y ρ1 => (evs Γ es ρ1).bnd fun l ρ2 => .ok (.val y.2 :: l) ρ2 := by rw [evs]; unfold opd; cases ev Γ (.ap op l) false (o :: r) <;> rfl
@[simp] theorem ret_ap : ex Γ (.ret (.ap op l)) (o :: r) = SO.of (ev Γ (.ap op l) false (o :: r)) fun y ρ1 => .ret y ρ1 := by rw [ex]; intro i z; cases z
@[simp] theorem evs_chn : evs Γ (.chn p q a b c :: es) (o :: r) = (ev Γ (.chn p q a b c) false (o :: r)).bnd fun y ρ1 => (evs Γ es ρ1).bnd fun l ρ2 => .ok (.val y.2 :: l) ρ2 := by rw [evs]; unfold opd; cases ev Γ (.chn p q a b c) false (o :: r) <;> rfl
@[simp] theorem ret_chn : ex Γ (.ret (.chn p q a b c)) (o :: r) = SO.of (ev Γ (.chn p q a b c) false (o :: r)) fun y ρ1 => .ret y ρ1 := by rw [ex]; intro i z; cases z
@[simp] theorem evs_and : evs Γ (.and l :: es) (o :: r) = (ev Γ (.and l) false (o :: r)).bnd fun y ρ1 => (evs Γ es ρ1).bnd fun l ρ2 => .ok (.val y.2 :: l) ρ2 := by rw [evs]; unfold opd; cases ev Γ (.and l) false (o :: r) <;> rfl
@[simp] theorem ret_and : ex Γ (.ret (.and l)) (o :: r) = SO.of (ev Γ (.and l) false (o :: r)) fun y ρ1 => .ret y ρ1 := by rw [ex]; intro i z; cases z
@[simp] theorem evs_or : evs Γ (.or l :: es) (o :: r) = (ev Γ (.or l) false (o :: r)).bnd fun y ρ1 => (evs Γ es ρ1).bnd fun l ρ2 => .ok (.val y.2 :: l) ρ2 := by rw [evs]; unfold opd; cases ev Γ (.or l) false (o :: r) <;> rfl
@[simp] theorem ret_or : ex Γ (.ret (.or l)) (o :: r) = SO.of (ev Γ (.or l) false (o :: r)) fun y ρ1 => .ret y ρ1 := by rw [ex]; intro i z; cases z
@[simp] theorem evs_not : evs Γ (.not a :: es) (o :: r) = (ev Γ (.not a) false (o :: r)).bnd fun y ρ1 => (evs Γ es ρ1).bnd fun l ρ2 => .ok (.val y.2 :: l) ρ2 := by rw [evs]; unfold opd; cases ev Γ (.not a) false (o :: r) <;> rfl
@[simp] theorem ret_not : ex Γ (.ret (.not a)) (o :: r) = SO.of (ev Γ (.not a) false (o :: r)) fun y ρ1 => .ret y ρ1 := by rw [ex]; intro i z; cases z
@[simp] theorem evs_ife : evs Γ (.ife a b c :: es) (o :: r) = (ev Γ (.ife a b c) false (o :: r)).bnd fun y ρ1 => (evs Γ es ρ1).bnd fun l ρ2 => .ok (.val y.2 :: l) ρ2 := by rw [evs]; unfold opd; cases ev Γ (.ife a b c) false (o :: r) <;> rfl
@[simp] theorem ret_ife : ex Γ (.ret (.ife a b c)) (o :: r) = SO.of (ev Γ (.ife a b c) false (o :: r)) fun y ρ1 => .ret y ρ1 := by rw [ex]; intro i z; cases z
@[simp] theorem evs_call : evs Γ (.call f l :: es) (o :: r) = (ev Γ (.call f l) false (o :: r)).bnd fun y ρ1 => (evs Γ es ρ1).bnd fun l ρ2 => .ok (.val y.2 :: l) ρ2 := by rw [evs]; unfold opd; cases ev Γ (.call f l) false (o :: r) <;> rfl
@[simp] theorem ret_call : ex Γ (.ret (.call f l)) (o :: r) = SO.of (ev Γ (.call f l) false (o :: r)) fun y ρ1 => .ret y ρ1 := by rw [ex]; intro i z; cases z
@[simp] theorem evs_slc : evs Γ (.slc a b c :: es) (o :: r) = (ev Γ (.slc a b c) false (o :: r)).bnd fun y ρ1 => (evs Γ es ρ1).bnd fun l ρ2 => .ok (.val y.2 :: l) ρ2 := by rw [evs]; unfold opd; cases ev Γ (.slc a b c) false (o :: r) <;> rfl
@[simp] theorem ret_slc : ex Γ (.ret (.slc a b c)) (o :: r) = SO.of (ev Γ (.slc a b c) false (o :: r)) fun y ρ1 => .ret y ρ1 := by rw [ex]; intro i z; cases z
@[simp] theorem evs_fst : evs Γ (.fst l :: es) (o :: r) = (ev Γ (.fst l) false (o :: r)).bnd fun y ρ1 => (evs Γ es ρ1).bnd fun l ρ2 => .ok (.val y.2 :: l) ρ2 := by rw [evs]; unfold opd; cases ev Γ (.fst l) false (o :: r) <;> rfl
@[simp] theorem ret_fst : ex Γ (.ret (.fst l)) (o :: r) = SO.of (ev Γ (.fst l) false (o :: r)) fun y ρ1 => .ret y ρ1 := by rw [ex]; intro i z; cases z
@[simp] theorem evs_oeq : evs Γ (.oeq m2 l :: es) (o :: r) = (ev Γ (.oeq m2 l) false (o :: r)).bnd fun y ρ1 => (evs Γ es ρ1).bnd fun l ρ2 => .ok (.val y.2 :: l) ρ2 := by rw [evs]; unfold opd; cases ev Γ (.oeq m2 l) false (o :: r) <;> rfl
@[simp] theorem ret_oeq : ex Γ (.ret (.oeq m2 l)) (o :: r) = SO.of (ev Γ (.oeq m2 l) false (o :: r)) fun y ρ1 => .ret y ρ1 := by rw [ex]; intro i z; cases z
@[simp] theorem evs_get : evs Γ (.get a b c :: es) (o :: r) = (ev Γ (.get a b c) false (o :: r)).bnd fun y ρ1 => (evs Γ es ρ1).bnd fun l ρ2 => .ok (.val y.2 :: l) ρ2 := by rw [evs]; unfold opd; cases ev Γ (.get a b c) false (o :: r) <;> rfl
@[simp] theorem ret_get : ex Γ (.ret (.get a b c)) (o :: r) = SO.of (ev Γ (.get a b c) false (o :: r)) fun y ρ1 => .ret y ρ1 := by rw [ex]; intro i z; cases z
@[simp] theorem evs_meth : evs Γ (.meth f a l :: es) (o :: r) = (ev Γ (.meth f a l) false (o :: r)).bnd fun y ρ1 => (evs Γ es ρ1).bnd fun l ρ2 => .ok (.val y.2 :: l) ρ2 := by rw [evs]; unfold opd; cases ev Γ (.meth f a l) false (o :: r) <;> rfl
@[simp] theorem ret_meth : ex Γ (.ret (.meth f a l)) (o :: r) = SO.of (ev Γ (.meth f a l) false (o :: r)) fun y ρ1 => .ret y ρ1 := by rw [ex]; intro i z; cases z
@[simp] theorem evs_comp : evs Γ (.comp own t kk src ifs e :: es) (o :: r) = (ev Γ (.comp own t kk src ifs e) false (o :: r)).bnd fun y ρ1 => (evs Γ es ρ1).bnd fun l ρ2 => .ok (.val y.2 :: l) ρ2 := by rw [evs]; unfold opd; cases ev Γ (.comp own t kk src ifs e) false (o :: r) <;> rfl
@[simp] theorem ret_comp : ex Γ (.ret (.comp own t kk src ifs e)) (o :: r) = SO.of (ev Γ (.comp own t kk src ifs e) false (o :: r)) fun y ρ1 => .ret y ρ1 := by rw [ex]; intro i z; cases z
@[simp] theorem evs_dcmp : evs Γ (.dcmp own t kk src ifs a e :: es) (o :: r) = (ev Γ (.dcmp own t kk src ifs a e) false (o :: r)).bnd fun y ρ1 => (evs Γ es ρ1).bnd fun l ρ2 => .ok (.val y.2 :: l) ρ2 := by rw [evs]; unfold opd; cases ev Γ (.dcmp own t kk src ifs a e) false (o :: r) <;> rfl
@[simp] theorem ret_dcmp : ex Γ (.ret (.dcmp own t kk src ifs a e)) (o :: r) = SO.of (ev Γ (.dcmp own t kk src ifs a e) false (o :: r)) fun y ρ1 => .ret y ρ1 := by rw [ex]; intro i z; cases z
@[simp] theorem ret_cst : ex Γ (.ret (.cst d)) (o :: r) = .ret (false, d) (o :: r) := by
  rw [ex]
  · rw [ev]; rfl
  · intro i z; cases z
@[simp] theorem ret_var : ex Γ (.ret (.var i)) (o :: r) = retS Γ (slot (o :: r) i) i (o :: r) := by
  rw [ex]
  cases h : slot (o :: r) i with
  | none => simp only [h]; unfold retS; rw [ev, h]; rfl
  | some s =>
    cases s with
    | val b d => simp only [h]; unfold retS; rw [ev, h]; rfl
    | cel b d =>
      cases b with
      | false => simp only [h]; rfl
      | true => simp only [h]; unfold retS; rw [ev, h]; rfl
@[simp] theorem ev_cst : ev Γ (.cst d) m (o :: r) = tr m (.ok (false, d) (o :: r)) := by rw [ev]
@[simp] theorem ev_var : ev Γ (.var i) m (o :: r) = slotV (slot (o :: r) i) i m (o :: r) := by rw [ev]; rfl
@[simp] theorem ev_fz : ev Γ (.fz i) m (o :: r) = slotV (slot (o :: r) i) i m (o :: r) := by rw [ev]; rfl
@[simp] theorem ev_glo : ev Γ (.glo x) m (o :: r) = tr m ((lift (Γ.glo x) (o :: r)).bnd fun d ρ => .ok (false, d) ρ) := by rw [ev]
@[simp] theorem ev_tup : ev Γ (.tup l) m (o :: r) = tr m ((evv Γ l (o :: r)).bnd fun ds ρ => .ok (false, .tup ds) ρ) := by rw [ev]
@[simp] theorem ev_lst : ev Γ (.lst l) m (o :: r) = tr m ((evv Γ l (o :: r)).bnd fun ds ρ => .ok (true, .lst ds) ρ) := by rw [ev]
@[simp] theorem ev_ap : ev Γ (.ap op l) m (o :: r) = tr m ((evs Γ l (o :: r)).bnd fun as ρ1 => apD Γ.flds op (fillD ρ1 as) ρ1) := by rw [ev]; rfl
@[simp] theorem ev_chn : ev Γ (.chn p q a b c) m (o :: r) = tr m ((ev Γ a false (o :: r)).bnd fun x ρ1 => (ev Γ b false ρ1).bnd fun y ρ2 => chnR q y.2 ρ2 (fun ρ2 => ev Γ c false ρ2) (cop p x.2 y.2)) := by rw [ev]; rfl
@[simp] theorem ev_and : ev Γ (.and l) m (o :: r) = evAnd Γ l m (o :: r) := by rw [ev]
@[simp] theorem ev_or : ev Γ (.or l) m (o :: r) = evOr Γ l m (o :: r) := by rw [ev]
@[simp] theorem evAnd_nil {ρ : Rho} : evAnd Γ [] m ρ = .ok (false, .bl true) ρ := by rw [evAnd]
@[simp] theorem evOr_nil {ρ : Rho} : evOr Γ [] m ρ = .ok (false, .bl false) ρ := by rw [evOr]
@[simp] theorem evAnd_cons : evAnd Γ (e :: es) m (o :: r) = (ev Γ e m (o :: r)).bnd fun d ρ1 => pick d.2 (evAnd Γ es m ρ1) (.ok (false, .bl false) ρ1) .bad := by
  rw [evAnd]
  congr 1
@[simp] theorem evOr_cons : evOr Γ (e :: es) m (o :: r) = (ev Γ e m (o :: r)).bnd fun d ρ1 => pick d.2 (.ok (false, .bl true) ρ1) (evOr Γ es m ρ1) .bad := by
  rw [evOr]
  congr 1
@[simp] theorem ev_not : ev Γ (.not a) m (o :: r) = (ev Γ a m (o :: r)).bnd fun y ρ1 => lift (y.2.truth.map fun b => (false, D.bl (!b))) ρ1 := by rw [ev]
@[simp] theorem ev_ife : ev Γ (.ife a b c) m (o :: r) = (ev Γ a true (o :: r)).bnd fun y ρ1 => pick y.2 (ev Γ b m ρ1) (ev Γ c m ρ1) .bad := by
  rw [ev]
  congr 1
@[simp] theorem ev_call : ev Γ (.call f l) m (o :: r) = tr m (if Γ.has f = true then (evs Γ l (o :: r)).bnd fun as ρ1 => calR Γ f as (Pf.fill ρ1 as) ρ1 else .bad) := by rw [ev]; rfl
@[simp] theorem ex_ex : ex Γ (.ex e) (o :: r) = SO.of (ev Γ e false (o :: r)) fun _ ρ1 => .nx ρ1 := by rw [ex]
@[simp] theorem ex_set : ex Γ (.set i e) (o :: r) = SO.of (ev Γ e false (o :: r)) fun y ρ1 => ofOpt (put i y ρ1) := by rw [ex]
@[simp] theorem ex_tgt : ex Γ (.tgt t e) (o :: r) = SO.of (ev Γ e false (o :: r)) fun y ρ1 => ofOpt (bind1 t y.2 ρ1) := by rw [ex]
@[simp] theorem ex_par {is : List Nat} : ex Γ (.par is es) (o :: r) = SO.of (evr Γ es (o :: r)) fun rs ρ1 => ofOpt (Pf.putAll is rs ρ1) := by rw [ex]
@[simp] theorem ex_aug {bo : Bop} : ex Γ (.aug i bo e) (o :: r) = augS (slot (o :: r) i) bo i (ev Γ e false (o :: r)) := by
  unfold ex
  kernel_rfl
@[simp] theorem ex_sti : ex Γ (.sti i a e) (o :: r) = SO.of (ev Γ e false (o :: r)) fun y ρ1 => optS (Pf.cellOf ρ1 i) fun _ => SO.of (ev Γ a false ρ1) fun q ρ2 => optS (Pf.cellOf ρ2 i) fun d => optS (setD d q.2 y.2) fun d' => ofOpt (Pf.putAt i d' ρ2) := by
  rw [ex]
  kernel_rfl
@[simp] theorem ex_stf : ex Γ (.stf i f e) (o :: r) = SO.of (ev Γ e false (o :: r)) fun y ρ1 => optS (Pf.cellOf ρ1 i) fun d => optS (setF Γ.flds f d y.2) fun d' => ofOpt (Pf.putAt i d' ρ1) := by
  rw [ex]
  kernel_rfl
@[simp] theorem ex_mt {mt : Mt} : ex Γ (.mt i mt l) (o :: r) = isL (Pf.cellOf (o :: r) i) (SO.of (evv Γ l (o :: r)) fun ds ρ1 => optS (Pf.cellOf ρ1 i) fun d => optS (mtD mt d ds) fun d' => ofOpt (Pf.putAt i d' ρ1)) := by
  rw [ex]
  kernel_rfl
@[simp] theorem ex_iff {sa sb : List S} : ex Γ (.iff a sa sb) (o :: r) = SO.of (ev Γ a true (o :: r)) fun y ρ1 => pick y.2 (exs Γ sa ρ1) (exs Γ sb ρ1) .bad := by
  rw [ex]
  congr 1
@[simp] theorem ex_retN : ex Γ .retN (o :: r) = .ret (false, .non) (o :: r) := by rw [ex]
@[simp] theorem ex_brk : ex Γ .brk (o :: r) = .brk (o :: r) := by rw [ex]
@[simp] theorem ex_cnt : ex Γ .cnt (o :: r) = .cnt (o :: r) := by rw [ex]
@[simp] theorem ex_pass : ex Γ .pass (o :: r) = .nx (o :: r) := by rw [ex]
@[simp] theorem evA_vr : evA Γ (.var i) (o :: r) = slotA (slot (o :: r) i) i (o :: r) := rfl
@[simp] theorem evA_cst : evA Γ (.cst d) (o :: r) = .ok (.val d) (o :: r) := by unfold evA opd; rw [ev]; rfl

@[simp] theorem evA_fz_ : evA Γ (.fz i) (o :: r) = (ev Γ (.fz i) false (o :: r)).bnd fun y ρ1 => .ok (.val y.2) ρ1 := rfl
@[simp] theorem evA_glo_ : evA Γ (.glo x) (o :: r) = (ev Γ (.glo x) false (o :: r)).bnd fun y ρ1 => .ok (.val y.2) ρ1 := rfl
@[simp] theorem evA_tup_ : evA Γ (.tup l) (o :: r) = (ev Γ (.tup l) false (o :: r)).bnd fun y ρ1 => .ok (.val y.2) ρ1 := rfl
@[simp] theorem evA_lst_ : evA Γ (.lst l) (o :: r) = (ev Γ (.lst l) false (o :: r)).bnd fun y ρ1 => .ok (.val y.2) ρ1 := rfl
@[simp] theorem evA_dic_ : evA Γ (.dic l) (o :: r) = (ev Γ (.dic l) false (o :: r)).bnd fun y ρ1 => .ok (.val y.2) ρ1 := rfl
@[simp] theorem evA_ap_ : evA Γ (.ap op l) (o :: r) = (ev Γ (.ap op l) false (o :: r)).bnd fun y ρ1 => .ok (.val y.2) ρ1 := rfl
@[simp] theorem evA_chn_ : evA Γ (.chn p q a b c) (o :: r) = (ev Γ (.chn p q a b c) false (o :: r)).bnd fun y ρ1 => .ok (.val y.2) ρ1 := rfl
@[simp] theorem evA_and_ : evA Γ (.and l) (o :: r) = (ev Γ (.and l) false (o :: r)).bnd fun y ρ1 => .ok (.val y.2) ρ1 := rfl
@[simp] theorem evA_or_ : evA Γ (.or l) (o :: r) = (ev Γ (.or l) false (o :: r)).bnd fun y ρ1 => .ok (.val y.2) ρ1 := rfl
@[simp] theorem evA_not_ : evA Γ (.not a) (o :: r) = (ev Γ (.not a) false (o :: r)).bnd fun y ρ1 => .ok (.val y.2) ρ1 := rfl
@[simp] theorem evA_ife_ : evA Γ (.ife a b c) (o :: r) = (ev Γ (.ife a b c) false (o :: r)).bnd fun y ρ1 => .ok (.val y.2) ρ1 := rfl
@[simp] theorem evA_call_ : evA Γ (.call f l) (o :: r) = (ev Γ (.call f l) false (o :: r)).bnd fun y ρ1 => .ok (.val y.2) ρ1 := rfl
@[simp] theorem evA_slc_ : evA Γ (.slc a b c) (o :: r) = (ev Γ (.slc a b c) false (o :: r)).bnd fun y ρ1 => .ok (.val y.2) ρ1 := rfl
@[simp] theorem evA_fst_ : evA Γ (.fst l) (o :: r) = (ev Γ (.fst l) false (o :: r)).bnd fun y ρ1 => .ok (.val y.2) ρ1 := rfl
@[simp] theorem evA_oeq_ : evA Γ (.oeq m2 l) (o :: r) = (ev Γ (.oeq m2 l) false (o :: r)).bnd fun y ρ1 => .ok (.val y.2) ρ1 := rfl
@[simp] theorem evA_get_ : evA Γ (.get a b c) (o :: r) = (ev Γ (.get a b c) false (o :: r)).bnd fun y ρ1 => .ok (.val y.2) ρ1 := rfl
@[simp] theorem evA_meth_ : evA Γ (.meth f a l) (o :: r) = (ev Γ (.meth f a l) false (o :: r)).bnd fun y ρ1 => .ok (.val y.2) ρ1 := rfl
@[simp] theorem evA_comp_ : evA Γ (.comp own t kk src ifs e) (o :: r) = (ev Γ (.comp own t kk src ifs e) false (o :: r)).bnd fun y ρ1 => .ok (.val y.2) ρ1 := rfl
@[simp] theorem evA_dcmp_ : evA Γ (.dcmp own t kk src ifs a e) (o :: r) = (ev Γ (.dcmp own t kk src ifs a e) false (o :: r)).bnd fun y ρ1 => .ok (.val y.2) ρ1 := rfl

@[simp] theorem ev_meth : ev Γ (.meth f a l) m (o :: r) = tr m ((evA Γ a (o :: r)).bnd fun x ρ1 => agR (x.get ρ1) fun s => methD Γ f x s.d (evs Γ l ρ1)) := by
  rw [ev]
  kernel_rfl
@[simp] theorem ev_oeq : ev Γ (.oeq m2 l) m (o :: r) = tr m ((evs Γ l (o :: r)).bnd fun as ρ1 => oeqR Γ m2 as (Pf.fill ρ1 as) ρ1) := by
  rw [ev]
  kernel_rfl
@[simp] theorem ev_slc : ev Γ (.slc a b c) m (o :: r) = tr m ((evA Γ a (o :: r)).bnd fun x ρ1 => (partO b (ev Γ b false ρ1) ρ1).bnd fun l ρ2 => (partO c (ev Γ c false ρ2) ρ2).bnd fun u ρ3 => agR (x.get ρ3) fun s => (lift (slcO s.d l u) ρ3).bnd fun d ρ4 => .ok (d.obj, d) ρ4) := by
  rw [ev]
  kernel_rfl
@[simp] theorem ev_dic : ev Γ (.dic l) m (o :: r) = tr m ((evv Γ l (o :: r)).nox.bnd fun ds ρ1 => (lift (stowAll ds [] []) ρ1).bnd fun d ρ2 => .ok (true, d) ρ2) := by rw [ev]
@[simp] theorem ev_get : ev Γ (.get a b c) m (o :: r) = tr m ((evA Γ a (o :: r)).bnd fun x ρ1 => getS (x.get ρ1) (getO x (ev Γ b false ρ1) (fun ρ => ev Γ c false ρ))) := by
  rw [ev]
  kernel_rfl
@[simp] theorem ev_fst : ev Γ (.fst l) m (o :: r) = tr m ((evF Γ l Str.empty (o :: r)).bnd fun y ρ1 => .ok (false, .str y) ρ1) := by rw [ev]
@[simp] theorem evF_nil {ρ : Rho} {acc : Str} : evF Γ [] acc ρ = .ok acc ρ := by rw [evF]
@[simp] theorem evF_cons {acc : Str} : evF Γ (e :: es) acc (o :: r) = (ev Γ e false (o :: r)).bnd fun y ρ1 => optO (fmtO acc y.2) fun z => evF Γ es z ρ1 := by
  rw [evF]
  congr 1
  funext y ρ1
  cases fmtO acc y.2 <;> rfl
theorem ex_for {sb : List S} : ex Γ (.for_ t kk src sb) (o :: r) = SO.of (evs Γ src (o :: r)) fun as ρ1 => optS (fillD ρ1 as) fun ds => optS (walk kk ds) fun xs => loop (fun ρ => held ρ as ds) (fun x ρ2 => optS (bind1 t x ρ2) fun ρ3 => exs Γ sb ρ3) xs ρ1 := by
  rw [ex]
  kernel_rfl
theorem ex_whl {sb : List S} : ex Γ (.whl a sb) (o :: r) = wloop (fun ρ => ev Γ a true ρ) (fun ρ => exs Γ sb ρ) Γ.wf (o :: r) := by rw [ex]
end
/-! ### data -/
section
variable {fl : Nat → List Str} {i j : Int} {x y : Str} {u v : D} {k l : List D} {n : Nat} {b : Bool}
@[simp] theorem tru_bl : (D.bl b).truth = some b := rfl
@[simp] theorem tru_int : (D.int i).truth = some (i != 0) := rfl
@[simp] theorem tru_non : D.non.truth = some false := rfl
@[simp] theorem tru_tup : (D.tup l).truth = some (!l.isEmpty) := rfl
@[simp] theorem tru_lst : (D.lst l).truth = some (!l.isEmpty) := rfl
@[simp] theorem o_add : (Op.bin .add).ap fl [.int i, .int j] = some (.int (i + j)) := rfl
@[simp] theorem o_addB : (Op.bin .add).ap fl [.int i, .bl b] = some (.int (i + b2i b)) := rfl
@[simp] theorem o_addS : (Op.bin .add).ap fl [.str x, .str y] = if szl (x.length + y.length) = true then some (.str (x ++ y)) else none := rfl
@[simp] theorem o_addT : (Op.bin .add).ap fl [.tup k, .tup l] = if szl (k.length + l.length) = true then some (.tup (k ++ l)) else none := rfl
@[simp] theorem o_addL : (Op.bin .add).ap fl [.lst k, .lst l] = if szl (k.length + l.length) = true then some (.lst (k ++ l)) else none := rfl
@[simp] theorem o_sub : (Op.bin .sub).ap fl [.int i, .int j] = some (.int (i - j)) := rfl
@[simp] theorem o_mul : (Op.bin .mul).ap fl [.int i, .int j] = if i.natAbs.log2 + j.natAbs.log2 < 1000000 then some (.int (i * j)) else none := rfl
@[simp] theorem o_mulS : (Op.bin .mul).ap fl [.str x, .int j] = if 0 ≤ j ∧ j ≤ 1000 ∧ x.length ≤ 1000 then some (.str (Txt.mul x j)) else none := rfl
@[simp] theorem o_mulT : (Op.bin .mul).ap fl [.tup l, .int j] = if 1 ≤ j ∧ j ≤ 1000 ∧ l.isEmpty = false ∧ l.length ≤ 1000 then some (.tup (List.replicate j.toNat l).flatten) else none := rfl
@[simp] theorem o_mulL : (Op.bin .mul).ap fl [.lst l, .int j] = if 0 ≤ j ∧ j ≤ 1000 ∧ l.length ≤ 1000 then some (.lst (List.replicate j.toNat l).flatten) else none := rfl
@[simp] theorem o_fdiv : (Op.bin .fdiv).ap fl [.int i, .int j] = if j ≠ 0 ∧ Builtin.divisionGoesByPylong i j = false then some (.int (i.fdiv j)) else none := rfl
@[simp] theorem o_mod : (Op.bin .mod).ap fl [.int i, .int j] = if j ≠ 0 then some (.int (i.fmod j)) else none := rfl
@[simp] theorem o_pow : (Op.bin .pow).ap fl [.int i, .int j] = if 0 ≤ j ∧ j ≤ 1000000 ∧ i.natAbs < 2 ^ 64 then some (.int (i ^ j.toNat)) else none := rfl
@[simp] theorem o_neg : Op.neg.ap fl [.int i] = some (.int (-i)) := rfl
@[simp] theorem o_lt : (Op.cmp .lt).ap fl [.int i, .int j] = some (.bl (decide (i < j))) := rfl
@[simp] theorem o_le : (Op.cmp .le).ap fl [.int i, .int j] = some (.bl (decide (i ≤ j))) := rfl
@[simp] theorem o_gt : (Op.cmp .gt).ap fl [.int i, .int j] = some (.bl (decide (j < i))) := rfl
@[simp] theorem o_ge : (Op.cmp .ge).ap fl [.int i, .int j] = some (.bl (decide (j ≤ i))) := rfl
@[simp] theorem c_lt : cop .lt (.int i) (.int j) = some (decide (i < j)) := rfl
@[simp] theorem c_le : cop .le (.int i) (.int j) = some (decide (i ≤ j)) := rfl
@[simp] theorem c_gt : cop .gt (.int i) (.int j) = some (decide (j < i)) := rfl
@[simp] theorem c_ge : cop .ge (.int i) (.int j) = some (decide (j ≤ i)) := rfl
@[simp] theorem o_eq : (Op.cmp .eq).ap fl [u, v] = if eqOk u v = true then some (.bl (u.eqv v)) else none := by
  show Option.map D.bl (if eqOk u v = true then some (u.eqv v) else none) = _
  split <;> rfl
@[simp] theorem o_ne : (Op.cmp .ne).ap fl [u, v] = if eqOk u v = true then some (.bl (!u.eqv v)) else none := by
  show Option.map D.bl (if eqOk u v = true then some (!u.eqv v) else none) = _
  split <;> rfl
@[simp] theorem c_eq : cop .eq u v = if eqOk u v = true then some (u.eqv v) else none := rfl
@[simp] theorem c_ne : cop .ne u v = if eqOk u v = true then some (!u.eqv v) else none := rfl
@[simp] theorem o_intS : (Op.bi .int).ap fl [.str x] = if x.length ≤ 640 then (PySem.intText? x).map D.int else none := rfl
@[simp] theorem o_in : (Op.cmp .isin).ap fl [u, v] = (u.isIn v).map D.bl := rfl
@[simp] theorem o_nin : (Op.cmp .notin).ap fl [u, v] = (u.isIn v).map fun b => D.bl (!b) := by
  show Option.map D.bl ((u.isIn v).map (!·)) = _
  rw [Option.map_map]
  rfl
@[simp] theorem o_idxL : Op.idx.ap fl [.lst l, .int i] = atI l i := rfl
@[simp] theorem o_idxT : Op.idx.ap fl [.tup l, .int i] = atI l i := rfl
@[simp] theorem o_idxC {ns : List Int} : Op.idx.ap fl [.scr ns, .int i] = (atI ns i).map D.int := rfl
@[simp] theorem o_idxS : Op.idx.ap fl [.str x, .int i] = if szl x.length = true then (atI x.cps.toList i).map fun c => .str ⟨#[c]⟩ else none := rfl
@[simp] theorem o_isn : (Op.isn b).ap fl [u] = some (isnD b u) := rfl
@[simp] theorem o_len : (Op.bi .len).ap fl [.lst l] = some (.int l.length) := rfl
@[simp] theorem o_lenT : (Op.bi .len).ap fl [.tup l] = some (.int l.length) := rfl
@[simp] theorem o_lenC {ns : List Int} : (Op.bi .len).ap fl [.scr ns] = some (.int ns.length) := rfl
@[simp] theorem o_lenS : (Op.bi .len).ap fl [.str x] = if szl x.length = true then some (.int x.length) else none := rfl
@[simp] theorem o_int : (Op.bi .int).ap fl [.int i] = some (.int i) := rfl
@[simp] theorem o_abs : (Op.bi .abs).ap fl [.int i] = some (.int (if i < 0 then -i else i)) := rfl
@[simp] theorem o_str : (Op.bi .str).ap fl [.int i] = if i.natAbs.log2 < 1920 then some (.str (toString i)) else none := rfl
@[simp] theorem o_tuL : (Op.bi .tuple).ap fl [.lst l] = some (.tup l) := rfl
@[simp] theorem o_tuT : (Op.bi .tuple).ap fl [.tup l] = some (.tup l) := rfl
@[simp] theorem o_liL : (Op.bi .list).ap fl [.lst l] = some (.lst l) := rfl
@[simp] theorem o_liT : (Op.bi .list).ap fl [.tup l] = some (.lst l) := rfl
@[simp] theorem o_all : (Op.bi .all).ap fl [.lst l] = (D.bls l).map fun bs => .bl (bs.all id) := rfl
@[simp] theorem o_any : (Op.bi .any).ap fl [.lst l] = (D.bls l).map fun bs => .bl (bs.any id) := rfl
@[simp] theorem o_isi {ts : List Ty} : (Op.isi ts).ap fl [u] = isiD ts u := rfl
@[simp] theorem o_fld : (Op.fld x).ap fl [u] = fldD fl x u := rfl
@[simp] theorem isi_non {ts : List Ty} : isiD ts D.non = some (.bl (ts.any D.non.isa)) := rfl
@[simp] theorem isi_bl {ts : List Ty} : isiD ts (D.bl b) = some (.bl (ts.any (D.bl b).isa)) := rfl
@[simp] theorem isi_int {ts : List Ty} : isiD ts (D.int i) = some (.bl (ts.any (D.int i).isa)) := rfl
@[simp] theorem isi_str {ts : List Ty} : isiD ts (D.str x) = some (.bl (ts.any (D.str x).isa)) := rfl
@[simp] theorem isi_tup {ts : List Ty} : isiD ts (D.tup l) = some (.bl (ts.any (D.tup l).isa)) := rfl
@[simp] theorem isi_lst {ts : List Ty} : isiD ts (D.lst l) = some (.bl (ts.any (D.lst l).isa)) := rfl
@[simp] theorem isi_dic {ts : List Ty} {ks : List Key} : isiD ts (.dic ks l) = some (.bl (ts.any (D.dic ks l).isa)) := rfl
@[simp] theorem isi_ins {ts : List Ty} {c : Nat} : isiD ts (.ins c (u :: l)) = some (.bl (ts.any (D.ins c (u :: l)).isa)) := rfl
@[simp] theorem o_isb {n k : Bool} : (Op.isb n k).ap fl [.bl b] = some (.bl (decide (b = k) != n)) := rfl
@[simp] theorem key_str : (D.str x).key = some (.inr x) := rfl
@[simp] theorem key_int : (D.int i).key = some (.inl i) := rfl
@[simp] theorem setD_dic {ks : List Key} {j : Key} (h : u.key = some j) : setD (.dic ks l) u v = if szl ks.length = true then some (.dic (stow j v ks l).1 (stow j v ks l).2) else none := by
  show (match u.key with
    | some j => if szl ks.length = true then some (D.dic (stow j v ks l).1 (stow j v ks l).2) else none
    | none => none) = _
  rw [h]
@[simp] theorem r_isn_non : isnD b .non = .bl b := rfl
@[simp] theorem r_isn_bl {n : Bool} : isnD n (.bl b) = .bl (!n) := rfl
@[simp] theorem new_bl {o : Op} : (o.new && (D.bl b).obj) = false := by simp [D.obj]
@[simp] theorem r_isn_int {n : Bool} : isnD n (.int i) = .bl (!n) := rfl
@[simp] theorem new_int {o : Op} : (o.new && (D.int i).obj) = false := by simp [D.obj]
@[simp] theorem r_isn_str {n : Bool} : isnD n (.str x) = .bl (!n) := rfl
@[simp] theorem new_str {o : Op} : (o.new && (D.str x).obj) = false := by simp [D.obj]
@[simp] theorem r_isn_tup {n : Bool} : isnD n (.tup l) = .bl (!n) := rfl
@[simp] theorem new_tup {o : Op} : (o.new && (D.tup l).obj) = false := by simp [D.obj]
@[simp] theorem r_isn_lst {n : Bool} : isnD n (.lst l) = .bl (!n) := rfl
@[simp] theorem new_lst {o : Op} : (o.new && (D.lst l).obj) = o.new := by simp [D.obj]
@[simp] theorem new_bin {o : Bop} : (Op.bin o).new = true := rfl
@[simp] theorem new_lst2 : (Op.bi .list).new = true := rfl
@[simp] theorem new_idx : Op.idx.new = false := rfl
theorem ixN_nat (n k : Nat) : ixN n (k : Int) = if k < n then some k else none := by
  unfold ixN
  rw [if_pos (Int.natCast_nonneg k)]
  by_cases h : k < n
  · rw [if_pos h, if_pos (by omega)]
    rfl
  · rw [if_neg h, if_neg (by omega)]
theorem atI_nat {α : Type} (l : List α) (k : Nat) : atI l (k : Int) = l[k]? := by
  unfold atI
  rw [ixN_nat]
  by_cases h : k < l.length
  · rw [if_pos h]; rfl
  · rw [if_neg h, List.getElem?_eq_none (by omega)]
    rfl
@[simp] theorem setD_lst : setD (.lst l) (.int i) u = (ixN l.length i).map fun j => .lst (l.set j u) := rfl
@[simp] theorem atI_0 {α : Type} {l : List α} : atI l 0 = l[0]? := atI_nat l 0
@[simp] theorem ixN_0 {n : Nat} : ixN n 0 = if 0 < n then some 0 else none := ixN_nat n 0
@[simp] theorem atI_1 {α : Type} {l : List α} : atI l 1 = l[1]? := atI_nat l 1
@[simp] theorem ixN_1 {n : Nat} : ixN n 1 = if 1 < n then some 1 else none := ixN_nat n 1
@[simp] theorem atI_2 {α : Type} {l : List α} : atI l 2 = l[2]? := atI_nat l 2
@[simp] theorem ixN_2 {n : Nat} : ixN n 2 = if 2 < n then some 2 else none := ixN_nat n 2
@[simp] theorem atI_3 {α : Type} {l : List α} : atI l 3 = l[3]? := atI_nat l 3
@[simp] theorem ixN_3 {n : Nat} : ixN n 3 = if 3 < n then some 3 else none := ixN_nat n 3
@[simp] theorem atI_4 {α : Type} {l : List α} : atI l 4 = l[4]? := atI_nat l 4
@[simp] theorem ixN_4 {n : Nat} : ixN n 4 = if 4 < n then some 4 else none := ixN_nat n 4
@[simp] theorem atI_5 {α : Type} {l : List α} : atI l 5 = l[5]? := atI_nat l 5
@[simp] theorem ixN_5 {n : Nat} : ixN n 5 = if 5 < n then some 5 else none := ixN_nat n 5
@[simp] theorem atI_6 {α : Type} {l : List α} : atI l 6 = l[6]? := atI_nat l 6
@[simp] theorem ixN_6 {n : Nat} : ixN n 6 = if 6 < n then some 6 else none := ixN_nat n 6
@[simp] theorem atI_7 {α : Type} {l : List α} : atI l 7 = l[7]? := atI_nat l 7
@[simp] theorem ixN_7 {n : Nat} : ixN n 7 = if 7 < n then some 7 else none := ixN_nat n 7
@[simp] theorem atI_8 {α : Type} {l : List α} : atI l 8 = l[8]? := atI_nat l 8
@[simp] theorem ixN_8 {n : Nat} : ixN n 8 = if 8 < n then some 8 else none := ixN_nat n 8
@[simp] theorem atI_9 {α : Type} {l : List α} : atI l 9 = l[9]? := atI_nat l 9
@[simp] theorem ixN_9 {n : Nat} : ixN n 9 = if 9 < n then some 9 else none := ixN_nat n 9
@[simp] theorem atI_10 {α : Type} {l : List α} : atI l 10 = l[10]? := atI_nat l 10
@[simp] theorem ixN_10 {n : Nat} : ixN n 10 = if 10 < n then some 10 else none := ixN_nat n 10
@[simp] theorem atI_11 {α : Type} {l : List α} : atI l 11 = l[11]? := atI_nat l 11
@[simp] theorem ixN_11 {n : Nat} : ixN n 11 = if 11 < n then some 11 else none := ixN_nat n 11
@[simp] theorem atI_12 {α : Type} {l : List α} : atI l 12 = l[12]? := atI_nat l 12
@[simp] theorem ixN_12 {n : Nat} : ixN n 12 = if 12 < n then some 12 else none := ixN_nat n 12
end
/-! ### a def's run -/
def finR (np : Nat) (args : List Sl) (r : Res) (ρ : Rho) : FOut := if outsOk args (ρ.take np) = true then .ok r (ρ.take np) else .bad
def endR (np : Nat) (args : List Sl) (o : SO) : FOut := match o with
  | .nx ρ => finR np args (false, .non) ρ
  | .ret r ρ => finR np args r ρ
  | .exc c l ρ => if outsOk args (ρ.take np) = true then .exc c l (ρ.take np) else .bad
  | _ => .bad
section
variable {Γ : Ga} {np n : Nat} {body : List S} {args : List Sl} {r : Res} {ρ : Rho} {b : Bool} {d : D} {s : Sl} {o : Option Sl} {os : List (Option Sl)}
theorem run1_eq : run1 Γ ⟨np, n, body⟩ args = if args.length = np then endR np args (exs Γ body (args.map some ++ List.replicate (n - np) none)) else .bad := by
  unfold run1
  by_cases h : args.length = np
  · rw [if_pos h, if_pos h]
    rfl
  · rw [if_neg h, if_neg h]
@[simp] theorem endR_nx : endR np args (.nx ρ) = finR np args (false, .non) ρ := rfl
@[simp] theorem endR_ret : endR np args (.ret r ρ) = finR np args r ρ := rfl
@[simp] theorem endR_bad : endR np args .bad = .bad := rfl
@[simp] theorem outs_nil {os : List (Option Sl)} : outsOk [] os = true := by cases os <;> rfl
@[simp] theorem outs_val : outsOk (.val b d :: args) (o :: os) = outsOk args os := rfl
@[simp] theorem outs_cel : outsOk (.cel b d :: args) (some s :: os) = (s.bor && outsOk args os) := rfl
@[simp] theorem bor_val : (Sl.val b d).bor = b := rfl
@[simp] theorem bor_cel : (Sl.cel b d).bor = b := rfl
end
end Pf
end
section
set_option Elab.async false
set_option linter.all false
set_option maxRecDepth 100000
/-! Rf27: loops and comprehensions by invariants. -/
namespace Pf
open PySem PySem.Spec PyProof.Rows L2
section
variable {hd : Rho → Bool} {f : D → Rho → SO} {R : SO → Prop} {ρ : Rho}
/-- a turn's end, with what is left -/
def TurnOk (R : SO → Prop) (I : Rho → Prop) : SO → Prop
  | .nx ρ => I ρ
  | .cnt ρ => I ρ
  | .brk ρ => R (.nx ρ)
  | .ret r ρ => R (.ret r ρ)
  | .exc c l ρ => R (.exc c l ρ)
  | .bad => False
theorem loop_inv (I : List D → Rho → Prop) (nil : ∀ ρ, I [] ρ → hd ρ = true ∧ R (.nx ρ)) (step : ∀ x l ρ, I (x :: l) ρ → hd ρ = true ∧ TurnOk R (I l) (f x ρ)) : ∀ {xs : List D} {ρ : Rho}, I xs ρ → R (loop hd f xs ρ)
  | [], ρ, h => by
    obtain ⟨h1, h2⟩ := nil ρ h
    unfold loop
    rw [if_pos h1]
    exact h2
  | x :: xs, ρ, h => by
    obtain ⟨h1, h2⟩ := step x xs ρ h
    unfold loop
    rw [if_pos h1]
    cases e : f x ρ with
    | nx ρ1 => rw [e] at h2; exact loop_inv I nil step h2
    | cnt ρ1 => rw [e] at h2; exact loop_inv I nil step h2
    | brk ρ1 => rw [e] at h2; exact h2
    | ret r ρ1 => rw [e] at h2; exact h2
    | exc c l ρ1 => rw [e] at h2; exact h2
    | bad => rw [e] at h2; exact h2.elim
/-- by the number of turns done -/
theorem loop_at (I : Nat → Rho → Prop) {xs : List D} (h0 : I 0 ρ) (last : ∀ ρ, I xs.length ρ → hd ρ = true ∧ R (.nx ρ)) (step : ∀ i x ρ, xs[i]? = some x → I i ρ → hd ρ = true ∧ TurnOk R (I (i + 1)) (f x ρ)) : R (loop hd f xs ρ) := by
  refine loop_inv (fun l ρ => ∃ i, xs.drop i = l ∧ i ≤ xs.length ∧ I i ρ) (fun ρ ⟨i, h1, h2, h3⟩ => ?_) (fun x l ρ ⟨i, h1, h2, h3⟩ => ?_) ⟨0, List.drop_zero, Nat.zero_le _, h0⟩
  · have : xs.length ≤ i := List.drop_eq_nil_iff.mp h1
    have e : i = xs.length := by omega
    subst e
    exact last ρ h3
  · have hi : i < xs.length := by
      by_cases z : i < xs.length
      · exact z
      · rw [List.drop_eq_nil_iff.mpr (by omega)] at h1
        cases h1
    rw [List.drop_eq_getElem_cons hi] at h1
    injection h1 with h4 h5
    obtain ⟨h6, h7⟩ := step i x ρ (by rw [List.getElem?_eq_getElem hi, h4]) h3
    refine ⟨h6, ?_⟩
    cases e : f x ρ <;> rw [e] at h7 <;> first | exact ⟨i + 1, h5, hi, h7⟩ | exact h7
end
section
variable {hd : Rho → Bool} {f : D → Rho → Out (Option D)} {ρ : Rho}
/-- a comprehension whose turns leave the slots alone -/
theorem turns_map {g : D → Option D} (h : hd ρ = true) : ∀ {xs : List D}, (∀ x ∈ xs, f x ρ = .ok (g x) ρ) → turns hd f xs ρ = .ok (xs.filterMap g) ρ
  | [], _ => by
    unfold turns
    rw [if_pos h]
    rfl
  | x :: xs, hx => by
    have h1 := hx x List.mem_cons_self
    have h2 := turns_map h (xs := xs) fun y hy => hx y (List.mem_cons_of_mem _ hy)
    unfold turns
    rw [if_pos h, h1]
    cases e : g x with
    | none => simp only [h2, List.filterMap_cons, e]
    | some y => simp only [h2, List.filterMap_cons, e, bnd_ok]
theorem turns_all {g : D → D} (h : hd ρ = true) {xs : List D} (hx : ∀ x ∈ xs, f x ρ = .ok (some (g x)) ρ) : turns hd f xs ρ = .ok (xs.map g) ρ := by
  rw [turns_map (g := fun x => some (g x)) h hx, ← List.filterMap_eq_map]
  rfl
/-- by an invariant: what is done, what is left -/
theorem turns_inv (I : Nat → List D → Rho → Prop) {xs : List D} {R : Out (List D) → Prop} (h0 : I 0 [] ρ) (last : ∀ ys ρ, I xs.length ys ρ → hd ρ = true ∧ R (.ok ys ρ))
    (step : ∀ i x ys ρ, xs[i]? = some x → I i ys ρ → hd ρ = true ∧ ∃ o ρ1, f x ρ = .ok o ρ1 ∧ I (i + 1) (ys ++ o.toList) ρ1) : R (turns hd f xs ρ) := by
  have key : ∀ n i ys ρ, n = xs.length - i → i ≤ xs.length → I i ys ρ → ∃ zs ρ1, turns hd f (xs.drop i) ρ = .ok zs ρ1 ∧ I xs.length (ys ++ zs) ρ1 := by
    intro n
    induction n with
    | zero =>
      intro i ys ρ hn hi h
      have e : i = xs.length := by omega
      subst e
      refine ⟨[], ρ, ?_, by rw [List.append_nil]; exact h⟩
      rw [List.drop_length]
      unfold turns
      rw [if_pos (last ys ρ h).1]
    | succ n ih =>
      intro i ys ρ hn hi h
      have hlt : i < xs.length := by omega
      obtain ⟨h1, o, ρ1, h2, h3⟩ := step i xs[i] ys ρ (List.getElem?_eq_getElem hlt) h
      obtain ⟨zs, ρ2, h4, h5⟩ := ih (i + 1) (ys ++ o.toList) ρ1 (by omega) hlt h3
      rw [List.drop_eq_getElem_cons hlt]
      unfold turns
      rw [if_pos h1, h2]
      cases o with
      | none => exact ⟨zs, ρ2, h4, by simpa using h5⟩
      | some y => exact ⟨y :: zs, ρ2, by simp only [h4, bnd_ok], by simpa using h5⟩
  obtain ⟨zs, ρ1, h1, h2⟩ := key _ 0 [] ρ rfl (Nat.zero_le _) h0
  rw [List.drop_zero] at h1
  rw [h1]
  exact (last _ _ h2).2
end
section
variable {Γ : Ga} {o : Option Sl} {r : Rho} {m : Bool} {e a b : E} {src ifs : List E} {t : Tg} {kk : Ik} {own : List Nat} {sb : List S}
/-- a comprehension's turn -/
theorem ev_comp : ev Γ (.comp own t kk src ifs e) m (o :: r) = tr m ((evs Γ src (o :: r)).bnd fun as ρ1 => optO (fillD ρ1 as) fun ds => optO (walkS kk ds) fun xs =>
    (turns (fun ρ => held ρ as ds) (lcF Γ own t ifs e) xs ρ1).bnd fun ys ρ2 => .ok (true, .lst ys) ρ2) := by
  rw [ev]
  kernel_rfl
theorem lcF_eq {x : D} {ρ : Rho} : lcF Γ own t ifs e x ρ = optO (bind1 t x (wipeR ρ own)) fun ρ3 => (evAnd Γ ifs true ρ3).bnd fun r ρ4 => pick r.2 ((ev Γ e false ρ4).bnd fun y ρ5 => .ok (some y.2) (restore ρ ρ5 own)) (.ok none (restore ρ ρ4 own)) .bad := by
  unfold lcF
  kernel_rfl
theorem dcF_eq {x : D} {ρ : Rho} : dcF Γ own t ifs a e x ρ = optO (bind1 t x (wipeR ρ own)) fun ρ3 => (evAnd Γ ifs true ρ3).bnd fun r ρ4 => pick r.2 ((ev Γ a false ρ4).bnd fun y ρ5 => (ev Γ e false ρ5).bnd fun z ρ6 => optO y.2.key fun j => .ok (some (j, z.2)) (restore ρ ρ6 own)) (.ok none (restore ρ ρ4 own)) .bad := by
  unfold dcF
  kernel_rfl
theorem ev_dcmp : ev Γ (.dcmp own t kk src ifs a e) m (o :: r) = tr m ((evs Γ src (o :: r)).bnd fun as ρ1 => optO (fillD ρ1 as) fun ds => optO (walkS kk ds) fun xs =>
    (dturns (fun ρ => held ρ as ds) (dcF Γ own t ifs a e) xs [] [] ρ1).bnd fun d ρ2 => .ok (true, d) ρ2) := by
  rw [ev]
  kernel_rfl
end
@[simp] theorem wipe_nil {ρ : Rho} : wipeR ρ [] = ρ := rfl
@[simp] theorem wipe_cons {ρ : Rho} {i : Nat} {l : List Nat} : wipeR ρ (i :: l) = (wipeR ρ l).set i none := rfl
def restS (o : Option Sl) : Option Sl := match o with
  | some (.val b d) => some (.val b d)
  | _ => none
@[simp] theorem rest_nil {ρ ρ' : Rho} : restore ρ ρ' [] = ρ' := rfl
@[simp] theorem rest_cons {ρ ρ' : Rho} {i : Nat} {l : List Nat} : restore ρ ρ' (i :: l) = (restore ρ ρ' l).set i (restS (slot ρ i)) := rfl
@[simp] theorem restS_none : restS none = none := rfl
@[simp] theorem restS_val {b : Bool} {d : D} : restS (some (.val b d)) = some (.val b d) := rfl
@[simp] theorem restS_cel {b : Bool} {d : D} : restS (some (.cel b d)) = none := rfl
@[simp] theorem bind_nm {i : Nat} {d : D} {ρ : Rho} : bind1 (.nm i) d ρ = putS i (false, d) ρ (slot ρ i) := rfl
@[simp] theorem bind_tp {ts : List Tg} {l : List D} {ρ : Rho} : bind1 (.tp ts) (.tup l) ρ = bindL1 ts l ρ := rfl
@[simp] theorem bindL_nil {ρ : Rho} : bindL1 [] [] ρ = some ρ := rfl
@[simp] theorem bindL_cons {t : Tg} {ts : List Tg} {d : D} {l : List D} {ρ : Rho} : bindL1 (t :: ts) (d :: l) ρ = (bind1 t d ρ).bind (bindL1 ts l) := rfl
theorem held_val {ρ : Rho} {d : D} : held ρ [.val d] [d] = true := by
  unfold held
  simp [D.sameL_refl]
theorem held_val2 {ρ : Rho} {d e : D} : held ρ [.val d, .val e] [d, e] = true := by
  unfold held
  simp [D.sameL_refl]
end Pf
end
section
set_option Elab.async false
set_option linter.all false
set_option maxRecDepth 100000
/-! Lw1: the laws' own drawing. -/
namespace Pf
open PySem PySem.Spec PyProof.Rows L2
/-- a def that is known at each level -/
structure Knows (Γ : Nat → Ga) (x : Str) (f : Fn) : Prop where
  has : ∀ L, (Γ (L + 1)).has x = true
  frz : ∀ L, (Γ (L + 1)).frz x = false
  cal : ∀ L ss, (Γ (L + 1)).cal x ss = run1 (Γ L) f ss
@[simp] theorem obj_bl {b : Bool} : (D.bl b).obj = false := rfl
@[simp] theorem obj_int {i : Int} : (D.int i).obj = false := rfl
@[simp] theorem obj_str {i : Str} : (D.str i).obj = false := rfl
@[simp] theorem obj_tup {i : List D} : (D.tup i).obj = false := rfl
@[simp] theorem obj_lst {i : List D} : (D.lst i).obj = true := rfl
theorem noPylong {x y : Int} (h : y.natAbs < 2 ^ 8000) : Builtin.divisionGoesByPylong x y = false := by
  unfold Builtin.divisionGoesByPylong
  have hl : y.natAbs.log2 < 8000 := by
    by_cases h0 : y.natAbs = 0
    · rw [h0]; decide
    · exact (Nat.log2_lt h0).mpr h
  have : ¬ ((if (y == 0) = true then 0 else y.natAbs.log2 / 30 + 1) > 300) := by
    split <;> omega
  simp only [decide_eq_false this, Bool.false_and]
structure Rw where
  p : Int
  s : Int
  r : Int
def Rw.D (ns : List Int) (w : Rw) : D := .lst [.scr ns, .int w.p, .int w.s, .int w.r]
structure Rw.Ok (w : Rw) : Prop where
  p : 0 ≤ w.p
  s0 : 0 ≤ w.s
  s1 : w.s < 2147483647
  r : 0 ≤ w.r
def tk (ns : List Int) (w : Rw) (m : Int) : Int × Rw :=
  if 0 < w.r then (w.r.fmod m, ⟨w.p, w.s, w.r.fdiv m⟩)
  else if (ns.length : Int) < w.p + 1 then ((((w.s * 48271 + 11).fmod 2147483647).fdiv 7).fmod m, ⟨w.p + 1, (w.s * 48271 + 11).fmod 2147483647, w.r⟩)
  else match atI ns w.p with
    | some c => (c.fmod m, ⟨w.p + 1, (w.s * 48271 + c + 11).fmod 2147483647, if 10 ^ 18 ≤ c then c.fdiv m else w.r⟩)
    | none => (0, w)
theorem fmod_in {x m : Int} (h : 0 < m) : 0 ≤ x.fmod m ∧ x.fmod m < m := ⟨Int.fmod_nonneg_of_pos x h, Int.fmod_lt_of_pos x h⟩
theorem tk_in {ns : List Int} {w : Rw} {m : Int} (o : w.Ok) (h : 0 < m) : 0 ≤ (tk ns w m).1 ∧ (tk ns w m).1 < m ∧ (tk ns w m).2.Ok := by
  unfold tk
  split
  · rename_i hr
    exact ⟨(fmod_in h).1, (fmod_in h).2, o.p, o.s0, o.s1, Int.fdiv_nonneg o.r (Int.le_of_lt h)⟩
  · split
    · exact ⟨(fmod_in h).1, (fmod_in h).2, by have := o.p; show 0 ≤ w.p + 1; omega, (fmod_in (by decide)).1, (fmod_in (by decide)).2, o.r⟩
    · split
      · rename_i c hc
        refine ⟨(fmod_in h).1, (fmod_in h).2, by have := o.p; show 0 ≤ w.p + 1; omega, (fmod_in (by decide)).1, (fmod_in (by decide)).2, ?_⟩
        show 0 ≤ if 10 ^ 18 ≤ c then c.fdiv m else w.r
        split
        · rename_i h18
          exact Int.fdiv_nonneg (by have : (0 : Int) ≤ 10 ^ 18 := by decide
                                    omega) (Int.le_of_lt h)
        · exact o.r
      · exact ⟨Int.le_refl _, h, o⟩
def f__law_taken : Fn := ⟨2, 4, [.iff (.ap (.cmp .gt) [.ap .idx [.var 0, .cst (.int 3)], .cst (.int 0)])
   [.set 2 (.ap (.bin .mod) [.ap (.bi .int) [.ap .idx [.var 0, .cst (.int 3)]], .var 1]),
    .sti 0 (.cst (.int 3)) (.ap (.bin .fdiv) [.ap .idx [.var 0, .cst (.int 3)], .var 1]),
    .ret (.var 2)]
   [],
  .sti 0 (.cst (.int 1)) (.ap (.bin .add) [.ap .idx [.var 0, .cst (.int 1)], .cst (.int 1)]),
  .iff (.ap (.cmp .gt) [.ap .idx [.var 0, .cst (.int 1)], .ap (.bi .len) [.ap .idx [.var 0, .cst (.int 0)]]])
   [.sti 0 (.cst (.int 2)) (.ap (.bin .mod) [.ap (.bi .int) [.ap (.bin .add) [.ap (.bin .mul) [.ap .idx [.var 0, .cst (.int 2)], .cst (.int 48271)], .cst (.int 11)]], .cst (.int 2147483647)]),
    .ret (.ap (.bin .mod) [.ap (.bi .int) [.ap (.bin .fdiv) [.ap .idx [.var 0, .cst (.int 2)], .cst (.int 7)]], .var 1])]
   [],
  .set 3 (.ap .idx [.ap .idx [.var 0, .cst (.int 0)], .ap (.bin .sub) [.ap .idx [.var 0, .cst (.int 1)], .cst (.int 1)]]),
  .sti 0 (.cst (.int 2)) (.ap (.bin .mod) [.ap (.bi .int) [.ap (.bin .add) [.ap (.bin .add) [.ap (.bin .mul) [.ap .idx [.var 0, .cst (.int 2)], .cst (.int 48271)], .var 3], .cst (.int 11)]], .cst (.int 2147483647)]),
  .iff (.ap (.cmp .ge) [.var 3, .ap (.bin .pow) [.cst (.int 10), .cst (.int 18)]])
   [.sti 0 (.cst (.int 3)) (.ap (.bin .fdiv) [.var 3, .var 1])]
   [],
  .ret (.ap (.bin .mod) [.ap (.bi .int) [.var 3], .var 1])]⟩
theorem taken_run (Γ : Ga) {ns : List Int} {w : Rw} {m : Int} {b : Bool} (o : w.Ok) (hm : 0 < m) (hm2 : m.natAbs < 2 ^ 8000) :
    run1 Γ f__law_taken [.cel true (w.D ns), .val b (.int m)] = .ok (false, .int (tk ns w m).1) [some (.cel true ((tk ns w m).2.D ns)), some (.val b (.int m))] := by
  obtain ⟨p, s, r⟩ := w
  obtain ⟨o1, o2, o3, o4⟩ := o
  have o1 : 0 ≤ p := o1
  have o2 : 0 ≤ s := o2
  have o3 : s < 2147483647 := o3
  have o4 : 0 ≤ r := o4
  have hm0 : m ≠ 0 := by omega
  have hp : ∀ x, Builtin.divisionGoesByPylong x m = false := fun x => noPylong hm2
  have h7 : ∀ x, Builtin.divisionGoesByPylong x 7 = false := fun x => noPylong (Nat.lt_of_lt_of_le (by decide : (7 : Int).natAbs < 2 ^ 3) (Nat.pow_le_pow_right (by decide) (by decide)))
  have hl : s.natAbs.log2 + Nat.log2 48271 < 1000000 := by
    have h1 : s.natAbs.log2 < 40 := by
      by_cases h0 : s.natAbs = 0
      · rw [h0]; decide
      · exact (Nat.log2_lt h0).mpr (by omega)
    have h2 : Nat.log2 48271 = 15 := by decide +kernel
    omega
  by_cases hr : 0 < r
  · simp [run1_eq, f__law_taken, Rw.D, finR, tk, hr, hm0, hp]
  · by_cases hn : (ns.length : Int) < p + 1
    · simp [run1_eq, f__law_taken, Rw.D, finR, tk, hr, hm0, hp, h7, hn, hl]
    · obtain ⟨c, hc⟩ : ∃ c, atI ns p = some c := by
        obtain ⟨k, rfl⟩ : ∃ k : Nat, p = k := ⟨p.toNat, by omega⟩
        rw [atI_nat]
        exact ⟨_, List.getElem?_eq_getElem (by omega)⟩
      by_cases h18 : 1000000000000000000 ≤ c
      · simp [run1_eq, f__law_taken, Rw.D, finR, tk, hr, hm0, hp, h7, hn, hl, hc, h18]
      · simp [run1_eq, f__law_taken, Rw.D, finR, tk, hr, hm0, hp, h7, hn, hl, hc, h18]
end Pf
end
section
set_option Elab.async false
set_option linter.all false
set_option maxRecDepth 100000
/-! Lw2: picks. -/
namespace Pf
open PySem PySem.Spec PyProof.Rows L2
def f__law_pick : Fn := ⟨2, 2, [.ret (.ap .idx [.var 1, .call "_law_taken" [.var 0, .ap (.bi .len) [.var 1]]])]⟩
def pk (ns : List Int) (w : Rw) (l : List D) : Option D := l[(tk ns w l.length).1.toNat]?
theorem pk_some {ns : List Int} {w : Rw} {l : List D} (o : w.Ok) (h : l ≠ []) : ∃ d, pk ns w l = some d ∧ d ∈ l := by
  have hl : 0 < l.length := List.length_pos_iff.mpr h
  obtain ⟨h1, h2, _⟩ := tk_in (ns := ns) o (m := l.length) (by omega)
  have h3 : (tk ns w l.length).1.toNat < l.length := by omega
  exact ⟨_, List.getElem?_eq_getElem h3, List.getElem_mem h3⟩
theorem atI_pk {ns : List Int} {w : Rw} {l : List D} (o : w.Ok) (h : l ≠ []) : atI l (tk ns w l.length).1 = pk ns w l := by
  have hl : 0 < l.length := List.length_pos_iff.mpr h
  obtain ⟨h1, h2, _⟩ := tk_in (ns := ns) o (m := l.length) (by omega)
  obtain ⟨k, hk⟩ : ∃ k : Nat, (tk ns w l.length).1 = k := ⟨_, (Int.toNat_of_nonneg h1).symm⟩
  unfold pk
  rw [hk, atI_nat]
  rfl
variable {Γ : Nat → Ga} (kt : Knows Γ "_law_taken" f__law_taken)
theorem small_nat {n : Nat} (h : n < 1000000) : (n : Int).natAbs < 2 ^ 8000 := by
  have : (2 : Nat) ^ 20 ≤ 2 ^ 8000 := Nat.pow_le_pow_right (by decide) (by decide)
  have h2 : (2 : Nat) ^ 20 = 1048576 := by decide
  omega
include kt
theorem pick_run (L : Nat) {ns : List Int} {w : Rw} {l : List D} {b : Bool} (o : w.Ok) (h : l ≠ []) (hl : l.length < 1000000) {d : D} (hd : pk ns w l = some d) :
    run1 (Γ (L + 1)) f__law_pick [.cel true (w.D ns), .val b (.lst l)] = .ok (false, d) [some (.cel true ((tk ns w l.length).2.D ns)), some (.val b (.lst l))] := by
  have hp : 0 < l.length := List.length_pos_iff.mpr h
  have ht := fun L b => taken_run (Γ L) (ns := ns) (w := w) (m := l.length) (b := b) o (by omega) (small_nat hl)
  have ha := atI_pk (ns := ns) o h
  simp [run1_eq, f__law_pick, finR, kt.has, kt.frz, kt.cal, ht, ha, hd, Op.new]
theorem pick_runT (L : Nat) {ns : List Int} {w : Rw} {l : List D} {b : Bool} (o : w.Ok) (h : l ≠ []) (hl : l.length < 1000000) {d : D} (hd : pk ns w l = some d) :
    run1 (Γ (L + 1)) f__law_pick [.cel true (w.D ns), .val b (.tup l)] = .ok (false, d) [some (.cel true ((tk ns w l.length).2.D ns)), some (.val b (.tup l))] := by
  have hp : 0 < l.length := List.length_pos_iff.mpr h
  have ht := fun L b => taken_run (Γ L) (ns := ns) (w := w) (m := l.length) (b := b) o (by omega) (small_nat hl)
  have ha := atI_pk (ns := ns) o h
  simp [run1_eq, f__law_pick, finR, kt.has, kt.frz, kt.cal, ht, ha, hd, Op.new]
theorem pick_ex (kp : Knows Γ "_law_pick" f__law_pick) {ns : List Int} {w : Rw} (o : w.Ok) (l : List D) (h : l ≠ []) (hl : l.length < 1000000) : ∃ (d : D) (w' : Rw), d ∈ l ∧ w'.Ok ∧
    ∀ L b, (Γ (L + 2)).cal "_law_pick" [.cel true (w.D ns), .val b (.lst l)] = .ok (false, d) [some (.cel true (w'.D ns)), some (.val b (.lst l))] := by
  obtain ⟨d, h1, h2⟩ := pk_some (ns := ns) o h
  have hp : 0 < l.length := List.length_pos_iff.mpr h
  obtain ⟨_, _, h3⟩ := tk_in (ns := ns) o (m := l.length) (by omega)
  exact ⟨d, _, h2, h3, fun L b => by rw [kp.cal]; exact pick_run kt L o h hl h1⟩
end Pf
end
section
set_option Elab.async false
set_option linter.all false
set_option maxRecDepth 100000
/-! Lw3: texts as rows of codes. -/
namespace Pf
open PySem PySem.Spec PyProof.Rows L2
def sOf (l : List Nat) : Str := ⟨l.toArray⟩
theorem sOf_inj {a b : List Nat} : sOf a = sOf b ↔ a = b := by
  unfold sOf
  constructor
  · intro h
    have := congrArg (fun s : Str => s.cps.toList) h
    simpa using this
  · intro h
    rw [h]
@[simp] theorem sOf_cps {a : List Nat} : (sOf a).cps.toList = a := rfl
@[simp] theorem sOf_len {a : List Nat} : (sOf a).length = a.length := by
  unfold sOf Str.length
  simp
theorem sOf_add {a b : List Nat} : sOf a ++ sOf b = sOf (a ++ b) := by
  show (⟨_⟩ : Str) = _
  unfold sOf
  simp
theorem sOf_one {c : Nat} : (⟨#[c]⟩ : Str) = sOf [c] := rfl
theorem eqv_str {x y : Str} : (D.str x).eqv (.str y) = decide (x = y) := by
  unfold D.eqv
  by_cases h : x = y
  · subst h; simp
  · simp [h]
theorem foldl_app (n : Nat) (l acc : List Nat) : ((List.replicate n l.toArray).foldl (· ++ ·) acc.toArray) = (acc ++ (List.replicate n l).flatten).toArray := by
  induction n generalizing acc with
  | zero => simp
  | succ n ih =>
    rw [List.replicate_succ, List.foldl_cons]
    have : acc.toArray ++ l.toArray = (acc ++ l).toArray := by simp
    rw [this, ih, List.replicate_succ, List.flatten_cons, List.append_assoc]
theorem sOf_mul {l : List Nat} {n : Nat} : Txt.mul (sOf l) n = sOf (List.replicate n l).flatten := by
  unfold Txt.mul
  by_cases h : (n : Int) < 1
  · rw [if_pos h]
    have : n = 0 := by omega
    subst this
    rfl
  · rw [if_neg h]
    by_cases h2 : ((n : Int) == 1 || (sOf l).length == 0) = true
    · rw [if_pos h2]
      simp only [sOf_len, Bool.or_eq_true, beq_iff_eq] at h2
      rcases h2 with h2 | h2
      · have : n = 1 := by omega
        subst this
        simp
      · have : l = [] := List.length_eq_zero_iff.mp h2
        subst this
        congr 1
        simp
    · rw [if_neg h2]
      have := foldl_app n l []
      show (⟨_⟩ : Str) = sOf _
      unfold sOf
      congr 1
/-- the letters -/
def az : List Nat := (List.range 26).map (97 + ·)
theorem abc_eq : ("abcdefghijklmnopqrstuvwxyz" : Str) = sOf az := by decide +kernel
theorem az_at {k : Nat} (h : k < 26) : az[k]? = some (97 + k) := by
  unfold az
  rw [List.getElem?_map, List.getElem?_range h]
  rfl
theorem az_len : az.length = 26 := by decide
/-- a name's codes -/
def Low (l : List Nat) : Prop := ∀ c ∈ l, 97 ≤ c ∧ c < 123
def Nm (l : List Nat) : Prop := Low l ∧ 1 ≤ l.length ∧ l.length ≤ 8
/-! ### sameness of texts and numbers -/
@[simp] theorem eqOk_str {x y : Str} : eqOk (.str x) (.str y) = true := rfl
@[simp] theorem eqOk_int {x y : Int} : eqOk (.int x) (.int y) = true := rfl
@[simp] theorem eqOk_bl {x y : Bool} : eqOk (.bl x) (.bl y) = true := rfl
@[simp] theorem eqv_int {x y : Int} : (D.int x).eqv (.int y) = (x == y) := by unfold D.eqv; rfl
@[simp] theorem eqv_bl {x y : Bool} : (D.bl x).eqv (.bl y) = (x == y) := by unfold D.eqv; rfl
@[simp] theorem eqv_sOf {a b : List Nat} : (D.str (sOf a)).eqv (.str (sOf b)) = decide (a = b) := by
  rw [eqv_str]
  simp only [sOf_inj]
abbrev st (l : List Nat) : D := .str (sOf l)
theorem plain_st : ∀ xs : List (List Nat), D.plainL (xs.map st) = true
  | [] => by unfold D.plainL; rfl
  | x :: xs => by
    show D.plainL (st x :: xs.map st) = true
    unfold D.plainL
    rw [plain_st xs]
    rfl
theorem depth_st (l : List D) (x : Str) : min (PyData.depthAll (D.pyL l)) (D.str x).py.depth ≤ 60 := by
  have : (D.str x).py.depth ≤ 60 := by
    show (PyData.str x).depth ≤ 60
    unfold PyData.depth
    decide
  omega
theorem any_st (x : List Nat) (xs : List (List Nat)) : ((xs.map st).any fun y => y.eqv (st x)) = decide (x ∈ xs) := by
  induction xs with
  | nil => rfl
  | cons y ys ih =>
    rw [List.map_cons, List.any_cons, ih, eqv_sOf]
    by_cases h : y = x
    · subst h; simp
    · have h2 : ¬ x = y := fun z => h z.symm
      simp [h, h2]
theorem in_lst {x : List Nat} {xs : List (List Nat)} : (st x).isIn (.lst (xs.map st)) = some (decide (x ∈ xs)) := by
  show (if inOk (st x) (xs.map st) = true then some ((xs.map st).any fun y => y.eqv (st x)) else none) = _
  rw [if_pos, any_st]
  unfold inOk
  rw [plain_st, decide_eq_true (depth_st _ _)]
  rfl
theorem in_tup {x : List Nat} {xs : List (List Nat)} : (st x).isIn (.tup (xs.map st)) = some (decide (x ∈ xs)) := by
  show (if inOk (st x) (xs.map st) = true then some ((xs.map st).any fun y => y.eqv (st x)) else none) = _
  rw [if_pos, any_st]
  unfold inOk
  rw [plain_st, decide_eq_true (depth_st _ _)]
  rfl
theorem putS_free {o : Option Sl} (h : (o.map Sl.bor).getD false = false) {i : Nat} {r : Res} {ρ : Rho} : putS i r ρ o = some (ρ.set i (some (if r.1 = true then .cel false r.2 else .val false r.2))) := by
  unfold putS
  rw [h]
  rfl
theorem rangeD_get {a : Int} : ∀ {n i : Nat}, i < n → (rangeD a n)[i]? = some (.int (a + i))
  | 0, i, h => by omega
  | n + 1, 0, h => by simp [rangeD]
  | n + 1, i + 1, h => by
    unfold rangeD
    rw [List.getElem?_cons_succ, rangeD_get (by omega)]
    congr 2
    omega
@[simp] theorem rangeD_len {a : Int} : ∀ {n : Nat}, (rangeD a n).length = n
  | 0 => rfl
  | n + 1 => by
    unfold rangeD
    rw [List.length_cons, rangeD_len]
theorem rangeD_mem {a : Int} {d : D} : ∀ {n : Nat}, d ∈ rangeD a n → ∃ i : Nat, i < n ∧ d = .int (a + i) := fun {n} h => by
  obtain ⟨i, hi⟩ := List.getElem?_of_mem h
  have hl : i < n := by
    have := (List.getElem?_eq_some_iff.mp hi).1
    simpa using this
  rw [rangeD_get hl] at hi
  exact ⟨i, hl, (Option.some.inj hi).symm⟩
variable {Γ : Nat → Ga}
/-- a draw: some number below -/
theorem taken_ex (kt : Knows Γ "_law_taken" f__law_taken) {ns : List Int} {w : Rw} (o : w.Ok) (m : Int) (hm : 0 < m) (hm2 : m.natAbs < 2 ^ 8000) : ∃ (k : Nat) (w' : Rw), (k : Int) < m ∧ w'.Ok ∧
    ∀ L b, (Γ (L + 1)).cal "_law_taken" [.cel true (w.D ns), .val b (.int m)] = .ok (false, .int k) [some (.cel true (w'.D ns)), some (.val b (.int m))] := by
  obtain ⟨h1, h2, h3⟩ := tk_in (ns := ns) o hm
  refine ⟨(tk ns w m).1.toNat, (tk ns w m).2, by omega, h3, fun L b => ?_⟩
  rw [kt.cal, taken_run (Γ L) o hm hm2, Int.toNat_of_nonneg h1]
end Pf
end
section
set_option Elab.async false
set_option linter.all false
set_option maxRecDepth 100000
set_option maxHeartbeats 4000000
/-! Lw4: names. -/
namespace Pf
open PySem PySem.Spec PyProof.Rows L2
def f__law_names : Fn := ⟨3, 14, [.par [3, 4] [.cst (.str "abcdefghijklmnopqrstuvwxyz"), .lst []],
  .par [5, 6] [.call "_law_taken" [.var 0, .cst (.int 26)], .ap (.cmp .eq) [.call "_law_taken" [.var 0, .cst (.int 2)], .cst (.int 0)]],
  .par [7, 8] [.ap (.bin .mul) [.ap .idx [.var 3, .call "_law_taken" [.var 0, .cst (.int 26)]], .call "_law_taken" [.var 0, .cst (.int 4)]], .ap (.bin .mul) [.ap .idx [.var 3, .call "_law_taken" [.var 0, .cst (.int 26)]], .call "_law_taken" [.var 0, .cst (.int 4)]]],
  .for_ (.nm 9) .rng [.fz 1]
   [.set 10 (.ife (.var 6) (.cst (.str "")) (.ap (.bin .mul) [.ap .idx [.var 3, .call "_law_taken" [.var 0, .cst (.int 26)]], .call "_law_taken" [.var 0, .cst (.int 4)]])),
    .set 11 (.comp [12] (.nm 12) .rng [.cst (.int 26)] [] (.ap (.bin .add) [.ap (.bin .add) [.var 7, .ap .idx [.var 3, .ap (.bin .mod) [.ap (.bi .int) [.ap (.bin .add) [.ap (.bin .add) [.var 5, .ap (.bin .mul) [.cst (.int 7), .var 9]], .var 12]], .cst (.int 26)]]], .ife (.var 6) (.var 8) (.var 10)])),
    .mt 4 .append [.ap .idx [.comp [13] (.nm 13) .seq [.var 11] [.and [.ap (.cmp .notin) [.var 13, .var 4], .ap (.cmp .notin) [.var 13, .var 2]]] (.var 13), .cst (.int 0)]]],
  .ret (.var 4)]⟩
variable {Γ : Nat → Ga} {ns : List Int}
theorem lowR {c n : Nat} (h : c < 26) : Low (List.replicate n [97 + c]).flatten ∧ (List.replicate n [97 + c]).flatten.length = n := by
  constructor
  · intro x hx
    rw [List.mem_flatten] at hx
    obtain ⟨l, h1, h2⟩ := hx
    rw [List.mem_replicate] at h1
    rw [h1.2] at h2
    have := List.mem_singleton.mp h2
    omega
  · simp
def Fr (o : Option Sl) : Prop := (o.map Sl.bor).getD false = false
structure NmI (ns : List Int) (tl : List (List Nat)) (many : Nat) (b b2 : Bool) (k1 : Nat) (near : Bool) (hd ta : List Nat) (i : Nat) (ρ : Rho) : Prop where
  ex : ∃ (w : Rw) (xs : List (List Nat)) (s9 s10 s11 : Option Sl), w.Ok ∧ ρ = [some (.cel true (w.D ns)), some (.val b (.int many)), some (.val b2 (.lst (tl.map st))), some (.val false (st az)), some (.cel false (.lst (xs.map st))),
    some (.val false (.int k1)), some (.val false (.bl near)), some (.val false (st hd)), some (.val false (st ta)), s9, s10, s11, none, none] ∧
    xs.length = i ∧ xs.Nodup ∧ (∀ x ∈ xs, Nm x ∧ x ∉ tl) ∧ Fr s9 ∧ Fr s10 ∧ Fr s11
theorem fmod_nat (a b : Nat) : (a : Int).fmod (b : Int) = ((a % b : Nat) : Int) := by
  rw [Int.fmod_eq_emod_of_nonneg _ (Int.natCast_nonneg b)]
  rfl
/-- the names that one turn has to pick from -/
def cand (hd suf : List Nat) (c j : Nat) : List Nat := hd ++ [97 + (c + j) % 26] ++ suf
def cands (hd suf : List Nat) (c : Nat) : List (List Nat) := (List.range 26).map (cand hd suf c)
theorem some_eval (Γ : Ga) {a0 a1 a2 a4 s11 : Option Sl} {k1 i : Nat} {near : Bool} {hd ta body : List Nat} (hh : hd.length + ta.length + body.length ≤ 100) (hi : i ≤ 100) :
    ev Γ (.comp [12] (.nm 12) .rng [.cst (.int 26)] [] (.ap (.bin .add) [.ap (.bin .add) [.var 7, .ap .idx [.var 3, .ap (.bin .mod) [.ap (.bi .int) [.ap (.bin .add) [.ap (.bin .add) [.var 5, .ap (.bin .mul) [.cst (.int 7), .var 9]], .var 12]], .cst (.int 26)]]], .ife (.var 6) (.var 8) (.var 10)])) false
      [a0, a1, a2, some (.val false (st az)), a4, some (.val false (.int k1)), some (.val false (.bl near)), some (.val false (st hd)), some (.val false (st ta)), some (.val false (.int i)), some (.val false (st body)), s11, none, none] =
    .ok (true, .lst ((cands hd (if near = true then ta else body) (k1 + 7 * i)).map st)) [a0, a1, a2, some (.val false (st az)), a4, some (.val false (.int k1)), some (.val false (.bl near)), some (.val false (st hd)), some (.val false (st ta)), some (.val false (.int i)), some (.val false (st body)), s11, none, none] := by
  have hw : walkS .rng [.int 26] = some (rangeD 0 26) := rfl
  have hm : Nat.log2 7 + i.log2 < 1000000 := by
    have h1 : Nat.log2 7 = 2 := by decide
    have h2 : i.log2 < 40 := by
      by_cases h0 : i = 0
      · rw [h0]; decide
      · exact (Nat.log2_lt h0).mpr (by omega)
    omega
  rw [ev_comp]
  simp [hw]
  rw [turns_all (g := fun d => match d with | .int j => st (cand hd (if near = true then ta else body) (k1 + 7 * i) j.toNat) | _ => .non) held_val]
  · have e : (rangeD 0 26).map (fun d => match d with | .int j => st (cand hd (if near = true then ta else body) (k1 + 7 * i) j.toNat) | _ => .non) = (cands hd (if near = true then ta else body) (k1 + 7 * i)).map st := by
      have e2 : rangeD 0 26 = (List.range 26).map fun j => D.int (j : Nat) := rfl
      unfold cands
      rw [e2, List.map_map, List.map_map]
      rfl
    simp [e]
  · intro x hx
    obtain ⟨j, hj, rfl⟩ := rangeD_mem hx
    have hz : atI az (((k1 : Int) + 7 * (i : Int) + (j : Int)).fmod 26) = some (97 + (k1 + 7 * i + j) % 26) := by
      have e : ((k1 : Int) + 7 * (i : Int) + (j : Int)).fmod 26 = (((k1 + 7 * i + j) % 26 : Nat) : Int) := by
        rw [← fmod_nat]
        push_cast
        rfl
      rw [e, atI_nat]
      exact az_at (Nat.mod_lt _ (by decide))
    have s1 : hd.length + 1 ≤ 1000000 := by omega
    have s2 : hd.length + 1 + ta.length ≤ 1000000 := by omega
    have s3 : hd.length + 1 + body.length ≤ 1000000 := by omega
    cases near
    · simp [lcF_eq, hm, hz, szl, az_len, sOf_one, sOf_add, s1, s3, cand]
    · simp [lcF_eq, hm, hz, szl, az_len, sOf_one, sOf_add, s1, s2, cand]
/-- those that are still free -/
def freeOf (xs tl : List (List Nat)) (cs : List (List Nat)) : List (List Nat) := cs.filter fun c => decide (c ∉ xs) && decide (c ∉ tl)
def selD (xs tl : List (List Nat)) : D → Option D
  | .str s => if s.cps.toList ∈ xs then none else if s.cps.toList ∈ tl then none else some (.str s)
  | _ => none
theorem sel_st {xs tl : List (List Nat)} {c : List Nat} : selD xs tl (st c) = if c ∈ xs then none else if c ∈ tl then none else some (st c) := rfl
theorem sel_all {xs tl : List (List Nat)} : ∀ cs : List (List Nat), (cs.map st).filterMap (selD xs tl) = (freeOf xs tl cs).map st
  | [] => rfl
  | c :: cs => by
    rw [List.map_cons, List.filterMap_cons, sel_st, sel_all cs]
    unfold freeOf
    rw [List.filter_cons]
    by_cases h1 : c ∈ xs <;> by_cases h2 : c ∈ tl <;> simp [h1, h2]
theorem free_eval (Γ : Ga) {a0 a1 a3 a5 a6 a7 a8 a9 a10 : Option Sl} {b2 : Bool} {xs tl cs : List (List Nat)} (hl : cs.length ≤ 1000000) :
    ev Γ (.comp [13] (.nm 13) .seq [.var 11] [.and [.ap (.cmp .notin) [.var 13, .var 4], .ap (.cmp .notin) [.var 13, .var 2]]] (.var 13)) false
      [a0, a1, some (.val b2 (.lst (tl.map st))), a3, some (.cel false (.lst (xs.map st))), a5, a6, a7, a8, a9, a10, some (.cel false (.lst (cs.map st))), none, none] =
    .ok (true, .lst ((freeOf xs tl cs).map st)) [a0, a1, some (.val b2 (.lst (tl.map st))), a3, some (.cel false (.lst (xs.map st))), a5, a6, a7, a8, a9, a10, some (.cel false (.lst (cs.map st))), none, none] := by
  have hw : walkS .seq [.lst (cs.map st)] = some (cs.map st) := by
    show (if szl (cs.map st).length = true then some (cs.map st) else none) = _
    rw [if_pos]
    unfold szl
    rw [List.length_map]
    exact decide_eq_true hl
  rw [ev_comp]
  simp [hw]
  rw [turns_map (g := selD xs tl)]
  · rw [sel_all]
    simp
  · unfold held
    simp [D.sameL_refl]
  · intro x hx
    obtain ⟨c, hc, rfl⟩ := List.mem_map.mp hx
    by_cases h1 : c ∈ xs <;> by_cases h2 : c ∈ tl <;> simp [lcF_eq, in_lst, sel_st, h1, h2]
theorem sub_len : ∀ {l m : List (List Nat)}, l.Nodup → (∀ x ∈ l, x ∈ m) → l.length ≤ m.length
  | [], m, _, _ => Nat.zero_le _
  | x :: l, m, hn, hs => by
    rw [List.nodup_cons] at hn
    have hx : x ∈ m := hs x List.mem_cons_self
    have h1 := sub_len (l := l) (m := m.erase x) hn.2 fun y hy => by
      have hne : y ≠ x := fun z => hn.1 (z ▸ hy)
      exact (List.mem_erase_of_ne hne).mpr (hs y (List.mem_cons_of_mem _ hy))
    rw [List.length_erase_of_mem hx] at h1
    have := List.length_pos_of_mem hx
    rw [List.length_cons]
    omega
theorem cands_nodup (hd suf : List Nat) (c : Nat) : (cands hd suf c).Nodup := by
  unfold cands
  rw [List.Nodup, List.pairwise_map]
  refine List.Pairwise.imp_of_mem (fun {a b} ha hb hab z => ?_) (List.nodup_range (n := 26))
  rw [List.mem_range] at ha hb
  unfold cand at z
  have z2 := List.append_cancel_right z
  have z3 := List.append_cancel_left z2
  injection z3 with z4
  omega
theorem free_some {xs tl : List (List Nat)} {hd suf : List Nat} {c : Nat} (h : xs.length + tl.length < 26) : ∃ y ys j, freeOf xs tl (cands hd suf c) = y :: ys ∧ y ∉ xs ∧ y ∉ tl ∧ y = cand hd suf c j := by
  cases e : freeOf xs tl (cands hd suf c) with
  | nil =>
    exfalso
    have h1 := sub_len (l := cands hd suf c) (m := xs ++ tl) (cands_nodup hd suf c) fun x hx => by
      by_cases h2 : x ∈ xs ++ tl
      · exact h2
      · rw [List.mem_append, not_or] at h2
        have h3 : x ∈ freeOf xs tl (cands hd suf c) := List.mem_filter.mpr ⟨hx, by simp [h2.1, h2.2]⟩
        rw [e] at h3
        cases h3
    have h2 : (cands hd suf c).length = 26 := by unfold cands; simp
    rw [List.length_append] at h1
    omega
  | cons y ys =>
    have h3 : y ∈ freeOf xs tl (cands hd suf c) := by rw [e]; exact List.mem_cons_self
    obtain ⟨h4, h5⟩ := List.mem_filter.mp h3
    simp at h5
    obtain ⟨j, _, h6⟩ := List.mem_map.mp h4
    exact ⟨y, ys, j, rfl, h5.1, h5.2, h6.symm⟩
@[simp] theorem mt_append {l : List D} {x : D} : mtD .append (.lst l) [x] = if szl (l.length + 1) = true then some (.lst (l ++ [x])) else none := rfl
theorem nil_eq : ("" : Str) = sOf [] := by decide +kernel
theorem cands_len (hd suf : List Nat) (c : Nat) : (cands hd suf c).length = 26 := by unfold cands; simp
theorem cand_nm {k c n d e j : Nat} (hc : c < 26) (hd : d < 26) (hk : k < 4) (hn : n < 4) : Nm (cand (List.replicate k (97 + c)) (List.replicate n (97 + d)) e j) := by
  have hm : (e + j) % 26 < 26 := Nat.mod_lt _ (by decide)
  refine ⟨fun x hx => ?_, ?_, ?_⟩
  · unfold cand at hx
    simp only [List.mem_append, List.mem_replicate, List.mem_singleton] at hx
    omega
  · unfold cand; simp; omega
  · unfold cand; simp; omega
theorem nodup_snoc {xs : List (List Nat)} {y : List Nat} (h : xs.Nodup) (hy : y ∉ xs) : (xs ++ [y]).Nodup := by
  rw [List.nodup_append]
  exact ⟨h, List.pairwise_singleton _ _, fun a ha b hb z => by rw [List.mem_singleton] at hb; subst hb; subst z; exact hy ha⟩
theorem names_run (kt : Knows Γ "_law_taken" f__law_taken) (L : Nat) {w : Rw} (o : w.Ok) (many : Nat) (tl : List (List Nat)) (hm : many + tl.length < 26) (b b2 : Bool) :
    ∃ (xs : List (List Nat)) (w' : Rw) (q1 q2 : Option Sl), w'.Ok ∧ run1 (Γ (L + 1)) f__law_names [.cel true (w.D ns), .val b (.int many), .val b2 (.lst (tl.map st))] = .ok (true, .lst (xs.map st)) [some (.cel true (w'.D ns)), q1, q2] ∧
      xs.length = many ∧ xs.Nodup ∧ ∀ x ∈ xs, Nm x ∧ x ∉ tl := by
  obtain ⟨k1, w1, l1, o1, c1⟩ := taken_ex kt (ns := ns) o 26 (by decide) (small_nat (n := 26) (by decide))
  obtain ⟨k2, w2, l2, o2, c2⟩ := taken_ex kt (ns := ns) o1 2 (by decide) (small_nat (n := 2) (by decide))
  obtain ⟨k3, w3, l3, o3, c3⟩ := taken_ex kt (ns := ns) o2 26 (by decide) (small_nat (n := 26) (by decide))
  obtain ⟨k4, w4, l4, o4, c4⟩ := taken_ex kt (ns := ns) o3 4 (by decide) (small_nat (n := 4) (by decide))
  obtain ⟨k5, w5, l5, o5, c5⟩ := taken_ex kt (ns := ns) o4 26 (by decide) (small_nat (n := 26) (by decide))
  obtain ⟨k6, w6, l6, o6, c6⟩ := taken_ex kt (ns := ns) o5 4 (by decide) (small_nat (n := 4) (by decide))
  have a3 : az[k3]? = some (97 + k3) := az_at (by omega)
  have a5 : az[k5]? = some (97 + k5) := az_at (by omega)
  have m4 : (k4 : Int) ≤ 1000 := by omega
  have m6 : (k6 : Int) ≤ 1000 := by omega
  have mm : (-1000000 ≤ (many : Int) ∧ (many : Int) ≤ 1000000) := by omega
  have hwalk : walk .rng [.int many] = some (rangeD 0 many) := by
    show (if -1000000 ≤ (many : Int) ∧ (many : Int) ≤ 1000000 then some (rangeD 0 (many : Int).toNat) else none) = _
    rw [if_pos mm]
    rfl
  simp [run1_eq, f__law_names, finR, abc_eq, kt.has, kt.frz, c1, c2, c3, c4, c5, c6, Pf.putAll, Op.new, atI_nat, a3, a5, szl, sOf_one, sOf_mul, ex_for, az_len, m4, m6, hwalk]
  generalize ((k2 : Int) == 0) = near
  generalize hlo : loop _ _ _ _ = out
  have key : ∃ ρ, out = .nx ρ ∧ NmI ns tl many b b2 k1 near (List.replicate k4 (97 + k3)) (List.replicate k6 (97 + k5)) many ρ := by
    rw [← hlo]
    refine loop_at (R := fun out => ∃ ρ, out = .nx ρ ∧ NmI ns tl many b b2 k1 near (List.replicate k4 (97 + k3)) (List.replicate k6 (97 + k5)) many ρ) (NmI ns tl many b b2 k1 near (List.replicate k4 (97 + k3)) (List.replicate k6 (97 + k5))) ?_ ?_ ?_
    · exact ⟨w6, [], none, none, none, o6, rfl, rfl, List.nodup_nil, (fun x hx => nomatch hx), rfl, rfl, rfl⟩
    · intro ρ h
      rw [rangeD_len] at h
      exact ⟨held_val, ρ, rfl, h⟩
    · intro i x ρ hx ⟨w, xs, s9, s10, s11, ow, hρ, hl, hn, hp, f9, f10, f11⟩
      refine ⟨held_val, ?_⟩
      subst hρ
      have hi : i < many := by
        have := (List.getElem?_eq_some_iff.mp hx).1
        simpa using this
      rw [rangeD_get hi] at hx
      cases hx
      obtain ⟨k7, w7, l7, o7, c7⟩ := taken_ex kt (ns := ns) ow 26 (by decide) (small_nat (n := 26) (by decide))
      obtain ⟨k8, w8, l8, o8, c8⟩ := taken_ex kt (ns := ns) o7 4 (by decide) (small_nat (n := 4) (by decide))
      have a7 : az[k7]? = some (97 + k7) := az_at (by omega)
      have m8 : (k8 : Int) ≤ 1000 := by omega
      have hxl : xs.length + 1 ≤ 1000000 := by omega
      cases near
      · obtain ⟨y, ys, j, hy, y1, y2, y3⟩ := free_some (xs := xs) (tl := tl) (hd := List.replicate k4 (97 + k3)) (suf := List.replicate k8 (97 + k7)) (c := k1 + 7 * i) (by omega)
        have se := fun a0 a1 a2 a4 s11 => some_eval (Γ (L + 1)) (a0 := a0) (a1 := a1) (a2 := a2) (a4 := a4) (s11 := s11) (k1 := k1) (i := i) (near := false) (hd := List.replicate k4 (97 + k3)) (ta := List.replicate k6 (97 + k5)) (body := List.replicate k8 (97 + k7)) (by simp; omega) (by omega)
        have fe := fun a0 a1 a3 a5 a6 a7 a8 a9 a10 => free_eval (Γ (L + 1)) (a0 := a0) (a1 := a1) (a3 := a3) (a5 := a5) (a6 := a6) (a7 := a7) (a8 := a8) (a9 := a9) (a10 := a10) (b2 := b2) (xs := xs) (tl := tl) (cs := cands (List.replicate k4 (97 + k3)) (List.replicate k8 (97 + k7)) (k1 + 7 * i)) (by rw [cands_len]; decide)
        simp [putS_free f9, putS_free f10, putS_free f11, kt.has, kt.frz, c7, c8, Op.new, atI_nat, a7, szl, sOf_one, sOf_mul, az_len, m8, se, fe, hy, hxl]
        refine ⟨w8, xs ++ [y], some (.val false (.int i)), some (.val false (st (List.replicate k8 (97 + k7)))), some (.cel false (.lst ((cands (List.replicate k4 (97 + k3)) (List.replicate k8 (97 + k7)) (k1 + 7 * i)).map st))), o8, by simp, by simp [hl], nodup_snoc hn y1, fun x hx => ?_, rfl, rfl, rfl⟩
        rcases List.mem_append.mp hx with hx | hx
        · exact hp x hx
        · rw [List.mem_singleton] at hx
          subst hx
          exact ⟨y3 ▸ cand_nm (by omega) (by omega) (by omega) (by omega), y2⟩
      · obtain ⟨y, ys, j, hy, y1, y2, y3⟩ := free_some (xs := xs) (tl := tl) (hd := List.replicate k4 (97 + k3)) (suf := List.replicate k6 (97 + k5)) (c := k1 + 7 * i) (by omega)
        have se := fun a0 a1 a2 a4 s11 => some_eval (Γ (L + 1)) (a0 := a0) (a1 := a1) (a2 := a2) (a4 := a4) (s11 := s11) (k1 := k1) (i := i) (near := true) (hd := List.replicate k4 (97 + k3)) (ta := List.replicate k6 (97 + k5)) (body := []) (by simp; omega) (by omega)
        have fe := fun a0 a1 a3 a5 a6 a7 a8 a9 a10 => free_eval (Γ (L + 1)) (a0 := a0) (a1 := a1) (a3 := a3) (a5 := a5) (a6 := a6) (a7 := a7) (a8 := a8) (a9 := a9) (a10 := a10) (b2 := b2) (xs := xs) (tl := tl) (cs := cands (List.replicate k4 (97 + k3)) (List.replicate k6 (97 + k5)) (k1 + 7 * i)) (by rw [cands_len]; decide)
        simp [putS_free f9, putS_free f10, putS_free f11, nil_eq, szl, se, fe, hy, hxl]
        refine ⟨w, xs ++ [y], some (.val false (.int i)), some (.val false (st [])), some (.cel false (.lst ((cands (List.replicate k4 (97 + k3)) (List.replicate k6 (97 + k5)) (k1 + 7 * i)).map st))), ow, by simp, by simp [hl], nodup_snoc hn y1, fun x hx => ?_, rfl, rfl, rfl⟩
        rcases List.mem_append.mp hx with hx | hx
        · exact hp x hx
        · rw [List.mem_singleton] at hx
          subst hx
          exact ⟨y3 ▸ cand_nm (by omega) (by omega) (by omega) (by omega), y2⟩
  obtain ⟨ρ, rfl, w', xs, s9, s10, s11, ow, rfl, hl, hn, hp, _⟩ := key
  refine ⟨xs, w', ow, ?_, hl, hn, hp⟩
  simp [finR]
end Pf
end
section
set_option Elab.async false
set_option linter.all false
set_option maxRecDepth 100000
set_option maxHeartbeats 4000000
/-! Lw5: nets. -/
namespace Pf
open PySem PySem.Spec PyProof.Rows L2
def f__law_net : Fn := ⟨2, 15, [.set 2 (.ap (.cmp .eq) [.call "_law_taken" [.var 0, .cst (.int 12)], .cst (.int 0)]),
  .set 3 (.ife (.var 2) (.cst (.int 8)) (.ap (.bin .add) [.cst (.int 2), .call "_law_taken" [.var 0, .ap (.bin .sub) [.var 1, .cst (.int 1)]]])),
  .par [4, 5, 6] [.call "_law_names" [.var 0, .var 3, .lst []], .lst [], .lst []],
  .for_ (.nm 7) .rng [.fz 3]
   [.set 8 (.ife (.ap (.cmp .eq) [.call "_law_taken" [.var 0, .cst (.int 4)], .cst (.int 0)]) (.cst (.str "tank")) (.cst (.str "joint"))),
    .set 9 (.ife (.ap (.cmp .eq) [.var 8, .cst (.str "tank")]) (.cst (.int 0)) (.call "_law_pick" [.var 0, .lst [.cst (.int 0), .cst (.int 0), .cst (.int 0), .cst (.int 1), .cst (.int 2), .ife (.var 2) (.cst (.int 60)) (.cst (.int 5))]])),
    .mt 5 .append [.tup [.ap .idx [.var 4, .var 7], .var 8, .var 9]]],
  .set 10 (.call "_law_names" [.var 0, .cst (.int 12), .lst []]),
  .for_ (.nm 7) .rng [.cst (.int 1), .fz 3]
   [.set 11 (.call "_law_taken" [.var 0, .var 7]),
    .set 12 (.call "_law_pick" [.var 0, .lst [.tup [.ap .idx [.var 4, .var 7], .ap .idx [.var 4, .var 11]], .tup [.ap .idx [.var 4, .var 11], .ap .idx [.var 4, .var 7]]]]),
    .mt 6 .append [.tup [.ap .idx [.var 10, .ap (.bi .len) [.var 6]], .ap .idx [.var 12, .cst (.int 0)], .ap .idx [.var 12, .cst (.int 1)], .ap (.bin .add) [.cst (.int 1), .call "_law_taken" [.var 0, .ife (.var 2) (.cst (.int 6)) (.cst (.int 3))]], .ap (.bin .add) [.cst (.int 1), .call "_law_taken" [.var 0, .ife (.var 2) (.cst (.int 9)) (.cst (.int 4))]]]]],
  .for_ (.nm 13) .rng [.ife (.var 2) (.cst (.int 5)) (.call "_law_taken" [.var 0, .cst (.int 3)])]
   [.set 14 (.call "_law_taken" [.var 0, .var 3]),
    .set 11 (.ap (.bin .mod) [.ap (.bi .int) [.ap (.bin .add) [.ap (.bin .add) [.var 14, .cst (.int 1)], .call "_law_taken" [.var 0, .ap (.bin .sub) [.var 3, .cst (.int 1)]]]], .var 3]),
    .mt 6 .append [.tup [.ap .idx [.var 10, .ap (.bi .len) [.var 6]], .ap .idx [.var 4, .var 14], .ap .idx [.var 4, .var 11], .ap (.bin .add) [.cst (.int 1), .call "_law_taken" [.var 0, .cst (.int 3)]], .ap (.bin .add) [.cst (.int 1), .call "_law_taken" [.var 0, .cst (.int 4)]]]]],
  .ret (.tup [.ap (.bi .tuple) [.var 5], .ap (.bi .tuple) [.var 6]])]⟩
structure Nd where
  nm : List Nat
  tank : Bool
  ves : Nat
def kindS (t : Bool) : Str := if t = true then "tank" else "joint"
def Nd.D (n : Nd) : D := .tup [st n.nm, .str (kindS n.tank), .int n.ves]
structure Nd.Ok (n : Nd) : Prop where
  nm : Nm n.nm
  tank : n.tank = true → n.ves = 0
  ves : n.ves ≤ 60
structure Pp where
  nm : List Nat
  one : List Nat
  other : List Nat
  ticks : Nat
  size : Nat
def Pp.D (p : Pp) : D := .tup [st p.nm, st p.one, st p.other, .int p.ticks, .int p.size]
structure Pp.Ok (names : List (List Nat)) (p : Pp) : Prop where
  nm : Nm p.nm
  one : p.one ∈ names
  other : p.other ∈ names
  ne : p.one ≠ p.other
  t1 : 1 ≤ p.ticks
  t2 : p.ticks ≤ 6
  s1 : 1 ≤ p.size
  s2 : p.size ≤ 9
structure NetOk (ns : List Nd) (ps : List Pp) : Prop where
  n1 : 2 ≤ ns.length
  n2 : ns.length ≤ 8
  nn : (ns.map Nd.nm).Nodup
  nk : ∀ n ∈ ns, n.Ok
  p1 : 1 ≤ ps.length
  p2 : ps.length ≤ 12
  pn : (ps.map Pp.nm).Nodup
  pk : ∀ p ∈ ps, p.Ok (ns.map Nd.nm)
  cov : ∀ n ∈ ns, ∃ p ∈ ps, p.one = n.nm ∨ p.other = n.nm
variable {Γ : Nat → Ga} {ns : List Int}
structure NdI (ns : List Int) (bm : Bool) (most many : Nat) (wide : Bool) (xs : List (List Nat)) (i : Nat) (ρ : Rho) : Prop where
  ex : ∃ (w : Rw) (nds : List Nd) (s7 s8 s9 : Option Sl), w.Ok ∧ ρ = [some (.cel true (w.D ns)), some (.val bm (.int most)), some (.val false (.bl wide)), some (.val false (.int many)), some (.cel false (.lst (xs.map st))), some (.cel false (.lst (nds.map Nd.D))), some (.cel false (.lst [])),
    s7, s8, s9, none, none, none, none, none] ∧ nds.map Nd.nm = xs.take i ∧ (∀ n ∈ nds, n.Ok) ∧ Fr s7 ∧ Fr s8 ∧ Fr s9
structure PpI (ns : List Int) (bm : Bool) (most many : Nat) (wide : Bool) (xs ys : List (List Nat)) (nds : List Nd) (s8 s9 : Option Sl) (i : Nat) (ρ : Rho) : Prop where
  ex : ∃ (w : Rw) (ps : List Pp) (s7 s11 s12 : Option Sl), w.Ok ∧ ρ = [some (.cel true (w.D ns)), some (.val bm (.int most)), some (.val false (.bl wide)), some (.val false (.int many)), some (.cel false (.lst (xs.map st))), some (.cel false (.lst (nds.map Nd.D))), some (.cel false (.lst (ps.map Pp.D))),
    s7, s8, s9, some (.cel false (.lst (ys.map st))), s11, s12, none, none] ∧ ps.length = i ∧ ps.map Pp.nm = ys.take i ∧ (∀ p ∈ ps, p.Ok xs) ∧ (∀ k, k ≤ i → 0 < i → ∃ p ∈ ps, some p.one = xs[k]? ∨ some p.other = xs[k]?) ∧ Fr s7 ∧ Fr s11 ∧ Fr s12
structure PqI (ns : List Int) (bm : Bool) (most many : Nat) (wide : Bool) (xs ys : List (List Nat)) (nds : List Nd) (s7 s8 s9 s12 : Option Sl) (i : Nat) (ρ : Rho) : Prop where
  ex : ∃ (w : Rw) (ps : List Pp) (s11 s13 s14 : Option Sl), w.Ok ∧ ρ = [some (.cel true (w.D ns)), some (.val bm (.int most)), some (.val false (.bl wide)), some (.val false (.int many)), some (.cel false (.lst (xs.map st))), some (.cel false (.lst (nds.map Nd.D))), some (.cel false (.lst (ps.map Pp.D))),
    s7, s8, s9, some (.cel false (.lst (ys.map st))), s11, s12, s13, s14] ∧ ps.length = many - 1 + i ∧ ps.map Pp.nm = ys.take (many - 1 + i) ∧ (∀ p ∈ ps, p.Ok xs) ∧ (∀ k, k ≤ many - 1 → ∃ p ∈ ps, some p.one = xs[k]? ∨ some p.other = xs[k]?) ∧ Fr s11 ∧ Fr s13 ∧ Fr s14
theorem pp_cov {xs : List (List Nat)} {ps : List Pp} {p : Pp} {i k : Nat} {a c : List Nat} (old : ∀ k, k ≤ i → 0 < i → ∃ p ∈ ps, some p.one = xs[k]? ∨ some p.other = xs[k]?) (ha : xs[1 + i]? = some a) (hc : xs[k]? = some c) (hk : k < 1 + i)
    (hp : (p.one = a ∧ p.other = c) ∨ (p.one = c ∧ p.other = a)) : ∀ j, j ≤ i + 1 → 0 < i + 1 → ∃ q ∈ ps ++ [p], some q.one = xs[j]? ∨ some q.other = xs[j]? := by
  intro j hj _
  by_cases h1 : j = 1 + i
  · subst h1
    refine ⟨p, by simp, ?_⟩
    rw [ha]
    rcases hp with ⟨h2, h3⟩ | ⟨h2, h3⟩
    · exact .inl (by rw [h2])
    · exact .inr (by rw [h3])
  · by_cases h0 : 0 < i
    · obtain ⟨q, h2, h3⟩ := old j (by omega) h0
      exact ⟨q, List.mem_append_left _ h2, h3⟩
    · have e : j = k := by omega
      subst e
      refine ⟨p, by simp, ?_⟩
      rw [hc]
      rcases hp with ⟨h2, h3⟩ | ⟨h2, h3⟩
      · exact .inr (by rw [h3])
      · exact .inl (by rw [h2])
theorem net_run (kt : Knows Γ "_law_taken" f__law_taken) (kp : Knows Γ "_law_pick" f__law_pick) (kn : Knows Γ "_law_names" f__law_names) (L : Nat) {w : Rw} (o : w.Ok) (most : Nat) (hm : 2 ≤ most) (hm2 : most ≤ 8) (bm : Bool) :
    ∃ (nds : List Nd) (ps : List Pp) (w' : Rw) (q : Option Sl), w'.Ok ∧ NetOk nds ps ∧ run1 (Γ (L + 3)) f__law_net [.cel true (w.D ns), .val bm (.int most)] = .ok (false, .tup [.tup (nds.map Nd.D), .tup (ps.map Pp.D)]) [some (.cel true (w'.D ns)), q] := by
  obtain ⟨k1, w1, l1, o1, c1⟩ := taken_ex kt (ns := ns) o 12 (by decide) (small_nat (n := 12) (by decide))
  -- the number of nodes
  obtain ⟨many, w2, o2, hn1, hn2, c2⟩ : ∃ (many : Nat) (w2 : Rw), w2.Ok ∧ 2 ≤ many ∧ many ≤ 8 ∧ ∀ (r : Rho) (h : r = [some (.cel true (w1.D ns)), some (.val bm (.int most)), some (.val false (.bl ((k1 : Int) == 0))), none, none, none, none, none, none, none, none, none, none, none, none]),
      ev (Γ (L + 3)) (.ife (.var 2) (.cst (.int 8)) (.ap (.bin .add) [.cst (.int 2), .call "_law_taken" [.var 0, .ap (.bin .sub) [.var 1, .cst (.int 1)]]])) false r = .ok (false, .int many) (r.set 0 (some (.cel true (w2.D ns)))) := by
    by_cases h : (k1 : Int) = 0
    · refine ⟨8, w1, o1, by decide, by decide, fun r hr => ?_⟩
      subst hr
      simp [h]
    · obtain ⟨k2, w2, l2, o2, c2⟩ := taken_ex kt (ns := ns) o1 (most - 1) (by omega) (by have := small_nat (n := most - 1) (by omega); omega)
      refine ⟨2 + k2, w2, o2, by omega, by omega, fun r hr => ?_⟩
      subst hr
      have h2 : k1 ≠ 0 := by omega
      simp [h2, kt.has, kt.frz, c2, Op.new]
  obtain ⟨xs, w3, q1, q2, o3, c3, hx1, hx2, hx3⟩ := names_run kt (L + 1) o2 many [] (by simp; omega) false false (ns := ns)
  have c3 : (Γ (L + 3)).cal "_law_names" [.cel true (w2.D ns), .val false (.int many), .val false (.lst [])] = .ok (true, .lst (xs.map st)) [some (.cel true (w3.D ns)), q1, q2] := by rw [kn.cal]; exact c3
  have hwalk : walk .rng [.int many] = some (rangeD 0 many) := by
    show (if -1000000 ≤ (many : Int) ∧ (many : Int) ≤ 1000000 then some (rangeD 0 (many : Int).toNat) else none) = _
    rw [if_pos (by omega)]
    rfl
  simp [run1_eq, f__law_net, finR, kt.has, kt.frz, kn.has, kn.frz, c1, c2, c3, Pf.putAll, Op.new, ex_for, hwalk, -ev_ife]
  generalize ((k1 : Int) == 0) = wide
  generalize hlo : loop _ _ _ _ = out
  have key : ∃ ρ, out = .nx ρ ∧ NdI ns bm most many wide xs many ρ := by
    rw [← hlo]
    refine loop_at (R := fun out => ∃ ρ, out = .nx ρ ∧ NdI ns bm most many wide xs many ρ) (NdI ns bm most many wide xs) ?_ ?_ ?_
    · exact ⟨w3, [], none, none, none, o3, rfl, rfl, (fun x hx => nomatch hx), rfl, rfl, rfl⟩
    · intro ρ h
      rw [rangeD_len] at h
      exact ⟨held_val, ρ, rfl, h⟩
    · intro i x ρ hx ⟨w, nds, s7, s8, s9, ow, hρ, hl, hp, f7, f8, f9⟩
      refine ⟨held_val, ?_⟩
      subst hρ
      have hi : i < many := by
        have := (List.getElem?_eq_some_iff.mp hx).1
        simpa using this
      rw [rangeD_get hi] at hx
      cases hx
      obtain ⟨k4, w4, l4, o4, c4⟩ := taken_ex kt (ns := ns) ow 4 (by decide) (small_nat (n := 4) (by decide))
      have hxi : xs[i]? = some xs[i] := List.getElem?_eq_getElem (by omega)
      have hnl : nds.length + 1 ≤ 1000000 := by
        have := congrArg List.length hl
        simp at this
        omega
      have htk : xs.take i ++ [xs[i]] = xs.take (i + 1) := by
        rw [List.take_succ, hxi]
        rfl
      by_cases h4 : k4 = 0
      · simp [putS_free f7, putS_free f8, putS_free f9, kt.has, kt.frz, c4, h4, eqv_str, szl, atI_nat, hxi, hnl]
        refine ⟨w4, nds ++ [⟨xs[i], true, 0⟩], some (.val false (.int i)), some (.val false (.str "tank")), some (.val false (.int 0)), o4, by simp [Nd.D, kindS], by rw [List.map_append, hl]; exact htk, fun n hn => ?_, rfl, rfl, rfl⟩
        rcases List.mem_append.mp hn with hn | hn
        · exact hp n hn
        · rw [List.mem_singleton] at hn
          subst hn
          exact ⟨(hx3 _ (List.getElem_mem _)).1, fun _ => rfl, Nat.zero_le _⟩
      · have hjt : (("joint" : Str) = "tank") = False := eq_false (by decide +kernel)
        cases wide
        · obtain ⟨d, w5, d5, o5, c5⟩ := pick_ex kt kp (ns := ns) o4 [.int 0, .int 0, .int 0, .int 1, .int 2, .int 5] (by simp) (by simp)
          obtain ⟨v, rfl, hv⟩ : ∃ v : Nat, d = .int v ∧ v ≤ 60 := by
            simp only [List.mem_cons, List.not_mem_nil, or_false] at d5
            rcases d5 with h | h | h | h | h | h
            · exact ⟨0, h, by omega⟩
            · exact ⟨0, h, by omega⟩
            · exact ⟨0, h, by omega⟩
            · exact ⟨1, h, by omega⟩
            · exact ⟨2, h, by omega⟩
            · exact ⟨5, h, by omega⟩
          simp [putS_free f7, putS_free f8, putS_free f9, kt.has, kt.frz, kp.has, kp.frz, c4, c5, h4, hjt, eqv_str, szl, atI_nat, hxi, hnl]
          refine ⟨w5, nds ++ [⟨xs[i], false, v⟩], some (.val false (.int i)), some (.val false (.str "joint")), some (.val false (.int v)), o5, by simp [Nd.D, kindS], by rw [List.map_append, hl]; exact htk, fun n hn => ?_, rfl, rfl, rfl⟩
          rcases List.mem_append.mp hn with hn | hn
          · exact hp n hn
          · rw [List.mem_singleton] at hn
            subst hn
            exact ⟨(hx3 _ (List.getElem_mem _)).1, (fun z => by cases z), hv⟩
        · obtain ⟨d, w5, d5, o5, c5⟩ := pick_ex kt kp (ns := ns) o4 [.int 0, .int 0, .int 0, .int 1, .int 2, .int 60] (by simp) (by simp)
          obtain ⟨v, rfl, hv⟩ : ∃ v : Nat, d = .int v ∧ v ≤ 60 := by
            simp only [List.mem_cons, List.not_mem_nil, or_false] at d5
            rcases d5 with h | h | h | h | h | h
            · exact ⟨0, h, by omega⟩
            · exact ⟨0, h, by omega⟩
            · exact ⟨0, h, by omega⟩
            · exact ⟨1, h, by omega⟩
            · exact ⟨2, h, by omega⟩
            · exact ⟨60, h, by omega⟩
          simp [putS_free f7, putS_free f8, putS_free f9, kt.has, kt.frz, kp.has, kp.frz, c4, c5, h4, hjt, eqv_str, szl, atI_nat, hxi, hnl]
          refine ⟨w5, nds ++ [⟨xs[i], false, v⟩], some (.val false (.int i)), some (.val false (.str "joint")), some (.val false (.int v)), o5, by simp [Nd.D, kindS], by rw [List.map_append, hl]; exact htk, fun n hn => ?_, rfl, rfl, rfl⟩
          rcases List.mem_append.mp hn with hn | hn
          · exact hp n hn
          · rw [List.mem_singleton] at hn
            subst hn
            exact ⟨(hx3 _ (List.getElem_mem _)).1, (fun z => by cases z), hv⟩
  obtain ⟨ρ, rfl, w4, nds, s7, s8, s9, o4, rfl, hnm, hok, _⟩ := key
  obtain ⟨ys, w5, q3, q4, o5, c5, hy1, hy2, hy3⟩ := names_run kt (L + 1) o4 12 [] (by simp) false false (ns := ns)
  have c5 : (Γ (L + 3)).cal "_law_names" [.cel true (w4.D ns), .val false (.int 12), .val false (.lst [])] = .ok (true, .lst (ys.map st)) [some (.cel true (w5.D ns)), q3, q4] := by rw [kn.cal]; exact c5
  have hwalk2 : walk .rng [.int 1, .int many] = some (rangeD 1 (many - 1)) := by
    show (if (-1000000 ≤ (1 : Int) ∧ (1 : Int) ≤ 1000000) ∧ -1000000 ≤ (many : Int) ∧ (many : Int) ≤ 1000000 then some (rangeD 1 ((many : Int) - 1).toNat) else none) = _
    rw [if_pos (by omega)]
    congr 2
    omega
  simp [kn.has, kn.frz, c5, ex_for, hwalk2]
  generalize hlo2 : loop _ _ _ _ = out2
  have key2 : ∃ ρ, out2 = .nx ρ ∧ PpI ns bm most many wide xs ys nds s8 s9 (many - 1) ρ := by
    rw [← hlo2]
    refine loop_at (R := fun out => ∃ ρ, out = .nx ρ ∧ PpI ns bm most many wide xs ys nds s8 s9 (many - 1) ρ) (PpI ns bm most many wide xs ys nds s8 s9) ?_ ?_ ?_
    · exact ⟨w5, [], s7, none, none, o5, rfl, rfl, rfl, (fun x hx => nomatch hx), (fun k _ h => absurd h (Nat.lt_irrefl 0)), by simp_all, rfl, rfl⟩
    · intro ρ h
      rw [rangeD_len] at h
      exact ⟨held_val2, ρ, rfl, h⟩
    · intro i x ρ hx ⟨w, ps, s7, s11, s12, ow, hρ, hps, hpn, hpk, hcov, f7, f11, f12⟩
      refine ⟨held_val2, ?_⟩
      subst hρ
      have hi : i < many - 1 := by
        have := (List.getElem?_eq_some_iff.mp hx).1
        simpa using this
      rw [rangeD_get hi] at hx
      cases hx
      obtain ⟨k7, w7, l7, o7, c7⟩ := taken_ex kt (ns := ns) ow (1 + (i : Int)) (by omega) (by have := small_nat (n := 1 + i) (by omega); omega)
      have h1 : atI (xs.map st) (1 + (i : Int)) = some (st xs[1 + i]) := by
        have : (1 + (i : Int)) = ((1 + i : Nat) : Int) := by omega
        rw [this, atI_nat, List.getElem?_map, List.getElem?_eq_getElem (by omega)]
        rfl
      have hxk : xs[k7]? = some xs[k7] := List.getElem?_eq_getElem (by omega)
      have hyi : ys[i]? = some ys[i] := List.getElem?_eq_getElem (by omega)
      have hpl : i + 1 ≤ 1000000 := by omega
      obtain ⟨d, w8, d8, o8, c8⟩ := pick_ex kt kp (ns := ns) o7 [.tup [st xs[1 + i], st xs[k7]], .tup [st xs[k7], st xs[1 + i]]] (by simp) (by simp)
      simp only [List.mem_cons, List.not_mem_nil, or_false] at d8
      have hx1i : xs[1 + i]? = some xs[1 + i] := List.getElem?_eq_getElem (by omega)
      have hne : xs[1 + i] ≠ xs[k7] := fun z => by
        exact List.pairwise_iff_getElem.mp hx2 k7 (1 + i) (by omega) (by omega) (by omega) z.symm
      cases wide
      · obtain ⟨k9, w9, l9, o9, c9⟩ := taken_ex kt (ns := ns) o8 3 (by decide) (small_nat (n := 3) (by decide))
        obtain ⟨k10, w10, l10, o10, c10⟩ := taken_ex kt (ns := ns) o9 4 (by decide) (small_nat (n := 4) (by decide))
        rcases d8 with rfl | rfl
        · simp [putS_free f7, putS_free f11, putS_free f12, kt.has, kt.frz, kp.has, kp.frz, c7, c8, c9, c10, szl, atI_nat, h1, hxk, hyi, hpl, hps, Op.new]
          refine ⟨w10, ps ++ [⟨ys[i], xs[1 + i], xs[k7], 1 + k9, 1 + k10⟩], some (.val false (.int (1 + (i : Int)))), some (.val false (.int k7)), some (.val false (.tup [st (xs[1 + i]), st (xs[k7])])), o10, by simp [Pp.D], by simp [hps], ?_, fun p hp => ?_, pp_cov hcov hx1i hxk (by omega) (.inl ⟨rfl, rfl⟩), rfl, rfl, rfl⟩
          · rw [List.map_append, hpn, List.take_succ, hyi]
            rfl
          · rcases List.mem_append.mp hp with hp | hp
            · exact hpk p hp
            · rw [List.mem_singleton] at hp
              subst hp
              exact ⟨(hy3 _ (List.getElem_mem _)).1, List.getElem_mem _, List.getElem_mem _, hne, by show 1 ≤ 1 + k9; omega, by show 1 + k9 ≤ 6; omega, by show 1 ≤ 1 + k10; omega, by show 1 + k10 ≤ 9; omega⟩
        · simp [putS_free f7, putS_free f11, putS_free f12, kt.has, kt.frz, kp.has, kp.frz, c7, c8, c9, c10, szl, atI_nat, h1, hxk, hyi, hpl, hps, Op.new]
          refine ⟨w10, ps ++ [⟨ys[i], xs[k7], xs[1 + i], 1 + k9, 1 + k10⟩], some (.val false (.int (1 + (i : Int)))), some (.val false (.int k7)), some (.val false (.tup [st (xs[k7]), st (xs[1 + i])])), o10, by simp [Pp.D], by simp [hps], ?_, fun p hp => ?_, pp_cov hcov hx1i hxk (by omega) (.inr ⟨rfl, rfl⟩), rfl, rfl, rfl⟩
          · rw [List.map_append, hpn, List.take_succ, hyi]
            rfl
          · rcases List.mem_append.mp hp with hp | hp
            · exact hpk p hp
            · rw [List.mem_singleton] at hp
              subst hp
              exact ⟨(hy3 _ (List.getElem_mem _)).1, List.getElem_mem _, List.getElem_mem _, hne.symm, by show 1 ≤ 1 + k9; omega, by show 1 + k9 ≤ 6; omega, by show 1 ≤ 1 + k10; omega, by show 1 + k10 ≤ 9; omega⟩
      · obtain ⟨k9, w9, l9, o9, c9⟩ := taken_ex kt (ns := ns) o8 6 (by decide) (small_nat (n := 6) (by decide))
        obtain ⟨k10, w10, l10, o10, c10⟩ := taken_ex kt (ns := ns) o9 9 (by decide) (small_nat (n := 9) (by decide))
        rcases d8 with rfl | rfl
        · simp [putS_free f7, putS_free f11, putS_free f12, kt.has, kt.frz, kp.has, kp.frz, c7, c8, c9, c10, szl, atI_nat, h1, hxk, hyi, hpl, hps, Op.new]
          refine ⟨w10, ps ++ [⟨ys[i], xs[1 + i], xs[k7], 1 + k9, 1 + k10⟩], some (.val false (.int (1 + (i : Int)))), some (.val false (.int k7)), some (.val false (.tup [st (xs[1 + i]), st (xs[k7])])), o10, by simp [Pp.D], by simp [hps], ?_, fun p hp => ?_, pp_cov hcov hx1i hxk (by omega) (.inl ⟨rfl, rfl⟩), rfl, rfl, rfl⟩
          · rw [List.map_append, hpn, List.take_succ, hyi]
            rfl
          · rcases List.mem_append.mp hp with hp | hp
            · exact hpk p hp
            · rw [List.mem_singleton] at hp
              subst hp
              exact ⟨(hy3 _ (List.getElem_mem _)).1, List.getElem_mem _, List.getElem_mem _, hne, by show 1 ≤ 1 + k9; omega, by show 1 + k9 ≤ 6; omega, by show 1 ≤ 1 + k10; omega, by show 1 + k10 ≤ 9; omega⟩
        · simp [putS_free f7, putS_free f11, putS_free f12, kt.has, kt.frz, kp.has, kp.frz, c7, c8, c9, c10, szl, atI_nat, h1, hxk, hyi, hpl, hps, Op.new]
          refine ⟨w10, ps ++ [⟨ys[i], xs[k7], xs[1 + i], 1 + k9, 1 + k10⟩], some (.val false (.int (1 + (i : Int)))), some (.val false (.int k7)), some (.val false (.tup [st (xs[k7]), st (xs[1 + i])])), o10, by simp [Pp.D], by simp [hps], ?_, fun p hp => ?_, pp_cov hcov hx1i hxk (by omega) (.inr ⟨rfl, rfl⟩), rfl, rfl, rfl⟩
          · rw [List.map_append, hpn, List.take_succ, hyi]
            rfl
          · rcases List.mem_append.mp hp with hp | hp
            · exact hpk p hp
            · rw [List.mem_singleton] at hp
              subst hp
              exact ⟨(hy3 _ (List.getElem_mem _)).1, List.getElem_mem _, List.getElem_mem _, hne.symm, by show 1 ≤ 1 + k9; omega, by show 1 + k9 ≤ 6; omega, by show 1 ≤ 1 + k10; omega, by show 1 + k10 ≤ 9; omega⟩
  obtain ⟨ρ, rfl, w6, ps, s7, s11, s12, o6, rfl, hps, hpn, hpk, hcov, f7, f11, f12⟩ := key2
  obtain ⟨n3, w7, o7, hn3, c7⟩ : ∃ (n3 : Nat) (w7 : Rw), w7.Ok ∧ n3 ≤ 5 ∧ ∀ (r : Rho) (h : r = [some (.cel true (w6.D ns)), some (.val bm (.int most)), some (.val false (.bl wide)), some (.val false (.int many)), some (.cel false (.lst (xs.map st))), some (.cel false (.lst (nds.map Nd.D))), some (.cel false (.lst (ps.map Pp.D))), s7, s8, s9, some (.cel false (.lst (ys.map st))), s11, s12, none, none]),
      ev (Γ (L + 3)) (.ife (.var 2) (.cst (.int 5)) (.call "_law_taken" [.var 0, .cst (.int 3)])) false r = .ok (false, .int n3) (r.set 0 (some (.cel true (w7.D ns)))) := by
    cases wide
    · obtain ⟨k2, w2, l2, o2, c2⟩ := taken_ex kt (ns := ns) o6 3 (by decide) (small_nat (n := 3) (by decide))
      refine ⟨k2, w2, o2, by omega, fun r hr => ?_⟩
      subst hr
      simp [kt.has, kt.frz, c2, Op.new]
    · refine ⟨5, w6, o6, by decide, fun r hr => ?_⟩
      subst hr
      simp
  have hwalk3 : walk .rng [.int n3] = some (rangeD 0 n3) := by
    show (if -1000000 ≤ (n3 : Int) ∧ (n3 : Int) ≤ 1000000 then some (rangeD 0 (n3 : Int).toNat) else none) = _
    rw [if_pos (by omega)]
    rfl
  simp [ex_for, c7, hwalk3, -ev_ife]
  generalize hlo3 : loop _ _ _ _ = out3
  have key3 : ∃ ρ, out3 = .nx ρ ∧ PqI ns bm most many wide xs ys nds s7 s8 s9 s12 n3 ρ := by
    rw [← hlo3]
    refine loop_at (R := fun out => ∃ ρ, out = .nx ρ ∧ PqI ns bm most many wide xs ys nds s7 s8 s9 s12 n3 ρ) (PqI ns bm most many wide xs ys nds s7 s8 s9 s12) ?_ ?_ ?_
    · exact ⟨w7, ps, s11, none, none, o7, rfl, hps, hpn, hpk, (fun k hk => hcov k hk (by omega)), f11, rfl, rfl⟩
    · intro ρ h
      rw [rangeD_len] at h
      exact ⟨held_val, ρ, rfl, h⟩
    · intro i x ρ hx ⟨w, ps, s11, s13, s14, ow, hρ, hps, hpn, hpk, hcov, f11, f13, f14⟩
      refine ⟨held_val, ?_⟩
      subst hρ
      have hi : i < n3 := by
        have := (List.getElem?_eq_some_iff.mp hx).1
        simpa using this
      rw [rangeD_get hi] at hx
      cases hx
      obtain ⟨k8, w8, l8, o8, c8⟩ := taken_ex kt (ns := ns) ow (many : Int) (by omega) (small_nat (by omega))
      obtain ⟨k9, w9, l9, o9, c9⟩ := taken_ex kt (ns := ns) o8 ((many : Int) - 1) (by omega) (by have := small_nat (n := many - 1) (by omega); omega)
      obtain ⟨k10, w10, l10, o10, c10⟩ := taken_ex kt (ns := ns) o9 3 (by decide) (small_nat (n := 3) (by decide))
      obtain ⟨k12, w12, l12, o12, c12⟩ := taken_ex kt (ns := ns) o10 4 (by decide) (small_nat (n := 4) (by decide))
      have hlt : (k8 + 1 + k9) % many < many := Nat.mod_lt _ (by omega)
      have hne0 : (k8 + 1 + k9) % many ≠ k8 := fun z => by
        by_cases h : k8 + 1 + k9 < many
        · rw [Nat.mod_eq_of_lt h] at z
          omega
        · have e : (k8 + 1 + k9) % many = k8 + 1 + k9 - many := by
            rw [Nat.mod_eq_sub_mod (by omega), Nat.mod_eq_of_lt (by omega)]
          omega
      have hz : atI (xs.map st) (((k8 : Int) + 1 + (k9 : Int)).fmod (many : Int)) = some (st xs[(k8 + 1 + k9) % many]) := by
        have e : ((k8 : Int) + 1 + (k9 : Int)).fmod (many : Int) = (((k8 + 1 + k9) % many : Nat) : Int) := by
          rw [← fmod_nat]
          push_cast
          rfl
        rw [e, atI_nat, List.getElem?_map, List.getElem?_eq_getElem (by omega)]
        rfl
      have hx8 : xs[k8]? = some xs[k8] := List.getElem?_eq_getElem (by omega)
      have hyi : ys[ps.length]? = some ys[ps.length] := List.getElem?_eq_getElem (by omega)
      have hpl : ps.length + 1 ≤ 1000000 := by omega
      have hm0 : many ≠ 0 := by omega
      have hne : xs[k8] ≠ xs[(k8 + 1 + k9) % many] := fun z => by
        rcases Nat.lt_or_gt_of_ne hne0 with h | h
        · exact List.pairwise_iff_getElem.mp hx2 _ _ (by omega) (by omega) h z.symm
        · exact List.pairwise_iff_getElem.mp hx2 _ _ (by omega) (by omega) h z
      simp [putS_free f11, putS_free f13, putS_free f14, kt.has, kt.frz, c8, c9, c10, c12, szl, atI_nat, hz, hx8, hyi, hpl, hm0, Op.new]
      refine ⟨w12, ps ++ [⟨ys[ps.length], xs[k8], xs[(k8 + 1 + k9) % many], 1 + k10, 1 + k12⟩], some (.val false (.int (((k8 : Int) + 1 + (k9 : Int)).fmod (many : Int)))), some (.val false (.int i)), some (.val false (.int k8)), o12, by simp [Pp.D], by simp; omega, ?_, fun p hp => ?_, fun k hk => ?_, rfl, rfl, rfl⟩
      · rw [List.map_append, hpn, show many - 1 + (i + 1) = many - 1 + i + 1 by omega, List.take_succ, ← hps, hyi]
        rfl
      · rcases List.mem_append.mp hp with hp | hp
        · exact hpk p hp
        · rw [List.mem_singleton] at hp
          subst hp
          exact ⟨(hy3 _ (List.getElem_mem _)).1, List.getElem_mem _, List.getElem_mem _, hne, by show 1 ≤ 1 + k10; omega, by show 1 + k10 ≤ 6; omega, by show 1 ≤ 1 + k12; omega, by show 1 + k12 ≤ 9; omega⟩
      · obtain ⟨q, h1, h2⟩ := hcov k hk
        exact ⟨q, List.mem_append_left _ h1, h2⟩
  obtain ⟨ρ, rfl, w8, ps, s11, s13, s14, o8, rfl, hps, hpn, hpk, hcov, _⟩ := key3
  have hnm : nds.map Nd.nm = xs := by rw [hnm, ← hx1, List.take_length]
  have hnl : nds.length = many := by rw [← hx1, ← hnm, List.length_map]
  refine ⟨nds, ps, w8, o8, ⟨by omega, by omega, by rw [hnm]; exact hx2, hok, by omega, by omega, by rw [hpn]; exact hy2.sublist (List.take_sublist _ _), by rw [hnm]; exact hpk, fun n hn => ?_⟩, some (.val bm (.int most)), ?_⟩
  · obtain ⟨k, hk⟩ := List.getElem?_of_mem hn
    have hkl := (List.getElem?_eq_some_iff.mp hk).1
    obtain ⟨p, h1, h2⟩ := hcov k (by omega)
    have e : xs[k]? = some n.nm := by rw [← hnm, List.getElem?_map, hk]; rfl
    rw [e] at h2
    exact ⟨p, h1, h2.imp Option.some.inj Option.some.inj⟩
  · simp [finR, Op.new]
end Pf
end
section
set_option Elab.async false
set_option linter.all false
set_option maxRecDepth 100000
set_option maxHeartbeats 4000000
/-! Lw6: the program's basics. -/
namespace Pf
open PySem PySem.Spec PyProof.Rows L2
def f_is_number : Fn := ⟨1, 1, [.ret (.and [.ap (.isi [.int]) [.var 0], .not (.ap (.isi [.bool]) [.var 0])])]⟩
def f_is_within : Fn := ⟨3, 3, [.ret (.and [.call "is_number" [.var 0], .chn .le .le (.var 1) (.var 0) (.var 2)])]⟩
def f_is_row : Fn := ⟨1, 1, [.ret (.ap (.isi [.list, .tuple]) [.var 0])]⟩
def f_is_name : Fn := ⟨1, 2, [.ret (.and [.ap (.isi [.str]) [.var 0], .chn .le .le (.cst (.int 1)) (.ap (.bi .len) [.var 0]) (.cst (.int 8)), .ap (.bi .all) [.comp [1] (.nm 1) .seq [.var 0] [] (.ap (.cmp .isin) [.var 1, .glo "LETTERS"])]])]⟩
variable {Γ : Nat → Ga}
theorem num_run (G : Ga) {i : Int} {b : Bool} : run1 G f_is_number [.val b (.int i)] = .ok (false, .bl true) [some (.val b (.int i))] := by
  simp [run1_eq, f_is_number, finR, D.isa]
theorem within_run (kn : Knows Γ "is_number" f_is_number) (L : Nat) {i j k : Int} {b b1 b2 : Bool} : run1 (Γ (L + 1)) f_is_within [.val b (.int i), .val b1 (.int j), .val b2 (.int k)] = .ok (false, .bl (decide (j ≤ i) && decide (i ≤ k))) [some (.val b (.int i)), some (.val b1 (.int j)), some (.val b2 (.int k))] := by
  by_cases h1 : j ≤ i <;> by_cases h2 : i ≤ k <;> simp [run1_eq, f_is_within, finR, kn.has, kn.frz, kn.cal, num_run, h1, h2]
theorem row_runL (G : Ga) {l : List D} {b : Bool} : run1 G f_is_row [.val b (.lst l)] = .ok (false, .bl true) [some (.val b (.lst l))] := by
  simp [run1_eq, f_is_row, finR, D.isa]
theorem row_runT (G : Ga) {l : List D} {b : Bool} : run1 G f_is_row [.val b (.tup l)] = .ok (false, .bl true) [some (.val b (.tup l))] := by
  simp [run1_eq, f_is_row, finR, D.isa]
theorem row_runC (G : Ga) {l : List D} {b : Bool} : run1 G f_is_row [.cel true (.lst l)] = .ok (false, .bl true) [some (.cel true (.lst l))] := by
  simp [run1_eq, f_is_row, finR, D.isa]
theorem in_az {k : Nat} (h : k < 26) : inStr (sOf [97 + k]) (sOf az) = true := by
  have : ∀ k < 26, inStr (sOf [97 + k]) (sOf az) = true := by decide +kernel
  exact this k h
theorem bls_all {α : Type} (l : List α) : D.bls (l.map fun _ => D.bl true) = some (l.map fun _ => true) := by
  induction l with
  | nil => rfl
  | cons a l ih =>
    rw [List.map_cons, List.map_cons]
    unfold D.bls
    rw [ih]
    rfl
theorem bls_rep : ∀ n : Nat, D.bls (List.replicate n (D.bl true)) = some (List.replicate n true)
  | 0 => rfl
  | n + 1 => by
    rw [List.replicate_succ, List.replicate_succ]
    unfold D.bls
    rw [bls_rep n]
    rfl
theorem signs_st (l : List Nat) : signs (sOf l) = l.map fun c => st [c] := rfl
theorem name_run (hg : ∀ L, (Γ L).glo "LETTERS" = some (st az)) (L : Nat) {l : List Nat} (h : Nm l) {b : Bool} : run1 (Γ L) f_is_name [.val b (st l)] = .ok (false, .bl true) [some (.val b (st l))] := by
  obtain ⟨h1, h2, h3⟩ := h
  have hw : walkS .seq [st l] = some (l.map fun c => st [c]) := by
    show (if szl (signs (sOf l)).length = true then some (signs (sOf l)) else none) = _
    rw [signs_st, if_pos]
    unfold szl
    rw [List.length_map]
    exact decide_eq_true (by omega)
  have ht : ∀ {ρ : Rho} {as : List Ag} {ds : List D}, ρ = [some (Sl.val b (st l)), none] → held ρ as ds = true → turns (fun ρ => held ρ as ds) (lcF (Γ L) [1] (.nm 1) [] (.ap (.cmp .isin) [.var 1, .glo "LETTERS"])) (l.map fun c => st [c]) ρ = .ok (List.replicate l.length (.bl true)) ρ := by
    intro ρ as ds hρ hh
    subst hρ
    have e : ∀ l : List Nat, ((l.map fun c => st [c]).map fun _ => D.bl true) = List.replicate l.length (.bl true) := fun l => by
      induction l with
      | nil => rfl
      | cons c l ih =>
        rw [List.map_cons, List.map_cons, ih]
        rfl
    rw [← e]
    refine turns_all (g := fun _ => .bl true) hh fun x hx => ?_
    obtain ⟨c, hc, rfl⟩ := List.mem_map.mp hx
    obtain ⟨h4, h5⟩ := h1 c hc
    obtain ⟨k, rfl⟩ : ∃ k, c = 97 + k := ⟨c - 97, by omega⟩
    have hi : (D.str (sOf [97 + k])).isIn (.str (sOf az)) = some true := by
      show some (inStr (sOf [97 + k]) (sOf az)) = _
      rw [in_az (by omega)]
    simp [lcF_eq, hg, hi]
  have hl1 : (1 : Int) ≤ (l.length : Int) := by omega
  have hl2 : (l.length : Int) ≤ 8 := by omega
  have hl3 : l.length ≤ 1000000 := by omega
  simp [run1_eq, f_is_name, finR, D.isa, szl, hl1, hl2, hl3, ev_comp, hw]
  rw [ht rfl held_val]
  simp [bls_rep, Op.new, finR]
end Pf
end
section
set_option Elab.async false
set_option linter.all false
set_option maxRecDepth 100000
set_option maxHeartbeats 4000000
/-! Lw7: nodes and pipes judged. -/
namespace Pf
open PySem PySem.Spec PyProof.Rows L2
def f_is_node : Fn := ⟨1, 1, [.iff (.or [.not (.ap (.isi [.tuple]) [.var 0]), .ap (.cmp .ne) [.ap (.bi .len) [.var 0], .cst (.int 3)], .not (.call "is_name" [.ap .idx [.var 0, .cst (.int 0)]])])
   [.ret (.cst (.bl false))]
   [],
  .iff (.ap (.cmp .eq) [.ap .idx [.var 0, .cst (.int 1)], .cst (.str "tank")])
   [.ret (.call "is_within" [.ap .idx [.var 0, .cst (.int 2)], .cst (.int 0), .cst (.int 0)])]
   [],
  .ret (.and [.ap (.cmp .eq) [.ap .idx [.var 0, .cst (.int 1)], .cst (.str "joint")], .call "is_within" [.ap .idx [.var 0, .cst (.int 2)], .cst (.int 0), .glo "MOST_VESSEL"]])]⟩
def f_is_pipe : Fn := ⟨2, 2, [.iff (.or [.not (.ap (.isi [.tuple]) [.var 0]), .ap (.cmp .ne) [.ap (.bi .len) [.var 0], .cst (.int 5)], .not (.call "is_name" [.ap .idx [.var 0, .cst (.int 0)]])])
   [.ret (.cst (.bl false))]
   [],
  .iff (.or [.not (.call "is_name" [.ap .idx [.var 0, .cst (.int 1)]]), .not (.call "is_name" [.ap .idx [.var 0, .cst (.int 2)]]), .ap (.cmp .notin) [.ap .idx [.var 0, .cst (.int 1)], .var 1], .ap (.cmp .notin) [.ap .idx [.var 0, .cst (.int 2)], .var 1]])
   [.ret (.cst (.bl false))]
   [],
  .ret (.and [.ap (.cmp .ne) [.ap .idx [.var 0, .cst (.int 1)], .ap .idx [.var 0, .cst (.int 2)]], .call "is_within" [.ap .idx [.var 0, .cst (.int 3)], .cst (.int 1), .glo "MOST_TICKS"], .call "is_within" [.ap .idx [.var 0, .cst (.int 4)], .cst (.int 1), .glo "MOST_SIZE"]])]⟩
variable {Γ : Nat → Ga}
structure Glo (Γ : Nat → Ga) : Prop where
  letters : ∀ L, (Γ L).glo "LETTERS" = some (st az)
  vessel : ∀ L, (Γ L).glo "MOST_VESSEL" = some (.int 60)
  nodes : ∀ L, (Γ L).glo "MOST_NODES" = some (.int 8)
  pipes : ∀ L, (Γ L).glo "MOST_PIPES" = some (.int 12)
  ticks : ∀ L, (Γ L).glo "MOST_TICKS" = some (.int 6)
  size : ∀ L, (Γ L).glo "MOST_SIZE" = some (.int 9)
structure Basics (Γ : Nat → Ga) : Prop where
  number : Knows Γ "is_number" f_is_number
  within : Knows Γ "is_within" f_is_within
  row : Knows Γ "is_row" f_is_row
  name : Knows Γ "is_name" f_is_name
theorem node_run (G : Glo Γ) (B : Basics Γ) (L : Nat) {n : Nd} (h : n.Ok) {b : Bool} : run1 (Γ (L + 2)) f_is_node [.val b n.D] = .ok (false, .bl true) [some (.val b n.D)] := by
  obtain ⟨nm, tank, ves⟩ := n
  obtain ⟨h1, h2, h3⟩ := h
  have hn := fun L b => name_run G.letters L h1 (b := b)
  have hjt : (("joint" : Str) = "tank") = False := eq_false (by decide +kernel)
  have h3 : ves ≤ 60 := h3
  have hw := fun (i j k : Int) (b b1 b2 : Bool) => within_run B.number L (i := i) (j := j) (k := k) (b := b) (b1 := b1) (b2 := b2)
  cases tank
  · have hk : (ves : Int) ≤ 60 := by omega
    simp [run1_eq, f_is_node, finR, D.isa, Nd.D, kindS, B.name.has, B.name.frz, B.name.cal, B.within.has, B.within.frz, B.within.cal, hn, hw, hjt, eqv_str, G.vessel, hk]
  · have hv : ves = 0 := h2 rfl
    subst hv
    simp [run1_eq, f_is_node, finR, D.isa, Nd.D, kindS, B.name.has, B.name.frz, B.name.cal, B.within.has, B.within.frz, B.within.cal, hn, hw, eqv_str]
theorem pipe_run (G : Glo Γ) (B : Basics Γ) (L : Nat) {xs : List (List Nat)} {p : Pp} (h : p.Ok xs) (hx : ∀ x ∈ xs, Nm x) {b b2 : Bool} : run1 (Γ (L + 2)) f_is_pipe [.val b p.D, .cel true (.lst (xs.map st))] = .ok (false, .bl true) [some (.val b p.D), some (.cel true (.lst (xs.map st)))] := by
  obtain ⟨nm, one, other, ticks, size⟩ := p
  obtain ⟨h1, h2, h3, h4, h5, h6, h7, h8⟩ := h
  have hn := fun L b => name_run G.letters L h1 (b := b)
  have hn2 := fun L b => name_run G.letters L (hx _ h2) (b := b)
  have hn3 := fun L b => name_run G.letters L (hx _ h3) (b := b)
  have hw := fun (i j k : Int) (b b1 b2 : Bool) => within_run B.number L (i := i) (j := j) (k := k) (b := b) (b1 := b1) (b2 := b2)
  have h2 : one ∈ xs := h2
  have h3 : other ∈ xs := h3
  have h4 : one ≠ other := h4
  have k1 : (1 : Int) ≤ (ticks : Int) := by have : 1 ≤ ticks := h5; omega
  have k2 : (ticks : Int) ≤ 6 := by have : ticks ≤ 6 := h6; omega
  have k3 : (1 : Int) ≤ (size : Int) := by have : 1 ≤ size := h7; omega
  have k4 : (size : Int) ≤ 9 := by have : size ≤ 9 := h8; omega
  simp [run1_eq, f_is_pipe, finR, D.isa, Pp.D, B.name.has, B.name.frz, B.name.cal, B.within.has, B.within.frz, B.within.cal, hn, hn2, hn3, hw, in_lst, h2, h3, h4, G.ticks, G.size, k1, k2, k3, k4]
end Pf
end
section
set_option Elab.async false
set_option linter.all false
set_option maxRecDepth 100000
set_option maxHeartbeats 4000000
/-! Lw8: nodes and pipes checked. -/
namespace Pf
open PySem PySem.Spec PyProof.Rows L2
theorem enumD_get {l : List D} : ∀ {n i : Nat}, (enumD n l)[i]? = l[i]?.map fun d => .tup [.int ((n + i : Nat) : Int), d] := by
  induction l with
  | nil => intro n i; simp [enumD]
  | cons d l ih =>
    intro n i
    unfold enumD
    cases i with
    | zero => simp
    | succ i =>
      rw [List.getElem?_cons_succ, List.getElem?_cons_succ, ih]
      congr 1
      funext x
      congr 3
      omega
theorem enum_len {l : List D} : ∀ {n : Nat}, (enumD n l).length = l.length := by
  induction l with
  | nil => intro n; rfl
  | cons d l ih => intro n; unfold enumD; rw [List.length_cons, List.length_cons, ih]
theorem nin_take {l : List (List Nat)} {i : Nat} {x : List Nat} (h : l.Nodup) (hx : l[i]? = some x) : x ∉ l.take i := fun z => by
  obtain ⟨j, hj⟩ := List.getElem?_of_mem z
  have hji : j < i := by
    have := (List.getElem?_eq_some_iff.mp hj).1
    simp at this
    omega
  rw [List.getElem?_take_of_lt hji] at hj
  obtain ⟨q1, e1⟩ := List.getElem?_eq_some_iff.mp hj
  obtain ⟨q2, e2⟩ := List.getElem?_eq_some_iff.mp hx
  exact List.pairwise_iff_getElem.mp h j i q1 q2 hji (e1.trans e2.symm)
def f_check_nodes : Fn := ⟨1, 4, [.iff (.or [.not (.call "is_row" [.var 0]), .not (.chn .le .le (.cst (.int 2)) (.ap (.bi .len) [.var 0]) (.glo "MOST_NODES"))])
   [.bad]
   [],
  .set 1 (.lst []),
  .for_ (.tp [.nm 2, .nm 3]) .enm [.fz 0]
   [.iff (.or [.not (.call "is_node" [.var 3]), .ap (.cmp .isin) [.ap .idx [.var 3, .cst (.int 0)], .var 1]])
     [.bad]
     [],
    .mt 1 .append [.ap .idx [.var 3, .cst (.int 0)]]]]⟩
variable {Γ : Nat → Ga}
/-- a tuple or a list -/
def rowD : Bool → List D → D
  | true, l => .tup l
  | false, l => .lst l
section
variable {t : Bool} {l : List D} {fl : Nat → List Str} {i : Int} {ρ : Rho} {as : List Ag}
@[simp] theorem rowD_t : rowD true l = .tup l := rfl
@[simp] theorem rowD_f : rowD false l = .lst l := rfl
@[simp] theorem o_lenR : (Op.bi .len).ap fl [rowD t l] = some (.int l.length) := by cases t <;> rfl
@[simp] theorem o_tuR : (Op.bi .tuple).ap fl [rowD t l] = some (.tup l) := by cases t <;> rfl
@[simp] theorem o_idxR : Op.idx.ap fl [rowD t l, .int i] = atI l i := by cases t <;> rfl
theorem isi_row : isiD [.list, .tuple] (rowD t l) = some (.bl true) := by cases t <;> rfl
theorem isi_row2 : isiD [.tuple, .list] (rowD t l) = some (.bl true) := by cases t <;> rfl
theorem walk_enmR : walk .enm [rowD t l] = some (enumD 0 l) := by cases t <;> rfl
theorem walk_seqR : walk .seq [rowD t l] = some l := by cases t <;> rfl
theorem walkS_seqR (h : l.length ≤ 1000000) : walkS .seq [rowD t l] = some l := by
  unfold walkS
  rw [walk_seqR]
  show (if szl l.length = true then some l else none) = _
  rw [if_pos]
  exact decide_eq_true h
theorem walkS_enmR (h : l.length ≤ 1000000) : walkS .enm [rowD t l] = some (enumD 0 l) := by
  unfold walkS
  rw [walk_enmR]
  show (if szl (enumD 0 l).length = true then some (enumD 0 l) else none) = _
  rw [if_pos]
  rw [enum_len]
  exact decide_eq_true h
end
theorem row_runR (G : Ga) {t : Bool} {l : List D} {b : Bool} : run1 G f_is_row [.val b (rowD t l)] = .ok (false, .bl true) [some (.val b (rowD t l))] := by
  cases t
  · exact row_runL G
  · exact row_runT G
structure CnI (b t : Bool) (nds : List Nd) (i : Nat) (ρ : Rho) : Prop where
  ex : ∃ (s2 s3 : Option Sl), ρ = [some (.val b (rowD t (nds.map Nd.D))), some (.cel false (.lst (((nds.map Nd.nm).take i).map st))), s2, s3] ∧ Fr s2 ∧ Fr s3
def NodesOk (nds : List Nd) : Prop := 2 ≤ nds.length ∧ nds.length ≤ 8 ∧ (nds.map Nd.nm).Nodup ∧ ∀ n ∈ nds, n.Ok
theorem cnodes_for (G : Glo Γ) (B : Basics Γ) (kn : Knows Γ "is_node" f_is_node) (L : Nat) {nds : List Nd} (h : NodesOk nds) (b t : Bool) :
    ∃ ρ, loop (fun ρ => held ρ [.val (rowD t (nds.map Nd.D))] [rowD t (nds.map Nd.D)]) (fun x ρ2 => optS (bind1 (.tp [.nm 2, .nm 3]) x ρ2) fun ρ3 => exs (Γ (L + 3)) [.iff (.or [.not (.call "is_node" [.var 3]), .ap (.cmp .isin) [.ap .idx [.var 3, .cst (.int 0)], .var 1]])
     [.bad]
     [],
    .mt 1 .append [.ap .idx [.var 3, .cst (.int 0)]]] ρ3) (enumD 0 (nds.map Nd.D)) [some (.val b (rowD t (nds.map Nd.D))), some (.cel false (.lst [])), none, none] = .nx ρ ∧ CnI b t nds nds.length ρ := by
  obtain ⟨hn1, hn2, hnd, hok⟩ := h
  refine loop_at (R := fun out => ∃ ρ, out = .nx ρ ∧ CnI b t nds nds.length ρ) (CnI b t nds) ?_ ?_ ?_
  · exact ⟨none, none, by simp, rfl, rfl⟩
  · intro ρ h
    rw [enum_len, List.length_map] at h
    exact ⟨held_val, ρ, rfl, h⟩
  · intro i x ρ hx ⟨s2, s3, hρ, f2, f3⟩
    refine ⟨held_val, ?_⟩
    subst hρ
    rw [enumD_get, List.getElem?_map] at hx
    cases hni : nds[i]? with
    | none => rw [hni] at hx; cases hx
    | some n =>
    rw [hni] at hx
    cases hx
    have hil := (List.getElem?_eq_some_iff.mp hni).1
    have hnode := fun (L : Nat) (b : Bool) => node_run G B L (hok n (List.mem_of_getElem? hni)) (b := b)
    have hnm : (nds.map Nd.nm)[i]? = some n.nm := by rw [List.getElem?_map, hni]; rfl
    have hnin : n.nm ∉ (nds.map Nd.nm).take i := nin_take hnd hnm
    have hsz : ((nds.map Nd.nm).take i).length + 1 ≤ 1000000 := by simp; omega
    have hnd0 : Op.idx.ap (Γ (L + 3)).flds [n.D, .int 0] = some (st n.nm) := rfl
    have htk : (nds.map Nd.nm).take (i + 1) = (nds.map Nd.nm).take i ++ [n.nm] := by rw [List.take_succ, hnm]; rfl
    have fin : CnI b t nds (i + 1) [some (.val b (rowD t (nds.map Nd.D))), some (.cel false (.lst (((nds.map Nd.nm).take i).map st ++ [st n.nm]))), some (.val false (.int i)), some (.val false n.D)] := by
      refine ⟨some (.val false (.int i)), some (.val false n.D), ?_, rfl, rfl⟩
      rw [htk, List.map_append]
      rfl
    generalize (nds.map Nd.nm).take i = xs0 at *
    simp [putS_free f2, putS_free f3, kn.has, kn.frz, kn.cal, hnode, in_lst, hnin, hnd0, szl, hsz]
    exact fin
theorem cnodes_run (G : Glo Γ) (B : Basics Γ) (kn : Knows Γ "is_node" f_is_node) (L : Nat) {nds : List Nd} (h : NodesOk nds) (b t : Bool) :
    run1 (Γ (L + 3)) f_check_nodes [.val b (rowD t (nds.map Nd.D))] = .ok (false, .non) [some (.val b (rowD t (nds.map Nd.D)))] := by
  have hr := fun (G : Ga) (b : Bool) => row_runR G (t := t) (l := nds.map Nd.D) (b := b)
  have h2 : (2 : Int) ≤ (nds.length : Int) := by have := h.1; omega
  have h8 : (nds.length : Int) ≤ 8 := by have := h.2.1; omega
  simp [run1_eq, f_check_nodes, finR, B.row.has, B.row.frz, B.row.cal, hr, G.nodes, h2, h8, ex_for, walk_enmR]
  obtain ⟨ρ, hf, s2, s3, rfl, _⟩ := cnodes_for G B kn L h b t
  generalize hlo : loop _ _ _ _ = out
  obtain rfl := hlo.symm.trans hf
  simp [finR]
theorem cnodes_runC (G : Glo Γ) (B : Basics Γ) (kn : Knows Γ "is_node" f_is_node) (L : Nat) {nds : List Nd} (h : NodesOk nds) :
    run1 (Γ (L + 3)) f_check_nodes [.cel true (.lst (nds.map Nd.D))] = .ok (false, .non) [some (.val true (.lst (nds.map Nd.D)))] := by
  have hr := fun (G : Ga) => row_runC G (l := nds.map Nd.D) (b := true)
  have h2 : (2 : Int) ≤ (nds.length : Int) := by have := h.1; omega
  have h8 : (nds.length : Int) ≤ 8 := by have := h.2.1; omega
  have hw : walk .enm [.lst (nds.map Nd.D)] = some (enumD 0 (nds.map Nd.D)) := rfl
  simp [run1_eq, f_check_nodes, finR, B.row.has, B.row.frz, B.row.cal, hr, G.nodes, h2, h8, ex_for, hw]
  obtain ⟨ρ, hf, s2, s3, rfl, _⟩ := cnodes_for G B kn L h true false
  generalize hlo : loop _ _ _ _ = out
  obtain rfl := hlo.symm.trans hf
  simp [finR]
end Pf
end
section
set_option Elab.async false
set_option linter.all false
set_option maxRecDepth 100000
set_option maxHeartbeats 4000000
/-! Lw9: pipes checked. -/
namespace Pf
open PySem PySem.Spec PyProof.Rows L2
def f_check_pipes : Fn := ⟨2, 8, [.iff (.or [.not (.call "is_row" [.var 1]), .not (.chn .le .le (.cst (.int 1)) (.ap (.bi .len) [.var 1]) (.glo "MOST_PIPES"))])
   [.bad]
   [],
  .par [2, 3] [.comp [4] (.nm 4) .seq [.var 0] [] (.ap .idx [.var 4, .cst (.int 0)]), .lst []],
  .for_ (.tp [.nm 5, .nm 6]) .enm [.fz 1]
   [.iff (.or [.not (.call "is_pipe" [.var 6, .var 2]), .ap (.cmp .isin) [.ap .idx [.var 6, .cst (.int 0)], .var 3]])
     [.bad]
     [],
    .mt 3 .append [.ap .idx [.var 6, .cst (.int 0)]]],
  .for_ (.tp [.nm 5, .nm 7]) .enm [.fz 2]
   [.iff (.not (.ap (.bi .any) [.comp [6] (.nm 6) .seq [.var 1] [] (.or [.ap (.cmp .eq) [.var 7, .ap .idx [.var 6, .cst (.int 1)]], .ap (.cmp .eq) [.var 7, .ap .idx [.var 6, .cst (.int 2)]]])]))
     [.bad]
     []]]⟩
variable {Γ : Nat → Ga}
/-- free, or a value -/
def Vl (o : Option Sl) : Prop := o = none ∨ ∃ d, o = some (.val false d)
theorem Vl.fr {o : Option Sl} (h : Vl o) : Fr o := by
  rcases h with rfl | ⟨d, rfl⟩ <;> rfl
theorem Vl.rest {o : Option Sl} (h : Vl o) : restS o = o := by
  rcases h with rfl | ⟨d, rfl⟩ <;> rfl
theorem Vl.val {d : D} : Vl (some (.val false d)) := .inr ⟨d, rfl⟩
theorem Vl.none : Vl none := .inl rfl
def bodyP1 : List S := [.iff (.or [.not (.call "is_pipe" [.var 6, .var 2]), .ap (.cmp .isin) [.ap .idx [.var 6, .cst (.int 0)], .var 3]])
     [.bad]
     [],
    .mt 3 .append [.ap .idx [.var 6, .cst (.int 0)]]]
def bodyP2 : List S := [.iff (.not (.ap (.bi .any) [.comp [6] (.nm 6) .seq [.var 1] [] (.or [.ap (.cmp .eq) [.var 7, .ap .idx [.var 6, .cst (.int 1)]], .ap (.cmp .eq) [.var 7, .ap .idx [.var 6, .cst (.int 2)]]])]))
     [.bad]
     []]
structure CpI (o0 : Option Sl) (b t : Bool) (nds : List Nd) (ps : List Pp) (i : Nat) (ρ : Rho) : Prop where
  ex : ∃ (s5 s6 : Option Sl), ρ = [o0, some (.val b (rowD t (ps.map Pp.D))), some (.cel false (.lst ((nds.map Nd.nm).map st))), some (.cel false (.lst (((ps.map Pp.nm).take i).map st))), none, s5, s6, none] ∧ Vl s5 ∧ Vl s6
theorem cp_for1 (G : Glo Γ) (B : Basics Γ) (kn : Knows Γ "is_pipe" f_is_pipe) (L : Nat) {nds : List Nd} {ps : List Pp} (h : NetOk nds ps) (o0 : Option Sl) (b t : Bool) :
    ∃ ρ, loop (fun ρ => held ρ [.val (rowD t (ps.map Pp.D))] [rowD t (ps.map Pp.D)]) (fun x ρ2 => optS (bind1 (.tp [.nm 5, .nm 6]) x ρ2) fun ρ3 => exs (Γ (L + 3)) bodyP1 ρ3) (enumD 0 (ps.map Pp.D))
      [o0, some (.val b (rowD t (ps.map Pp.D))), some (.cel false (.lst ((nds.map Nd.nm).map st))), some (.cel false (.lst [])), none, none, none, none] = .nx ρ ∧ CpI o0 b t nds ps ps.length ρ := by
  have hp2 := h.p2
  refine loop_at (R := fun out => ∃ ρ, out = .nx ρ ∧ CpI o0 b t nds ps ps.length ρ) (CpI o0 b t nds ps) ?_ ?_ ?_
  · exact ⟨none, none, by simp, .none, .none⟩
  · intro ρ hh
    rw [enum_len, List.length_map] at hh
    exact ⟨held_val, ρ, rfl, hh⟩
  · intro i x ρ hx ⟨s5, s6, hρ, f5, f6⟩
    refine ⟨held_val, ?_⟩
    subst hρ
    rw [enumD_get, List.getElem?_map] at hx
    cases hpi : ps[i]? with
    | none => rw [hpi] at hx; cases hx
    | some p =>
    rw [hpi] at hx
    cases hx
    have hil := (List.getElem?_eq_some_iff.mp hpi).1
    have hxs : ∀ x ∈ nds.map Nd.nm, Nm x := fun x hx => by
      obtain ⟨n, hn, rfl⟩ := List.mem_map.mp hx
      exact (h.nk n hn).nm
    have hnm : (ps.map Pp.nm)[i]? = some p.nm := by rw [List.getElem?_map, hpi]; rfl
    have hnin : p.nm ∉ (ps.map Pp.nm).take i := nin_take h.pn hnm
    have hsz : ((ps.map Pp.nm).take i).length + 1 ≤ 1000000 := by simp; omega
    have hd0 : Op.idx.ap (Γ (L + 3)).flds [p.D, .int 0] = some (st p.nm) := rfl
    have htk : (ps.map Pp.nm).take (i + 1) = (ps.map Pp.nm).take i ++ [p.nm] := by rw [List.take_succ, hnm]; rfl
    have fin : CpI o0 b t nds ps (i + 1) [o0, some (.val b (rowD t (ps.map Pp.D))), some (.cel false (.lst ((nds.map Nd.nm).map st))), some (.cel false (.lst (((ps.map Pp.nm).take i).map st ++ [st p.nm]))), none, some (.val false (.int i)), some (.val false p.D), none] := by
      refine ⟨some (.val false (.int i)), some (.val false p.D), ?_, .val, .val⟩
      rw [htk, List.map_append]
      rfl
    have hpk := h.pk p (List.mem_of_getElem? hpi)
    generalize (ps.map Pp.nm).take i = xs0 at *
    obtain ⟨ys0, hys⟩ : ∃ y, y = nds.map Nd.nm := ⟨_, rfl⟩
    rw [← hys] at fin hpk hxs ⊢
    have hpipe := fun (L : Nat) (b : Bool) => pipe_run G B L hpk hxs (b := b) (b2 := true)
    simp [bodyP1, putS_free f5.fr, putS_free f6.fr, kn.has, kn.frz, kn.cal, hpipe, in_lst, hnin, hd0, szl, hsz]
    exact fin
theorem eqv_st2 {a b : List Nat} : (st a).eqv (st b) = decide (b = a) := by
  show (D.str (sOf a)).eqv (.str (sOf b)) = _
  rw [eqv_sOf]
  exact decide_eq_decide.mpr eq_comm
theorem cp_any (Γ0 : Ga) {o0 o1 o2 o3 s4 s5 s6 : Option Sl} (f6 : Vl s6) {x : List Nat} {d : D} {ps : List Pp} : turns (fun ρ => held ρ [.val d] [d]) (lcF Γ0 [6] (.nm 6) [] (.or [.ap (.cmp .eq) [.var 7, .ap .idx [.var 6, .cst (.int 1)]], .ap (.cmp .eq) [.var 7, .ap .idx [.var 6, .cst (.int 2)]]])) (ps.map Pp.D)
    [o0, o1, o2, o3, s4, s5, s6, some (.val false (st x))] = .ok (ps.map fun p => .bl (decide (x = p.one) || decide (x = p.other))) [o0, o1, o2, o3, s4, s5, s6, some (.val false (st x))] := by
  have g : ∀ d : D, ∃ r : D, ∀ p : Pp, d = p.D → r = .bl (decide (x = p.one) || decide (x = p.other)) := fun d => by
    by_cases h : ∃ p : Pp, d = p.D
    · obtain ⟨p, rfl⟩ := h
      refine ⟨.bl (decide (x = p.one) || decide (x = p.other)), fun q hq => ?_⟩
      have e1 : st p.one = st q.one := by
        have := congrArg (fun d => Op.idx.ap Γ0.flds [d, .int 1]) hq
        exact Option.some.inj this
      have e2 : st p.other = st q.other := by
        have := congrArg (fun d => Op.idx.ap Γ0.flds [d, .int 2]) hq
        exact Option.some.inj this
      rw [sOf_inj.mp (D.str.inj e1), sOf_inj.mp (D.str.inj e2)]
    · exact ⟨.non, fun p hp => absurd ⟨p, hp⟩ h⟩
  have g2 := fun d => (g d).choose_spec
  rw [turns_all (g := fun d => (g d).choose) held_val (fun d hd => by
      obtain ⟨p, hp, rfl⟩ := List.mem_map.mp hd
      rw [g2 p.D p rfl]
      have d1 : Op.idx.ap Γ0.flds [p.D, .int 1] = some (st p.one) := rfl
      have d2 : Op.idx.ap Γ0.flds [p.D, .int 2] = some (st p.other) := rfl
      by_cases h1 : x = p.one
      · simp [lcF_eq, d1, d2, h1, f6.rest]
      · by_cases h2 : x = p.other
        · simp [lcF_eq, d1, d2, h1, h2, f6.rest]
        · simp [lcF_eq, d1, d2, h1, h2, f6.rest])]
  congr 1
  rw [List.map_map]
  exact List.map_congr_left fun p _ => g2 p.D p rfl
structure CqI (o0 o1 o3 : Option Sl) (b : Bool) (nds : List Nd) (i : Nat) (ρ : Rho) : Prop where
  ex : ∃ (s5 s6 s7 : Option Sl), ρ = [o0, o1, some (.val b (.lst ((nds.map Nd.nm).map st))), o3, none, s5, s6, s7] ∧ Vl s5 ∧ Vl s6 ∧ Vl s7
theorem bls_map {α : Type} (l : List α) (f : α → Bool) : D.bls (l.map fun x => D.bl (f x)) = some (l.map f) := by
  induction l with
  | nil => rfl
  | cons x l ih =>
    rw [List.map_cons]
    unfold D.bls
    rw [ih]
    rfl
theorem cp_for2 (L : Nat) {nds : List Nd} {ps : List Pp} (h : NetOk nds ps) (o0 o3 : Option Sl) (b t b2 : Bool) {s5 s6 : Option Sl} (f5 : Vl s5) (f6 : Vl s6) :
    ∃ ρ, loop (fun ρ => held ρ [.val (.lst ((nds.map Nd.nm).map st))] [.lst ((nds.map Nd.nm).map st)]) (fun x ρ2 => optS (bind1 (.tp [.nm 5, .nm 7]) x ρ2) fun ρ3 => exs (Γ (L + 3)) bodyP2 ρ3) (enumD 0 ((nds.map Nd.nm).map st))
      [o0, some (.val b (rowD t (ps.map Pp.D))), some (.val b2 (.lst ((nds.map Nd.nm).map st))), o3, none, s5, s6, none] = .nx ρ ∧ CqI o0 (some (.val b (rowD t (ps.map Pp.D)))) o3 b2 nds nds.length ρ := by
  have hp2 := h.p2
  have hws : walkS .seq [rowD t (ps.map Pp.D)] = some (ps.map Pp.D) := walkS_seqR (by rw [List.length_map]; omega)
  refine loop_at (R := fun out => ∃ ρ, out = .nx ρ ∧ CqI o0 (some (.val b (rowD t (ps.map Pp.D)))) o3 b2 nds nds.length ρ) (CqI o0 (some (.val b (rowD t (ps.map Pp.D)))) o3 b2 nds) ?_ ?_ ?_
  · exact ⟨s5, s6, none, rfl, f5, f6, .none⟩
  · intro ρ hh
    rw [enum_len, List.length_map, List.length_map] at hh
    exact ⟨held_val, ρ, rfl, hh⟩
  · intro i x ρ hx ⟨s5, s6, s7, hρ, f5, f6, f7⟩
    refine ⟨held_val, ?_⟩
    subst hρ
    rw [enumD_get, List.getElem?_map, List.getElem?_map] at hx
    cases hni : nds[i]? with
    | none => rw [hni] at hx; cases hx
    | some n =>
    rw [hni] at hx
    cases hx
    have hc : (∀ x : Pp, x ∈ ps → ¬n.nm = x.one ∧ ¬n.nm = x.other) = False := eq_false fun z => by
      obtain ⟨p, hp, e⟩ := h.cov n (List.mem_of_getElem? hni)
      obtain ⟨z1, z2⟩ := z p hp
      exact e.elim (fun e => z1 e.symm) fun e => z2 e.symm
    have fin : CqI o0 (some (.val b (rowD t (ps.map Pp.D)))) o3 b2 nds (i + 1) [o0, some (.val b (rowD t (ps.map Pp.D))), some (.val b2 (.lst ((nds.map Nd.nm).map st))), o3, none, some (.val false (.int i)), s6, some (.val false (st n.nm))] := ⟨some (.val false (.int i)), s6, some (.val false (st n.nm)), rfl, .val, f6, .val⟩
    generalize (nds.map Nd.nm).map st = xs0 at *
    simp [bodyP2, putS_free f5.fr, putS_free f7.fr, ev_comp, hws]
    rw [cp_any _ f6]
    simp [bls_map, hc]
    exact fin
theorem NetOk.nodes {nds : List Nd} {ps : List Pp} (h : NetOk nds ps) : NodesOk nds := ⟨h.n1, h.n2, h.nn, h.nk⟩
def fstD : D → D
  | .tup (a :: _) => a
  | _ => .non
theorem cp_firsts (Γ0 : Ga) {o0 o1 : Option Sl} {nds : List Nd} {d : D} : turns (fun ρ => held ρ [.val d] [d]) (lcF Γ0 [4] (.nm 4) [] (.ap .idx [.var 4, .cst (.int 0)])) (nds.map Nd.D) [o0, o1, none, none, none, none, none, none] = .ok ((nds.map Nd.nm).map st) [o0, o1, none, none, none, none, none, none] := by
  rw [turns_all (g := fstD) held_val (fun x hx => by
    obtain ⟨n, hn, rfl⟩ := List.mem_map.mp hx
    have : Op.idx.ap Γ0.flds [n.D, .int 0] = some (st n.nm) := rfl
    simp [lcF_eq, this]
    rfl)]
  congr 1
  rw [List.map_map, List.map_map]
  rfl
theorem cpipes_run (G : Glo Γ) (B : Basics Γ) (kn : Knows Γ "is_pipe" f_is_pipe) (L : Nat) {nds : List Nd} {ps : List Pp} (h : NetOk nds ps) (b b2 t t2 : Bool) :
    run1 (Γ (L + 3)) f_check_pipes [.val b (rowD t (nds.map Nd.D)), .val b2 (rowD t2 (ps.map Pp.D))] = .ok (false, .non) [some (.val b (rowD t (nds.map Nd.D))), some (.val b2 (rowD t2 (ps.map Pp.D)))] := by
  have hr := fun (G : Ga) (b : Bool) => row_runR G (t := t2) (l := ps.map Pp.D) (b := b)
  have hp1 := h.p1
  have hp2 := h.p2
  have hn2 := h.n2
  have h2 : (1 : Int) ≤ (ps.length : Int) := by omega
  have h8 : (ps.length : Int) ≤ 12 := by omega
  have hwS : walkS .seq [rowD t (nds.map Nd.D)] = some (nds.map Nd.D) := walkS_seqR (by rw [List.length_map]; omega)
  simp [run1_eq, f_check_pipes, finR, B.row.has, B.row.frz, B.row.cal, hr, G.pipes, h2, h8, ev_comp, hwS]
  rw [cp_firsts]
  simp [-List.map_map, -List.map_take, Pf.putAll, ex_for, walk_enmR]
  obtain ⟨ρ, hf, s5, s6, rfl, f5, f6⟩ := cp_for1 G B kn L h (some (.val b (rowD t (nds.map Nd.D)))) b2 t2
  generalize hlo : loop _ _ _ _ = out
  obtain rfl := hlo.symm.trans hf
  have hw2 : walk .enm [.lst ((nds.map Nd.nm).map st)] = some (enumD 0 ((nds.map Nd.nm).map st)) := rfl
  simp [-List.map_map, -List.map_take, ex_for, hw2]
  obtain ⟨ρ, hf2, s5', s6', s7', rfl, _⟩ := cp_for2 (Γ := Γ) L h (some (.val b (rowD t (nds.map Nd.D)))) (some (.cel false (.lst (((ps.map Pp.nm).take ps.length).map st)))) b2 t2 false f5 f6
  generalize hlo : loop _ _ _ _ = out
  obtain rfl := hlo.symm.trans hf2
  simp [finR]
theorem cpipes_runC (G : Glo Γ) (B : Basics Γ) (kn : Knows Γ "is_pipe" f_is_pipe) (L : Nat) {nds : List Nd} {ps : List Pp} (h : NetOk nds ps) (b t : Bool) :
    run1 (Γ (L + 3)) f_check_pipes [.val b (rowD t (nds.map Nd.D)), .cel true (.lst (ps.map Pp.D))] = .ok (false, .non) [some (.val b (rowD t (nds.map Nd.D))), some (.val true (.lst (ps.map Pp.D)))] := by
  have hr := fun (G : Ga) => row_runC G (l := ps.map Pp.D) (b := true)
  have hp1 := h.p1
  have hp2 := h.p2
  have hn2 := h.n2
  have h2 : (1 : Int) ≤ (ps.length : Int) := by omega
  have h8 : (ps.length : Int) ≤ 12 := by omega
  have hwS : walkS .seq [rowD t (nds.map Nd.D)] = some (nds.map Nd.D) := walkS_seqR (by rw [List.length_map]; omega)
  have hw : walk .enm [.lst (ps.map Pp.D)] = some (enumD 0 (ps.map Pp.D)) := rfl
  simp [run1_eq, f_check_pipes, finR, B.row.has, B.row.frz, B.row.cal, hr, G.pipes, h2, h8, ev_comp, hwS]
  rw [cp_firsts]
  simp [-List.map_map, -List.map_take, Pf.putAll, ex_for, hw]
  obtain ⟨ρ, hf, s5, s6, rfl, f5, f6⟩ := cp_for1 G B kn L h (some (.val b (rowD t (nds.map Nd.D)))) true false
  generalize hlo : loop _ _ _ _ = out
  obtain rfl := hlo.symm.trans hf
  have hw2 : walk .enm [.lst ((nds.map Nd.nm).map st)] = some (enumD 0 ((nds.map Nd.nm).map st)) := rfl
  simp [-List.map_map, -List.map_take, ex_for, hw2]
  obtain ⟨ρ, hf2, s5', s6', s7', rfl, _⟩ := cp_for2 (Γ := Γ) L h (some (.val b (rowD t (nds.map Nd.D)))) (some (.cel false (.lst (((ps.map Pp.nm).take ps.length).map st)))) true false false f5 f6
  generalize hlo : loop _ _ _ _ = out
  obtain rfl := hlo.symm.trans hf2
  simp [finR]
end Pf
end
section
set_option Elab.async false
set_option linter.all false
set_option maxRecDepth 100000
set_option maxHeartbeats 4000000
/-! Lw10: a net is made. -/
namespace Pf
open PySem PySem.Spec PyProof.Rows L2
def f_Net_init : Fn := ⟨3, 5, [.ex (.call "check_nodes" [.var 1]),
  .ex (.call "check_pipes" [.var 1, .var 2]),
  .stf 0 "nodes" (.ap (.bi .tuple) [.var 1]),
  .stf 0 "pipes" (.ap (.bi .tuple) [.var 2]),
  .stf 0 "spots" (.dcmp [3, 4] (.tp [.nm 3, .nm 4]) .enm [.var 1] [] (.ap .idx [.var 4, .cst (.int 0)]) (.var 3)),
  .stf 0 "ends" (.comp [4] (.nm 4) .seq [.var 1] [] (.meth "ends_at" (.var 0) [.ap .idx [.var 4, .cst (.int 0)]]))]⟩
def f_Net_ends_at : Fn := ⟨2, 5, [.set 2 (.lst []),
  .for_ (.tp [.nm 3, .nm 4]) .enm [.ap (.fld "pipes") [.var 0]]
   [.iff (.ap (.cmp .eq) [.ap .idx [.var 4, .cst (.int 1)], .var 1])
     [.mt 2 .append [.tup [.var 3, .cst (.int 0)]]]
     [.iff (.ap (.cmp .eq) [.ap .idx [.var 4, .cst (.int 2)], .var 1])
       [.mt 2 .append [.tup [.var 3, .cst (.int 1)]]]
       []]],
  .ret (.ap (.bi .tuple) [.var 2])]⟩
variable {Γ : Nat → Ga}
/-- a method that is known at each level -/
structure KnowsM (Γ : Nat → Ga) (c : Nat) (x : Str) (f : Fn) : Prop where
  has : ∀ L, (Γ L).hasM c x = true
  met : ∀ L ss, (Γ (L + 1)).met c x ss = run1 (Γ L) f ss
  nf : ∀ L, x ∉ (Γ L).flds c
/-- a class that is known at each level -/
structure KnowsC (Γ : Nat → Ga) (c : Nat) (x : Str) (fz : Bool) (fl : List Str) (f : Fn) : Prop where
  has : ∀ L, (Γ (L + 1)).has x = true
  frz : ∀ L, (Γ (L + 1)).frz x = fz
  cal : ∀ L ss, (Γ (L + 1)).cal x ss = mkF c (run1 (Γ L) f) ss
  fl : ∀ L, (Γ L).flds c = fl
def netF : List Str := ["nodes", "pipes", "spots", "ends"]
theorem fldD_at {fl : Nat → List Str} {c k : Nat} {x : Str} {ns : List Str} {l : List D} {d : D} (h : fl c = ns) (hk : ixOf x ns = some k) (hd : l[k]? = some d) : fldD fl x (.ins c l) = some d := by
  show (ixOf x (fl c)).bind (fun k => l[k]?) = _
  rw [h, hk]
  exact hd
theorem setF_new {fl : Nat → List Str} {c : Nat} {x : Str} {ns : List Str} {l : List D} {d : D} (h : fl c = ns) (hk : ixOf x ns = some l.length) : setF fl x (.ins c l) d = some (.ins c (l ++ [d])) := by
  show (ixOf x (fl c)).bind (fun k => if k < l.length then some (D.ins c (l.set k d)) else if k = l.length then some (.ins c (l ++ [d])) else none) = _
  rw [h, hk]
  simp
theorem dturns_all {hd : Rho → Bool} {f : D → Rho → Out (Option (Key × D))} {ρ : Rho} {k : D → Key} {g : D → D} (h : hd ρ = true) : ∀ {xs : List D} {ks : List Key} {l : List D}, (∀ x ∈ xs, f x ρ = .ok (some (k x, g x)) ρ) → (ks ++ xs.map k).Nodup →
    dturns hd f xs ks l ρ = .ok (.dic (ks ++ xs.map k) (l ++ xs.map g)) ρ
  | [], ks, l, _, _ => by
    unfold dturns
    rw [if_pos h]
    simp
  | x :: xs, ks, l, hx, hn => by
    have h1 := hx x List.mem_cons_self
    have hk : k x ∉ ks := fun z => by
      rw [List.map_cons, List.nodup_append] at hn
      exact hn.2.2 _ z _ List.mem_cons_self rfl
    have hs : stow (k x) (g x) ks l = (ks ++ [k x], l ++ [g x]) := by
      unfold stow
      rw [if_neg]
      intro z
      obtain ⟨j, hj, e⟩ := List.any_eq_true.mp z
      exact hk (of_decide_eq_true e ▸ hj)
    have h2 := dturns_all h (xs := xs) (ks := ks ++ [k x]) (l := l ++ [g x]) (fun y hy => hx y (List.mem_cons_of_mem _ hy)) (by
      rw [List.append_assoc]
      exact hn)
    unfold dturns
    rw [if_pos h, h1]
    simp only [hs]
    rw [h2]
    simp
/-- the ends of pipes at a node -/
def endOf (i : Nat) (p : Pp) (x : List Nat) : List D := if p.one = x then [.tup [.int i, .int 0]] else if p.other = x then [.tup [.int i, .int 1]] else []
def endsL : Nat → List Pp → List Nat → List D
  | _, [], _ => []
  | i, p :: ps, x => endOf i p x ++ endsL (i + 1) ps x
theorem endsL_snoc {p : Pp} {x : List Nat} : ∀ {ps : List Pp} {i : Nat}, endsL i (ps ++ [p]) x = endsL i ps x ++ endOf (i + ps.length) p x
  | [], i => by simp [endsL]
  | q :: ps, i => by
    rw [List.cons_append]
    unfold endsL
    rw [endsL_snoc, List.append_assoc]
    congr 3
    rw [List.length_cons]
    omega
theorem endsL_len {x : List Nat} : ∀ {ps : List Pp} {i : Nat}, (endsL i ps x).length ≤ ps.length
  | [], i => Nat.le_refl _
  | q :: ps, i => by
    unfold endsL
    have h1 : (endOf i q x).length ≤ 1 := by
      unfold endOf
      split
      · exact Nat.le_refl _
      · split
        · exact Nat.le_refl _
        · exact Nat.zero_le _
    have h2 := endsL_len (x := x) (ps := ps) (i := i + 1)
    rw [List.length_append, List.length_cons]
    omega
structure EaI (o0 o1 : Option Sl) (x : List Nat) (ps : List Pp) (i : Nat) (ρ : Rho) : Prop where
  ex : ∃ (s3 s4 : Option Sl), ρ = [o0, o1, some (.cel false (.lst (endsL 0 (ps.take i) x))), s3, s4] ∧ Vl s3 ∧ Vl s4
theorem ends_run (G : Ga) (hfl : G.flds 0 = netF) {ps : List Pp} (hp : ps.length ≤ 12) {x : List Nat} {d : D} {l : List D} {b : Bool} :
    run1 G f_Net_ends_at [.cel true (.ins 0 (d :: .tup (ps.map Pp.D) :: l)), .val b (st x)] = .ok (false, .tup (endsL 0 ps x)) [some (.cel true (.ins 0 (d :: .tup (ps.map Pp.D) :: l))), some (.val b (st x))] := by
  have hf : fldD G.flds "pipes" (.ins 0 (d :: .tup (ps.map Pp.D) :: l)) = some (.tup (ps.map Pp.D)) :=
    fldD_at (k := 1) hfl (by decide +kernel) rfl
  have hw : walk .enm [.tup (ps.map Pp.D)] = some (enumD 0 (ps.map Pp.D)) := rfl
  simp [run1_eq, f_Net_ends_at, finR, hf, ex_for, hw]
  generalize hlo : loop _ _ _ _ = out
  have key : ∃ ρ, out = .nx ρ ∧ EaI (some (.cel true (.ins 0 (d :: .tup (ps.map Pp.D) :: l)))) (some (.val b (st x))) x ps ps.length ρ := by
    rw [← hlo]
    refine loop_at (R := fun out => ∃ ρ, out = .nx ρ ∧ EaI (some (.cel true (.ins 0 (d :: .tup (ps.map Pp.D) :: l)))) (some (.val b (st x))) x ps ps.length ρ) (EaI (some (.cel true (.ins 0 (d :: .tup (ps.map Pp.D) :: l)))) (some (.val b (st x))) x ps) ?_ ?_ ?_
    · exact ⟨none, none, rfl, .none, .none⟩
    · intro ρ hh
      rw [enum_len, List.length_map] at hh
      exact ⟨held_val, ρ, rfl, hh⟩
    · intro i y ρ hx ⟨s3, s4, hρ, f3, f4⟩
      refine ⟨held_val, ?_⟩
      subst hρ
      rw [enumD_get, List.getElem?_map] at hx
      cases hpi : ps[i]? with
      | none => rw [hpi] at hx; cases hx
      | some p =>
      rw [hpi] at hx
      cases hx
      have hil := (List.getElem?_eq_some_iff.mp hpi).1
      have htk : ps.take (i + 1) = ps.take i ++ [p] := by rw [List.take_succ, hpi]; rfl
      have hln : (ps.take i).length = i := by rw [List.length_take]; omega
      have d1 : Op.idx.ap G.flds [p.D, .int 1] = some (st p.one) := rfl
      have d2 : Op.idx.ap G.flds [p.D, .int 2] = some (st p.other) := rfl
      have hz : (endsL 0 (ps.take i) x).length + 1 ≤ 1000000 := by
        have := endsL_len (x := x) (ps := ps.take i) (i := 0)
        omega
      have fin : ∀ s3 s4, Vl s3 → Vl s4 → EaI (some (.cel true (.ins 0 (d :: .tup (ps.map Pp.D) :: l)))) (some (.val b (st x))) x ps (i + 1) [some (.cel true (.ins 0 (d :: .tup (ps.map Pp.D) :: l))), some (.val b (st x)), some (.cel false (.lst (endsL 0 (ps.take i) x ++ endOf i p x))), s3, s4] := fun s3 s4 h3 h4 => by
        refine ⟨s3, s4, ?_, h3, h4⟩
        rw [htk, endsL_snoc, hln, Nat.zero_add]
      have hi : (0 + i : Nat) = i := Nat.zero_add i
      rw [hi]
      generalize endsL 0 (ps.take i) x = es0 at *
      unfold endOf at fin
      by_cases h1 : p.one = x
      · simp [putS_free f3.fr, putS_free f4.fr, d1, d2, h1, szl, hz]
        simp only [if_pos h1] at fin
        exact fin _ _ .val .val
      · by_cases h2 : p.other = x
        · simp [putS_free f3.fr, putS_free f4.fr, d1, d2, h1, h2, szl, hz]
          simp only [if_neg h1, if_pos h2] at fin
          exact fin _ _ .val .val
        · simp [putS_free f3.fr, putS_free f4.fr, d1, d2, h1, h2, szl, hz]
          simp only [if_neg h1, if_neg h2, List.append_nil] at fin
          exact fin _ _ .val .val
  obtain ⟨ρ, rfl, s3, s4, rfl, _⟩ := key
  simp [finR, List.take_length]
def kE : D → Key
  | .tup [_, .tup (.str s :: _)] => .inr s
  | _ => .inl 0
theorem kE_map : ∀ {nds : List Nd} {i : Nat}, (enumD i (nds.map Nd.D)).map kE = nds.map fun n => .inr (sOf n.nm)
  | [], i => rfl
  | n :: nds, i => by
    rw [List.map_cons]
    unfold enumD
    rw [List.map_cons, List.map_cons, kE_map]
    rfl
theorem fst_map : ∀ {l : List D} {i : Nat}, (enumD i l).map fstD = rangeD i l.length
  | [], i => rfl
  | d :: l, i => by
    unfold enumD
    rw [List.map_cons, fst_map]
    rfl
theorem mem_enum {l : List D} {x : D} {i : Nat} (h : x ∈ enumD i l) : ∃ (k : Nat) (d : D), d ∈ l ∧ x = .tup [.int k, d] := by
  induction l generalizing i with
  | nil => cases h
  | cons d l ih =>
    unfold enumD at h
    rcases List.mem_cons.mp h with rfl | h
    · exact ⟨i, d, List.mem_cons_self, rfl⟩
    · obtain ⟨k, e, h1, h2⟩ := ih h
      exact ⟨k, e, List.mem_cons_of_mem _ h1, h2⟩
/-- a net -/
def netL (nds : List Nd) (ps : List Pp) : List D := [.tup (nds.map Nd.D), .tup (ps.map Pp.D), .dic (nds.map fun n => .inr (sOf n.nm)) (rangeD 0 nds.length), .lst (nds.map fun n => .tup (endsL 0 ps n.nm))]
def netD (nds : List Nd) (ps : List Pp) : D := .ins 0 (netL nds ps)
structure Nets (Γ : Nat → Ga) : Prop where
  node : Knows Γ "is_node" f_is_node
  pipe : Knows Γ "is_pipe" f_is_pipe
  cn : Knows Γ "check_nodes" f_check_nodes
  cp : Knows Γ "check_pipes" f_check_pipes
  ends : KnowsM Γ 0 "ends_at" f_Net_ends_at
  net : KnowsC Γ 0 "Net" true netF f_Net_init
theorem init_spots (Γ0 : Ga) {nds : List Nd} (hn : (nds.map Nd.nm).Nodup) {o0 o1 o2 : Option Sl} {d : D} : dturns (fun ρ => held ρ [.val d] [d]) (dcF Γ0 [3, 4] (.tp [.nm 3, .nm 4]) [] (.ap .idx [.var 4, .cst (.int 0)]) (.var 3)) (enumD 0 (nds.map Nd.D)) [] [] [o0, o1, o2, none, none] =
    .ok (.dic (nds.map fun n => .inr (sOf n.nm)) (rangeD 0 nds.length)) [o0, o1, o2, none, none] := by
  rw [dturns_all (k := kE) (g := fstD) held_val (fun x hx => by
    obtain ⟨k, d, hd, rfl⟩ := mem_enum hx
    obtain ⟨n, hn, rfl⟩ := List.mem_map.mp hd
    have e : Op.idx.ap Γ0.flds [n.D, .int 0] = some (st n.nm) := rfl
    have ek : (st n.nm).key = some (.inr (sOf n.nm)) := rfl
    have ek2 : kE (.tup [.int k, n.D]) = .inr (sOf n.nm) := rfl
    simp [dcF_eq, e, ek, ek2]
    rfl) (by
    rw [List.nil_append, kE_map]
    have e : (nds.map fun n => (.inr (sOf n.nm) : Key)) = (nds.map Nd.nm).map fun x => (.inr (sOf x) : Key) := by rw [List.map_map]; rfl
    rw [e]
    exact List.pairwise_map.mpr (hn.imp fun h z => h (sOf_inj.mp (Sum.inr.inj z))))]
  rw [List.nil_append, List.nil_append, kE_map, fst_map, List.length_map]
  rfl
theorem init_ends (L : Nat) (N : Nets Γ) {nds : List Nd} {ps : List Pp} (hp : ps.length ≤ 12) {o1 o2 : Option Sl} {d e : D} {l : List D} {b : Bool} : turns (fun ρ => held ρ [.val d] [d]) (lcF (Γ (L + 1)) [4] (.nm 4) [] (.meth "ends_at" (.var 0) [.ap .idx [.var 4, .cst (.int 0)]])) (nds.map Nd.D)
    [some (.cel b (.ins 0 (e :: .tup (ps.map Pp.D) :: l))), o1, o2, none, none] = .ok (nds.map fun n => .tup (endsL 0 ps n.nm)) [some (.cel b (.ins 0 (e :: .tup (ps.map Pp.D) :: l))), o1, o2, none, none] := by
  have g : ∀ d : D, ∃ r : D, ∀ n : Nd, d = n.D → r = .tup (endsL 0 ps n.nm) := fun d => by
    by_cases h : ∃ n : Nd, d = n.D
    · obtain ⟨n, rfl⟩ := h
      refine ⟨.tup (endsL 0 ps n.nm), fun q hq => ?_⟩
      have e1 : st n.nm = st q.nm := by
        have := congrArg (fun d => Op.idx.ap (Γ L).flds [d, .int 0]) hq
        exact Option.some.inj this
      rw [sOf_inj.mp (D.str.inj e1)]
    · exact ⟨.non, fun p hp => absurd ⟨p, hp⟩ h⟩
  have g2 := fun d => (g d).choose_spec
  rw [turns_all (g := fun d => (g d).choose) held_val (fun x hx => by
    obtain ⟨n, hn, rfl⟩ := List.mem_map.mp hx
    rw [g2 n.D n rfl]
    have e1 : Op.idx.ap (Γ (L + 1)).flds [n.D, .int 0] = some (st n.nm) := rfl
    have he := fun b => ends_run (Γ L) (N.net.fl L) hp (x := n.nm) (d := e) (l := l) (b := b)
    simp [lcF_eq, e1, N.ends.has, N.ends.nf, N.ends.met, he])]
  congr 1
  rw [List.map_map]
  exact List.map_congr_left fun n _ => g2 n.D n rfl
theorem init_run (G : Glo Γ) (B : Basics Γ) (N : Nets Γ) (L : Nat) {nds : List Nd} {ps : List Pp} (h : NetOk nds ps) (b b2 t t2 : Bool) :
    run1 (Γ (L + 4)) f_Net_init [.cel true (.ins 0 []), .val b (rowD t (nds.map Nd.D)), .val b2 (rowD t2 (ps.map Pp.D))] = .ok (false, .non) [some (.cel true (netD nds ps)), some (.val b (rowD t (nds.map Nd.D))), some (.val b2 (rowD t2 (ps.map Pp.D)))] := by
  have h1 := cnodes_run G B N.node L h.nodes
  have h2 := cpipes_run G B N.pipe L h
  have hfl := N.net.fl (L + 4)
  have f1 := fun d => setF_new (fl := (Γ (L + 4)).flds) (c := 0) (x := "nodes") (l := []) (d := d) hfl (by decide +kernel)
  have f2 := fun d e => setF_new (fl := (Γ (L + 4)).flds) (c := 0) (x := "pipes") (l := [e]) (d := d) hfl (show ixOf "pipes" netF = some 1 from by decide +kernel)
  have f3 := fun d e e2 => setF_new (fl := (Γ (L + 4)).flds) (c := 0) (x := "spots") (l := [e, e2]) (d := d) hfl (show ixOf "spots" netF = some 2 from by decide +kernel)
  have f4 := fun d e e2 e3 => setF_new (fl := (Γ (L + 4)).flds) (c := 0) (x := "ends") (l := [e, e2, e3]) (d := d) hfl (show ixOf "ends" netF = some 3 from by decide +kernel)
  have hwS : walkS .seq [rowD t (nds.map Nd.D)] = some (nds.map Nd.D) := walkS_seqR (by rw [List.length_map]; have := h.n2; omega)
  have hwE : walkS .enm [rowD t (nds.map Nd.D)] = some (enumD 0 (nds.map Nd.D)) := walkS_enmR (by rw [List.length_map]; have := h.n2; omega)
  simp [run1_eq, f_Net_init, finR, N.cn.has, N.cn.frz, N.cn.cal, N.cp.has, N.cp.frz, N.cp.cal, h1, h2, f1, f2, f3, f4, ev_dcmp, ev_comp, hwS, hwE, init_spots _ h.nn, init_ends (L + 3) N h.p2]
  rfl
theorem init_runC (G : Glo Γ) (B : Basics Γ) (N : Nets Γ) (L : Nat) {nds : List Nd} {ps : List Pp} (h : NetOk nds ps) :
    run1 (Γ (L + 4)) f_Net_init [.cel true (.ins 0 []), .cel true (.lst (nds.map Nd.D)), .cel true (.lst (ps.map Pp.D))] = .ok (false, .non) [some (.cel true (netD nds ps)), some (.val true (.lst (nds.map Nd.D))), some (.val true (.lst (ps.map Pp.D)))] := by
  have h1 := cnodes_runC G B N.node L h.nodes
  have h2 := fun b => cpipes_runC G B N.pipe L h b false
  simp only [rowD_f] at h2
  have hfl := N.net.fl (L + 4)
  have f1 := fun d => setF_new (fl := (Γ (L + 4)).flds) (c := 0) (x := "nodes") (l := []) (d := d) hfl (by decide +kernel)
  have f2 := fun d e => setF_new (fl := (Γ (L + 4)).flds) (c := 0) (x := "pipes") (l := [e]) (d := d) hfl (show ixOf "pipes" netF = some 1 from by decide +kernel)
  have f3 := fun d e e2 => setF_new (fl := (Γ (L + 4)).flds) (c := 0) (x := "spots") (l := [e, e2]) (d := d) hfl (show ixOf "spots" netF = some 2 from by decide +kernel)
  have f4 := fun d e e2 e3 => setF_new (fl := (Γ (L + 4)).flds) (c := 0) (x := "ends") (l := [e, e2, e3]) (d := d) hfl (show ixOf "ends" netF = some 3 from by decide +kernel)
  have hwS : walkS .seq [rowD false (nds.map Nd.D)] = some (nds.map Nd.D) := walkS_seqR (by rw [List.length_map]; have := h.n2; omega)
  have hwE : walkS .enm [rowD false (nds.map Nd.D)] = some (enumD 0 (nds.map Nd.D)) := walkS_enmR (by rw [List.length_map]; have := h.n2; omega)
  simp only [rowD_f] at hwS hwE
  simp [run1_eq, f_Net_init, finR, N.cn.has, N.cn.frz, N.cn.cal, N.cp.has, N.cp.frz, N.cp.cal, h1, h2, f1, f2, f3, f4, ev_dcmp, ev_comp, hwS, hwE, init_spots _ h.nn, init_ends (L + 3) N h.p2]
  rfl
theorem net_call (G : Glo Γ) (B : Basics Γ) (N : Nets Γ) (L : Nat) {nds : List Nd} {ps : List Pp} (h : NetOk nds ps) (b b2 t t2 : Bool) :
    (Γ (L + 5)).cal "Net" [.val b (rowD t (nds.map Nd.D)), .val b2 (rowD t2 (ps.map Pp.D))] = .ok (true, netD nds ps) [some (.val b (rowD t (nds.map Nd.D))), some (.val b2 (rowD t2 (ps.map Pp.D)))] := by
  rw [N.net.cal]
  unfold mkF
  rw [init_run G B N L h b b2 t t2]
theorem net_callC (G : Glo Γ) (B : Basics Γ) (N : Nets Γ) (L : Nat) {nds : List Nd} {ps : List Pp} (h : NetOk nds ps) :
    (Γ (L + 5)).cal "Net" [.cel true (.lst (nds.map Nd.D)), .cel true (.lst (ps.map Pp.D))] = .ok (true, netD nds ps) [some (.val true (.lst (nds.map Nd.D))), some (.val true (.lst (ps.map Pp.D)))] := by
  rw [N.net.cal]
  unfold mkF
  rw [init_runC G B N L h]
end Pf
end
section
set_option Elab.async false
set_option linter.all false
set_option maxRecDepth 100000
set_option maxHeartbeats 4000000
/-! Lw11: texts of nets: words, counts, lines. -/
namespace Pf
open PySem PySem.Spec PyProof.Rows L2 TL
def f_is_word : Fn := ⟨1, 2, [.ret (.and [.ap (.cmp .ne) [.var 0, .cst (.str "")], .ap (.bi .all) [.comp [1] (.nm 1) .seq [.var 0] [] (.ap (.cmp .isin) [.var 1, .glo "SMALL"])]])]⟩
def f_is_count : Fn := ⟨1, 2, [.iff (.or [.not (.chn .le .le (.cst (.int 1)) (.ap (.bi .len) [.var 0]) (.glo "MOST_DIGITS")), .not (.ap (.bi .all) [.comp [1] (.nm 1) .seq [.var 0] [] (.ap (.cmp .isin) [.var 1, .glo "DIGITS"])])])
   [.ret (.cst (.bl false))]
   [],
  .ret (.or [.ap (.cmp .eq) [.var 0, .cst (.str "0")], .ap (.cmp .ne) [.ap .idx [.var 0, .cst (.int 0)], .cst (.str "0")]])]⟩
def f_node_of : Fn := ⟨1, 1, [.iff (.or [.ap (.cmp .ne) [.ap (.bi .len) [.var 0], .cst (.int 4)], .ap (.cmp .ne) [.ap .idx [.var 0, .cst (.int 0)], .cst (.str "node")], .not (.call "is_word" [.ap .idx [.var 0, .cst (.int 1)]]), .not (.call "is_word" [.ap .idx [.var 0, .cst (.int 2)]])])
   [.ret (.cst .non)]
   [],
  .iff (.not (.call "is_count" [.ap .idx [.var 0, .cst (.int 3)]]))
   [.ret (.cst .non)]
   [],
  .ret (.tup [.ap .idx [.var 0, .cst (.int 1)], .ap .idx [.var 0, .cst (.int 2)], .ap (.bi .int) [.ap .idx [.var 0, .cst (.int 3)]]])]⟩
def f_pipe_of : Fn := ⟨1, 2, [.iff (.or [.ap (.cmp .ne) [.ap (.bi .len) [.var 0], .cst (.int 6)], .ap (.cmp .ne) [.ap .idx [.var 0, .cst (.int 0)], .cst (.str "pipe")], .not (.ap (.bi .all) [.comp [1] (.nm 1) .seq [.slc (.var 0) (.cst (.int 1)) (.cst (.int 4))] [] (.call "is_word" [.var 1])])])
   [.ret (.cst .non)]
   [],
  .iff (.or [.not (.call "is_count" [.ap .idx [.var 0, .cst (.int 4)]]), .not (.call "is_count" [.ap .idx [.var 0, .cst (.int 5)]])])
   [.ret (.cst .non)]
   [],
  .ret (.tup [.ap .idx [.var 0, .cst (.int 1)], .ap .idx [.var 0, .cst (.int 2)], .ap .idx [.var 0, .cst (.int 3)], .ap (.bi .int) [.ap .idx [.var 0, .cst (.int 4)]], .ap (.bi .int) [.ap .idx [.var 0, .cst (.int 5)]]])]⟩
variable {Γ : Nat → Ga}
@[simp] theorem tl_sOf {l : List Nat} : tl (sOf l) = l := rfl
theorem sOf_tl {x : Str} : sOf (tl x) = x := ext_tl rfl
theorem num_str {n : Nat} : (Str.ofString (toString (n : Int))) = sOf (numL n) := ext_tl (tl_num n)
theorem join_sOf {S : List Nat} {ps : List (List Nat)} : Txt.join (sOf S) (ps.map sOf) = sOf (joinL S ps) := by
  refine ext_tl ?_
  rw [join_eq, tl_join, List.map_map]
  have e : ps.map (tl ∘ sOf) = ps := by
    have : (tl ∘ sOf : List Nat → List Nat) = id := rfl
    rw [this, List.map_id]
  rw [e]
  rfl
theorem split_sOf {s : Nat} {ps : List (List Nat)} (hs : s < 256) (hne : ps ≠ []) (hp : ∀ p ∈ ps, s ∉ p) : Txt.split (sOf (joinL [s] ps)) (sOf [s]) = ps.map sOf := by
  rw [← join_sOf]
  refine split_join (s := s) (S := []) rfl (by simp [sOf, hs]) (fun z => hne (List.map_eq_nil_iff.mp z)) fun p h => ?_
  obtain ⟨q, hq, rfl⟩ := List.mem_map.mp h
  exact hp q hq
/-- the digits -/
def dg : List Nat := (List.range 10).map (48 + ·)
def kindL (t : Bool) : List Nat := if t = true then [116, 97, 110, 107] else [106, 111, 105, 110, 116]
theorem kind_eq (t : Bool) : kindS t = sOf (kindL t) := by cases t <;> decide +kernel
def cNode : List Nat := [110, 111, 100, 101]
def cPipe : List Nat := [112, 105, 112, 101]
def cEnd : List Nat := [101, 110, 100]
theorem node_eq : ("node" : Str) = sOf cNode := by decide +kernel
theorem pipe_eq : ("pipe" : Str) = sOf cPipe := by decide +kernel
theorem end_eq : ("end" : Str) = sOf cEnd := by decide +kernel
theorem zero_eq : ("0" : Str) = sOf [48] := by decide +kernel
theorem nl_eq : ("\n" : Str) = sOf [10] := by decide +kernel
theorem sp_eq : (" " : Str) = sOf [32] := by decide +kernel
/-- what a small number's text is like -/
def numOk (n : Nat) : Bool := decide (1 ≤ (numL n).length ∧ (numL n).length ≤ 2) && ((numL n).all (fun c => inStr (sOf [c]) (sOf dg)) && (decide (numL n = [48]) || decide ((numL n)[0]? ≠ some 48)))
theorem num_ok {n : Nat} (h : n ≤ 60) : numOk n = true := by
  have : ∀ n < 61, numOk n = true := by decide +kernel
  exact this n (by omega)
structure Glt (Γ : Nat → Ga) : Prop where
  small : ∀ L, (Γ L).glo "SMALL" = some (st az)
  digits : ∀ L, (Γ L).glo "DIGITS" = some (st dg)
  most : ∀ L, (Γ L).glo "MOST_DIGITS" = some (.int 4)
/-- each sign stands in a table -/
theorem all_in {Γ0 : Ga} {x : Str} {tab l : List Nat} (hg : Γ0.glo x = some (st tab)) (hl : ∀ c ∈ l, inStr (sOf [c]) (sOf tab) = true) {o : Option Sl} {d : D} :
    turns (fun ρ => held ρ [.val d] [d]) (lcF Γ0 [1] (.nm 1) [] (.ap (.cmp .isin) [.var 1, .glo x])) (l.map fun c => st [c]) [o, none] = .ok (l.map fun _ => .bl true) [o, none] := by
  rw [turns_all (g := fun _ => .bl true) held_val (fun x hx => by
    obtain ⟨c, hc, rfl⟩ := List.mem_map.mp hx
    have hi : (D.str (sOf [c])).isIn (.str (sOf tab)) = some true := by
      show some (inStr (sOf [c]) (sOf tab)) = _
      rw [hl c hc]
    simp [lcF_eq, hg, hi])]
  rw [List.map_map]
  rfl
theorem walk_sOf {l : List Nat} (h : l.length ≤ 1000000) : walkS .seq [.str (sOf l)] = some (l.map fun c => st [c]) := by
  show (if szl (signs (sOf l)).length = true then some (signs (sOf l)) else none) = _
  rw [signs_st, if_pos]
  unfold szl
  rw [List.length_map]
  exact decide_eq_true h
theorem word_run (T : Glt Γ) (L : Nat) {l : List Nat} (h : Low l) (h1 : 1 ≤ l.length) (h2 : l.length ≤ 1000000) {b : Bool} : run1 (Γ L) f_is_word [.val b (st l)] = .ok (false, .bl true) [some (.val b (st l))] := by
  have hw := walk_sOf h2
  have hne : l ≠ [] := fun z => by rw [z] at h1; cases h1
  have hin : ∀ c ∈ l, inStr (sOf [c]) (sOf az) = true := fun c hc => by
    obtain ⟨h4, h5⟩ := h c hc
    obtain ⟨k, rfl⟩ : ∃ k, c = 97 + k := ⟨c - 97, by omega⟩
    exact in_az (by omega)
  simp [run1_eq, f_is_word, finR, nil_eq, hne, ev_comp, hw, all_in (T.small L) hin, bls_all]
theorem count_run (T : Glt Γ) (L : Nat) {n : Nat} (h : n ≤ 60) {b : Bool} : run1 (Γ L) f_is_count [.val b (st (numL n))] = .ok (false, .bl true) [some (.val b (st (numL n)))] := by
  have hk := num_ok h
  unfold numOk at hk
  simp only [Bool.and_eq_true, decide_eq_true_eq, List.all_eq_true, Bool.or_eq_true] at hk
  obtain ⟨⟨h1, h2⟩, hin, h3⟩ := hk
  have hw := walk_sOf (l := numL n) (by omega)
  have k1 : (1 : Int) ≤ ((numL n).length : Int) := by omega
  have k2 : ((numL n).length : Int) ≤ 4 := by omega
  have k3 : (numL n).length ≤ 1000000 := by omega
  obtain ⟨c, r, hc⟩ : ∃ c r, numL n = c :: r := by
    cases e : numL n with
    | nil => rw [e] at h1; cases h1
    | cons c r => exact ⟨c, r, rfl⟩
  have hat : atI (numL n) 0 = some c := by rw [hc]; exact atI_nat (c :: r) 0
  have hz := all_in (T.digits L) hin (o := some (.val b (st (numL n)))) (d := st (numL n))
  have h4 : numL n = [48] ∨ ¬ c = 48 := by
    rw [hc] at h3 ⊢
    simpa using h3
  generalize numL n = l at *
  by_cases hl : l = [48]
  · subst hl
    simp at hz hw
    simp [run1_eq, f_is_count, finR, zero_eq, ev_comp, hw, hz, T.most, D.bls, szl]
  · have hc48 : ¬ c = 48 := h4.resolve_left hl
    simp [run1_eq, f_is_count, finR, zero_eq, ev_comp, hw, hz, T.most, bls_all, szl, k1, k2, k3, hl, hat, hc48, sOf_one]
/-- the words of a line -/
def nodeW (n : Nd) : List (List Nat) := [cNode, n.nm, kindL n.tank, numL n.ves]
def pipeW (p : Pp) : List (List Nat) := [cPipe, p.nm, p.one, p.other, numL p.ticks, numL p.size]
theorem kind_low (t : Bool) : Low (kindL t) ∧ 1 ≤ (kindL t).length ∧ (kindL t).length ≤ 8 := by
  cases t <;> refine ⟨?_, by decide, by decide⟩ <;> intro c hc <;> revert c <;> decide
theorem num_int {n : Nat} (h : n ≤ 60) : (Op.bi .int).ap (fun _ => []) [st (numL n)] = some (.int n) := by
  have hk := num_ok h
  unfold numOk at hk
  simp only [Bool.and_eq_true, decide_eq_true_eq] at hk
  rw [o_intS, if_pos (by rw [sOf_len]; omega), ← num_str, int_num (by omega)]
  rfl
structure Words (Γ : Nat → Ga) : Prop where
  word : Knows Γ "is_word" f_is_word
  count : Knows Γ "is_count" f_is_count
theorem nodeOf_run (T : Glt Γ) (W : Words Γ) (L : Nat) {n : Nd} (h : n.Ok) {b : Bool} : run1 (Γ (L + 1)) f_node_of [.val b (.lst ((nodeW n).map st))] = .ok (false, n.D) [some (.val b (.lst ((nodeW n).map st)))] := by
  obtain ⟨nm, tank, ves⟩ := n
  obtain ⟨h1, h2, h3⟩ := h
  have h3 : ves ≤ 60 := h3
  have hn := fun b => word_run T L h1.1 h1.2.1 (Nat.le_trans h1.2.2 (by decide)) (b := b)
  obtain ⟨k1, k2, k3⟩ := kind_low tank
  have hk := fun b => word_run T L k1 k2 (Nat.le_trans k3 (by decide)) (b := b)
  have hc := fun b => count_run T L h3 (b := b)
  have hi : (Op.bi .int).ap (Γ (L + 1)).flds [st (numL ves)] = some (.int ves) := num_int h3
  simp only [nodeW, List.map_cons, List.map_nil, Nd.D, kind_eq]
  have i0 : ∀ a b c d : D, Op.idx.ap (Γ (L + 1)).flds [.lst [a, b, c, d], .int 0] = some a := fun _ _ _ _ => rfl
  have i1 : ∀ a b c d : D, Op.idx.ap (Γ (L + 1)).flds [.lst [a, b, c, d], .int 1] = some b := fun _ _ _ _ => rfl
  have i2 : ∀ a b c d : D, Op.idx.ap (Γ (L + 1)).flds [.lst [a, b, c, d], .int 2] = some c := fun _ _ _ _ => rfl
  have i3 : ∀ a b c d : D, Op.idx.ap (Γ (L + 1)).flds [.lst [a, b, c, d], .int 3] = some d := fun _ _ _ _ => rfl
  simp [-o_idxL, i0, i1, i2, i3, -o_intS, run1_eq, f_node_of, finR, node_eq, W.word.has, W.word.frz, W.word.cal, W.count.has, W.count.frz, W.count.cal, hn, hk, hc, hi]
theorem nodeOf_no (Γ0 : Ga) {l : List D} (h : l.length ≠ 4) {b : Bool} : run1 Γ0 f_node_of [.val b (.lst l)] = .ok (false, .non) [some (.val b (.lst l))] := by
  have h2 : ¬ (l.length : Int) = 4 := by omega
  simp [run1_eq, f_node_of, finR, h2]
theorem pipeOf_no (Γ0 : Ga) {l : List D} (h : l.length ≠ 6) {b : Bool} : run1 Γ0 f_pipe_of [.val b (.lst l)] = .ok (false, .non) [some (.val b (.lst l))] := by
  have h2 : ¬ (l.length : Int) = 6 := by omega
  simp [run1_eq, f_pipe_of, finR, h2]
theorem pipeOf_run (T : Glt Γ) (W : Words Γ) (L : Nat) {xs : List (List Nat)} {p : Pp} (h : p.Ok xs) (hx : ∀ x ∈ xs, Nm x) {b : Bool} : run1 (Γ (L + 1)) f_pipe_of [.val b (.lst ((pipeW p).map st))] = .ok (false, p.D) [some (.val b (.lst ((pipeW p).map st)))] := by
  obtain ⟨nm, one, other, ticks, size⟩ := p
  obtain ⟨h1, h2, h3, h4, h5, h6, h7, h8⟩ := h
  have wd : ∀ {l : List Nat}, Nm l → ∀ b, run1 (Γ L) f_is_word [.val b (st l)] = .ok (false, .bl true) [some (.val b (st l))] := fun h b => word_run T L h.1 h.2.1 (Nat.le_trans h.2.2 (by decide))
  have n1 := wd h1
  have n2 := wd (hx _ h2)
  have n3 := wd (hx _ h3)
  have h6 : ticks ≤ 6 := h6
  have h8 : size ≤ 9 := h8
  have c1 := fun b => count_run T L (show ticks ≤ 60 by omega) (b := b)
  have c2 := fun b => count_run T L (show size ≤ 60 by omega) (b := b)
  have e1 : (Op.bi .int).ap (Γ (L + 1)).flds [st (numL ticks)] = some (.int ticks) := num_int (by omega)
  have e2 : (Op.bi .int).ap (Γ (L + 1)).flds [st (numL size)] = some (.int size) := num_int (by omega)
  simp only [pipeW, List.map_cons, List.map_nil, Pp.D]
  have i0 : ∀ a b c d e f : D, Op.idx.ap (Γ (L + 1)).flds [.lst [a, b, c, d, e, f], .int 0] = some a := fun _ _ _ _ _ _ => rfl
  have i1 : ∀ a b c d e f : D, Op.idx.ap (Γ (L + 1)).flds [.lst [a, b, c, d, e, f], .int 1] = some b := fun _ _ _ _ _ _ => rfl
  have i2 : ∀ a b c d e f : D, Op.idx.ap (Γ (L + 1)).flds [.lst [a, b, c, d, e, f], .int 2] = some c := fun _ _ _ _ _ _ => rfl
  have i3 : ∀ a b c d e f : D, Op.idx.ap (Γ (L + 1)).flds [.lst [a, b, c, d, e, f], .int 3] = some d := fun _ _ _ _ _ _ => rfl
  have i4 : ∀ a b c d e f : D, Op.idx.ap (Γ (L + 1)).flds [.lst [a, b, c, d, e, f], .int 4] = some e := fun _ _ _ _ _ _ => rfl
  have i5 : ∀ a b c d e f : D, Op.idx.ap (Γ (L + 1)).flds [.lst [a, b, c, d, e, f], .int 5] = some f := fun _ _ _ _ _ _ => rfl
  have hs : ∀ a b c d e f : D, slcO (.lst [a, b, c, d, e, f]) (some 1) (some 4) = some (.lst [b, c, d]) := fun _ _ _ _ _ _ => rfl
  have hw : ∀ a b c : D, walkS .seq [.lst [a, b, c]] = some [a, b, c] := fun _ _ _ => rfl
  have ht : ∀ (o : Option Sl) (d : D), turns (fun ρ => held ρ [.val d] [d]) (lcF (Γ (L + 1)) [1] (.nm 1) [] (.call "is_word" [.var 1])) [st nm, st one, st other] [o, none] = .ok [.bl true, .bl true, .bl true] [o, none] := fun o d => by
    rw [turns_all (g := fun _ => .bl true) held_val (fun x hx => by
      simp only [List.mem_cons, List.not_mem_nil, or_false] at hx
      rcases hx with rfl | rfl | rfl <;> simp [lcF_eq, W.word.has, W.word.frz, W.word.cal, n1, n2, n3])]
    rfl
  have hb : D.bls [.bl true, .bl true, .bl true] = some [true, true, true] := rfl
  simp [-o_idxL, i0, i1, i2, i3, i4, i5, -o_intS, run1_eq, f_pipe_of, finR, pipe_eq, ev_comp, hs, hw, ht, hb, W.word.has, W.word.frz, W.word.cal, W.count.has, W.count.frz, W.count.cal, c1, c2, e1, e2]
end Pf
end
section
set_option Elab.async false
set_option linter.all false
set_option maxRecDepth 100000
set_option maxHeartbeats 4000000
/-! Lw12: a net's text read back. -/
namespace Pf
open PySem PySem.Spec PyProof.Rows L2 TL
def f_read_net : Fn := ⟨1, 8, [.iff (.not (.ap (.isi [.str]) [.var 0]))
   [.bad]
   [],
  .set 1 (.meth "split" (.var 0) [.cst (.str "\n")]),
  .par [2, 3] [.lst [], .lst []],
  .for_ (.tp [.nm 4, .nm 5]) .enm [.slc (.var 1) (.cst .non) (.ap .neg [.cst (.int 1)])]
   [.par [6, 7] [.call "node_of" [.meth "split" (.var 5) [.cst (.str " ")]], .call "pipe_of" [.meth "split" (.var 5) [.cst (.str " ")]]],
    .iff (.and [.ap (.isn false) [.var 6], .ap (.cmp .eq) [.var 3, .lst []]])
     [.mt 2 .append [.var 6]]
     [.iff (.ap (.isn false) [.var 7])
       [.mt 3 .append [.var 7]]
       [.iff (.and [.ap (.cmp .eq) [.var 5, .cst (.str "end")], .ap (.cmp .eq) [.var 4, .ap (.bin .sub) [.ap (.bi .len) [.var 1], .cst (.int 2)]], .ap (.cmp .eq) [.ap .idx [.var 1, .ap .neg [.cst (.int 1)]], .cst (.str "")]])
         [.ret (.call "Net" [.var 2, .var 3])]
         [.iff (.ap (.cmp .eq) [.var 5, .cst (.str "end")])
           [.bad]
           [.bad]]]]],
  .bad]⟩
variable {Γ : Nat → Ga}
def nodeLn (n : Nd) : List Nat := joinL [32] (nodeW n)
def pipeLn (p : Pp) : List Nat := joinL [32] (pipeW p)
def headL (nds : List Nd) (ps : List Pp) : List (List Nat) := nds.map nodeLn ++ ps.map pipeLn
def linesL (nds : List Nd) (ps : List Pp) : List (List Nat) := headL nds ps ++ [cEnd, []]
def textL (nds : List Nd) (ps : List Pp) : List Nat := joinL [10] (linesL nds ps)
theorem tx_split {s : Nat} {ps : List (List Nat)} (hs : s < 256) (hne : ps ≠ []) (hp : ∀ p ∈ ps, s ∉ p) (hz : (joinL [s] ps).length ≤ 1000000) : txD "split" (sOf (joinL [s] ps)) [.str (sOf [s])] = some (.lst (ps.map st)) := by
  show (if (("split" : Str) = "split" ∧ ((sOf [s]).length == 0) = false ∧ (sOf (joinL [s] ps)).length ≤ 1000000) then _ else none) = _
  rw [if_pos ⟨rfl, rfl, by rw [sOf_len]; exact hz⟩, split_sOf hs hne hp, List.map_map]
  rfl
/-- no blanks, no line feeds -/
def NoSp (l : List Nat) : Prop := 10 ∉ l ∧ 32 ∉ l
theorem low_nosp {l : List Nat} (h : Low l) : NoSp l := ⟨fun z => by have := h _ z; omega, fun z => by have := h _ z; omega⟩
theorem num_nosp {n : Nat} : NoSp (numL n) := ⟨numL_free (by omega), numL_free (by omega)⟩
theorem nodeW_nosp {n : Nd} (h : n.Ok) : ∀ w ∈ nodeW n, NoSp w := fun w hw => by
  simp only [nodeW, List.mem_cons, List.not_mem_nil, or_false] at hw
  rcases hw with rfl | rfl | rfl | rfl
  · exact ⟨by decide, by decide⟩
  · exact low_nosp h.nm.1
  · exact low_nosp (kind_low _).1
  · exact num_nosp
theorem pipeW_nosp {p : Pp} {xs : List (List Nat)} (h : p.Ok xs) (hx : ∀ x ∈ xs, Nm x) : ∀ w ∈ pipeW p, NoSp w := fun w hw => by
  simp only [pipeW, List.mem_cons, List.not_mem_nil, or_false] at hw
  rcases hw with rfl | rfl | rfl | rfl | rfl | rfl
  · exact ⟨by decide, by decide⟩
  · exact low_nosp h.nm.1
  · exact low_nosp (hx _ h.one).1
  · exact low_nosp (hx _ h.other).1
  · exact num_nosp
  · exact num_nosp
theorem join_free {s t : Nat} (hst : s ≠ t) : ∀ {ws : List (List Nat)}, (∀ w ∈ ws, s ∉ w) → s ∉ joinL [t] ws
  | [], _ => by simp [joinL]
  | [w], h => h w (List.mem_singleton.mpr rfl)
  | w :: v :: r, h => by
    show s ∉ w ++ ([t] ++ joinL [t] (v :: r))
    intro z
    rcases List.mem_append.mp z with z | z
    · exact h w List.mem_cons_self z
    · rcases List.mem_append.mp z with z | z
      · exact hst (List.mem_singleton.mp z)
      · exact join_free hst (fun w hw => h w (List.mem_cons_of_mem _ hw)) z
theorem num_len {n : Nat} (h : n ≤ 60) : (numL n).length ≤ 2 := numL_len (by omega) (by omega)
theorem kind_len (t : Bool) : (kindL t).length ≤ 5 := by cases t <;> decide
theorem nodeLn_len {n : Nd} (h : n.Ok) : (nodeLn n).length ≤ 40 := by
  have h1 := h.nm.2.2
  have h2 := kind_len n.tank
  have h3 := num_len h.ves
  show (cNode ++ ([32] ++ (n.nm ++ ([32] ++ (kindL n.tank ++ ([32] ++ numL n.ves)))))).length ≤ 40
  simp only [List.length_append, List.length_cons, List.length_nil, cNode]
  omega
theorem pipeLn_len {p : Pp} {xs : List (List Nat)} (h : p.Ok xs) (hx : ∀ x ∈ xs, Nm x) : (pipeLn p).length ≤ 40 := by
  have h1 := h.nm.2.2
  have h2 := (hx _ h.one).2.2
  have h3 := (hx _ h.other).2.2
  have h4 := num_len (n := p.ticks) (by have := h.t2; omega)
  have h5 := num_len (n := p.size) (by have := h.s2; omega)
  show (cPipe ++ ([32] ++ (p.nm ++ ([32] ++ (p.one ++ ([32] ++ (p.other ++ ([32] ++ (numL p.ticks ++ ([32] ++ numL p.size)))))))))).length ≤ 40
  simp only [List.length_append, List.length_cons, List.length_nil, cPipe]
  omega
theorem join_len {k s : Nat} : ∀ {ws : List (List Nat)}, (∀ w ∈ ws, w.length ≤ k) → (joinL [s] ws).length ≤ (k + 1) * ws.length
  | [], _ => by simp [joinL]
  | [w], h => by
    have := h w (List.mem_singleton.mpr rfl)
    show w.length ≤ _
    simp
    omega
  | w :: v :: r, h => by
    have h1 := h w List.mem_cons_self
    have h2 := join_len (s := s) (fun w hw => h w (List.mem_cons_of_mem _ hw)) (ws := v :: r)
    show (w ++ ([s] ++ joinL [s] (v :: r))).length ≤ _
    have e : (w :: v :: r).length = (v :: r).length + 1 := rfl
    rw [List.length_append, List.length_append, e, Nat.mul_add]
    show w.length + (1 + (joinL [s] (v :: r)).length) ≤ _
    omega
theorem NetOk.names {nds : List Nd} {ps : List Pp} (h : NetOk nds ps) : ∀ x ∈ nds.map Nd.nm, Nm x := fun x hx => by
  obtain ⟨n, hn, rfl⟩ := List.mem_map.mp hx
  exact (h.nk n hn).nm
theorem lines_ok {nds : List Nd} {ps : List Pp} (h : NetOk nds ps) : ∀ l ∈ linesL nds ps, 10 ∉ l ∧ l.length ≤ 40 := fun l hl => by
  unfold linesL headL at hl
  rcases List.mem_append.mp hl with hl | hl
  · rcases List.mem_append.mp hl with hl | hl
    · obtain ⟨n, hn, rfl⟩ := List.mem_map.mp hl
      exact ⟨join_free (by decide) fun w hw => (nodeW_nosp (h.nk n hn) w hw).1, nodeLn_len (h.nk n hn)⟩
    · obtain ⟨p, hp, rfl⟩ := List.mem_map.mp hl
      exact ⟨join_free (by decide) fun w hw => (pipeW_nosp (h.pk p hp) h.names w hw).1, pipeLn_len (h.pk p hp) h.names⟩
  · simp only [List.mem_cons, List.not_mem_nil, or_false] at hl
    rcases hl with rfl | rfl <;> exact ⟨by decide, by decide⟩
theorem lines_len {nds : List Nd} {ps : List Pp} : (linesL nds ps).length = nds.length + ps.length + 2 := by
  unfold linesL headL
  simp
  omega
theorem text_len {nds : List Nd} {ps : List Pp} (h : NetOk nds ps) : (textL nds ps).length ≤ 1000 := by
  have h1 := join_len (s := 10) (k := 40) (ws := linesL nds ps) fun w hw => (lines_ok h w hw).2
  rw [lines_len] at h1
  have h2 := h.n2
  have h3 := h.p2
  show (joinL [10] (linesL nds ps)).length ≤ 1000
  omega
theorem cutL_last {α : Type} {l : List α} {a : α} : cutL (l ++ [a]) none (some (-1)) = l := by
  have h1 : HT.sIx (l ++ [a]).length (l ++ [a]).length (some (-1)) = l.length := by
    show (if (-1 : Int) < 0 then ((-1 : Int) + ((l ++ [a]).length : Int)).toNat else min (-1 : Int).toNat (l ++ [a]).length) = _
    rw [if_pos (by decide), List.length_append]
    show ((-1 : Int) + ((l.length + 1 : Nat) : Int)).toNat = _
    omega
  have h2 : HT.sIx (l ++ [a]).length 0 none = 0 := rfl
  unfold cutL
  rw [h1, h2]
  simp
theorem atI_last {α : Type} {l : List α} {a : α} : atI (l ++ [a]) (-1) = some a := by
  have h : ixN (l ++ [a]).length (-1) = some l.length := by
    unfold ixN
    rw [List.length_append]
    show (if (0 : Int) ≤ -1 then _ else _) = _
    rw [if_neg (by decide)]
    simp only [List.length_cons, List.length_nil]
    first
      | (rw [if_pos (by omega)]; congr 1; omega)
      | (simp; omega)
  unfold atI
  rw [h]
  simp
structure Reads (Γ : Nat → Ga) : Prop where
  nodeOf : Knows Γ "node_of" f_node_of
  pipeOf : Knows Γ "pipe_of" f_pipe_of
def endD (l : List (List Nat)) : D := .lst (l.map st)
structure RdI (o0 : Option Sl) (nds : List Nd) (ps : List Pp) (i : Nat) (ρ : Rho) : Prop where
  le : i ≤ nds.length + ps.length
  ex : ∃ (s4 s5 s6 s7 : Option Sl), ρ = [o0, some (.cel false (.lst ((linesL nds ps).map st))), some (.cel false (.lst ((nds.take i).map Nd.D))), some (.cel false (.lst ((ps.take (i - nds.length)).map Pp.D))), s4, s5, s6, s7] ∧ Vl s4 ∧ Vl s5 ∧ Vl s6 ∧ Vl s7
def bodyR : List S := [.par [6, 7] [.call "node_of" [.meth "split" (.var 5) [.cst (.str " ")]], .call "pipe_of" [.meth "split" (.var 5) [.cst (.str " ")]]],
    .iff (.and [.ap (.isn false) [.var 6], .ap (.cmp .eq) [.var 3, .lst []]])
     [.mt 2 .append [.var 6]]
     [.iff (.ap (.isn false) [.var 7])
       [.mt 3 .append [.var 7]]
       [.iff (.and [.ap (.cmp .eq) [.var 5, .cst (.str "end")], .ap (.cmp .eq) [.var 4, .ap (.bin .sub) [.ap (.bi .len) [.var 1], .cst (.int 2)]], .ap (.cmp .eq) [.ap .idx [.var 1, .ap .neg [.cst (.int 1)]], .cst (.str "")]])
         [.ret (.call "Net" [.var 2, .var 3])]
         [.iff (.ap (.cmp .eq) [.var 5, .cst (.str "end")])
           [.bad]
           [.bad]]]]]
def RdR (o0 : Option Sl) (nds : List Nd) (ps : List Pp) (out : SO) : Prop := ∃ ρ, out = .ret (false, netD nds ps) (o0 :: ρ)
theorem read_for (G : Glo Γ) (B : Basics Γ) (N : Nets Γ) (T : Glt Γ) (W : Words Γ) (R : Reads Γ) (L : Nat) {nds : List Nd} {ps : List Pp} (h : NetOk nds ps) (o0 : Option Sl) :
    RdR o0 nds ps (loop (fun ρ => held ρ [.val (.lst ((headL nds ps ++ [cEnd]).map st))] [.lst ((headL nds ps ++ [cEnd]).map st)]) (fun x ρ2 => optS (bind1 (.tp [.nm 4, .nm 5]) x ρ2) fun ρ3 => exs (Γ (L + 5)) bodyR ρ3) (enumD 0 ((headL nds ps ++ [cEnd]).map st))
      [o0, some (.cel false (.lst ((linesL nds ps).map st))), some (.cel false (.lst [])), some (.cel false (.lst [])), none, none, none, none]) := by
  have hn2 := h.n2
  have hp2 := h.p2
  have e1 : eqOk (.lst []) (.lst []) = true := by decide
  have e2 : (D.lst []).eqv (.lst []) = true := by decide
  refine loop_at (R := RdR o0 nds ps) (RdI o0 nds ps) ?_ ?_ ?_
  · exact ⟨Nat.zero_le _, none, none, none, none, by simp, .none, .none, .none, .none⟩
  · intro ρ hh
    have := hh.le
    rw [enum_len, List.length_map, List.length_append] at this
    unfold headL at this
    simp at this
    omega
  · intro i x ρ hx ⟨hle, s4, s5, s6, s7, hρ, f4, f5, f6, f7⟩
    refine ⟨held_val, ?_⟩
    subst hρ
    rw [enumD_get, List.getElem?_map] at hx
    rw [Nat.zero_add] at hx
    by_cases hi : i < nds.length
    · have hni : nds[i]? = some nds[i] := List.getElem?_eq_getElem hi
      generalize nds[i] = n at hni
      have hg : (headL nds ps ++ [cEnd])[i]? = some (nodeLn n) := by
        unfold headL
        rw [List.getElem?_append_left (by simp; omega), List.getElem?_append_left (by simpa using hi), List.getElem?_map, hni]
        rfl
      rw [hg] at hx
      cases hx
      have hok := h.nk n (List.mem_of_getElem? hni)
      have hsp := tx_split (s := 32) (ps := nodeW n) (by decide) (by simp [nodeW]) (fun w hw => (nodeW_nosp hok w hw).2) (Nat.le_trans (nodeLn_len hok) (by decide))
      have hsp : txD "split" (sOf (nodeLn n)) [st [32]] = some (.lst ((nodeW n).map st)) := hsp
      have r1 := nodeOf_run T W (L + 3) hok (b := false)
      have r2 := pipeOf_no (Γ (L + 4)) (l := (nodeW n).map st) (by simp [nodeW]) (b := false)
      have hz : (nds.take i).length + 1 ≤ 1000000 := by simp; omega
      have hnon : isnD false n.D = .bl true := rfl
      have hp0 : ps.take (i - nds.length) = [] := by rw [Nat.sub_eq_zero_of_le (Nat.le_of_lt hi)]; rfl
      have fin : RdI o0 nds ps (i + 1) [o0, some (.cel false (.lst ((linesL nds ps).map st))), some (.cel false (.lst ((nds.take i).map Nd.D ++ [n.D]))), some (.cel false (.lst [])), some (.val false (.int i)), some (.val false (st (nodeLn n))), some (.val false n.D), some (.val false .non)] := by
        refine ⟨by omega, some (.val false (.int i)), some (.val false (st (nodeLn n))), some (.val false n.D), some (.val false .non), ?_, .val, .val, .val, .val⟩
        rw [List.take_succ, hni, Nat.sub_eq_zero_of_le (Nat.succ_le_of_lt hi)]
        simp
      rw [hp0]
      generalize (nodeW n).map st = ws at *
      generalize nds.take i = nt at *
      generalize nodeLn n = ln at *
      generalize (linesL nds ps).map st = lls at *
      simp [bodyR, Pf.putAll, putS_free f4.fr, putS_free f5.fr, putS_free f6.fr, putS_free f7.fr, R.nodeOf.has, R.nodeOf.frz, R.nodeOf.cal, R.pipeOf.has, R.pipeOf.frz, R.pipeOf.cal, r1, r2, sp_eq, hsp, hnon, e1, e2, szl, hz]
      exact fin
    · have hge : nds.length ≤ i := by omega
      have hnt : nds.take i = nds := List.take_of_length_le hge
      by_cases hj : i - nds.length < ps.length
      · have hpi : ps[i - nds.length]? = some ps[i - nds.length] := List.getElem?_eq_getElem hj
        generalize ps[i - nds.length] = p at hpi
        have hg : (headL nds ps ++ [cEnd])[i]? = some (pipeLn p) := by
          unfold headL
          rw [List.getElem?_append_left (by simp; omega), List.getElem?_append_right (by simpa using hge), List.getElem?_map, List.length_map, hpi]
          rfl
        rw [hg] at hx
        cases hx
        have hok := h.pk p (List.mem_of_getElem? hpi)
        have hsp := tx_split (s := 32) (ps := pipeW p) (by decide) (by simp [pipeW]) (fun w hw => (pipeW_nosp hok h.names w hw).2) (Nat.le_trans (pipeLn_len hok h.names) (by decide))
        have hsp : txD "split" (sOf (pipeLn p)) [st [32]] = some (.lst ((pipeW p).map st)) := hsp
        have r1 := nodeOf_no (Γ (L + 4)) (l := (pipeW p).map st) (by simp [pipeW]) (b := false)
        have r2 := pipeOf_run T W (L + 3) hok h.names (b := false)
        have hz : (ps.take (i - nds.length)).length + 1 ≤ 1000000 := by simp; omega
        have hnon : isnD false p.D = .bl true := rfl
        have fin : RdI o0 nds ps (i + 1) [o0, some (.cel false (.lst ((linesL nds ps).map st))), some (.cel false (.lst ((nds.take i).map Nd.D))), some (.cel false (.lst ((ps.take (i - nds.length)).map Pp.D ++ [p.D]))), some (.val false (.int i)), some (.val false (st (pipeLn p))), some (.val false .non), some (.val false p.D)] := by
          refine ⟨by omega, some (.val false (.int i)), some (.val false (st (pipeLn p))), some (.val false .non), some (.val false p.D), ?_, .val, .val, .val, .val⟩
          rw [hnt, List.take_of_length_le (show nds.length ≤ i + 1 by omega), show i + 1 - nds.length = (i - nds.length) + 1 by omega, List.take_succ, hpi]
          simp
        generalize (pipeW p).map st = ws at *
        generalize nds.take i = nt at *
        generalize ps.take (i - nds.length) = pt at *
        generalize pipeLn p = ln at *
        generalize (linesL nds ps).map st = lls at *
        simp [bodyR, Pf.putAll, putS_free f4.fr, putS_free f5.fr, putS_free f6.fr, putS_free f7.fr, R.nodeOf.has, R.nodeOf.frz, R.nodeOf.cal, R.pipeOf.has, R.pipeOf.frz, R.pipeOf.cal, r1, r2, sp_eq, hsp, hnon, szl, hz]
        exact fin
      · have hie : i = nds.length + ps.length := by omega
        have hpt : ps.take (i - nds.length) = ps := List.take_of_length_le (by omega)
        have hg : (headL nds ps ++ [cEnd])[i]? = some cEnd := by
          unfold headL
          rw [List.getElem?_append_right (by simp; omega)]
          simp [hie]
        rw [hg] at hx
        cases hx
        have hsp := tx_split (s := 32) (ps := [cEnd]) (by decide) (by simp) (fun w hw => by rw [List.mem_singleton.mp hw]; decide) (by decide)
        have hsp : txD "split" (sOf cEnd) [st [32]] = some (.lst [st cEnd]) := hsp
        have r1 := nodeOf_no (Γ (L + 4)) (l := [st cEnd]) (by simp) (b := false)
        have r2 := pipeOf_no (Γ (L + 4)) (l := [st cEnd]) (by simp) (b := false)
        have hll : (((linesL nds ps).map st).length : Int) = (i : Int) + 2 := by rw [List.length_map, lines_len]; omega
        have hla : atI ((linesL nds ps).map st) (-1) = some (st []) := by
          have e : (linesL nds ps).map st = (headL nds ps ++ [cEnd]).map st ++ [st []] := by unfold linesL; simp
          rw [e]
          exact atI_last
        have hcall := net_callC G B N L h
        rw [hnt, hpt]
        generalize (linesL nds ps).map st = lls at *
        simp [bodyR, Pf.putAll, putS_free f4.fr, putS_free f5.fr, putS_free f6.fr, putS_free f7.fr, R.nodeOf.has, R.nodeOf.frz, R.nodeOf.cal, R.pipeOf.has, R.pipeOf.frz, R.pipeOf.cal, r1, r2, sp_eq, hsp, end_eq, nil_eq, hll, hla, N.net.has, N.net.frz, hcall]
        exact ⟨_, rfl⟩
theorem read_run (G : Glo Γ) (B : Basics Γ) (N : Nets Γ) (T : Glt Γ) (W : Words Γ) (R : Reads Γ) (L : Nat) {nds : List Nd} {ps : List Pp} (h : NetOk nds ps) {b : Bool} :
    run1 (Γ (L + 5)) f_read_net [.val b (st (textL nds ps))] = .ok (false, netD nds ps) [some (.val b (st (textL nds ps)))] := by
  have hsp := tx_split (s := 10) (ps := linesL nds ps) (by decide) (by simp [linesL]) (fun l hl => (lines_ok h l hl).1) (Nat.le_trans (text_len h) (by decide))
  have hsp : txD "split" (sOf (textL nds ps)) [st [10]] = some (.lst ((linesL nds ps).map st)) := hsp
  have hsl : slcO (.lst ((linesL nds ps).map st)) none (some (-1)) = some (.lst ((headL nds ps ++ [cEnd]).map st)) := by
    have e : (linesL nds ps).map st = (headL nds ps ++ [cEnd]).map st ++ [st []] := by unfold linesL; simp
    show some (D.lst (cutL _ _ _)) = _
    rw [e, cutL_last]
  have hw : walk .enm [.lst ((headL nds ps ++ [cEnd]).map st)] = some (enumD 0 ((headL nds ps ++ [cEnd]).map st)) := rfl
  have hf := read_for G B N T W R L h (some (.val b (st (textL nds ps))))
  generalize textL nds ps = tx at *
  generalize (linesL nds ps).map st = lls at *
  generalize (headL nds ps ++ [cEnd]).map st = hls at *
  simp [run1_eq, f_read_net, finR, D.isa, nl_eq, hsp, Pf.putAll, ex_for, hsl, hw]
  generalize hlo : loop _ _ _ _ = out
  have hf : RdR (some (.val b (st tx))) nds ps out := by
    rw [← hlo]
    exact hf
  obtain ⟨ρ, rfl⟩ := hf
  simp [finR]
end Pf
end
section
set_option Elab.async false
set_option linter.all false
set_option maxRecDepth 100000
set_option maxHeartbeats 4000000
/-! Lw13: a net's text written; the law's own writer. -/
namespace Pf
open PySem PySem.Spec PyProof.Rows L2 TL
def f_net_text : Fn := ⟨1, 9, [.set 1 (.comp [2, 3, 4] (.tp [.nm 2, .nm 3, .nm 4]) .seq [.ap (.fld "nodes") [.var 0]] [] (.fst [.cst (.str "node "), .var 2, .cst (.str " "), .var 3, .cst (.str " "), .var 4])),
  .mt 1 .extend [.comp [2, 5, 6, 7, 8] (.tp [.nm 2, .nm 5, .nm 6, .nm 7, .nm 8]) .seq [.ap (.fld "pipes") [.var 0]] [] (.fst [.cst (.str "pipe "), .var 2, .cst (.str " "), .var 5, .cst (.str " "), .var 6, .cst (.str " "), .var 7, .cst (.str " "), .var 8])],
  .ret (.meth "join" (.cst (.str "\n")) [.ap (.bin .add) [.var 1, .lst [.cst (.str "end"), .cst (.str "")]]])]⟩
def f__law_text : Fn := ⟨1, 4, [.set 1 (.cst (.str "")),
  .for_ (.nm 2) .seq [.ap .idx [.var 0, .cst (.int 0)]]
   [.set 1 (.ap (.bin .add) [.ap (.bin .add) [.ap (.bin .add) [.ap (.bin .add) [.ap (.bin .add) [.ap (.bin .add) [.ap (.bin .add) [.var 1, .cst (.str "node ")], .ap .idx [.var 2, .cst (.int 0)]], .cst (.str " ")], .ap .idx [.var 2, .cst (.int 1)]], .cst (.str " ")], .ap (.bi .str) [.ap .idx [.var 2, .cst (.int 2)]]], .cst (.str "\n")])],
  .for_ (.nm 3) .seq [.ap .idx [.var 0, .cst (.int 1)]]
   [.set 1 (.ap (.bin .add) [.ap (.bin .add) [.ap (.bin .add) [.ap (.bin .add) [.ap (.bin .add) [.ap (.bin .add) [.ap (.bin .add) [.ap (.bin .add) [.ap (.bin .add) [.ap (.bin .add) [.ap (.bin .add) [.var 1, .cst (.str "pipe ")], .ap .idx [.var 3, .cst (.int 0)]], .cst (.str " ")], .ap .idx [.var 3, .cst (.int 1)]], .cst (.str " ")], .ap .idx [.var 3, .cst (.int 2)]], .cst (.str " ")], .ap (.bi .str) [.ap .idx [.var 3, .cst (.int 3)]]], .cst (.str " ")], .ap (.bi .str) [.ap .idx [.var 3, .cst (.int 4)]]], .cst (.str "\n")])],
  .ret (.ap (.bin .add) [.var 1, .cst (.str "end\n")])]⟩
variable {Γ : Nat → Ga}
theorem turns_on {α : Type} {hd : Rho → Bool} {f : D → Rho → Out (Option D)} {ρ : Rho} {dn gn : α → D} (h : hd ρ = true) : ∀ {ns : List α}, (∀ n ∈ ns, f (dn n) ρ = .ok (some (gn n)) ρ) → turns hd f (ns.map dn) ρ = .ok (ns.map gn) ρ
  | [], _ => by
    rw [List.map_nil]
    unfold turns
    rw [if_pos h]
    rfl
  | n :: ns, hx => by
    rw [List.map_cons]
    unfold turns
    rw [if_pos h, hx n List.mem_cons_self]
    simp only [turns_on h (ns := ns) fun m hm => hx m (List.mem_cons_of_mem _ hm), bnd_ok, List.map_cons]
theorem fmtO_sOf {a b : List Nat} (h : a.length + b.length ≤ 1000000) : fmtO (sOf a) (.str (sOf b)) = some (sOf (a ++ b)) := by
  rw [fmtO_str, sOf_add]
  unfold szl
  rw [sOf_len, sOf_len, List.length_append, if_pos (decide_eq_true (by omega)), if_pos (decide_eq_true h)]
theorem fmtO_num {a : List Nat} {n : Nat} (h1 : n ≤ 60) (h : a.length ≤ 1000) : fmtO (sOf a) (.int n) = some (sOf (a ++ numL n)) := by
  have hl := num_len h1
  have hb : ((n : Int).natAbs).log2 < 1920 := by
    rw [Int.natAbs_natCast]
    exact Nat.lt_of_le_of_lt (Nat.log2_le_self n) (by omega)
  rw [fmtO_int, if_pos hb, num_str, sOf_add]
  unfold szl
  rw [sOf_len, List.length_append, if_pos (decide_eq_true (by omega))]
theorem addS_sOf {fl : Nat → List Str} {a b : List Nat} (h : a.length + b.length ≤ 1000000) : (Op.bin .add).ap fl [.str (sOf a), .str (sOf b)] = some (.str (sOf (a ++ b))) := by
  rw [o_addS, sOf_add]
  unfold szl
  rw [sOf_len, sOf_len, if_pos (decide_eq_true h)]
theorem str_num {fl : Nat → List Str} {n : Nat} (h : n ≤ 60) : (Op.bi .str).ap fl [.int n] = some (.str (sOf (numL n))) := by
  have hb : ((n : Int).natAbs).log2 < 1920 := by
    rw [Int.natAbs_natCast]
    exact Nat.lt_of_le_of_lt (Nat.log2_le_self n) (by omega)
  rw [o_str, if_pos hb, num_str]
theorem nodeS_eq : ("node " : Str) = sOf (cNode ++ [32]) := by decide +kernel
theorem pipeS_eq : ("pipe " : Str) = sOf (cPipe ++ [32]) := by decide +kernel
theorem endS_eq : ("end\n" : Str) = sOf (cEnd ++ [10]) := by decide +kernel
theorem empty_eq : Str.empty = sOf [] := rfl
theorem nodeLn_eq (n : Nd) : nodeLn n = cNode ++ ([32] ++ (n.nm ++ ([32] ++ (kindL n.tank ++ ([32] ++ numL n.ves))))) := rfl
theorem pipeLn_eq (p : Pp) : pipeLn p = cPipe ++ ([32] ++ (p.nm ++ ([32] ++ (p.one ++ ([32] ++ (p.other ++ ([32] ++ (numL p.ticks ++ ([32] ++ numL p.size))))))))) := rfl
theorem nt_nodes (Γ0 : Ga) {nds : List Nd} (h : ∀ n ∈ nds, n.Ok) {o0 : Option Sl} {d : D} : turns (fun ρ => held ρ [.val d] [d]) (lcF Γ0 [2, 3, 4] (.tp [.nm 2, .nm 3, .nm 4]) [] (.fst [.cst (.str "node "), .var 2, .cst (.str " "), .var 3, .cst (.str " "), .var 4])) (nds.map Nd.D)
    [o0, none, none, none, none, none, none, none, none] = .ok (nds.map fun n => st (nodeLn n)) [o0, none, none, none, none, none, none, none, none] :=
  turns_on held_val fun n hn => by
    obtain ⟨h1, _, h3⟩ := h n hn
    have h1 := h1.2.2
    have h2 := kind_len n.tank
    rw [nodeLn_eq]
    simp (disch := (try simp only [List.length_append, List.length_cons, List.length_nil, cNode]) <;> omega) [Nd.D, lcF_eq, nodeS_eq, sp_eq, kind_eq, empty_eq, fmtO_sOf, fmtO_num, -fmtO_str, -fmtO_int]
theorem nt_pipes (Γ0 : Ga) {xs : List (List Nat)} (hx : ∀ x ∈ xs, Nm x) {ps : List Pp} (h : ∀ p ∈ ps, p.Ok xs) {o0 : Option Sl} {l d : D} : turns (fun ρ => held ρ [.val d] [d]) (lcF Γ0 [2, 5, 6, 7, 8] (.tp [.nm 2, .nm 5, .nm 6, .nm 7, .nm 8]) [] (.fst [.cst (.str "pipe "), .var 2, .cst (.str " "), .var 5, .cst (.str " "), .var 6, .cst (.str " "), .var 7, .cst (.str " "), .var 8])) (ps.map Pp.D)
    [o0, some (.cel false l), none, none, none, none, none, none, none] = .ok (ps.map fun p => st (pipeLn p)) [o0, some (.cel false l), none, none, none, none, none, none, none] :=
  turns_on held_val fun p hp => by
    have hok := h p hp
    have h1 := hok.nm.2.2
    have h2 := (hx _ hok.one).2.2
    have h3 := (hx _ hok.other).2.2
    have h4 := hok.t2
    have h5 := hok.s2
    have h6 := num_len (n := p.ticks) (by omega)
    rw [pipeLn_eq]
    simp (disch := (try simp only [List.length_append, List.length_cons, List.length_nil, cPipe]) <;> omega) [Pp.D, lcF_eq, pipeS_eq, sp_eq, empty_eq, fmtO_sOf, fmtO_num, -fmtO_str, -fmtO_int]
theorem strs_st : ∀ ls : List (List Nat), D.strs (ls.map st) = some (ls.map sOf)
  | [] => rfl
  | l :: ls => by
    rw [List.map_cons, List.map_cons]
    unfold D.strs
    rw [strs_st ls]
    rfl
theorem tx_join {s : Nat} {ls : List (List Nat)} (h : ((ls.map sOf).map (·.length)).sum + (ls.map sOf).length * 1 ≤ 1000000) : txD "join" (sOf [s]) [.lst (ls.map st)] = some (.str (sOf (joinL [s] ls))) := by
  show (if ("join" : Str) = "join" then (match D.strs (ls.map st) with
    | some ys => if (ys.map (·.length)).sum + ys.length * (sOf [s]).length ≤ 1000000 then some (D.str (Txt.join (sOf [s]) ys)) else none
    | none => none) else none) = _
  rw [if_pos rfl, strs_st]
  show (if ((ls.map sOf).map (·.length)).sum + (ls.map sOf).length * (sOf [s]).length ≤ 1000000 then some (D.str (Txt.join (sOf [s]) (ls.map sOf))) else none) = _
  rw [show (sOf [s]).length = 1 from sOf_len, if_pos h, join_sOf]
@[simp] theorem mt_extend {k l : List D} : mtD .extend (.lst k) [.lst l] = if szl (k.length + l.length) = true then some (.lst (k ++ l)) else none := rfl
theorem sum_len : ∀ {ls : List (List Nat)} {k : Nat}, (∀ l ∈ ls, l.length ≤ k) → ((ls.map sOf).map (·.length)).sum ≤ k * ls.length
  | [], k, _ => by simp
  | l :: ls, k, h => by
    have h1 := h l List.mem_cons_self
    have h2 := sum_len fun l hl => h l (List.mem_cons_of_mem _ hl)
    rw [List.map_cons, List.map_cons, List.sum_cons, List.length_cons, Nat.mul_add, sOf_len]
    omega
theorem nt_run (Γ0 : Ga) (hfl : Γ0.flds 0 = netF) {nds : List Nd} {ps : List Pp} (h : NetOk nds ps) {b : Bool} : run1 Γ0 f_net_text [.val b (netD nds ps)] = .ok (false, st (textL nds ps)) [some (.val b (netD nds ps))] := by
  have f0 : fldD Γ0.flds "nodes" (netD nds ps) = some (.tup (nds.map Nd.D)) := fldD_at (k := 0) hfl (by decide +kernel) rfl
  have f1 : fldD Γ0.flds "pipes" (netD nds ps) = some (.tup (ps.map Pp.D)) := fldD_at (k := 1) hfl (by decide +kernel) rfl
  have hn := h.n2
  have hp := h.p2
  have w0 : walkS .seq [.tup (nds.map Nd.D)] = some (nds.map Nd.D) := walkS_seqR (t := true) (by rw [List.length_map]; omega)
  have w1 : walkS .seq [.tup (ps.map Pp.D)] = some (ps.map Pp.D) := walkS_seqR (t := true) (by rw [List.length_map]; omega)
  have t0 := fun o0 d => nt_nodes Γ0 h.nk (o0 := o0) (d := d)
  have t1 := fun o0 l d => nt_pipes Γ0 h.names h.pk (o0 := o0) (l := l) (d := d)
  have hll : linesL nds ps = nds.map nodeLn ++ ps.map pipeLn ++ [cEnd, []] := rfl
  have hj : txD "join" (sOf [10]) [.lst ((nds.map fun n => st (nodeLn n)) ++ ((ps.map fun p => st (pipeLn p)) ++ [st cEnd, st []]))] = some (st (textL nds ps)) := by
    have e : (nds.map fun n => st (nodeLn n)) ++ ((ps.map fun p => st (pipeLn p)) ++ [st cEnd, st []]) = (linesL nds ps).map st := by
      rw [hll]
      simp [Function.comp_def]
    rw [e]
    refine tx_join ?_
    have := sum_len (ls := linesL nds ps) (k := 40) fun l hl => (lines_ok h l hl).2
    rw [List.length_map, lines_len]
    rw [lines_len] at this
    omega
  have z1 : nds.length + ps.length ≤ 1000000 := by omega
  have z2 : nds.length + ps.length + 2 ≤ 1000000 := by omega
  simp [run1_eq, f_net_text, finR, f0, f1, ev_comp, w0, w1, t0, t1, szl, z1, z2, nl_eq, end_eq, nil_eq, hj]
end Pf
end
section
set_option Elab.async false
set_option linter.all false
set_option maxRecDepth 100000
set_option maxHeartbeats 4000000
/-! Lw14: the law's own writer; likeness. -/
namespace Pf
open PySem PySem.Spec PyProof.Rows L2 TL
variable {Γ : Nat → Ga}
def accN (nds : List Nd) : List Nat := nds.flatMap fun n => nodeLn n ++ [10]
def accP (ps : List Pp) : List Nat := ps.flatMap fun p => pipeLn p ++ [10]
theorem accN_len {nds : List Nd} (h : ∀ n ∈ nds, n.Ok) : (accN nds).length ≤ 41 * nds.length := by
  induction nds with
  | nil => exact Nat.zero_le _
  | cons n nds ih =>
    have h1 := nodeLn_len (h n List.mem_cons_self)
    have h2 := ih fun m hm => h m (List.mem_cons_of_mem _ hm)
    have e : accN (n :: nds) = (nodeLn n ++ [10]) ++ accN nds := rfl
    have e2 : (n :: nds).length = nds.length + 1 := rfl
    rw [e, List.length_append, List.length_append, e2]
    show (nodeLn n).length + 1 + (accN nds).length ≤ _
    omega
theorem accP_len {ps : List Pp} {xs : List (List Nat)} (hx : ∀ x ∈ xs, Nm x) (h : ∀ p ∈ ps, p.Ok xs) : (accP ps).length ≤ 41 * ps.length := by
  induction ps with
  | nil => exact Nat.zero_le _
  | cons p ps ih =>
    have h1 := pipeLn_len (h p List.mem_cons_self) hx
    have h2 := ih fun m hm => h m (List.mem_cons_of_mem _ hm)
    have e : accP (p :: ps) = (pipeLn p ++ [10]) ++ accP ps := rfl
    have e2 : (p :: ps).length = ps.length + 1 := rfl
    rw [e, List.length_append, List.length_append, e2]
    show (pipeLn p).length + 1 + (accP ps).length ≤ _
    omega
theorem joinL_end {s : Nat} {e : List Nat} : ∀ {ls : List (List Nat)}, joinL [s] (ls ++ [e, []]) = (ls.flatMap fun l => l ++ [s]) ++ (e ++ [s])
  | [] => by
    show e ++ ([s] ++ []) = _
    simp
  | l :: ls => by
    have h := joinL_end (s := s) (e := e) (ls := ls)
    have e1 : joinL [s] (l :: (ls ++ [e, []])) = l ++ ([s] ++ joinL [s] (ls ++ [e, []])) := by
      cases ls <;> rfl
    rw [List.cons_append, e1, h]
    simp
theorem text_acc (nds : List Nd) (ps : List Pp) : textL nds ps = accN nds ++ (accP ps ++ (cEnd ++ [10])) := by
  show joinL [10] ((nds.map nodeLn ++ ps.map pipeLn) ++ [cEnd, []]) = _
  rw [joinL_end]
  simp [accN, accP, List.flatMap_append, List.flatMap_map]
structure TxI (o0 : Option Sl) (nds : List Nd) (i : Nat) (ρ : Rho) : Prop where
  ex : ∃ (s2 : Option Sl) (acc : List Nat), ρ = [o0, some (.val false (st acc)), s2, none] ∧ acc = accN (nds.take i) ∧ Vl s2
structure TyI (o0 s2 : Option Sl) (a0 : List Nat) (ps : List Pp) (i : Nat) (ρ : Rho) : Prop where
  ex : ∃ (s3 : Option Sl) (acc : List Nat), ρ = [o0, some (.val false (st acc)), s2, s3] ∧ acc = a0 ++ accP (ps.take i) ∧ Vl s3
def partsD (nds : List Nd) (ps : List Pp) : D := .tup [.tup (nds.map Nd.D), .tup (ps.map Pp.D)]
theorem text_run (Γ0 : Ga) {nds : List Nd} {ps : List Pp} (h : NetOk nds ps) {b : Bool} : run1 Γ0 f__law_text [.val b (partsD nds ps)] = .ok (false, st (textL nds ps)) [some (.val b (partsD nds ps))] := by
  have w0 : walk .seq [.tup (nds.map Nd.D)] = some (nds.map Nd.D) := rfl
  have w1 : walk .seq [.tup (ps.map Pp.D)] = some (ps.map Pp.D) := rfl
  have i0 : Op.idx.ap Γ0.flds [partsD nds ps, .int 0] = some (.tup (nds.map Nd.D)) := rfl
  have i1 : Op.idx.ap Γ0.flds [partsD nds ps, .int 1] = some (.tup (ps.map Pp.D)) := rfl
  have hn := h.n2
  have hp := h.p2
  simp [run1_eq, f__law_text, finR, nil_eq, i0, ex_for, w0]
  generalize hlo : loop _ _ _ _ = out
  have key : ∃ ρ, out = .nx ρ ∧ TxI (some (.val b (partsD nds ps))) nds nds.length ρ := by
    rw [← hlo]
    refine loop_at (R := fun out => ∃ ρ, out = .nx ρ ∧ TxI (some (.val b (partsD nds ps))) nds nds.length ρ) (TxI (some (.val b (partsD nds ps))) nds) ?_ ?_ ?_
    · exact ⟨none, [], rfl, rfl, .none⟩
    · intro ρ hh
      rw [List.length_map] at hh
      exact ⟨held_val, ρ, rfl, hh⟩
    · intro i x ρ hx ⟨s2, acc, hρ, hacc, f2⟩
      refine ⟨held_val, ?_⟩
      subst hρ
      rw [List.getElem?_map] at hx
      cases hni : nds[i]? with
      | none => rw [hni] at hx; cases hx
      | some n =>
      rw [hni] at hx
      cases hx
      have hil := (List.getElem?_eq_some_iff.mp hni).1
      have hok := h.nk n (List.mem_of_getElem? hni)
      have h1 := hok.nm.2.2
      have h2 := kind_len n.tank
      have h3 := hok.ves
      have h4 := num_len h3
      have hla : acc.length ≤ 41 * 8 := by
        rw [hacc]
        have := accN_len (nds := nds.take i) fun m hm => h.nk m (List.mem_of_mem_take hm)
        rw [List.length_take] at this
        omega
      have d0 : Op.idx.ap Γ0.flds [n.D, .int 0] = some (st n.nm) := rfl
      have d1 : Op.idx.ap Γ0.flds [n.D, .int 1] = some (.str (kindS n.tank)) := rfl
      have d2 : Op.idx.ap Γ0.flds [n.D, .int 2] = some (.int n.ves) := rfl
      simp (disch := (try simp only [List.length_append, List.length_cons, List.length_nil, cNode]) <;> omega) [putS_free f2.fr, d0, d1, d2, kind_eq, nodeS_eq, sp_eq, nl_eq, addS_sOf, str_num, -o_addS, -o_str]
      refine ⟨_, _, rfl, ?_, .val⟩
      rw [List.take_succ, hni, hacc]
      simp [accN, nodeLn_eq]
  obtain ⟨ρ, rfl, s2, acc, rfl, hacc, f2⟩ := key
  rw [List.take_length] at hacc
  have hla : acc.length ≤ 41 * 8 := by
    rw [hacc]
    have := accN_len (nds := nds) h.nk
    omega
  simp [i1, ex_for, w1]
  generalize hlo : loop _ _ _ _ = out
  have key : ∃ ρ, out = .nx ρ ∧ TyI (some (.val b (partsD nds ps))) s2 acc ps ps.length ρ := by
    rw [← hlo]
    refine loop_at (R := fun out => ∃ ρ, out = .nx ρ ∧ TyI (some (.val b (partsD nds ps))) s2 acc ps ps.length ρ) (TyI (some (.val b (partsD nds ps))) s2 acc ps) ?_ ?_ ?_
    · exact ⟨none, acc, rfl, by simp [accP], .none⟩
    · intro ρ hh
      rw [List.length_map] at hh
      exact ⟨held_val, ρ, rfl, hh⟩
    · intro i x ρ hx ⟨s3, acc2, hρ, hacc2, f3⟩
      refine ⟨held_val, ?_⟩
      subst hρ
      rw [List.getElem?_map] at hx
      cases hni : ps[i]? with
      | none => rw [hni] at hx; cases hx
      | some p =>
      rw [hni] at hx
      cases hx
      have hil := (List.getElem?_eq_some_iff.mp hni).1
      have hok := h.pk p (List.mem_of_getElem? hni)
      have h1 := hok.nm.2.2
      have h2 := (h.names _ hok.one).2.2
      have h3 := (h.names _ hok.other).2.2
      have h4 := hok.t2
      have h5 := hok.s2
      have h6 := num_len (n := p.ticks) (by omega)
      have h7 := num_len (n := p.size) (by omega)
      have hla2 : acc2.length ≤ 1000 := by
        rw [hacc2, List.length_append]
        have := accP_len (ps := ps.take i) h.names fun m hm => h.pk m (List.mem_of_mem_take hm)
        rw [List.length_take] at this
        omega
      have d0 : Op.idx.ap Γ0.flds [p.D, .int 0] = some (st p.nm) := rfl
      have d1 : Op.idx.ap Γ0.flds [p.D, .int 1] = some (st p.one) := rfl
      have d2 : Op.idx.ap Γ0.flds [p.D, .int 2] = some (st p.other) := rfl
      have d3 : Op.idx.ap Γ0.flds [p.D, .int 3] = some (.int p.ticks) := rfl
      have d4 : Op.idx.ap Γ0.flds [p.D, .int 4] = some (.int p.size) := rfl
      simp (disch := (try simp only [List.length_append, List.length_cons, List.length_nil, cPipe]) <;> omega) [putS_free f3.fr, d0, d1, d2, d3, d4, pipeS_eq, sp_eq, nl_eq, addS_sOf, str_num, -o_addS, -o_str]
      refine ⟨_, _, rfl, ?_, .val⟩
      rw [List.take_succ, hni, hacc2]
      simp [accP, pipeLn_eq]
  obtain ⟨ρ, rfl, s3, acc2, rfl, hacc2, f3⟩ := key
  rw [List.take_length] at hacc2
  have hla2 : acc2.length ≤ 1000 := by
    rw [hacc2, List.length_append]
    have := accP_len h.names h.pk
    omega
  simp (disch := (try simp only [List.length_append, List.length_cons, List.length_nil, cEnd]) <;> omega) [finR, endS_eq, addS_sOf, -o_addS]
  rw [text_acc, hacc2, hacc]
  simp
end Pf
end
section
set_option Elab.async false
set_option linter.all false
set_option maxRecDepth 100000
set_option maxHeartbeats 4000000
/-! Lw15: likeness; nets that are equal. -/
namespace Pf
open PySem PySem.Spec PyProof.Rows L2 TL
def f__law_alike : Fn := ⟨2, 4, [.iff (.ap (.isi [.tuple, .list]) [.var 1])
   [.iff (.or [.not (.ap (.isi [.tuple, .list]) [.var 0]), .ap (.cmp .ne) [.ap (.isi [.list]) [.var 0], .ap (.isi [.list]) [.var 1]]])
     [.ret (.cst (.bl false))]
     [],
    .iff (.ap (.cmp .ne) [.ap (.bi .len) [.var 0], .ap (.bi .len) [.var 1]])
     [.ret (.cst (.bl false))]
     [],
    .ret (.ap (.cmp .eq) [.comp [2] (.nm 2) .rng [.ap (.bi .len) [.var 1]] [.not (.call "_law_alike" [.ap .idx [.var 0, .var 2], .ap .idx [.var 1, .var 2]])] (.var 2), .lst []])]
   [],
  .iff (.ap (.isi [.dict]) [.var 1])
   [.iff (.or [.not (.ap (.isi [.dict]) [.var 0]), .ap (.cmp .ne) [.ap (.bi .list) [.var 0], .ap (.bi .list) [.var 1]]])
     [.ret (.cst (.bl false))]
     [],
    .ret (.ap (.cmp .eq) [.comp [3] (.nm 3) .seq [.var 1] [.not (.call "_law_alike" [.ap .idx [.var 0, .var 3], .ap .idx [.var 1, .var 3]])] (.var 3), .lst []])]
   [],
  .iff (.or [.ap (.isn true) [.var 1], .ap (.isi [.str]) [.var 1]])
   [.ret (.and [.oeq false [.var 0, .var 1], .ap (.cmp .eq) [.ap (.isi [.str]) [.var 0], .ap (.isi [.str]) [.var 1]]])]
   [],
  .ret (.and [.ap (.isi [.int]) [.var 0], .ap (.cmp .eq) [.ap (.isi [.bool]) [.var 0], .ap (.isi [.bool]) [.var 1]], .oeq false [.var 0, .var 1]])]⟩
def f_Net_eq : Fn := ⟨2, 2, [.ret (.and [.ap (.isi [.own 0]) [.var 1], .ap (.cmp .eq) [.ap (.fld "nodes") [.var 0], .ap (.fld "nodes") [.var 1]], .ap (.cmp .eq) [.ap (.fld "pipes") [.var 0], .ap (.fld "pipes") [.var 1]]])]⟩
def f__law_made : Fn := ⟨1, 1, [.ret (.call "Net" [.ap .idx [.var 0, .cst (.int 0)], .ap .idx [.var 0, .cst (.int 1)]])]⟩
variable {Γ : Nat → Ga}
/-- plain data of some depth -/
inductive Lk : Nat → D → Prop where
  | non {n : Nat} : Lk n .non
  | bl {n : Nat} (b : Bool) : Lk n (.bl b)
  | int {n : Nat} (i : Int) : Lk n (.int i)
  | str {n : Nat} (s : Str) : Lk n (.str s)
  | tup {n : Nat} (l : List D) (h : ∀ d ∈ l, Lk n d) (hl : l.length ≤ 1000000) : Lk (n + 1) (.tup l)
  | lst {n : Nat} (l : List D) (h : ∀ d ∈ l, Lk n d) (hl : l.length ≤ 1000000) : Lk (n + 1) (.lst l)
theorem plainL_of : ∀ {l : List D}, (∀ d ∈ l, d.plain = true) → D.plainL l = true
  | [], _ => by unfold D.plainL; rfl
  | d :: l, h => by
    unfold D.plainL
    rw [h d List.mem_cons_self, plainL_of fun e he => h e (List.mem_cons_of_mem _ he)]
    rfl
theorem eqvL_of : ∀ {l : List D}, (∀ d ∈ l, d.eqv d = true) → D.eqvL l l = true
  | [], _ => by unfold D.eqvL; rfl
  | d :: l, h => by
    unfold D.eqvL
    show (d.eqv d && D.eqvL l l) = true
    rw [h d List.mem_cons_self, eqvL_of fun e he => h e (List.mem_cons_of_mem _ he)]
    rfl
theorem depthL_of {n : Nat} : ∀ {l : List D}, (∀ d ∈ l, d.py.depth ≤ n) → PyData.depthAll (D.pyL l) ≤ n
  | [], _ => by unfold D.pyL PyData.depthAll; exact Nat.zero_le _
  | d :: l, h => by
    unfold D.pyL PyData.depthAll
    have h1 := h d List.mem_cons_self
    have h2 := depthL_of fun e he => h e (List.mem_cons_of_mem _ he)
    omega
theorem Lk.all {n : Nat} {d : D} (h : Lk n d) : d.plain = true ∧ d.eqv d = true ∧ d.py.depth ≤ n := by
  induction h with
  | non => exact ⟨rfl, rfl, by unfold D.py PyData.depth; exact Nat.zero_le _⟩
  | bl b => exact ⟨rfl, by simp, by unfold D.py PyData.depth; exact Nat.zero_le _⟩
  | int i => exact ⟨rfl, by simp, by unfold D.py PyData.depth; exact Nat.zero_le _⟩
  | str s => exact ⟨rfl, by rw [eqv_str]; simp, by unfold D.py PyData.depth; exact Nat.zero_le _⟩
  | @tup n l h hl ih =>
    refine ⟨?_, ?_, ?_⟩
    · unfold D.plain; exact plainL_of fun d hd => (ih d hd).1
    · unfold D.eqv; exact eqvL_of fun d hd => (ih d hd).2.1
    · unfold D.py PyData.depth
      have := depthL_of fun d hd => (ih d hd).2.2
      omega
  | @lst n l h hl ih =>
    refine ⟨?_, ?_, ?_⟩
    · unfold D.plain; exact plainL_of fun d hd => (ih d hd).1
    · unfold D.eqv; exact eqvL_of fun d hd => (ih d hd).2.1
    · unfold D.py PyData.depth
      have := depthL_of fun d hd => (ih d hd).2.2
      omega
theorem Lk.eqOk {n m : Nat} {d e : D} (h : Lk n d) (h2 : Lk m e) (hn : n ≤ 60) : eqOk d e = true := by
  unfold Pf.eqOk
  rw [h.all.1, h2.all.1]
  have := h.all.2.2
  exact decide_eq_true (by omega)
theorem walkS_rng {n : Nat} (h : n ≤ 1000000) : walkS .rng [.int (n : Int)] = some (rangeD 0 n) := by
  have e : walk .rng [.int (n : Int)] = some (rangeD 0 n) := by
    show (if -1000000 ≤ (n : Int) ∧ (n : Int) ≤ 1000000 then some (rangeD 0 ((n : Int).toNat)) else none) = _
    rw [if_pos ⟨by omega, by omega⟩]
    rfl
  unfold walkS
  rw [e]
  show (if szl (rangeD 0 n).length = true then some (rangeD 0 n) else none) = _
  rw [if_pos]
  unfold szl
  rw [rangeD_len]
  exact decide_eq_true h
theorem alike_turns (ka : Knows Γ "_law_alike" f__law_alike) {L : Nat} {d : D} {l : List D} {b b2 : Bool} (hi : ∀ (k : Nat) (e : D), l[k]? = some e → Op.idx.ap (Γ (L + 1)).flds [d, .int k] = some e)
    (ih : ∀ e ∈ l, ∀ b b2, run1 (Γ L) f__law_alike [.val b e, .val b2 e] = .ok (false, .bl true) [some (.val b e), some (.val b2 e)]) {h0 : D} :
    turns (fun ρ => held ρ [.val h0] [h0]) (lcF (Γ (L + 1)) [2] (.nm 2) [.not (.call "_law_alike" [.ap .idx [.var 0, .var 2], .ap .idx [.var 1, .var 2]])] (.var 2)) (rangeD 0 l.length) [some (.val b d), some (.val b2 d), none, none] = .ok [] [some (.val b d), some (.val b2 d), none, none] := by
  rw [turns_map (g := fun _ => none) held_val (fun x hx => by
    obtain ⟨k, hk, rfl⟩ := rangeD_mem hx
    have e1 : l[k]? = some l[k] := List.getElem?_eq_getElem hk
    have hm : l[k] ∈ l := List.getElem_mem hk
    generalize l[k] = e at *
    have e2 := hi k e e1
    rw [show (0 : Int) + (k : Int) = k from Int.zero_add _]
    simp [lcF_eq, e2, ka.has, ka.frz, ka.cal, ih e hm])]
  congr 1
  exact List.filterMap_eq_nil_iff.mpr fun _ _ => rfl
theorem alike_run (ka : Knows Γ "_law_alike" f__law_alike) : ∀ {n : Nat} {d : D}, Lk n d → ∀ {L : Nat}, n ≤ L → ∀ b b2, run1 (Γ L) f__law_alike [.val b d, .val b2 d] = .ok (false, .bl true) [some (.val b d), some (.val b2 d)] := by
  intro n d h
  have e1 : eqOk (.lst []) (.lst []) = true := by decide
  have e2 : (D.lst []).eqv (.lst []) = true := by decide
  induction h with
  | non => intro L _ b b2; simp [run1_eq, f__law_alike, finR, D.isa, show eqOk .non .non = true from by decide, show D.non.eqv .non = true from rfl]
  | bl c => intro L _ b b2; simp [run1_eq, f__law_alike, finR, D.isa]
  | int i => intro L _ b b2; simp [run1_eq, f__law_alike, finR, D.isa]
  | str s => intro L _ b b2; simp [run1_eq, f__law_alike, finR, D.isa, eqv_str]
  | @tup n l h hl ih =>
    intro L hL b b2
    obtain ⟨L, rfl⟩ : ∃ L', L = L' + 1 := ⟨L - 1, by omega⟩
    have ht := fun b b2 h0 => alike_turns ka (L := L) (d := .tup l) (l := l) (b := b) (b2 := b2) (h0 := h0) (fun k e hk => (atI_nat l k).trans hk) fun e he b b2 => ih e he (by omega) b b2
    simp [run1_eq, f__law_alike, finR, D.isa, ev_comp, walkS_rng hl, ht, e1, e2]
  | @lst n l h hl ih =>
    intro L hL b b2
    obtain ⟨L, rfl⟩ : ∃ L', L = L' + 1 := ⟨L - 1, by omega⟩
    have ht := fun b b2 h0 => alike_turns ka (L := L) (d := .lst l) (l := l) (b := b) (b2 := b2) (h0 := h0) (fun k e hk => (atI_nat l k).trans hk) fun e he b b2 => ih e he (by omega) b b2
    simp [run1_eq, f__law_alike, finR, D.isa, ev_comp, walkS_rng hl, ht, e1, e2]
theorem lk_nodes {nds : List Nd} (h : nds.length ≤ 1000) {n : Nat} : Lk (n + 2) (.tup (nds.map Nd.D)) := .tup _ (fun d hd => by
  obtain ⟨m, _, rfl⟩ := List.mem_map.mp hd
  refine .tup _ (fun e he => ?_) (by simp)
  simp only [List.mem_cons, List.not_mem_nil, or_false] at he
  rcases he with rfl | rfl | rfl
  · exact .str _
  · exact .str _
  · exact .int _) (by rw [List.length_map]; omega)
theorem lk_pipes {ps : List Pp} (h : ps.length ≤ 1000) {n : Nat} : Lk (n + 2) (.tup (ps.map Pp.D)) := .tup _ (fun d hd => by
  obtain ⟨m, _, rfl⟩ := List.mem_map.mp hd
  refine .tup _ (fun e he => ?_) (by simp)
  simp only [List.mem_cons, List.not_mem_nil, or_false] at he
  rcases he with rfl | rfl | rfl | rfl | rfl
  · exact .str _
  · exact .str _
  · exact .str _
  · exact .int _
  · exact .int _) (by rw [List.length_map]; omega)
theorem lk_parts {nds : List Nd} {ps : List Pp} (h : NetOk nds ps) : Lk 3 (partsD nds ps) := .tup _ (fun d hd => by
  simp only [List.mem_cons, List.not_mem_nil, or_false] at hd
  rcases hd with rfl | rfl
  · exact lk_nodes (by have := h.n2; omega)
  · exact lk_pipes (by have := h.p2; omega)) (by simp)
theorem neteq_run (Γ0 : Ga) (hfl : Γ0.flds 0 = netF) {nds : List Nd} {ps : List Pp} (h : NetOk nds ps) {b b2 : Bool} : run1 Γ0 f_Net_eq [.val b (netD nds ps), .val b2 (netD nds ps)] = .ok (false, .bl true) [some (.val b (netD nds ps)), some (.val b2 (netD nds ps))] := by
  have f0 : fldD Γ0.flds "nodes" (netD nds ps) = some (.tup (nds.map Nd.D)) := fldD_at (k := 0) hfl (by decide +kernel) rfl
  have f1 : fldD Γ0.flds "pipes" (netD nds ps) = some (.tup (ps.map Pp.D)) := fldD_at (k := 1) hfl (by decide +kernel) rfl
  have k1 := lk_nodes (nds := nds) (n := 0) (by have := h.n2; omega)
  have k2 := lk_pipes (ps := ps) (n := 0) (by have := h.p2; omega)
  have hi : isiD [.own 0] (netD nds ps) = some (.bl true) := rfl
  simp [run1_eq, f_Net_eq, finR, hi, f0, f1, k1.eqOk k1 (by omega), k1.all.2.1, k2.eqOk k2 (by omega), k2.all.2.1]
theorem made_run (G : Glo Γ) (B : Basics Γ) (N : Nets Γ) (L : Nat) {nds : List Nd} {ps : List Pp} (h : NetOk nds ps) {b : Bool} : run1 (Γ (L + 5)) f__law_made [.val b (partsD nds ps)] = .ok (false, netD nds ps) [some (.val b (partsD nds ps))] := by
  have i0 : Op.idx.ap (Γ (L + 5)).flds [partsD nds ps, .int 0] = some (.tup (nds.map Nd.D)) := rfl
  have i1 : Op.idx.ap (Γ (L + 5)).flds [partsD nds ps, .int 1] = some (.tup (ps.map Pp.D)) := rfl
  have hc := fun b b2 => net_call G B N L h b b2 true true
  simp only [rowD_t] at hc
  simp [run1_eq, f__law_made, finR, i0, i1, N.net.has, N.net.frz, hc]
end Pf
end
section
set_option Elab.async false
set_option linter.all false
set_option maxRecDepth 100000
/-! Lw16: what a program's levels know. -/
namespace Pf
open PySem PySem.Spec PyProof.Rows L2
variable {P : Prg}
theorem ga_has (L : Nat) : (ga P L).has = P.has := by cases L <;> rfl
theorem ga_frz (L : Nat) : (ga P L).frz = P.fz := by cases L <;> rfl
theorem ga_glo (L : Nat) : (ga P L).glo = P.glo := by cases L <;> rfl
theorem ga_flds (L : Nat) : (ga P L).flds = P.flds := by cases L <;> rfl
theorem ga_hasM (L : Nat) : (ga P L).hasM = P.hasM := by cases L <;> rfl
theorem ga_wf (L : Nat) : (ga P L).wf = P.wf := by cases L <;> rfl
theorem knows_of {x : Str} {f : Fn} (h : P.fns x = some f) (hf : P.fz x = false) : Knows (ga P) x f where
  has := fun L => by
    rw [ga_has]
    unfold Prg.has
    rw [h]
    rfl
  frz := fun L => by rw [ga_frz]; exact hf
  cal := fun L ss => by
    show (match P.fns x with
      | some f => run1 (ga P L) f ss
      | none => _) = _
    rw [h]
theorem knowsM_of {c : Nat} {x : Str} {f : Fn} (h : P.mets c x = some f) (hn : x ∉ P.flds c) : KnowsM (ga P) c x f where
  has := fun L => by
    rw [ga_hasM]
    unfold Prg.hasM
    rw [h]
    rfl
  met := fun L ss => by
    show (match P.mets c x with
      | some f => run1 (ga P L) f ss
      | none => _) = _
    rw [h]
  nf := fun L => by rw [ga_flds]; exact hn
theorem knowsC_of {c : Nat} {x : Str} {fz : Bool} {fl : List Str} {f : Fn} (h : P.fns x = none) (hc : P.clss x = some (c, f, fz)) (hl : P.flds c = fl) : KnowsC (ga P) c x fz fl f where
  has := fun L => by
    rw [ga_has]
    unfold Prg.has
    rw [hc]
    cases P.fns x <;> rfl
  frz := fun L => by
    rw [ga_frz]
    unfold Prg.fz
    rw [hc]
  cal := fun L ss => by
    show (match P.fns x with
      | some f => run1 (ga P L) f ss
      | none => (match P.clss x with
        | some q => mkF q.1 (run1 (ga P L) q.2.1) ss
        | none => .bad)) = _
    rw [h, hc]
  fl := fun L => by rw [ga_flds]; exact hl
end Pf
end
section
set_option Elab.async false
set_option linter.all false
set_option maxRecDepth 100000
set_option maxHeartbeats 4000000
/-! Fx1: fractions. -/
namespace Pf
open PySem PySem.Spec PyProof.Rows L2
def f_common : Fn := ⟨2, 2, [.whl (.ap (.cmp .gt) [.var 1, .cst (.int 0)])
   [.par [0, 1] [.var 1, .ap (.bin .mod) [.var 0, .var 1]]],
  .ret (.var 0)]⟩
def f_lowest : Fn := ⟨2, 3, [.iff (.ap (.cmp .lt) [.var 1, .cst (.int 0)])
   [.par [0, 1] [.ap .neg [.var 0], .ap .neg [.var 1]]]
   [],
  .set 2 (.call "common" [.ap (.bi .abs) [.var 0], .var 1]),
  .ret (.tup [.ap (.bin .fdiv) [.var 0, .var 2], .ap (.bin .fdiv) [.var 1, .var 2]])]⟩
def f_plus : Fn := ⟨2, 2, [.iff (.ap (.cmp .eq) [.ap .idx [.var 0, .cst (.int 1)], .ap .idx [.var 1, .cst (.int 1)]])
   [.ret (.call "lowest" [.ap (.bin .add) [.ap .idx [.var 0, .cst (.int 0)], .ap .idx [.var 1, .cst (.int 0)]], .ap .idx [.var 0, .cst (.int 1)]])]
   [],
  .ret (.call "lowest" [.ap (.bin .add) [.ap (.bin .mul) [.ap .idx [.var 0, .cst (.int 0)], .ap .idx [.var 1, .cst (.int 1)]], .ap (.bin .mul) [.ap .idx [.var 1, .cst (.int 0)], .ap .idx [.var 0, .cst (.int 1)]]], .ap (.bin .mul) [.ap .idx [.var 0, .cst (.int 1)], .ap .idx [.var 1, .cst (.int 1)]]])]⟩
def f_minus : Fn := ⟨2, 2, [.ret (.call "plus" [.var 0, .tup [.ap .neg [.ap .idx [.var 1, .cst (.int 0)]], .ap .idx [.var 1, .cst (.int 1)]]])]⟩
def f__law_low : Fn := ⟨2, 4, [.par [2, 3] [.ap (.bi .abs) [.var 0], .var 1],
  .whl (.ap (.cmp .gt) [.var 3, .cst (.int 0)])
   [.par [2, 3] [.var 3, .ap (.bin .mod) [.ap (.bi .int) [.var 2], .var 3]]],
  .ret (.tup [.ap (.bin .fdiv) [.var 0, .var 2], .ap (.bin .fdiv) [.var 1, .var 2]])]⟩
def f__law_plus : Fn := ⟨2, 2, [.ret (.call "_law_low" [.ap (.bin .add) [.ap (.bin .mul) [.ap .idx [.var 0, .cst (.int 0)], .ap .idx [.var 1, .cst (.int 1)]], .ap (.bin .mul) [.ap .idx [.var 1, .cst (.int 0)], .ap .idx [.var 0, .cst (.int 1)]]], .ap (.bin .mul) [.ap .idx [.var 0, .cst (.int 1)], .ap .idx [.var 1, .cst (.int 1)]]])]⟩
def f__law_minus : Fn := ⟨2, 2, [.ret (.call "_law_low" [.ap (.bin .sub) [.ap (.bin .mul) [.ap .idx [.var 0, .cst (.int 0)], .ap .idx [.var 1, .cst (.int 1)]], .ap (.bin .mul) [.ap .idx [.var 1, .cst (.int 0)], .ap .idx [.var 0, .cst (.int 1)]]], .ap (.bin .mul) [.ap .idx [.var 0, .cst (.int 1)], .ap .idx [.var 1, .cst (.int 1)]]])]⟩
def f__law_less : Fn := ⟨2, 2, [.ret (.ap (.cmp .lt) [.ap (.bin .mul) [.ap .idx [.var 0, .cst (.int 0)], .ap .idx [.var 1, .cst (.int 1)]], .ap (.bin .mul) [.ap .idx [.var 1, .cst (.int 0)], .ap .idx [.var 0, .cst (.int 1)]]])]⟩
variable {Γ : Nat → Ga}
/-- a fraction as a pair -/
def fr (q : Rat) : D := .tup [.int q.num, .int q.den]
/-! ### sizes -/
theorem log2_lt {i : Int} {k : Nat} (h : i.natAbs < 2 ^ k) (hk : 0 < k) : i.natAbs.log2 < k := by
  by_cases h0 : i.natAbs = 0
  · rw [h0]
    exact hk
  · exact (Nat.log2_lt h0).mpr h
theorem mul_ok {fl : Nat → List Str} {i j : Int} {k m : Nat} (hi : i.natAbs < 2 ^ k) (hj : j.natAbs < 2 ^ m) (hk : 0 < k) (hm : 0 < m) (h : k + m ≤ 1000000) : (Op.bin .mul).ap fl [.int i, .int j] = some (.int (i * j)) := by
  rw [o_mul, if_pos]
  have h1 := log2_lt hi hk
  have h2 := log2_lt hj hm
  omega
theorem fdiv_ok {fl : Nat → List Str} {i : Int} {g : Nat} (hg : 0 < g) (h : g < 2 ^ 8000) : (Op.bin .fdiv).ap fl [.int i, .int g] = some (.int (i / (g : Int))) := by
  rw [o_fdiv, if_pos ⟨by omega, noPylong (by rw [Int.natAbs_natCast]; exact h)⟩, Int.fdiv_eq_ediv_of_nonneg _ (Int.natCast_nonneg g)]
/-! ### while -/
section
variable {t : Rho → Out Res} {f : Rho → SO} {n : Nat} {ρ ρ1 ρ2 : Rho} {b : Bool}
theorem wl_true (h : t ρ = .ok (b, .bl true) ρ1) (h2 : f ρ1 = .nx ρ2) : wloop t f (n + 1) ρ = wloop t f n ρ2 := by
  show SO.of (t ρ) _ = _
  rw [h]
  show (match f ρ1 with
      | .nx ρ2 => wloop t f n ρ2
      | .cnt ρ2 => wloop t f n ρ2
      | .brk ρ2 => .nx ρ2
      | o => o) = _
  rw [h2]
theorem wl_false (h : t ρ = .ok (b, .bl false) ρ1) : wloop t f (n + 1) ρ = .nx ρ1 := by
  show SO.of (t ρ) _ = _
  rw [h]
  rfl
end
theorem gcd_step {a b : Nat} (h : 0 < b) : Nat.gcd b (a % b) = Nat.gcd a b := by
  rw [Nat.gcd_comm b, ← Nat.gcd_rec, Nat.gcd_comm]
/-! ### common -/
theorem common_loop (G : Ga) : ∀ (n b a : Nat), b < n → wloop (fun ρ => ev G (.ap (.cmp .gt) [.var 1, .cst (.int 0)]) true ρ) (fun ρ => exs G [.par [0, 1] [.var 1, .ap (.bin .mod) [.var 0, .var 1]]] ρ) n [some (.val false (.int a)), some (.val false (.int b))] =
    .nx [some (.val false (.int (Nat.gcd a b))), some (.val false (.int 0))] := by
  intro n
  induction n with
  | zero => intro b a h; omega
  | succ n ih =>
    intro b a h
    by_cases hb : b = 0
    · subst hb
      rw [wl_false (b := false) (ρ1 := [some (.val false (.int a)), some (.val false (.int 0))]) (by simp)]
      simp
    · have hb2 : (0 : Int) < (b : Int) := by omega
      have hb3 : ¬ (b : Int) = 0 := by omega
      have hb4 : 0 < b := by omega
      have hm : (a : Int).fmod (b : Int) = ((a % b : Nat) : Int) := fmod_nat a b
      rw [wl_true (b := false) (ρ1 := [some (.val false (.int a)), some (.val false (.int b))]) (ρ2 := [some (.val false (.int b)), some (.val false (.int ((a % b : Nat) : Int)))]) (by simp [hb2, hb4]) (by simp [Pf.putAll, hb, hb3, hm]),
        ih (a % b) b (by have := Nat.mod_lt a (Nat.pos_of_ne_zero hb); omega), gcd_step (Nat.pos_of_ne_zero hb)]
theorem common_run (G : Ga) {a b : Nat} (h : b < G.wf) : run1 G f_common [.val false (.int a), .val false (.int b)] = .ok (false, .int (Nat.gcd a b)) [some (.val false (.int (Nat.gcd a b))), some (.val false (.int 0))] := by
  simp [run1_eq, f_common, finR, ex_whl, common_loop G G.wf b a h]
structure Fx (Γ : Nat → Ga) : Prop where
  wf : ∀ L, 2 ^ 8000 ≤ (Γ L).wf
  common : Knows Γ "common" f_common
  lowest : Knows Γ "lowest" f_lowest
  plus : Knows Γ "plus" f_plus
  minus : Knows Γ "minus" f_minus
theorem mkRat_fr {t : Int} {b : Nat} (hb : b ≠ 0) : D.tup [.int (t / ((Nat.gcd t.natAbs b : Nat) : Int)), .int ((b : Int) / ((Nat.gcd t.natAbs b : Nat) : Int))] = fr (mkRat t b) := by
  unfold fr
  rw [Rat.num_mkRat, Rat.den_mkRat, if_neg hb, if_neg hb, Nat.gcd_comm]
  congr 3
theorem lowest_run (F : Fx Γ) (L : Nat) {t : Int} {b : Nat} (hb : b ≠ 0) (h2 : b < 2 ^ 8000) : run1 (Γ (L + 1)) f_lowest [.val false (.int t), .val false (.int b)] = .ok (false, fr (mkRat t b)) [some (.val false (.int t)), some (.val false (.int b))] := by
  have hc := common_run (Γ L) (a := t.natAbs) (b := b) (Nat.lt_of_lt_of_le h2 (F.wf L))
  have hg : 0 < Nat.gcd t.natAbs b := Nat.gcd_pos_of_pos_right _ (Nat.pos_of_ne_zero hb)
  have hg2 : Nat.gcd t.natAbs b < 2 ^ 8000 := Nat.lt_of_le_of_lt (Nat.gcd_le_right _ (Nat.pos_of_ne_zero hb)) h2
  have d1 : ∀ i : Int, (Op.bin .fdiv).ap (Γ (L + 1)).flds [.int i, .int ((Nat.gcd t.natAbs b : Nat) : Int)] = some (.int (i / ((Nat.gcd t.natAbs b : Nat) : Int))) := fun i => fdiv_ok hg hg2
  have hlt : ¬ (b : Int) < 0 := by omega
  have ha : (if t < 0 then -t else t) = (t.natAbs : Int) := by split <;> omega
  have hfr := mkRat_fr (t := t) hb
  simp [run1_eq, f_lowest, finR, F.common.has, F.common.frz, F.common.cal, hlt, ha, hc, -o_fdiv, d1, hfr]
/-- small enough -/
def Sz (q : Rat) : Prop := q.num.natAbs < 2 ^ 3900 ∧ q.den < 2 ^ 3900
theorem fr_num {fl : Nat → List Str} {q : Rat} : Op.idx.ap fl [fr q, .int 0] = some (.int q.num) := rfl
theorem fr_den {fl : Nat → List Str} {q : Rat} : Op.idx.ap fl [fr q, .int 1] = some (.int q.den) := rfl
theorem add_same {a c : Rat} (h : a.den = c.den) : mkRat (a.num + c.num) a.den = a + c := by
  rw [Rat.add_def', ← h, ← Int.add_mul]
  exact (Rat.mkRat_mul_right a.den_nz).symm
theorem den_mul_lt {a c : Rat} (ha : Sz a) (hc : Sz c) : a.den * c.den < 2 ^ 8000 := by
  have h := Nat.mul_lt_mul'' ha.2 hc.2
  rw [← Nat.pow_add] at h
  exact Nat.lt_of_lt_of_le h (Nat.pow_le_pow_right (by decide) (by decide))
theorem plus_run (F : Fx Γ) (L : Nat) {a c : Rat} (ha : Sz a) (hc : Sz c) : run1 (Γ (L + 2)) f_plus [.val false (fr a), .val false (fr c)] = .ok (false, fr (a + c)) [some (.val false (fr a)), some (.val false (fr c))] := by
  have hd : ((a.den : Int) = (c.den : Int)) ↔ a.den = c.den := by omega
  by_cases h : a.den = c.den
  · have hl := lowest_run F L (t := a.num + c.num) a.den_nz (Nat.lt_of_lt_of_le ha.2 (Nat.pow_le_pow_right (by decide) (by decide)))
    rw [add_same h] at hl
    have h' : (a.den : Int) = (c.den : Int) := by omega
    simp [run1_eq, f_plus, finR, fr_num, fr_den, ← h, F.lowest.has, F.lowest.frz, F.lowest.cal, hl]
  · have hl := lowest_run F L (t := a.num * c.den + c.num * a.den) (b := a.den * c.den) (Nat.mul_ne_zero a.den_nz c.den_nz) (den_mul_lt ha hc)
    rw [← Rat.add_def', Int.natCast_mul] at hl
    have h' : ¬ (a.den : Int) = (c.den : Int) := by omega
    have m1 : (Op.bin .mul).ap (Γ (L + 2)).flds [.int a.num, .int c.den] = some (.int (a.num * c.den)) := mul_ok ha.1 (by rw [Int.natAbs_natCast]; exact hc.2) (by decide) (by decide) (by decide)
    have m2 : (Op.bin .mul).ap (Γ (L + 2)).flds [.int c.num, .int a.den] = some (.int (c.num * a.den)) := mul_ok hc.1 (by rw [Int.natAbs_natCast]; exact ha.2) (by decide) (by decide) (by decide)
    have m3 : (Op.bin .mul).ap (Γ (L + 2)).flds [.int a.den, .int c.den] = some (.int (a.den * c.den)) := mul_ok (by rw [Int.natAbs_natCast]; exact ha.2) (by rw [Int.natAbs_natCast]; exact hc.2) (by decide) (by decide) (by decide)
    simp [run1_eq, f_plus, finR, fr_num, fr_den, h, h', -o_mul, m1, m2, m3, F.lowest.has, F.lowest.frz, F.lowest.cal, hl]
theorem minus_run (F : Fx Γ) (L : Nat) {a c : Rat} (ha : Sz a) (hc : Sz c) : run1 (Γ (L + 3)) f_minus [.val false (fr a), .val false (fr c)] = .ok (false, fr (a - c)) [some (.val false (fr a)), some (.val false (fr c))] := by
  have hp := plus_run F L ha (c := -c) ⟨by rw [Rat.neg_num, Int.natAbs_neg]; exact hc.1, by rw [Rat.neg_den]; exact hc.2⟩
  have hn : D.tup [.int (-c.num), .int c.den] = fr (-c) := rfl
  rw [← Rat.sub_eq_add_neg] at hp
  simp [run1_eq, f_minus, finR, fr_num, fr_den, hn, F.plus.has, F.plus.frz, F.plus.cal, hp]
/-! ### the law's own fractions -/
structure Lx (Γ : Nat → Ga) : Prop where
  wf : ∀ L, 2 ^ 8000 ≤ (Γ L).wf
  low : Knows Γ "_law_low" f__law_low
  plus : Knows Γ "_law_plus" f__law_plus
  minus : Knows Γ "_law_minus" f__law_minus
  less : Knows Γ "_law_less" f__law_less
theorem low_loop (G : Ga) (o0 o1 : Option Sl) : ∀ (n b a : Nat), b < n → wloop (fun ρ => ev G (.ap (.cmp .gt) [.var 3, .cst (.int 0)]) true ρ) (fun ρ => exs G [.par [2, 3] [.var 3, .ap (.bin .mod) [.ap (.bi .int) [.var 2], .var 3]]] ρ) n [o0, o1, some (.val false (.int a)), some (.val false (.int b))] =
    .nx [o0, o1, some (.val false (.int (Nat.gcd a b))), some (.val false (.int 0))] := by
  intro n
  induction n with
  | zero => intro b a h; omega
  | succ n ih =>
    intro b a h
    by_cases hb : b = 0
    · subst hb
      rw [wl_false (b := false) (ρ1 := [o0, o1, some (.val false (.int a)), some (.val false (.int 0))]) (by simp)]
      simp
    · have hb2 : (0 : Int) < (b : Int) := by omega
      have hb3 : ¬ (b : Int) = 0 := by omega
      have hb4 : 0 < b := by omega
      have hm : (a : Int).fmod (b : Int) = ((a % b : Nat) : Int) := fmod_nat a b
      rw [wl_true (b := false) (ρ1 := [o0, o1, some (.val false (.int a)), some (.val false (.int b))]) (ρ2 := [o0, o1, some (.val false (.int b)), some (.val false (.int ((a % b : Nat) : Int)))]) (by simp [hb2, hb4]) (by simp [Pf.putAll, hb, hb3, hm]),
        ih (a % b) b (by have := Nat.mod_lt a (Nat.pos_of_ne_zero hb); omega), gcd_step (Nat.pos_of_ne_zero hb)]
theorem low_run (F : Lx Γ) (L : Nat) {t : Int} {b : Nat} (hb : b ≠ 0) (h2 : b < 2 ^ 8000) : run1 (Γ L) f__law_low [.val false (.int t), .val false (.int b)] = .ok (false, fr (mkRat t b)) [some (.val false (.int t)), some (.val false (.int b))] := by
  have hg : 0 < Nat.gcd t.natAbs b := Nat.gcd_pos_of_pos_right _ (Nat.pos_of_ne_zero hb)
  have hg2 : Nat.gcd t.natAbs b < 2 ^ 8000 := Nat.lt_of_le_of_lt (Nat.gcd_le_right _ (Nat.pos_of_ne_zero hb)) h2
  have d1 : ∀ i : Int, (Op.bin .fdiv).ap (Γ L).flds [.int i, .int ((Nat.gcd t.natAbs b : Nat) : Int)] = some (.int (i / ((Nat.gcd t.natAbs b : Nat) : Int))) := fun i => fdiv_ok hg hg2
  have ha : (if t < 0 then -t else t) = (t.natAbs : Int) := by split <;> omega
  have hfr := mkRat_fr (t := t) hb
  have hl := fun o0 o1 => low_loop (Γ L) o0 o1 (Γ L).wf b t.natAbs (Nat.lt_of_lt_of_le h2 (F.wf L))
  simp [run1_eq, f__law_low, finR, Pf.putAll, ex_whl, ha, hl, -o_fdiv, d1, hfr]
theorem lplus_gen (F : Lx Γ) (L : Nat) {n1 n2 : Int} {d1 d2 : Nat} (h1 : d1 ≠ 0) (h2 : d2 ≠ 0) (s1 : n1.natAbs < 2 ^ 3990) (s2 : n2.natAbs < 2 ^ 3990) (s3 : d1 < 2 ^ 3990) (s4 : d2 < 2 ^ 3990) :
    run1 (Γ (L + 1)) f__law_plus [.val false (.tup [.int n1, .int d1]), .val false (.tup [.int n2, .int d2])] = .ok (false, fr (mkRat n1 d1 + mkRat n2 d2)) [some (.val false (.tup [.int n1, .int d1])), some (.val false (.tup [.int n2, .int d2]))] := by
  have hb : d1 * d2 < 2 ^ 8000 := by
    have h := Nat.mul_lt_mul'' s3 s4
    rw [← Nat.pow_add] at h
    exact Nat.lt_of_lt_of_le h (Nat.pow_le_pow_right (by decide) (by decide))
  have hl := low_run F L (t := n1 * d2 + n2 * d1) (b := d1 * d2) (Nat.mul_ne_zero h1 h2) hb
  rw [← Rat.mkRat_add_mkRat _ _ h1 h2, Int.natCast_mul] at hl
  have i0 : ∀ a b : D, Op.idx.ap (Γ (L + 1)).flds [.tup [a, b], .int 0] = some a := fun _ _ => rfl
  have i1 : ∀ a b : D, Op.idx.ap (Γ (L + 1)).flds [.tup [a, b], .int 1] = some b := fun _ _ => rfl
  have m1 : (Op.bin .mul).ap (Γ (L + 1)).flds [.int n1, .int d2] = some (.int (n1 * d2)) := mul_ok s1 (by rw [Int.natAbs_natCast]; exact s4) (by decide) (by decide) (by decide)
  have m2 : (Op.bin .mul).ap (Γ (L + 1)).flds [.int n2, .int d1] = some (.int (n2 * d1)) := mul_ok s2 (by rw [Int.natAbs_natCast]; exact s3) (by decide) (by decide) (by decide)
  have m3 : (Op.bin .mul).ap (Γ (L + 1)).flds [.int d1, .int d2] = some (.int (d1 * d2)) := mul_ok (by rw [Int.natAbs_natCast]; exact s3) (by rw [Int.natAbs_natCast]; exact s4) (by decide) (by decide) (by decide)
  simp [run1_eq, f__law_plus, finR, -o_idxT, i0, i1, -o_mul, m1, m2, m3, F.low.has, F.low.frz, F.low.cal, hl]
theorem lminus_run (F : Lx Γ) (L : Nat) {a c : Rat} (ha : Sz a) (hc : Sz c) : run1 (Γ (L + 1)) f__law_minus [.val false (fr a), .val false (fr c)] = .ok (false, fr (a - c)) [some (.val false (fr a)), some (.val false (fr c))] := by
  have hl := low_run F L (t := a.num * c.den - c.num * a.den) (b := a.den * c.den) (Nat.mul_ne_zero a.den_nz c.den_nz) (den_mul_lt ha hc)
  rw [← Rat.sub_def', Int.natCast_mul] at hl
  have m1 : (Op.bin .mul).ap (Γ (L + 1)).flds [.int a.num, .int c.den] = some (.int (a.num * c.den)) := mul_ok ha.1 (by rw [Int.natAbs_natCast]; exact hc.2) (by decide) (by decide) (by decide)
  have m2 : (Op.bin .mul).ap (Γ (L + 1)).flds [.int c.num, .int a.den] = some (.int (c.num * a.den)) := mul_ok hc.1 (by rw [Int.natAbs_natCast]; exact ha.2) (by decide) (by decide) (by decide)
  have m3 : (Op.bin .mul).ap (Γ (L + 1)).flds [.int a.den, .int c.den] = some (.int (a.den * c.den)) := mul_ok (by rw [Int.natAbs_natCast]; exact ha.2) (by rw [Int.natAbs_natCast]; exact hc.2) (by decide) (by decide) (by decide)
  simp [run1_eq, f__law_minus, finR, fr_num, fr_den, -o_mul, m1, m2, m3, F.low.has, F.low.frz, F.low.cal, hl]
theorem lless_run (L : Nat) {a c : Rat} (ha : Sz a) (hc : Sz c) : run1 (Γ L) f__law_less [.val false (fr a), .val false (fr c)] = .ok (false, .bl (decide (a < c))) [some (.val false (fr a)), some (.val false (fr c))] := by
  have m1 : (Op.bin .mul).ap (Γ L).flds [.int a.num, .int c.den] = some (.int (a.num * c.den)) := mul_ok ha.1 (by rw [Int.natAbs_natCast]; exact hc.2) (by decide) (by decide) (by decide)
  have m2 : (Op.bin .mul).ap (Γ L).flds [.int c.num, .int a.den] = some (.int (c.num * a.den)) := mul_ok hc.1 (by rw [Int.natAbs_natCast]; exact ha.2) (by decide) (by decide) (by decide)
  simp [run1_eq, f__law_less, finR, fr_num, fr_den, -o_mul, m1, m2, Rat.lt_iff]
end Pf
end
section
set_option Elab.async false
set_option linter.all false
set_option maxRecDepth 100000
set_option maxHeartbeats 4000000
/-! Fx2: how great fractions become. -/
namespace Pf
open PySem PySem.Spec PyProof.Rows L2
/-- a multiple of 1/M, not beyond V -/
structure Bnd (M V : Nat) (q : Rat) : Prop where
  z : ∃ z : Int, q * (M : Rat) = (z : Rat)
  lo : -(V : Rat) ≤ q
  hi : q ≤ (V : Rat)
theorem num_eq (q : Rat) : q * (q.den : Rat) = (q.num : Rat) := by
  have h : q = (q.num : Rat) / (q.den : Rat) := by
    have := Rat.mkRat_eq_div q.num q.den
    rw [Rat.mkRat_self] at this
    exact this
  have hd : (q.den : Rat) ≠ 0 := by
    have := q.den_nz
    intro z
    exact this (by exact_mod_cast z)
  conv => lhs; lhs; rw [h]
  exact Rat.div_mul_cancel hd
theorem Bnd.zero {M V : Nat} : Bnd M V 0 := ⟨⟨0, by simp⟩, by
  have : (0 : Rat) ≤ (V : Rat) := Rat.natCast_nonneg
  grind, Rat.natCast_nonneg⟩
theorem Bnd.neg {M V : Nat} {a : Rat} (h : Bnd M V a) : Bnd M V (-a) := by
  obtain ⟨⟨z, hz⟩, h1, h2⟩ := h
  refine ⟨⟨-z, ?_⟩, by grind, by grind⟩
  rw [Rat.neg_mul, hz]
  simp
theorem Bnd.add {M V W : Nat} {a b : Rat} (h : Bnd M V a) (k : Bnd M W b) : Bnd M (V + W) (a + b) := by
  obtain ⟨⟨z, hz⟩, h1, h2⟩ := h
  obtain ⟨⟨y, hy⟩, k1, k2⟩ := k
  have e : ((V + W : Nat) : Rat) = (V : Rat) + (W : Rat) := by simp
  refine ⟨⟨z + y, ?_⟩, by rw [e]; grind, by rw [e]; grind⟩
  rw [Rat.add_mul, hz, hy]
  simp
theorem Bnd.sub {M V W : Nat} {a b : Rat} (h : Bnd M V a) (k : Bnd M W b) : Bnd M (V + W) (a - b) := by
  rw [Rat.sub_eq_add_neg]
  exact h.add k.neg
theorem Bnd.mono {M M' V V' : Nat} {a : Rat} (h : Bnd M V a) (hM : M ∣ M') (hV : V ≤ V') : Bnd M' V' a := by
  obtain ⟨⟨z, hz⟩, h1, h2⟩ := h
  obtain ⟨k, rfl⟩ := hM
  have e : (V : Rat) ≤ (V' : Rat) := Rat.natCast_le_natCast.mpr hV
  refine ⟨⟨z * k, ?_⟩, by grind, by grind⟩
  have e2 : ((M * k : Nat) : Rat) = (M : Rat) * (k : Rat) := by simp
  rw [e2, ← Rat.mul_assoc, hz, Rat.intCast_mul, Rat.intCast_natCast]
theorem Bnd.scale {M V : Nat} {a : Rat} (h : Bnd M V a) (k : Nat) : Bnd M (k * V) ((k : Rat) * a) := by
  obtain ⟨⟨z, hz⟩, h1, h2⟩ := h
  have hk : (0 : Rat) ≤ (k : Rat) := Rat.natCast_nonneg
  have e : ((k * V : Nat) : Rat) = (k : Rat) * (V : Rat) := by simp
  refine ⟨⟨k * z, ?_⟩, ?_, ?_⟩
  · rw [Rat.mul_assoc, hz, Rat.intCast_mul, Rat.intCast_natCast]
  · rw [e]
    have := Rat.mul_le_mul_of_nonneg_left h1 hk
    grind
  · rw [e]
    exact Rat.mul_le_mul_of_nonneg_left h2 hk
theorem Bnd.div {M V s : Nat} {a : Rat} (h : Bnd M (V * s) a) (hs : 0 < s) : Bnd (M * s) V (a / (s : Rat)) := by
  obtain ⟨⟨z, hz⟩, h1, h2⟩ := h
  have hp : (0 : Rat) < (s : Rat) := Rat.natCast_pos.mpr hs
  have hne : (s : Rat) ≠ 0 := by grind
  have e : ((V * s : Nat) : Rat) = (V : Rat) * (s : Rat) := by simp
  have e2 : ((M * s : Nat) : Rat) = (M : Rat) * (s : Rat) := by simp
  have ed : a / (s : Rat) * (s : Rat) = a := Rat.div_mul_cancel hne
  rw [e] at h1 h2
  refine ⟨⟨z, ?_⟩, ?_, ?_⟩
  · rw [e2, Rat.mul_comm (M : Rat), ← Rat.mul_assoc, ed, hz]
  · refine Rat.le_of_mul_le_mul_right (c := (s : Rat)) ?_ hp
    rw [ed]
    grind
  · refine Rat.le_of_mul_le_mul_right (c := (s : Rat)) ?_ hp
    rw [ed]
    exact h2
theorem Bnd.den {M V : Nat} {q : Rat} (h : Bnd M V q) (hM : 0 < M) : q.den ∣ M := by
  obtain ⟨⟨z, hz⟩, _, _⟩ := h
  have e : q.num * (M : Int) = z * (q.den : Int) := by
    have h1 : (q.num : Rat) * (M : Rat) = (z : Rat) * (q.den : Rat) := by
      rw [← num_eq q, Rat.mul_assoc, Rat.mul_comm (q.den : Rat), ← Rat.mul_assoc, hz]
    exact_mod_cast h1
  have h2 : q.den ∣ q.num.natAbs * M := by
    have : (q.den : Int) ∣ q.num * (M : Int) := ⟨z, by rw [e, Int.mul_comm]⟩
    have := Int.natAbs_dvd_natAbs.mpr this
    rwa [Int.natAbs_natCast, Int.natAbs_mul, Int.natAbs_natCast] at this
  exact Nat.Coprime.dvd_of_dvd_mul_left (Nat.Coprime.symm q.reduced) h2
theorem Bnd.num {M V : Nat} {q : Rat} (h : Bnd M V q) : q.num.natAbs ≤ V * q.den := by
  obtain ⟨_, h1, h2⟩ := h
  have hd : (0 : Rat) ≤ (q.den : Rat) := Rat.natCast_nonneg
  have k1 := Rat.mul_le_mul_of_nonneg_right h1 hd
  have k2 := Rat.mul_le_mul_of_nonneg_right h2 hd
  rw [num_eq] at k1 k2
  have l1 : -((V * q.den : Nat) : Int) ≤ q.num := by
    rw [Rat.neg_mul] at k1
    have e : -((V : Rat) * (q.den : Rat)) = ((-((V * q.den : Nat) : Int) : Int) : Rat) := by
      rw [Rat.intCast_neg, Rat.intCast_natCast, Rat.natCast_mul]
    rw [e] at k1
    exact Rat.intCast_le_intCast.mp k1
  have l2 : q.num ≤ ((V * q.den : Nat) : Int) := by exact_mod_cast k2
  omega
theorem Bnd.sz {M V : Nat} {q : Rat} (h : Bnd M V q) (hM : 0 < M) (h1 : M < 2 ^ 1900) (h2 : V < 2 ^ 1900) : Sz q := by
  have hd := Nat.le_of_dvd hM (h.den hM)
  have hn := h.num
  refine ⟨?_, ?_⟩
  · have k1 : V * q.den ≤ V * M := Nat.mul_le_mul_left V hd
    have k2 : V * M ≤ 2 ^ 1900 * 2 ^ 1900 := Nat.mul_le_mul (Nat.le_of_lt h2) (Nat.le_of_lt h1)
    have k3 : (2 : Nat) ^ 1900 * 2 ^ 1900 < 2 ^ 3900 := by
      rw [← Nat.pow_add]
      exact Nat.pow_lt_pow_right (by decide) (by decide)
    omega
  · have k3 : (2 : Nat) ^ 1900 < 2 ^ 3900 := Nat.pow_lt_pow_right (by decide) (by decide)
    omega
end Pf
end
section
set_option Elab.async false
set_option linter.all false
set_option maxRecDepth 100000
set_option maxHeartbeats 4000000
/-! Fx3: waves, heads: the program's head_at. -/
namespace Pf
open PySem PySem.Spec PyProof.Rows L2
def f_head_at : Fn := ⟨4, 12, [.tgt (.tp [.nm 4, .nm 5, .nm 6]) (.ap .idx [.ap (.fld "nodes") [.var 0], .var 1]),
  .iff (.ap (.cmp .eq) [.var 5, .cst (.str "tank")])
   [.ret (.glo "ZERO")]
   [],
  .set 7 (.glo "ZERO"),
  .for_ (.tp [.nm 8, .nm 9]) .seq [.ap .idx [.ap (.fld "ends") [.var 0], .var 1]]
   [.par [10, 11] [.ap .idx [.ap .idx [.ap .idx [.var 2, .var 8], .ap (.bin .sub) [.cst (.int 1), .var 9]], .cst (.int 0)], .ap .idx [.ap .idx [.ap (.fld "pipes") [.var 0], .var 8], .cst (.int 4)]],
    .aug 6 .add (.var 11),
    .iff (.ap (.cmp .ne) [.ap .idx [.var 10, .cst (.int 0)], .cst (.int 0)])
     [.set 7 (.call "plus" [.var 7, .call "lowest" [.ap (.bin .mul) [.ap (.bin .mul) [.cst (.int 2), .var 11], .ap .idx [.var 10, .cst (.int 0)]], .ap .idx [.var 10, .cst (.int 1)]]])]
     []],
  .set 7 (.call "minus" [.var 7, .get (.var 3) (.var 4) (.glo "ZERO")]),
  .ret (.call "lowest" [.ap .idx [.var 7, .cst (.int 0)], .ap (.bin .mul) [.ap .idx [.var 7, .cst (.int 1)], .var 6]])]⟩
def f_rest : Fn := ⟨1, 2, [.ret (.ap (.bi .tuple) [.comp [1] (.nm 1) .seq [.ap (.fld "pipes") [.var 0]] [] (.tup [.ap (.bin .mul) [.tup [.glo "ZERO"], .ap .idx [.var 1, .cst (.int 3)]], .ap (.bin .mul) [.tup [.glo "ZERO"], .ap .idx [.var 1, .cst (.int 3)]]])])]⟩
variable {Γ : Nat → Ga}
/-- the waves of a pipe: there and back -/
abbrev Wv := List Rat × List Rat
def wD (w : Wv) : D := .tup [.tup (w.1.map fr), .tup (w.2.map fr)]
def wsD (ws : List Wv) : D := .tup (ws.map wD)
def hdQ (l : List Rat) : Rat := l.headD 0
structure WOk (ps : List Pp) (ws : List Wv) (M V : Nat) : Prop where
  len : ws.length = ps.length
  fit : ∀ (i : Nat) (p : Pp) (w : Wv), ps[i]? = some p → ws[i]? = some w → w.1.length = p.ticks ∧ w.2.length = p.ticks
  bnd : ∀ w ∈ ws, (∀ q ∈ w.1, Bnd M V q) ∧ ∀ q ∈ w.2, Bnd M V q
def sumQ : List Rat → Rat
  | [] => 0
  | a :: l => a + sumQ l
theorem sumQ_app (l m : List Rat) : sumQ (l ++ m) = sumQ l + sumQ m := by
  induction l with
  | nil => exact (Rat.zero_add _).symm
  | cons a l ih =>
    show a + sumQ (l ++ m) = (a + sumQ l) + sumQ m
    rw [ih, Rat.add_assoc]
def endsN : Nat → List Pp → List Nat → List (Nat × Nat)
  | _, [], _ => []
  | i, p :: ps, x => (if p.one = x then [(i, 0)] else if p.other = x then [(i, 1)] else []) ++ endsN (i + 1) ps x
def pairD (e : Nat × Nat) : D := .tup [.int e.1, .int e.2]
theorem endsL_eq : ∀ {ps : List Pp} {i : Nat} {x : List Nat}, endsL i ps x = (endsN i ps x).map pairD
  | [], _, _ => rfl
  | p :: ps, i, x => by
    unfold endsL endsN endOf
    rw [List.map_append, endsL_eq]
    congr 1
    split
    · rfl
    · split <;> rfl
theorem endsN_mem {e : Nat × Nat} : ∀ {ps : List Pp} {i : Nat} {x : List Nat}, e ∈ endsN i ps x → i ≤ e.1 ∧ e.1 < i + ps.length ∧ (e.2 = 0 ∨ e.2 = 1)
  | [], _, _, h => by cases h
  | p :: ps, i, x, h => by
    unfold endsN at h
    rw [List.length_cons]
    rcases List.mem_append.mp h with h | h
    · split at h
      · rw [List.mem_singleton.mp h]
        exact ⟨Nat.le_refl _, by omega, .inl rfl⟩
      · split at h
        · rw [List.mem_singleton.mp h]
          exact ⟨Nat.le_refl _, by omega, .inr rfl⟩
        · cases h
    · obtain ⟨h1, h2, h3⟩ := endsN_mem h
      exact ⟨by omega, by omega, h3⟩
theorem endsN_len {x : List Nat} : ∀ {ps : List Pp} {i : Nat}, (endsN i ps x).length ≤ ps.length
  | [], _ => Nat.le_refl _
  | p :: ps, i => by
    unfold endsN
    have h2 := endsN_len (x := x) (ps := ps) (i := i + 1)
    rw [List.length_append, List.length_cons]
    have h1 : (if p.one = x then [(i, 0)] else if p.other = x then [(i, 1)] else []).length ≤ 1 := by
      split
      · exact Nat.le_refl _
      · split
        · exact Nat.le_refl _
        · exact Nat.zero_le _
    omega
/-- what an end brings, and its size -/
def endC (ps : List Pp) (ws : List Wv) (e : Nat × Nat) : Rat := match ps[e.1]?, ws[e.1]? with
  | some p, some w => ((2 * p.size : Nat) : Rat) * (if e.2 = 0 then hdQ w.2 else hdQ w.1)
  | _, _ => 0
def endS (ps : List Pp) (e : Nat × Nat) : Nat := match ps[e.1]? with
  | some p => p.size
  | none => 0
/-- what comes in at a node, and the sizes there -/
def inc (ps : List Pp) (ws : List Wv) (x : List Nat) : Rat := sumQ ((endsN 0 ps x).map (endC ps ws))
def siz (ps : List Pp) (x : List Nat) : Nat := ((endsN 0 ps x).map (endS ps)).sum
def headQ (ps : List Pp) (ws : List Wv) (n : Nd) (u : Rat) : Rat := if n.tank = true then 0 else (inc ps ws n.nm - u) / ((n.ves + siz ps n.nm : Nat) : Rat)
theorem mkRat_scale (k : Nat) (q : Rat) : mkRat ((k : Int) * q.num) q.den = (k : Rat) * q := by
  have h : mkRat ((k : Int) * q.num) q.den = mkRat (k : Int) 1 * mkRat q.num q.den := by rw [Rat.mkRat_mul_mkRat, Nat.one_mul]
  rw [h, Rat.mkRat_self]
  congr 1
  exact Rat.mkRat_self (k : Rat)
theorem mkRat_div (q : Rat) {s : Nat} (hs : s ≠ 0) : mkRat q.num (q.den * s) = q / (s : Rat) := by
  have hs' : (s : Rat) ≠ 0 := fun z => hs (by exact_mod_cast z)
  have hd : (q.den : Rat) ≠ 0 := fun z => q.den_nz (by exact_mod_cast z)
  rw [Rat.mkRat_eq_div, Rat.natCast_mul, ← num_eq q]
  generalize (q.den : Rat) = d at *
  generalize (s : Rat) = t at *
  grind
/-- takings: what is taken at each node -/
structure Tk (d : D) (u : List Nat → Rat) : Prop where
  dic : ∃ ks l, d = .dic ks l
  get : ∀ x, getD' d (st x) (fr 0) = some (fr (u x))
structure HaI (o0 o1 o2 o3 o4 o5 : Option Sl) (ps : List Pp) (ws : List Wv) (es : List (Nat × Nat)) (ves M V : Nat) (j : Nat) (ρ : Rho) : Prop where
  ex : ∃ (q : Rat) (s8 s9 s10 s11 : Option Sl), ρ = [o0, o1, o2, o3, o4, o5, some (.val false (.int ((ves + ((es.take j).map (endS ps)).sum : Nat) : Int))), some (.val false (fr q)), s8, s9, s10, s11] ∧ q = sumQ ((es.take j).map (endC ps ws)) ∧ Bnd M (j * (18 * V)) q ∧ Vl s8 ∧ Vl s9 ∧ Vl s10 ∧ Vl s11
def bodyH : List S := [.par [10, 11] [.ap .idx [.ap .idx [.ap .idx [.var 2, .var 8], .ap (.bin .sub) [.cst (.int 1), .var 9]], .cst (.int 0)], .ap .idx [.ap .idx [.ap (.fld "pipes") [.var 0], .var 8], .cst (.int 4)]],
    .aug 6 .add (.var 11),
    .iff (.ap (.cmp .ne) [.ap .idx [.var 10, .cst (.int 0)], .cst (.int 0)])
     [.set 7 (.call "plus" [.var 7, .call "lowest" [.ap (.bin .mul) [.ap (.bin .mul) [.cst (.int 2), .var 11], .ap .idx [.var 10, .cst (.int 0)]], .ap .idx [.var 10, .cst (.int 1)]]])]
     []]
theorem num_zero {q : Rat} (h : q.num = 0) : q = 0 := Rat.num_eq_zero.mp h
theorem take_snoc {α β : Type} {f : α → β} {l : List α} {j : Nat} {a : α} (h : l[j]? = some a) : (l.take (j + 1)).map f = (l.take j).map f ++ [f a] := by
  rw [List.take_succ, h, List.map_append]
  rfl
theorem sumQ_one (a : Rat) : sumQ [a] = a := by
  show a + 0 = a
  exact Rat.add_zero a
theorem fr_hd {fl : Nat → List Str} {l : List Rat} (h : l ≠ []) : Op.idx.ap fl [.tup (l.map fr), .int 0] = some (fr (hdQ l)) := by
  cases l with
  | nil => exact absurd rfl h
  | cons a l =>
    show atI _ ((0 : Nat) : Int) = _
    rw [atI_nat]
    rfl
theorem ha_turn (F : Fx Γ) (L : Nat) {ps : List Pp} {ws : List Wv} {nds : List Nd} {M V ves : Nat} (hn : NetOk nds ps) (hw : WOk ps ws M V) (hM0 : 0 < M) (hM : M < 2 ^ 1900) (hV : V < 2 ^ 1800) (hfl : (Γ (L + 4)).flds 0 = netF) {nm : List Nat} {b0 : Bool} {o1 o3 o4 o5 : Option Sl} {j : Nat} {e : Nat × Nat} {ρ : Rho}
    (he : (endsN 0 ps nm)[j]? = some e) (h : HaI (some (.val b0 (netD nds ps))) o1 (some (.val false (wsD ws))) o3 o4 o5 ps ws (endsN 0 ps nm) ves M V j ρ) :
    TurnOk (fun out => ∃ ρ, out = .nx ρ ∧ HaI (some (.val b0 (netD nds ps))) o1 (some (.val false (wsD ws))) o3 o4 o5 ps ws (endsN 0 ps nm) ves M V (endsN 0 ps nm).length ρ) (HaI (some (.val b0 (netD nds ps))) o1 (some (.val false (wsD ws))) o3 o4 o5 ps ws (endsN 0 ps nm) ves M V (j + 1))
      (optS (bind1 (.tp [.nm 8, .nm 9]) (pairD e) ρ) fun ρ3 => exs (Γ (L + 4)) bodyH ρ3) := by
  obtain ⟨q, s8, s9, s10, s11, rfl, hq, hb, f8, f9, f10, f11⟩ := h
  obtain ⟨i, sd⟩ := e
  obtain ⟨_, hi, hs⟩ := endsN_mem (List.mem_of_getElem? he)
  simp only [Nat.zero_add] at hi hs
  have hjl : j < 12 := by
    have h1 := (List.getElem?_eq_some_iff.mp he).1
    have h2 := endsN_len (x := nm) (ps := ps) (i := 0)
    have h3 := hn.p2
    omega
  obtain ⟨p, hp⟩ : ∃ p, ps[i]? = some p := ⟨_, List.getElem?_eq_getElem hi⟩
  obtain ⟨w, hwi⟩ : ∃ w, ws[i]? = some w := ⟨_, List.getElem?_eq_getElem (by rw [hw.len]; exact hi)⟩
  have hpk := hn.pk p (List.mem_of_getElem? hp)
  obtain ⟨l1, l2⟩ := hw.fit i p w hp hwi
  obtain ⟨b1, b2⟩ := hw.bnd w (List.mem_of_getElem? hwi)
  have ht := hpk.t1
  -- the wave that comes in
  obtain ⟨wv, hwv, hcon, hbw⟩ : ∃ wv : Rat, (∀ fl, (Op.idx.ap fl [wD w, .int (1 - (sd : Int))]).bind (fun d => Op.idx.ap fl [d, .int 0]) = some (fr wv)) ∧ endC ps ws (i, sd) = ((2 * p.size : Nat) : Rat) * wv ∧ Bnd M V wv := by
    have ne1 : w.1 ≠ [] := fun z => by rw [z] at l1; simp at l1; omega
    have ne2 : w.2 ≠ [] := fun z => by rw [z] at l2; simp at l2; omega
    have hh : ∀ {l : List Rat}, l ≠ [] → (∀ q ∈ l, Bnd M V q) → Bnd M V (hdQ l) := fun {l} h k => by
      cases l with
      | nil => exact absurd rfl h
      | cons a l => exact k a List.mem_cons_self
    rcases hs with rfl | rfl
    · refine ⟨hdQ w.2, fun fl => ?_, by unfold endC; simp only [hp, hwi]; rfl, hh ne2 b2⟩
      exact fr_hd (fl := fl) ne2
    · refine ⟨hdQ w.1, fun fl => ?_, by unfold endC; simp only [hp, hwi]; rfl, hh ne1 b1⟩
      exact fr_hd (fl := fl) ne1
  obtain ⟨d1, hd1, hd2⟩ : ∃ d1, Op.idx.ap (Γ (L + 4)).flds [wD w, .int (1 - (sd : Int))] = some d1 ∧ Op.idx.ap (Γ (L + 4)).flds [d1, .int 0] = some (fr wv) := by
    have := hwv (Γ (L + 4)).flds
    cases e : Op.idx.ap (Γ (L + 4)).flds [wD w, .int (1 - (sd : Int))] with
    | none => rw [e] at this; cases this
    | some d => exact ⟨d, rfl, by rw [e] at this; exact this⟩
  have i0 : Op.idx.ap (Γ (L + 4)).flds [wsD ws, .int (i : Int)] = some (wD w) := by
    show atI (ws.map wD) (i : Int) = _
    rw [atI_nat, List.getElem?_map, hwi]
    rfl
  have i1 : Op.idx.ap (Γ (L + 4)).flds [.tup (ps.map Pp.D), .int (i : Int)] = some p.D := by
    show atI (ps.map Pp.D) (i : Int) = _
    rw [atI_nat, List.getElem?_map, hp]
    rfl
  have i2 : Op.idx.ap (Γ (L + 4)).flds [p.D, .int 4] = some (.int p.size) := rfl
  have fp : fldD (Γ (L + 4)).flds "pipes" (netD nds ps) = some (.tup (ps.map Pp.D)) := fldD_at (k := 1) hfl (by decide +kernel) rfl
  have hsz := hpk.s2
  have hes : endS ps (i, sd) = p.size := by unfold endS; simp only [hp]
  have fin : ∀ q', q' = q + ((2 * p.size : Nat) : Rat) * wv → ∀ t : Int, t = ((ves + (((endsN 0 ps nm).take (j + 1)).map (endS ps)).sum : Nat) : Int) → HaI (some (.val b0 (netD nds ps))) o1 (some (.val false (wsD ws))) o3 o4 o5 ps ws (endsN 0 ps nm) ves M V (j + 1)
      [some (.val b0 (netD nds ps)), o1, some (.val false (wsD ws)), o3, o4, o5, some (.val false (.int t)), some (.val false (fr q')), some (.val false (.int i)), some (.val false (.int sd)), some (.val false (fr wv)), some (.val false (.int p.size))] := by
    intro q' hq' t ht
    subst ht
    refine ⟨q', _, _, _, _, rfl, ?_, ?_, .val, .val, .val, .val⟩
    · rw [take_snoc he, sumQ_app, sumQ_one, hcon, ← hq]
      exact hq'
    · rw [hq']
      have k1 := hb.add (hbw.scale (2 * p.size))
      refine k1.mono (Nat.dvd_refl _) ?_
      have : 2 * p.size * V ≤ 18 * V := Nat.mul_le_mul_right V (by omega)
      have e : (j + 1) * (18 * V) = j * (18 * V) + 18 * V := Nat.succ_mul _ _
      rw [e]
      exact Nat.add_le_add_left this _
  have hst : ((ves + (((endsN 0 ps nm).take j).map (endS ps)).sum : Nat) : Int) + (p.size : Int) = ((ves + (((endsN 0 ps nm).take (j + 1)).map (endS ps)).sum : Nat) : Int) := by
    rw [take_snoc he, List.sum_append, hes]
    simp only [List.sum_cons, List.sum_nil]
    omega
  have e24 : eqOk (.int wv.num) (.int 0) = true := rfl
  by_cases hz : wv.num = 0
  · have hz2 : q = q + ((2 * p.size : Nat) : Rat) * wv := by rw [num_zero hz, Rat.mul_zero, Rat.add_zero]
    have fin := fin q hz2 _ hst
    generalize netD nds ps = N at *
    generalize wsD ws = W at *
    generalize wD w = W1 at *
    generalize ves + (((endsN 0 ps nm).take j).map (endS ps)).sum = SS at *
    simp [bodyH, pairD, Pf.putAll, putS_free f8.fr, putS_free f9.fr, putS_free f10.fr, putS_free f11.fr, i0, hd1, hd2, fp, i1, i2, fr_num, fr_den, hz]
    exact fin
  · have sq : Sz q := by
      have : j * (18 * V) < 2 ^ 1900 := by
        have h1 : j * (18 * V) ≤ 12 * (18 * V) := Nat.mul_le_mul_right _ (by omega)
        have h2 : (2 : Nat) ^ 1800 * 2 ^ 100 = 2 ^ 1900 := by rw [← Nat.pow_add]
        have h3 : (2 : Nat) ^ 1800 * 216 ≤ 2 ^ 1800 * 2 ^ 100 := Nat.mul_le_mul_left _ (by decide)
        omega
      exact hb.sz hM0 hM this
    have hVV : 2 * p.size * V < 2 ^ 1900 := by
      have h1 : 2 * p.size * V ≤ 18 * V := Nat.mul_le_mul_right V (by omega)
      have h2 : (2 : Nat) ^ 1800 * 2 ^ 100 = 2 ^ 1900 := by rw [← Nat.pow_add]
      have h3 : (2 : Nat) ^ 1800 * 18 ≤ 2 ^ 1800 * 2 ^ 100 := Nat.mul_le_mul_left _ (by decide)
      omega
    have sc : Sz (((2 * p.size : Nat) : Rat) * wv) := (hbw.scale (2 * p.size)).sz hM0 hM hVV
    have sw : Sz wv := hbw.sz hM0 hM (Nat.lt_trans hV (Nat.pow_lt_pow_right (by decide) (by decide)))
    have hp1 := plus_run F (L + 1) sq sc
    have hl := lowest_run F (L + 2) (t := ((2 * p.size : Nat) : Int) * wv.num) wv.den_nz (Nat.lt_trans sw.2 (Nat.pow_lt_pow_right (by decide) (by decide)))
    rw [mkRat_scale, show ((2 * p.size : Nat) : Int) = 2 * (p.size : Int) by omega] at hl
    have m1 : (Op.bin .mul).ap (Γ (L + 4)).flds [.int 2, .int p.size] = some (.int (2 * p.size)) := mul_ok (k := 10) (m := 10) (by decide) (by rw [Int.natAbs_natCast]; exact Nat.lt_of_le_of_lt hsz (by decide)) (by decide) (by decide) (by decide)
    have m2 : (Op.bin .mul).ap (Γ (L + 4)).flds [.int (2 * p.size), .int wv.num] = some (.int (2 * p.size * wv.num)) := mul_ok (k := 10) (m := 3900) (by omega) sw.1 (by decide) (by decide) (by decide)
    have fin := fin _ rfl _ hst
    generalize netD nds ps = N at *
    generalize wsD ws = W at *
    generalize wD w = W1 at *
    generalize ves + (((endsN 0 ps nm).take j).map (endS ps)).sum = SS at *
    generalize ((2 * p.size : Nat) : Rat) * wv = cq at *
    simp [bodyH, pairD, Pf.putAll, putS_free f8.fr, putS_free f9.fr, putS_free f10.fr, putS_free f11.fr, i0, hd1, hd2, fp, i1, i2, fr_num, fr_den, hz, -o_mul, m1, m2, F.plus.has, F.plus.frz, F.plus.cal, F.lowest.has, F.lowest.frz, F.lowest.cal, hl, hp1]
    exact fin
end Pf
end
section
set_option Elab.async false
set_option linter.all false
set_option maxRecDepth 100000
set_option maxHeartbeats 4000000
/-! Fx4: the program's head_at and tick. -/
namespace Pf
open PySem PySem.Spec PyProof.Rows L2
def f_tick : Fn := ⟨3, 12, [.set 3 (.ap (.bi .tuple) [.comp [4] (.nm 4) .rng [.ap (.bi .len) [.ap (.fld "nodes") [.var 0]]] [] (.call "head_at" [.var 0, .var 4, .var 1, .var 2])]),
  .set 5 (.lst []),
  .for_ (.tp [.nm 6, .nm 7]) .zip [.ap (.fld "pipes") [.var 0], .fz 1]
   [.tgt (.tp [.nm 8, .nm 9]) (.var 7),
    .set 10 (.call "minus" [.ap .idx [.var 3, .ap .idx [.ap (.fld "spots") [.var 0], .ap .idx [.var 6, .cst (.int 1)]]], .ap .idx [.var 9, .cst (.int 0)]]),
    .set 11 (.call "minus" [.ap .idx [.var 3, .ap .idx [.ap (.fld "spots") [.var 0], .ap .idx [.var 6, .cst (.int 2)]]], .ap .idx [.var 8, .cst (.int 0)]]),
    .mt 5 .append [.tup [.ap (.bin .add) [.slc (.var 8) (.cst (.int 1)) (.cst .non), .tup [.var 10]], .ap (.bin .add) [.slc (.var 9) (.cst (.int 1)) (.cst .non), .tup [.var 11]]]]],
  .ret (.tup [.var 3, .ap (.bi .tuple) [.var 5]])]⟩
variable {Γ : Nat → Ga}
def szN (ps : List Pp) (n : Nd) : Nat := n.ves + siz ps n.nm
theorem sum_pos {l : List Nat} {a : Nat} (h : a ∈ l) : a ≤ l.sum := by
  induction l with
  | nil => cases h
  | cons b l ih =>
    rw [List.sum_cons]
    rcases List.mem_cons.mp h with rfl | h
    · omega
    · have := ih h
      omega
theorem endsN_has {p : Pp} {x : List Nat} (h : p.one = x ∨ p.other = x) : ∀ {ps : List Pp} {i k : Nat}, ps[k]? = some p → ∃ s, (i + k, s) ∈ endsN i ps x
  | [], i, k, hk => by simp at hk
  | q :: ps, i, 0, hk => by
    cases hk
    unfold endsN
    by_cases h1 : p.one = x
    · exact ⟨0, List.mem_append_left _ (by rw [if_pos h1]; exact List.mem_singleton.mpr rfl)⟩
    · exact ⟨1, List.mem_append_left _ (by rw [if_neg h1, if_pos (h.resolve_left h1)]; exact List.mem_singleton.mpr rfl)⟩
  | q :: ps, i, k + 1, hk => by
    obtain ⟨s, hs⟩ := endsN_has h (ps := ps) (i := i + 1) (k := k) (by simpa using hk)
    refine ⟨s, ?_⟩
    unfold endsN
    refine List.mem_append_right _ ?_
    rw [show i + (k + 1) = i + 1 + k by omega]
    exact hs
theorem sum_le {l : List Nat} {k : Nat} (h : ∀ a ∈ l, a ≤ k) : l.sum ≤ l.length * k := by
  induction l with
  | nil => simp
  | cons a l ih =>
    have h1 := h a List.mem_cons_self
    have h2 := ih fun b hb => h b (List.mem_cons_of_mem _ hb)
    rw [List.sum_cons, List.length_cons, Nat.succ_mul]
    omega
theorem szN_le {nds : List Nd} {ps : List Pp} (h : NetOk nds ps) {n : Nd} (hn : n ∈ nds) : 1 ≤ szN ps n ∧ szN ps n ≤ 168 := by
  have hv := (h.nk n hn).ves
  unfold szN siz
  constructor
  · obtain ⟨p, hp, hc⟩ := h.cov n hn
    obtain ⟨k, hk⟩ := List.getElem?_of_mem hp
    obtain ⟨s, hs⟩ := endsN_has hc (i := 0) hk
    have h1 := sum_pos (List.mem_map_of_mem (f := endS ps) hs)
    have h2 : endS ps (0 + k, s) = p.size := by
      unfold endS
      simp only [Nat.zero_add, hk]
    have h3 := (h.pk p hp).s1
    omega
  · have h1 := sum_le (l := (endsN 0 ps n.nm).map (endS ps)) (k := 9) fun a ha => by
      obtain ⟨e, he, rfl⟩ := List.mem_map.mp ha
      unfold endS
      cases hp : ps[e.1]? with
      | none => exact Nat.zero_le _
      | some p => exact (h.pk p (List.mem_of_getElem? hp)).s2
    have h2 := endsN_len (x := n.nm) (ps := ps) (i := 0)
    have h3 := h.p2
    rw [List.length_map] at h1
    have h4 : (endsN 0 ps n.nm).length * 9 ≤ 12 * 9 := Nat.mul_le_mul_right 9 (by omega)
    omega
theorem inc_bnd {ps : List Pp} {nds : List Nd} {ws : List Wv} {M V : Nat} (hn : NetOk nds ps) (hw : WOk ps ws M V) (x : List Nat) : Bnd M (216 * V) (inc ps ws x) := by
  have hh : ∀ {l : List Rat}, (∀ q ∈ l, Bnd M V q) → Bnd M V (hdQ l) := fun {l} k => by
    cases l with
    | nil => exact Bnd.zero
    | cons a l => exact k a List.mem_cons_self
  have h1 : ∀ e ∈ endsN 0 ps x, Bnd M (18 * V) (endC ps ws e) := fun e he => by
    unfold endC
    cases hp : ps[e.1]? with
    | none => exact Bnd.zero
    | some p =>
      cases hw' : ws[e.1]? with
      | none => exact Bnd.zero
      | some w =>
        obtain ⟨b1, b2⟩ := hw.bnd w (List.mem_of_getElem? hw')
        have hs := (hn.pk p (List.mem_of_getElem? hp)).s2
        have k : Bnd M V (if e.2 = 0 then hdQ w.2 else hdQ w.1) := by
          split
          · exact hh b2
          · exact hh b1
        exact (k.scale (2 * p.size)).mono (Nat.dvd_refl _) (Nat.mul_le_mul_right V (by omega))
  have h2 : ∀ l : List (Nat × Nat), (∀ e ∈ l, Bnd M (18 * V) (endC ps ws e)) → Bnd M (l.length * (18 * V)) (sumQ (l.map (endC ps ws))) := fun l => by
    induction l with
    | nil => intro _; exact Bnd.zero
    | cons e l ih =>
      intro h
      have k1 := h e List.mem_cons_self
      have k2 := ih fun f hf => h f (List.mem_cons_of_mem _ hf)
      refine (k1.add k2).mono (Nat.dvd_refl _) ?_
      rw [List.length_cons, Nat.add_comm]
      exact Nat.le_of_eq (Nat.succ_mul _ _).symm
  refine (h2 _ h1).mono (Nat.dvd_refl _) ?_
  have h3 := endsN_len (x := x) (ps := ps) (i := 0)
  have h4 := hn.p2
  have h5 : (endsN 0 ps x).length * (18 * V) ≤ 12 * (18 * V) := Nat.mul_le_mul_right _ (by omega)
  have h6 : 12 * (18 * V) = 216 * V := by rw [← Nat.mul_assoc]
  omega
theorem headQ_bnd {ps : List Pp} {nds : List Nd} {ws : List Wv} {M V U : Nat} (hn : NetOk nds ps) (hw : WOk ps ws M V) {n : Nd} (hm : n ∈ nds) {u : Rat} (hu : Bnd M U u) : Bnd (M * szN ps n) (216 * V + U) (headQ ps ws n u) := by
  unfold headQ
  split
  · exact Bnd.zero
  · have h1 := (inc_bnd hn hw n.nm).sub hu
    obtain ⟨s1, s2⟩ := szN_le hn hm
    refine Bnd.div (h1.mono (Nat.dvd_refl _) (Nat.le_mul_of_pos_right _ s1)) s1
theorem ends_at' {nds : List Nd} {ps : List Pp} {i : Nat} {n : Nd} (h : nds[i]? = some n) {fl : Nat → List Str} : Op.idx.ap fl [.lst (nds.map fun n => .tup (endsL 0 ps n.nm)), .int i] = some (.tup ((endsN 0 ps n.nm).map pairD)) := by
  show atI _ (i : Int) = _
  rw [atI_nat, List.getElem?_map, h, ← endsL_eq]
  rfl
theorem head_run (F : Fx Γ) (hz : ∀ L, (Γ L).glo "ZERO" = some (fr 0)) (L : Nat) {ps : List Pp} {ws : List Wv} {nds : List Nd} {M V U : Nat} (hn : NetOk nds ps) (hw : WOk ps ws M V) (hM0 : 0 < M) (hM : M < 2 ^ 1900) (hV : V < 2 ^ 1800) (hU : U < 2 ^ 1800) (hfl : ∀ L, (Γ L).flds 0 = netF)
    {i : Nat} {n : Nd} (hi : nds[i]? = some n) {td : D} {u : List Nat → Rat} (ht : Tk td u) (hu : Bnd M U (u n.nm)) (b0 : Bool) : run1 (Γ (L + 4)) f_head_at [.val b0 (netD nds ps), .val false (.int i), .val false (wsD ws), .val false td] = .ok (false, fr (headQ ps ws n (u n.nm))) [some (.val b0 (netD nds ps)), some (.val false (.int i)), some (.val false (wsD ws)), some (.val false td)] := by
  have hm : n ∈ nds := List.mem_of_getElem? hi
  have f0 : fldD (Γ (L + 4)).flds "nodes" (netD nds ps) = some (.tup (nds.map Nd.D)) := fldD_at (k := 0) (hfl _) (by decide +kernel) rfl
  have f3 : fldD (Γ (L + 4)).flds "ends" (netD nds ps) = some (.lst (nds.map fun n => .tup (endsL 0 ps n.nm))) := fldD_at (k := 3) (hfl _) (by decide +kernel) rfl
  have i0 : Op.idx.ap (Γ (L + 4)).flds [.tup (nds.map Nd.D), .int (i : Int)] = some n.D := by
    show atI (nds.map Nd.D) (i : Int) = _
    rw [atI_nat, List.getElem?_map, hi]
    rfl
  have i3 := ends_at' (ps := ps) hi (fl := (Γ (L + 4)).flds)
  have hjt : (("joint" : Str) = "tank") = False := eq_false (by decide +kernel)
  cases htk : n.tank with
  | true =>
    have hh : headQ ps ws n (u n.nm) = 0 := by unfold headQ; rw [if_pos htk]
    rw [hh]
    have hD : n.D = .tup [st n.nm, .str "tank", .int n.ves] := by unfold Nd.D kindS; rw [htk]; rfl
    rw [hD] at i0
    simp [run1_eq, f_head_at, finR, f0, i0, eqv_str, hz]
  | false =>
    have hD : n.D = .tup [st n.nm, .str "joint", .int n.ves] := by unfold Nd.D kindS; rw [htk]; rfl
    rw [hD] at i0
    obtain ⟨s1, s2⟩ := szN_le hn hm
    have hib := inc_bnd hn hw n.nm
    have c18 : (2 : Nat) ^ 1800 * 2 ^ 100 = 2 ^ 1900 := by rw [← Nat.pow_add]
    have c19 : (2 : Nat) ^ 1800 * 217 ≤ 2 ^ 1800 * 2 ^ 100 := Nat.mul_le_mul_left _ (by decide)
    have szq : Sz (inc ps ws n.nm) := hib.sz hM0 hM (by omega)
    have szu : Sz (u n.nm) := hu.sz hM0 hM (by omega)
    have szd : Sz (inc ps ws n.nm - u n.nm) := (hib.sub hu).sz hM0 hM (by omega)
    have hmi := minus_run F L szq szu
    have hdn : (inc ps ws n.nm - u n.nm).den * szN ps n < 2 ^ 8000 := by
      have h1 : (inc ps ws n.nm - u n.nm).den * szN ps n ≤ 2 ^ 3900 * 168 := Nat.mul_le_mul (Nat.le_of_lt szd.2) s2
      have h2 : (2 : Nat) ^ 3900 * 168 < 2 ^ 3900 * 2 ^ 100 := Nat.mul_lt_mul_of_pos_left (by decide) (Nat.pow_pos (by decide))
      rw [← Nat.pow_add] at h2
      exact Nat.lt_trans (Nat.lt_of_le_of_lt h1 h2) (Nat.pow_lt_pow_right (by decide) (by decide))
    have hl := lowest_run F (L + 2) (t := (inc ps ws n.nm - u n.nm).num) (Nat.mul_ne_zero (inc ps ws n.nm - u n.nm).den_nz (Nat.ne_of_gt s1)) hdn
    rw [mkRat_div _ (Nat.ne_of_gt s1), Int.natCast_mul] at hl
    have hh : headQ ps ws n (u n.nm) = (inc ps ws n.nm - u n.nm) / ((szN ps n : Nat) : Rat) := by unfold headQ szN; rw [if_neg (by rw [htk]; decide)]
    rw [← hh] at hl
    have m1 : (Op.bin .mul).ap (Γ (L + 4)).flds [.int (inc ps ws n.nm - u n.nm).den, .int (szN ps n)] = some (.int (((inc ps ws n.nm - u n.nm).den * szN ps n : Nat) : Int)) := by
      rw [Int.natCast_mul]
      exact mul_ok (k := 3900) (m := 10) (by rw [Int.natAbs_natCast]; exact szd.2) (by rw [Int.natAbs_natCast]; exact Nat.lt_of_le_of_lt s2 (by decide)) (by decide) (by decide) (by decide)
    have hw1 : walk .seq [.tup ((endsN 0 ps n.nm).map pairD)] = some ((endsN 0 ps n.nm).map pairD) := rfl
    have hlp : ∃ ρ, loop (fun ρ => held ρ [.val (.tup ((endsN 0 ps n.nm).map pairD))] [.tup ((endsN 0 ps n.nm).map pairD)]) (fun x ρ2 => optS (bind1 (.tp [.nm 8, .nm 9]) x ρ2) fun ρ3 => exs (Γ (L + 4)) bodyH ρ3) ((endsN 0 ps n.nm).map pairD)
        [some (.val b0 (netD nds ps)), some (.val false (.int i)), some (.val false (wsD ws)), some (.val false td), some (.val false (st n.nm)), some (.val false (.str "joint")), some (.val false (.int n.ves)), some (.val false (fr 0)), none, none, none, none] = .nx ρ ∧
        HaI (some (.val b0 (netD nds ps))) (some (.val false (.int i))) (some (.val false (wsD ws))) (some (.val false td)) (some (.val false (st n.nm))) (some (.val false (.str "joint"))) ps ws (endsN 0 ps n.nm) n.ves M V (endsN 0 ps n.nm).length ρ := by
      refine loop_at (R := fun out => ∃ ρ, out = .nx ρ ∧ HaI (some (.val b0 (netD nds ps))) (some (.val false (.int i))) (some (.val false (wsD ws))) (some (.val false td)) (some (.val false (st n.nm))) (some (.val false (.str "joint"))) ps ws (endsN 0 ps n.nm) n.ves M V (endsN 0 ps n.nm).length ρ)
        (HaI (some (.val b0 (netD nds ps))) (some (.val false (.int i))) (some (.val false (wsD ws))) (some (.val false td)) (some (.val false (st n.nm))) (some (.val false (.str "joint"))) ps ws (endsN 0 ps n.nm) n.ves M V) ?_ ?_ ?_
      · exact ⟨0, none, none, none, none, by simp, rfl, Bnd.zero, .none, .none, .none, .none⟩
      · intro ρ h
        rw [List.length_map] at h
        exact ⟨held_val, ρ, rfl, h⟩
      · intro j x ρ hx h
        refine ⟨held_val, ?_⟩
        rw [List.getElem?_map] at hx
        cases he : (endsN 0 ps n.nm)[j]? with
        | none => rw [he] at hx; cases hx
        | some e =>
          rw [he] at hx
          cases hx
          exact ha_turn F L hn hw hM0 hM hV (hfl _) he h
    obtain ⟨ρ, hlp, q, s8, s9, s10, s11, rfl, hq, _⟩ := hlp
    rw [List.take_length] at hlp hq
    have hq2 : q = inc ps ws n.nm := hq
    subst hq2
    have hS : n.ves + ((endsN 0 ps n.nm).map (endS ps)).sum = szN ps n := rfl
    rw [hS] at hlp
    obtain ⟨ks, l, rfl⟩ := ht.dic
    have hg := ht.get n.nm
    generalize netD nds ps = N at *
    generalize wsD ws = W at *
    generalize (endsN 0 ps n.nm).map pairD = es at *
    generalize headQ ps ws n (u n.nm) = hq0 at *
    generalize inc ps ws n.nm - u n.nm = dq at *
    generalize inc ps ws n.nm = iq at *
    simp [run1_eq, f_head_at, finR, f0, i0, f3, i3, eqv_str, hjt, hz, ex_for, hw1]
    generalize hlo : loop _ _ _ _ = out
    obtain rfl := hlo.symm.trans hlp
    simp [-getD_dic, hg, hz, fr_num, fr_den, -o_mul, m1, F.minus.has, F.minus.frz, F.minus.cal, F.lowest.has, F.lowest.frz, F.lowest.cal, hmi, hl, finR]
end Pf
end
section
set_option Elab.async false
set_option linter.all false
set_option maxRecDepth 100000
set_option maxHeartbeats 4000000
/-! Fx5: the program's tick. -/
namespace Pf
open PySem PySem.Spec PyProof.Rows L2
variable {Γ : Nat → Ga}
def hAt (nds : List Nd) (ps : List Pp) (ws : List Wv) (u : List Nat → Rat) (x : List Nat) : Rat := match nds.find? (fun n => decide (n.nm = x)) with
  | some n => headQ ps ws n (u n.nm)
  | none => 0
def headsQ (nds : List Nd) (ps : List Pp) (ws : List Wv) (u : List Nat → Rat) : List Rat := nds.map fun n => headQ ps ws n (u n.nm)
def nextW (h : List Nat → Rat) (p : Pp) (w : Wv) : Wv := (w.1.tail ++ [h p.one - hdQ w.2], w.2.tail ++ [h p.other - hdQ w.1])
def tickW (nds : List Nd) (ps : List Pp) (ws : List Wv) (u : List Nat → Rat) : List Wv := List.zipWith (nextW (hAt nds ps ws u)) ps ws
def prodS (nds : List Nd) (ps : List Pp) : Nat := (nds.map (szN ps)).foldr (· * ·) 1
theorem fold_dvd {l : List Nat} {a : Nat} (h : a ∈ l) : a ∣ l.foldr (· * ·) 1 := by
  induction l with
  | nil => cases h
  | cons b l ih =>
    show a ∣ b * l.foldr (· * ·) 1
    rcases List.mem_cons.mp h with rfl | h
    · exact Nat.dvd_mul_right _ _
    · exact Nat.dvd_trans (ih h) (Nat.dvd_mul_left _ _)
theorem prodS_dvd {nds : List Nd} {ps : List Pp} {n : Nd} (h : n ∈ nds) : szN ps n ∣ prodS nds ps := fold_dvd (List.mem_map_of_mem h)
theorem fold_pos {l : List Nat} (h : ∀ a ∈ l, 0 < a) : 0 < l.foldr (· * ·) 1 := by
  induction l with
  | nil => exact Nat.one_pos
  | cons b l ih =>
    show 0 < b * l.foldr (· * ·) 1
    exact Nat.mul_pos (h b List.mem_cons_self) (ih fun a ha => h a (List.mem_cons_of_mem _ ha))
theorem fold_le {l : List Nat} {k : Nat} (h : ∀ a ∈ l, a ≤ k) : l.foldr (· * ·) 1 ≤ k ^ l.length := by
  induction l with
  | nil => simp
  | cons b l ih =>
    show b * l.foldr (· * ·) 1 ≤ _
    rw [List.length_cons, Nat.pow_succ, Nat.mul_comm]
    exact Nat.mul_le_mul (ih fun a ha => h a (List.mem_cons_of_mem _ ha)) (h b List.mem_cons_self)
theorem prodS_pos {nds : List Nd} {ps : List Pp} (h : NetOk nds ps) : 0 < prodS nds ps := fold_pos fun a ha => by
  obtain ⟨n, hn, rfl⟩ := List.mem_map.mp ha
  exact (szN_le h hn).1
theorem prodS_le {nds : List Nd} {ps : List Pp} (h : NetOk nds ps) : prodS nds ps ≤ 2 ^ 64 := by
  have h1 : prodS nds ps ≤ 168 ^ (nds.map (szN ps)).length := fold_le fun a ha => by
    obtain ⟨n, hn, rfl⟩ := List.mem_map.mp ha
    exact (szN_le h hn).2
  rw [List.length_map] at h1
  exact Nat.le_trans h1 (Nat.le_trans (Nat.pow_le_pow_right (by decide) h.n2) (by decide))
theorem find_nd {nds : List Nd} (h : (nds.map Nd.nm).Nodup) {i : Nat} {n : Nd} (hi : nds[i]? = some n) : nds.find? (fun m => decide (m.nm = n.nm)) = some n := by
  induction nds generalizing i with
  | nil => simp at hi
  | cons m nds ih =>
    rw [List.map_cons, List.nodup_cons] at h
    cases i with
    | zero =>
      cases hi
      simp
    | succ i =>
      have hi : nds[i]? = some n := by simpa using hi
      have hne : ¬ m.nm = n.nm := fun z => h.1 (by rw [z]; exact List.mem_map_of_mem (List.mem_of_getElem? hi))
      rw [List.find?_cons_of_neg (by simpa using hne)]
      exact ih h.2 hi
theorem hAt_eq {nds : List Nd} {ps : List Pp} {ws : List Wv} {u : List Nat → Rat} (h : (nds.map Nd.nm).Nodup) {i : Nat} {n : Nd} (hi : nds[i]? = some n) : hAt nds ps ws u n.nm = headQ ps ws n (u n.nm) := by
  unfold hAt
  rw [find_nd h hi]
theorem spot_at {nds : List Nd} (h : (nds.map Nd.nm).Nodup) : ∀ {i : Nat} {n : Nd} {a : Int}, nds[i]? = some n → look (.inr (sOf n.nm)) (nds.map fun n => .inr (sOf n.nm)) (rangeD a nds.length) = some (.int (a + i)) := by
  induction nds with
  | nil => intro i n a hi; simp at hi
  | cons m nds ih =>
    intro i n a hi
    rw [List.map_cons, List.nodup_cons] at h
    rw [List.map_cons, List.length_cons]
    unfold rangeD look
    cases i with
    | zero =>
      cases hi
      rw [if_pos rfl]
      simp
    | succ i =>
      have hi : nds[i]? = some n := by simpa using hi
      have hne : ¬ (.inr (sOf m.nm) : Key) = .inr (sOf n.nm) := fun z => h.1 (by rw [sOf_inj.mp (Sum.inr.inj z)]; exact List.mem_map_of_mem (List.mem_of_getElem? hi))
      rw [if_neg hne, ih h.2 hi]
      congr 2
      omega
theorem node_of_name {nds : List Nd} {x : List Nat} (h : x ∈ nds.map Nd.nm) : ∃ (i : Nat) (n : Nd), nds[i]? = some n ∧ n.nm = x := by
  obtain ⟨n, hn, rfl⟩ := List.mem_map.mp h
  obtain ⟨i, hi⟩ := List.getElem?_of_mem hn
  exact ⟨i, n, hi, rfl⟩
theorem cutL_drop {α : Type} {l : List α} (h : 1 ≤ l.length) : cutL l (some 1) none = l.tail := by
  have h1 : HT.sIx l.length 0 (some 1) = 1 := by
    show (if (1 : Int) < 0 then ((1 : Int) + (l.length : Int)).toNat else min (1 : Int).toNat l.length) = 1
    rw [if_neg (by decide)]
    show min 1 l.length = 1
    omega
  have h2 : HT.sIx l.length l.length none = l.length := rfl
  unfold cutL
  rw [h1, h2, List.drop_one]
  exact List.take_of_length_le (by rw [List.length_tail]; exact Nat.le_refl _)
theorem nextW_ok {nds : List Nd} {ps : List Pp} {ws : List Wv} {M V U : Nat} (hn : NetOk nds ps) (hw : WOk ps ws M V) {u : List Nat → Rat} (hu : ∀ n ∈ nds, Bnd M U (u n.nm)) : WOk ps (tickW nds ps ws u) (M * prodS nds ps) (217 * V + U) := by
  have hP := prodS_pos hn
  have hb : ∀ x ∈ nds.map Nd.nm, Bnd (M * prodS nds ps) (216 * V + U) (hAt nds ps ws u x) := fun x hx => by
    obtain ⟨i, n, hi, rfl⟩ := node_of_name hx
    rw [hAt_eq hn.nn hi]
    exact (headQ_bnd hn hw (List.mem_of_getElem? hi) (hu n (List.mem_of_getElem? hi))).mono (Nat.mul_dvd_mul_left M (prodS_dvd (List.mem_of_getElem? hi))) (Nat.le_refl _)
  have hV : 216 * V + U + V ≤ 217 * V + U := by omega
  have hhd : ∀ {l : List Rat}, (∀ q ∈ l, Bnd M V q) → Bnd M V (hdQ l) := fun {l} k => by
    cases l with
    | nil => exact Bnd.zero
    | cons a l => exact k a List.mem_cons_self
  have key : ∀ {x : List Nat} {l m : List Rat}, x ∈ nds.map Nd.nm → (∀ q ∈ l, Bnd M V q) → (∀ q ∈ m, Bnd M V q) → ∀ q ∈ l.tail ++ [hAt nds ps ws u x - hdQ m], Bnd (M * prodS nds ps) (217 * V + U) q := fun {x l m} hx hl hm q hq => by
    rcases List.mem_append.mp hq with hq | hq
    · exact (hl q (List.mem_of_mem_tail hq)).mono (Nat.dvd_mul_right _ _) (by omega)
    · rw [List.mem_singleton.mp hq]
      exact ((hb x hx).sub ((hhd hm).mono (Nat.dvd_mul_right _ _) (Nat.le_refl _))).mono (Nat.dvd_refl _) hV
  refine ⟨?_, fun i p w hp hwi => ?_, fun w hm => ?_⟩
  · unfold tickW
    rw [List.length_zipWith, hw.len, Nat.min_self]
  · unfold tickW at hwi
    rw [List.getElem?_zipWith] at hwi
    rw [hp] at hwi
    cases hwo : ws[i]? with
    | none => rw [hwo] at hwi; cases hwi
    | some w0 =>
      rw [hwo] at hwi
      cases hwi
      obtain ⟨l1, l2⟩ := hw.fit i p w0 hp hwo
      have ht := (hn.pk p (List.mem_of_getElem? hp)).t1
      unfold nextW
      simp only [List.length_append, List.length_tail, List.length_cons, List.length_nil]
      omega
  · unfold tickW at hm
    obtain ⟨i, hi⟩ := List.getElem?_of_mem hm
    rw [List.getElem?_zipWith] at hi
    cases hp : ps[i]? with
    | none => rw [hp] at hi; cases hi
    | some p =>
      cases hwo : ws[i]? with
      | none => rw [hp, hwo] at hi; cases hi
      | some w0 =>
        rw [hp, hwo] at hi
        cases hi
        obtain ⟨b1, b2⟩ := hw.bnd w0 (List.mem_of_getElem? hwo)
        have hpk := hn.pk p (List.mem_of_getElem? hp)
        exact ⟨key hpk.one b1 b2, key hpk.other b2 b1⟩
end Pf
end
section
set_option Elab.async false
set_option linter.all false
set_option maxRecDepth 100000
set_option maxHeartbeats 4000000
/-! Fx6: the program's tick, run. -/
namespace Pf
open PySem PySem.Spec PyProof.Rows L2
def f_run : Fn := ⟨3, 6, [.set 3 (.lst []),
  .for_ (.nm 4) .seq [.fz 2]
   [.tgt (.tp [.nm 5, .nm 1]) (.call "tick" [.var 0, .var 1, .var 4]),
    .mt 3 .append [.var 5]],
  .ret (.tup [.ap (.bi .tuple) [.var 3], .var 1])]⟩
variable {Γ : Nat → Ga}
theorem tk_heads (kh : Knows Γ "head_at" f_head_at) (L : Nat) {nds : List Nd} {N W td : D} {g : Nd → Rat} (hl : nds.length ≤ 1000000) {b0 b1 b2 : Bool}
    (h : ∀ (i : Nat) (n : Nd), nds[i]? = some n → run1 (Γ (L + 4)) f_head_at [.val false N, .val false (.int i), .val false W, .val false td] = .ok (false, fr (g n)) [some (.val false N), some (.val false (.int i)), some (.val false W), some (.val false td)]) {d : D} {r : Rho} (hr : r.length = 7) :
    turns (fun ρ => held ρ [.val d] [d]) (lcF (Γ (L + 5)) [4] (.nm 4) [] (.call "head_at" [.var 0, .var 4, .var 1, .var 2])) (rangeD 0 nds.length) (some (.val b0 N) :: some (.val b1 W) :: some (.val b2 td) :: none :: none :: r) =
      .ok ((nds.map g).map fr) (some (.val b0 N) :: some (.val b1 W) :: some (.val b2 td) :: none :: none :: r) := by
  have key : ∀ (l : List Nd) (a : Nat), (∀ (i : Nat) (n : Nd), l[i]? = some n → nds[a + i]? = some n) → turns (fun ρ => held ρ [.val d] [d]) (lcF (Γ (L + 5)) [4] (.nm 4) [] (.call "head_at" [.var 0, .var 4, .var 1, .var 2])) (rangeD (a : Int) l.length) (some (.val b0 N) :: some (.val b1 W) :: some (.val b2 td) :: none :: none :: r) =
      .ok ((l.map g).map fr) (some (.val b0 N) :: some (.val b1 W) :: some (.val b2 td) :: none :: none :: r) := by
    intro l
    induction l with
    | nil =>
      intro a _
      show turns _ _ [] _ = _
      unfold turns
      rw [if_pos held_val]
      rfl
    | cons n l ih =>
      intro a ha
      have h1 := h a n (by have := ha 0 n rfl; rwa [Nat.add_zero] at this)
      have h2 := ih (a + 1) fun i m hi => by
        have := ha (i + 1) m (by simpa using hi)
        rwa [show a + 1 + i = a + (i + 1) by omega]
      rw [List.length_cons]
      unfold rangeD turns
      rw [if_pos held_val]
      have h3 : lcF (Γ (L + 5)) [4] (.nm 4) [] (.call "head_at" [.var 0, .var 4, .var 1, .var 2]) (.int a) (some (.val b0 N) :: some (.val b1 W) :: some (.val b2 td) :: none :: none :: r) = .ok (some (fr (g n))) (some (.val b0 N) :: some (.val b1 W) :: some (.val b2 td) :: none :: none :: r) := by
        simp [lcF_eq, kh.has, kh.frz, kh.cal, h1]
      rw [h3]
      have e : ((a : Int) + 1) = ((a + 1 : Nat) : Int) := by omega
      rw [e]
      simp only [h2, bnd_ok, List.map_cons]
  have := key nds 0 fun i n hi => by rwa [Nat.zero_add]
  exact this
structure TkI (o0 o1 o2 o3 : Option Sl) (nws : List Wv) (i : Nat) (ρ : Rho) : Prop where
  ex : ∃ (s6 s7 s8 s9 s10 s11 : Option Sl), ρ = [o0, o1, o2, o3, none, some (.cel false (.lst ((nws.take i).map wD))), s6, s7, s8, s9, s10, s11] ∧ Vl s6 ∧ Vl s7 ∧ Vl s8 ∧ Vl s9 ∧ Vl s10 ∧ Vl s11
theorem zip_get {l m : List D} {i : Nat} {x : D} (h : (zipD l m)[i]? = some x) : ∃ a b, l[i]? = some a ∧ m[i]? = some b ∧ x = .tup [a, b] := by
  induction l generalizing m i with
  | nil => simp [zipD] at h
  | cons a l ih =>
    cases m with
    | nil => simp [zipD] at h
    | cons b m =>
      unfold zipD at h
      cases i with
      | zero => cases h; exact ⟨a, b, rfl, rfl, rfl⟩
      | succ i =>
        rw [List.getElem?_cons_succ] at h
        obtain ⟨c, d, h1, h2, h3⟩ := ih h
        exact ⟨c, d, by simpa using h1, by simpa using h2, h3⟩
theorem zip_len {l m : List D} : (zipD l m).length = min l.length m.length := zipD_len l m
theorem fl_one {fl : Nat → List Str} {l : List Rat} (q : Rat) (h : l.length ≤ 100) : (Op.bin .add).ap fl [.tup ((l.map fr)), .tup [fr q]] = some (.tup ((l ++ [q]).map fr)) := by
  rw [o_addT, if_pos, List.map_append]
  · rfl
  · unfold szl
    rw [List.length_map]
    exact decide_eq_true (by simp; omega)
theorem slc_tail {l : List Rat} (h : 1 ≤ l.length) : slcO (.tup (l.map fr)) (some 1) none = some (.tup (l.tail.map fr)) := by
  show some (D.tup (cutL (l.map fr) (some 1) none)) = _
  rw [cutL_drop (by rw [List.length_map]; exact h), List.map_tail]
def TickHyp (Γ : Nat → Ga) (nds : List Nd) (ps : List Pp) (ws : List Wv) (u : List Nat → Rat) (M V U : Nat) : Prop := NetOk nds ps ∧ WOk ps ws M V ∧ 0 < M ∧ M * prodS nds ps < 2 ^ 1900 ∧ V < 2 ^ 1700 ∧ U < 2 ^ 1700 ∧ ∀ n ∈ nds, Bnd M U (u n.nm)
theorem tick_run (F : Fx Γ) (kh : Knows Γ "head_at" f_head_at) (hz : ∀ L, (Γ L).glo "ZERO" = some (fr 0)) (hfl : ∀ L, (Γ L).flds 0 = netF) (L : Nat) {nds : List Nd} {ps : List Pp} {ws : List Wv} {u : List Nat → Rat} {M V U : Nat} (H : TickHyp Γ nds ps ws u M V U) {td : D} (ht : Tk td u) (b0 b1 b2 : Bool) :
    run1 (Γ (L + 5)) f_tick [.val b0 (netD nds ps), .val b1 (wsD ws), .val b2 td] = .ok (false, .tup [.tup ((headsQ nds ps ws u).map fr), wsD (tickW nds ps ws u)]) [some (.val b0 (netD nds ps)), some (.val b1 (wsD ws)), some (.val b2 td)] := by
  obtain ⟨hn, hw, hM0, hMP, hV, hU, hu⟩ := H
  have hP := prodS_pos hn
  have hM : M < 2 ^ 1900 := Nat.lt_of_le_of_lt (Nat.le_mul_of_pos_right M hP) hMP
  have c17 : (2 : Nat) ^ 1700 < 2 ^ 1800 := Nat.pow_lt_pow_right (by decide) (by decide)
  have hh := fun (i : Nat) (n : Nd) (hi : nds[i]? = some n) => head_run F hz L hn hw hM0 hM (Nat.lt_trans hV c17) (Nat.lt_trans hU c17) hfl hi ht (hu n (List.mem_of_getElem? hi)) false
  have hn8 := hn.n2
  have hp12 := hn.p2
  have f0 : fldD (Γ (L + 5)).flds "nodes" (netD nds ps) = some (.tup (nds.map Nd.D)) := fldD_at (k := 0) (hfl _) (by decide +kernel) rfl
  have f1 : fldD (Γ (L + 5)).flds "pipes" (netD nds ps) = some (.tup (ps.map Pp.D)) := fldD_at (k := 1) (hfl _) (by decide +kernel) rfl
  have f2 : fldD (Γ (L + 5)).flds "spots" (netD nds ps) = some (.dic (nds.map fun n => .inr (sOf n.nm)) (rangeD 0 nds.length)) := fldD_at (k := 2) (hfl _) (by decide +kernel) rfl
  have hwr : walkS .rng [.int (nds.length : Int)] = some (rangeD 0 nds.length) := walkS_rng (by omega)
  have htu := fun b0 b1 b2 d => tk_heads kh L (nds := nds) (N := netD nds ps) (W := wsD ws) (td := td) (g := fun n => headQ ps ws n (u n.nm)) (by omega) (b0 := b0) (b1 := b1) (b2 := b2) hh (d := d) (r := [none, none, none, none, none, none, none]) rfl
  have hHs : (nds.map fun n => headQ ps ws n (u n.nm)) = headsQ nds ps ws u := rfl
  rw [hHs] at htu
  have hwz : walk .zip [.tup (ps.map Pp.D), wsD ws] = some (zipD (ps.map Pp.D) (ws.map wD)) := rfl
  have hsp : ∀ x, x ∈ nds.map Nd.nm → ∃ i : Nat, Op.idx.ap (Γ (L + 5)).flds [.dic (nds.map fun n => .inr (sOf n.nm)) (rangeD 0 nds.length), st x] = some (.int i) ∧ Op.idx.ap (Γ (L + 5)).flds [.tup ((headsQ nds ps ws u).map fr), .int i] = some (fr (hAt nds ps ws u x)) := fun x hx => by
    obtain ⟨i, n, hi, rfl⟩ := node_of_name hx
    refine ⟨i, ?_, ?_⟩
    · show look (.inr (sOf n.nm)) _ _ = _
      rw [spot_at hn.nn hi, Int.zero_add]
    · show atI _ (i : Int) = _
      rw [atI_nat, hAt_eq hn.nn hi]
      unfold headsQ
      rw [List.getElem?_map, List.getElem?_map, hi]
      rfl
  have hlp : ∀ o0 o2, ∃ ρ, loop (fun ρ => held ρ [.val (.tup (ps.map Pp.D)), .val (wsD ws)] [.tup (ps.map Pp.D), wsD ws]) (fun x ρ2 => optS (bind1 (.tp [.nm 6, .nm 7]) x ρ2) fun ρ3 => exs (Γ (L + 5)) [.tgt (.tp [.nm 8, .nm 9]) (.var 7),
    .set 10 (.call "minus" [.ap .idx [.var 3, .ap .idx [.ap (.fld "spots") [.var 0], .ap .idx [.var 6, .cst (.int 1)]]], .ap .idx [.var 9, .cst (.int 0)]]),
    .set 11 (.call "minus" [.ap .idx [.var 3, .ap .idx [.ap (.fld "spots") [.var 0], .ap .idx [.var 6, .cst (.int 2)]]], .ap .idx [.var 8, .cst (.int 0)]]),
    .mt 5 .append [.tup [.ap (.bin .add) [.slc (.var 8) (.cst (.int 1)) (.cst .non), .tup [.var 10]], .ap (.bin .add) [.slc (.var 9) (.cst (.int 1)) (.cst .non), .tup [.var 11]]]]] ρ3) (zipD (ps.map Pp.D) (ws.map wD))
      [some (.val b0 (netD nds ps)), o0, o2, some (.val false (.tup ((headsQ nds ps ws u).map fr))), none, some (.cel false (.lst [])), none, none, none, none, none, none] = .nx ρ ∧ TkI (some (.val b0 (netD nds ps))) o0 o2 (some (.val false (.tup ((headsQ nds ps ws u).map fr)))) (tickW nds ps ws u) (tickW nds ps ws u).length ρ := fun o0 o2 => by
    refine loop_at (R := fun out => ∃ ρ, out = .nx ρ ∧ TkI (some (.val b0 (netD nds ps))) o0 o2 (some (.val false (.tup ((headsQ nds ps ws u).map fr)))) (tickW nds ps ws u) (tickW nds ps ws u).length ρ) (TkI (some (.val b0 (netD nds ps))) o0 o2 (some (.val false (.tup ((headsQ nds ps ws u).map fr)))) (tickW nds ps ws u)) ?_ ?_ ?_
    · exact ⟨none, none, none, none, none, none, by simp, .none, .none, .none, .none, .none, .none⟩
    · intro ρ h
      rw [zip_len, List.length_map, List.length_map] at h
      have : (tickW nds ps ws u).length = min ps.length ws.length := by unfold tickW; rw [List.length_zipWith]
      rw [← this] at h
      exact ⟨held_val2, ρ, rfl, h⟩
    · intro i x ρ hx ⟨s6, s7, s8, s9, s10, s11, hρ, f6, f7, f8, f9, f10, f11⟩
      refine ⟨held_val2, ?_⟩
      subst hρ
      obtain ⟨a, b, h1, h2, rfl⟩ := zip_get hx
      rw [List.getElem?_map] at h1 h2
      cases hp : ps[i]? with
      | none => rw [hp] at h1; cases h1
      | some p =>
      cases hwi : ws[i]? with
      | none => rw [hwi] at h2; cases h2
      | some w =>
      rw [hp] at h1
      rw [hwi] at h2
      cases h1
      cases h2
      have hil := (List.getElem?_eq_some_iff.mp hp).1
      have hpk := hn.pk p (List.mem_of_getElem? hp)
      obtain ⟨l1, l2⟩ := hw.fit i p w hp hwi
      obtain ⟨c1, c2⟩ := hw.bnd w (List.mem_of_getElem? hwi)
      have ht1 := hpk.t1
      have ht2 := hpk.t2
      have ne1 : w.1 ≠ [] := fun z => by rw [z] at l1; simp at l1; omega
      have ne2 : w.2 ≠ [] := fun z => by rw [z] at l2; simp at l2; omega
      obtain ⟨i1, g1, g2⟩ := hsp p.one hpk.one
      obtain ⟨i2, g3, g4⟩ := hsp p.other hpk.other
      have d1 : Op.idx.ap (Γ (L + 5)).flds [p.D, .int 1] = some (st p.one) := rfl
      have d2 : Op.idx.ap (Γ (L + 5)).flds [p.D, .int 2] = some (st p.other) := rfl
      have w1 := fr_hd (fl := (Γ (L + 5)).flds) ne1
      have w2 := fr_hd (fl := (Γ (L + 5)).flds) ne2
      have sl1 := slc_tail (l := w.1) (by omega)
      have sl2 := slc_tail (l := w.2) (by omega)
      have cc : (2 : Nat) ^ 1700 * 2 ^ 100 = 2 ^ 1800 := by rw [← Nat.pow_add]
      have cc2 : (2 : Nat) ^ 1700 * 217 ≤ 2 ^ 1700 * 2 ^ 100 := Nat.mul_le_mul_left _ (by decide)
      have cc3 : (2 : Nat) ^ 1800 < 2 ^ 1900 := Nat.pow_lt_pow_right (by decide) (by decide)
      have szh : ∀ x, x ∈ nds.map Nd.nm → Sz (hAt nds ps ws u x) := fun x hx => by
        obtain ⟨k, n, hk, rfl⟩ := node_of_name hx
        rw [hAt_eq hn.nn hk]
        exact ((headQ_bnd hn hw (List.mem_of_getElem? hk) (hu n (List.mem_of_getElem? hk))).mono (Nat.mul_dvd_mul_left M (prodS_dvd (List.mem_of_getElem? hk))) (Nat.le_refl _)).sz (Nat.mul_pos hM0 hP) hMP (by omega)
      have szw : ∀ {l : List Rat}, (∀ q ∈ l, Bnd M V q) → Sz (hdQ l) := fun {l} k => by
        cases l with
        | nil => exact Bnd.zero.sz (M := 1) (V := 0) (by decide) (Nat.one_lt_two_pow (by decide)) (Nat.pow_pos (by decide))
        | cons a l => exact (k a List.mem_cons_self).sz hM0 hM (by omega)
      have mi1 := minus_run F (L + 1) (szh _ hpk.one) (szw c2)
      have mi2 := minus_run F (L + 1) (szh _ hpk.other) (szw c1)
      have ad1 := fl_one (fl := (Γ (L + 5)).flds) (l := w.1.tail) (hAt nds ps ws u p.one - hdQ w.2) (by rw [List.length_tail]; omega)
      have ad2 := fl_one (fl := (Γ (L + 5)).flds) (l := w.2.tail) (hAt nds ps ws u p.other - hdQ w.1) (by rw [List.length_tail]; omega)
      have hti : (tickW nds ps ws u)[i]? = some (nextW (hAt nds ps ws u) p w) := by
        unfold tickW
        rw [List.getElem?_zipWith, hp, hwi]
      have hsz : ((tickW nds ps ws u).take i).length + 1 ≤ 1000000 := by rw [List.length_take]; omega
      have hwd : wD w = .tup [.tup (w.1.map fr), .tup (w.2.map fr)] := rfl
      have fin : ∀ s6 s7 s8 s9 s10 s11, Vl s6 → Vl s7 → Vl s8 → Vl s9 → Vl s10 → Vl s11 → TkI (some (.val b0 (netD nds ps))) o0 o2 (some (.val false (.tup ((headsQ nds ps ws u).map fr)))) (tickW nds ps ws u) (i + 1)
          [some (.val b0 (netD nds ps)), o0, o2, some (.val false (.tup ((headsQ nds ps ws u).map fr))), none, some (.cel false (.lst (((tickW nds ps ws u).take i).map wD ++ [.tup [.tup ((w.1.tail ++ [hAt nds ps ws u p.one - hdQ w.2]).map fr), .tup ((w.2.tail ++ [hAt nds ps ws u p.other - hdQ w.1]).map fr)]]))), s6, s7, s8, s9, s10, s11] := by
        intro s6 s7 s8 s9 s10 s11 v6 v7 v8 v9 v10 v11
        refine ⟨s6, s7, s8, s9, s10, s11, ?_, v6, v7, v8, v9, v10, v11⟩
        rw [take_snoc hti]
        rfl
      generalize netD nds ps = N at *
      generalize wsD ws = W at *
      generalize (headsQ nds ps ws u).map fr = hs at *
      generalize (tickW nds ps ws u).take i = tw at *
      generalize (w.1.tail ++ [hAt nds ps ws u p.one - hdQ w.2]).map fr = n1 at *
      generalize (w.2.tail ++ [hAt nds ps ws u p.other - hdQ w.1]).map fr = n2 at *
      generalize w.1.tail.map fr = t1 at *
      generalize w.2.tail.map fr = t2 at *
      generalize w.1.map fr = q1 at *
      generalize w.2.map fr = q2 at *
      simp [hwd, putS_free f6.fr, putS_free f7.fr, putS_free f8.fr, putS_free f9.fr, putS_free f10.fr, putS_free f11.fr, f2, d1, d2, g1, g2, g3, g4, -o_idxT, w1, w2, sl1, sl2, F.minus.has, F.minus.frz, F.minus.cal, mi1, mi2, -o_addT, ad1, ad2, szl, hsz]
      exact fin _ _ _ _ _ _ .val .val .val .val .val .val
  obtain ⟨ρ, hlp, s6, s7, s8, s9, s10, s11, rfl, _⟩ := hlp (some (.val b1 (wsD ws))) (some (.val b2 td))
  rw [List.take_length] at hlp
  have hwd2 : wsD (tickW nds ps ws u) = .tup ((tickW nds ps ws u).map wD) := rfl
  rw [hwd2]
  generalize netD nds ps = N at *
  generalize wsD ws = W at *
  generalize (headsQ nds ps ws u).map fr = hs at *
  generalize (tickW nds ps ws u).map wD = tw at *
  simp [run1_eq, f_tick, finR, f0, ev_comp, hwr, htu, ex_for, f1, hwz]
  generalize hlo : loop _ _ _ _ = out
  obtain rfl := hlo.symm.trans hlp
  simp [finR]
end Pf
end
section
set_option Elab.async false
set_option linter.all false
set_option maxRecDepth 100000
set_option maxHeartbeats 4000000
/-! Fx7: the program's run, rest, heads_of_taking, response. -/
namespace Pf
open PySem PySem.Spec PyProof.Rows L2
def f_spot_of : Fn := ⟨2, 2, [.iff (.or [.not (.ap (.isi [.str]) [.var 1]), .ap (.cmp .notin) [.var 1, .ap (.fld "spots") [.var 0]]])
   [.bad]
   [],
  .ret (.ap .idx [.ap (.fld "spots") [.var 0], .var 1])]⟩
def f_joint_of : Fn := ⟨2, 3, [.set 2 (.call "spot_of" [.var 0, .var 1]),
  .iff (.ap (.cmp .eq) [.ap .idx [.ap .idx [.ap (.fld "nodes") [.var 0], .var 2], .cst (.int 1)], .cst (.str "tank")])
   [.bad]
   [],
  .ret (.var 2)]⟩
def f_check_pair : Fn := ⟨3, 3, [.ex (.call "joint_of" [.var 0, .var 1]),
  .ex (.call "spot_of" [.var 0, .var 2])]⟩
def f_check_ticks : Fn := ⟨2, 2, [.iff (.not (.call "is_within" [.var 0, .var 1, .glo "MOST_RESPONSE"]))
   [.bad]
   []]⟩
def f_heads_of_taking : Fn := ⟨3, 4, [.set 3 (.ap (.bin .add) [.lst [.dic [.var 1, .glo "ONE"]], .ap (.bin .mul) [.lst [.dic []], .ap (.bin .sub) [.var 2, .cst (.int 1)]]]),
  .ret (.ap .idx [.call "run" [.var 0, .call "rest" [.var 0], .slc (.var 3) (.cst .non) (.var 2)], .cst (.int 0)])]⟩
def f_response : Fn := ⟨4, 6, [.ex (.call "check_pair" [.var 0, .var 1, .var 2]),
  .ex (.call "check_ticks" [.var 3, .cst (.int 0)]),
  .set 4 (.ap .idx [.ap (.fld "spots") [.var 0], .var 2]),
  .ret (.ap (.bi .tuple) [.comp [5] (.nm 5) .seq [.call "heads_of_taking" [.var 0, .var 1, .var 3]] [] (.ap .idx [.var 5, .var 4])])]⟩
variable {Γ : Nat → Ga}
section
variable (nds : List Nd) (ps : List Pp)
def stepW (ws : List Wv) (us : List (List Nat → Rat)) : List Wv := us.foldl (fun w u => tickW nds ps w u) ws
def rowsQ : List Wv → List (List Nat → Rat) → List (List Rat)
  | _, [] => []
  | ws, u :: us => headsQ nds ps ws u :: rowsQ (tickW nds ps ws u) us
theorem stepW_snoc (ws : List Wv) (us : List (List Nat → Rat)) (u : List Nat → Rat) : stepW nds ps ws (us ++ [u]) = tickW nds ps (stepW nds ps ws us) u := by
  unfold stepW
  rw [List.foldl_append]
  rfl
theorem rowsQ_snoc : ∀ (us : List (List Nat → Rat)) (ws : List Wv) (u : List Nat → Rat), rowsQ nds ps ws (us ++ [u]) = rowsQ nds ps ws us ++ [headsQ nds ps (stepW nds ps ws us) u]
  | [], ws, u => rfl
  | v :: us, ws, u => by
    show headsQ nds ps ws v :: rowsQ nds ps (tickW nds ps ws v) (us ++ [u]) = _
    rw [rowsQ_snoc us]
    rfl
theorem rowsQ_len : ∀ (us : List (List Nat → Rat)) (ws : List Wv), (rowsQ nds ps ws us).length = us.length
  | [], _ => rfl
  | u :: us, ws => by
    show (rowsQ nds ps (tickW nds ps ws u) us).length + 1 = _
    rw [rowsQ_len us]
    rfl
end
def vB (V U : Nat) : Nat → Nat
  | 0 => V
  | t + 1 => 217 * vB V U t + U
def rowD2 (hs : List Rat) : D := .tup (hs.map fr)
/-- a course: its takings, and its bounds -/
structure CrOk (nds : List Nd) (ps : List Pp) (ws : List Wv) (cs : List D) (us : List (List Nat → Rat)) (M V U : Nat) : Prop where
  net : NetOk nds ps
  wok : WOk ps ws M V
  len : cs.length = us.length
  tk : ∀ (i : Nat) (c : D) (u : List Nat → Rat), cs[i]? = some c → us[i]? = some u → Tk c u
  bu : ∀ u ∈ us, ∀ n ∈ nds, Bnd M U (u n.nm)
  m0 : 0 < M
  hU : U < 2 ^ 1700
  hM : M * prodS nds ps ^ us.length < 2 ^ 1900
  hV : vB V U us.length < 2 ^ 1700
  ln : us.length ≤ 1000
theorem vB_mono (V U : Nat) : ∀ {s t : Nat}, s ≤ t → vB V U s ≤ vB V U t
  | s, 0, h => by
    have : s = 0 := by omega
    subst this
    exact Nat.le_refl _
  | s, t + 1, h => by
    by_cases e : s = t + 1
    · subst e
      exact Nat.le_refl _
    · have h1 := vB_mono V U (s := s) (t := t) (by omega)
      show _ ≤ 217 * vB V U t + U
      omega
theorem CrOk.at {nds : List Nd} {ps : List Pp} {ws : List Wv} {cs : List D} {us : List (List Nat → Rat)} {M V U : Nat} (h : CrOk nds ps ws cs us M V U) : ∀ {i : Nat}, i ≤ us.length → WOk ps (stepW nds ps ws (us.take i)) (M * prodS nds ps ^ i) (vB V U i)
  | 0, _ => by
    rw [List.take_zero, Nat.pow_zero, Nat.mul_one]
    exact h.wok
  | i + 1, hi => by
    have h1 := h.at (i := i) (by omega)
    have hu : us[i]? = some us[i] := List.getElem?_eq_getElem hi
    have hm : us[i] ∈ us := List.getElem_mem hi
    rw [List.take_succ, hu]
    show WOk ps (stepW nds ps ws (us.take i ++ [us[i]])) _ _
    rw [stepW_snoc, Nat.pow_succ, ← Nat.mul_assoc]
    exact nextW_ok h.net h1 fun n hn => (h.bu _ hm n hn).mono (Nat.dvd_mul_right _ _) (Nat.le_refl _)
theorem CrOk.tick {nds : List Nd} {ps : List Pp} {ws : List Wv} {cs : List D} {us : List (List Nat → Rat)} {M V U : Nat} (h : CrOk nds ps ws cs us M V U) {i : Nat} {u : List Nat → Rat} (hi : us[i]? = some u) : TickHyp Γ nds ps (stepW nds ps ws (us.take i)) u (M * prodS nds ps ^ i) (vB V U i) U := by
  have hl := (List.getElem?_eq_some_iff.mp hi).1
  have hP := prodS_pos h.net
  refine ⟨h.net, h.at (by omega), Nat.mul_pos h.m0 (Nat.pow_pos hP), ?_, Nat.lt_of_le_of_lt (vB_mono V U (by omega)) h.hV, h.hU, fun n hn => (h.bu u (List.mem_of_getElem? hi) n hn).mono (Nat.dvd_mul_right _ _) (Nat.le_refl _)⟩
  rw [Nat.mul_assoc, ← Nat.pow_succ]
  exact Nat.lt_of_le_of_lt (Nat.mul_le_mul_left M (Nat.pow_le_pow_right hP (by omega))) h.hM
structure RnI (o0 o2 : Option Sl) (nds : List Nd) (ps : List Pp) (ws : List Wv) (us : List (List Nat → Rat)) (i : Nat) (ρ : Rho) : Prop where
  ex : ∃ (s4 s5 : Option Sl), ρ = [o0, some (.val false (wsD (stepW nds ps ws (us.take i)))), o2, some (.cel false (.lst ((rowsQ nds ps ws (us.take i)).map rowD2))), s4, s5] ∧ Vl s4 ∧ Vl s5
structure Px (Γ : Nat → Ga) : Prop where
  fx : Fx Γ
  head : Knows Γ "head_at" f_head_at
  tick : Knows Γ "tick" f_tick
  run : Knows Γ "run" f_run
  rest : Knows Γ "rest" f_rest
  zero : ∀ L, (Γ L).glo "ZERO" = some (fr 0)
  one : ∀ L, (Γ L).glo "ONE" = some (fr 1)
  fl : ∀ L, (Γ L).flds 0 = netF
theorem run_run (X : Px Γ) (L : Nat) {nds : List Nd} {ps : List Pp} {ws : List Wv} {cs : List D} {us : List (List Nat → Rat)} {M V U : Nat} (h : CrOk nds ps ws cs us M V U) (t : Bool) :
    run1 (Γ (L + 6)) f_run [.val false (netD nds ps), .val false (wsD ws), .val false (rowD t cs)] = .ok (false, .tup [.tup ((rowsQ nds ps ws us).map rowD2), wsD (stepW nds ps ws us)]) [some (.val false (netD nds ps)), some (.val false (wsD (stepW nds ps ws us))), some (.val false (rowD t cs))] := by
  have hln := h.ln
  have hlp : ∃ ρ, loop (fun ρ => held ρ [.val (rowD t cs)] [rowD t cs]) (fun x ρ2 => optS (bind1 (.nm 4) x ρ2) fun ρ3 => exs (Γ (L + 6)) [.tgt (.tp [.nm 5, .nm 1]) (.call "tick" [.var 0, .var 1, .var 4]), .mt 3 .append [.var 5]] ρ3) cs
      [some (.val false (netD nds ps)), some (.val false (wsD ws)), some (.val false (rowD t cs)), some (.cel false (.lst [])), none, none] = .nx ρ ∧ RnI (some (.val false (netD nds ps))) (some (.val false (rowD t cs))) nds ps ws us us.length ρ := by
    refine loop_at (R := fun out => ∃ ρ, out = .nx ρ ∧ RnI (some (.val false (netD nds ps))) (some (.val false (rowD t cs))) nds ps ws us us.length ρ) (RnI (some (.val false (netD nds ps))) (some (.val false (rowD t cs))) nds ps ws us) ?_ ?_ ?_
    · exact ⟨none, none, by simp [stepW, rowsQ], .none, .none⟩
    · intro ρ hh
      rw [h.len] at hh
      exact ⟨held_val, ρ, rfl, hh⟩
    · intro i x ρ hx ⟨s4, s5, hρ, f4, f5⟩
      refine ⟨held_val, ?_⟩
      subst hρ
      have hil := (List.getElem?_eq_some_iff.mp hx).1
      rw [h.len] at hil
      have hui : us[i]? = some us[i] := List.getElem?_eq_getElem hil
      generalize us[i] = u at hui
      have htk := h.tk i x u hx hui
      have hti := tick_run X.fx X.head X.zero X.fl L (h.tick (Γ := Γ) hui) htk false false false
      have hsz : ((rowsQ nds ps ws (us.take i))).length + 1 ≤ 1000000 := by rw [rowsQ_len, List.length_take]; omega
      have fin : RnI (some (.val false (netD nds ps))) (some (.val false (rowD t cs))) nds ps ws us (i + 1) [some (.val false (netD nds ps)), some (.val false (wsD (tickW nds ps (stepW nds ps ws (us.take i)) u))), some (.val false (rowD t cs)),
          some (.cel false (.lst ((rowsQ nds ps ws (us.take i)).map rowD2 ++ [.tup ((headsQ nds ps (stepW nds ps ws (us.take i)) u).map fr)]))), some (.val false x), some (.val false (.tup ((headsQ nds ps (stepW nds ps ws (us.take i)) u).map fr)))] := by
        refine ⟨some (.val false x), some (.val false (.tup ((headsQ nds ps (stepW nds ps ws (us.take i)) u).map fr))), ?_, .val, .val⟩
        have e : us.take (i + 1) = us.take i ++ [u] := by rw [List.take_succ, hui]; rfl
        rw [e, stepW_snoc, rowsQ_snoc, List.map_append]
        rfl
      generalize netD nds ps = N at *
      generalize wsD (tickW nds ps (stepW nds ps ws (us.take i)) u) = W2 at *
      generalize wsD (stepW nds ps ws (us.take i)) = W at *
      generalize (headsQ nds ps (stepW nds ps ws (us.take i)) u).map fr = hs at *
      generalize rowsQ nds ps ws (us.take i) = rw0 at *
      simp [putS_free f4.fr, putS_free f5.fr, X.tick.has, X.tick.frz, X.tick.cal, hti, szl, hsz]
      exact fin
  obtain ⟨ρ, hlp, s4, s5, rfl, _⟩ := hlp
  rw [List.take_length] at hlp
  generalize netD nds ps = N at *
  generalize wsD (stepW nds ps ws us) = W2 at *
  generalize wsD ws = W at *
  generalize (rowsQ nds ps ws us).map rowD2 = rws at *
  simp [run1_eq, f_run, finR, ex_for, walk_seqR]
  generalize hlo : loop _ _ _ _ = out
  obtain rfl := hlo.symm.trans hlp
  simp [finR]
end Pf
end
section
set_option Elab.async false
set_option linter.all false
set_option maxRecDepth 100000
set_option maxHeartbeats 4000000
/-! Fx8: the program's rest, spots, response. -/
namespace Pf
open PySem PySem.Spec PyProof.Rows L2
variable {Γ : Nat → Ga}
def restW (ps : List Pp) : List Wv := ps.map fun p => (List.replicate p.ticks 0, List.replicate p.ticks 0)
theorem rest_ok {nds : List Nd} {ps : List Pp} (h : NetOk nds ps) : WOk ps (restW ps) 1 0 := by
  refine ⟨by unfold restW; rw [List.length_map], fun i p w hp hw => ?_, fun w hw => ?_⟩
  · unfold restW at hw
    rw [List.getElem?_map, hp] at hw
    cases hw
    exact ⟨List.length_replicate, List.length_replicate⟩
  · unfold restW at hw
    obtain ⟨p, hp, rfl⟩ := List.mem_map.mp hw
    exact ⟨fun q hq => by rw [(List.mem_replicate.mp hq).2]; exact Bnd.zero, fun q hq => by rw [(List.mem_replicate.mp hq).2]; exact Bnd.zero⟩
theorem flat_one {α : Type} {a : α} : ∀ n : Nat, (List.replicate n [a]).flatten = List.replicate n a
  | 0 => rfl
  | n + 1 => by rw [List.replicate_succ, List.flatten_cons, flat_one n]; rfl
theorem mulT_one {fl : Nat → List Str} {q : D} {t : Nat} (h1 : 1 ≤ t) (h2 : t ≤ 1000) : (Op.bin .mul).ap fl [.tup [q], .int t] = some (.tup (List.replicate t q)) := by
  rw [o_mulT, if_pos ⟨by omega, by omega, rfl, by simp⟩, Int.toNat_natCast, flat_one]
theorem mulL_one {fl : Nat → List Str} {q : D} {t : Nat} (h2 : t ≤ 1000) : (Op.bin .mul).ap fl [.lst [q], .int t] = some (.lst (List.replicate t q)) := by
  rw [o_mulL, if_pos ⟨by omega, by omega, by simp⟩, Int.toNat_natCast, flat_one]
def restD (p : Pp) : D := wD (List.replicate p.ticks 0, List.replicate p.ticks 0)
theorem restD_eq {p : Pp} : restD p = .tup [.tup (List.replicate p.ticks (fr 0)), .tup (List.replicate p.ticks (fr 0))] := by
  unfold restD wD
  rw [List.map_replicate]
theorem rest_run (Z : ∀ L, (Γ L).glo "ZERO" = some (fr 0)) (hfl : ∀ L, (Γ L).flds 0 = netF) (L : Nat) {nds : List Nd} {ps : List Pp} (h : NetOk nds ps) (b : Bool) : run1 (Γ L) f_rest [.val b (netD nds ps)] = .ok (false, wsD (restW ps)) [some (.val b (netD nds ps))] := by
  have f1 : fldD (Γ L).flds "pipes" (netD nds ps) = some (.tup (ps.map Pp.D)) := fldD_at (k := 1) (hfl _) (by decide +kernel) rfl
  have hws : walkS .seq [.tup (ps.map Pp.D)] = some (ps.map Pp.D) := walkS_seqR (t := true) (by rw [List.length_map]; have := h.p2; omega)
  have ht : ∀ d, turns (fun ρ => held ρ [.val d] [d]) (lcF (Γ L) [1] (.nm 1) [] (.tup [.ap (.bin .mul) [.tup [.glo "ZERO"], .ap .idx [.var 1, .cst (.int 3)]], .ap (.bin .mul) [.tup [.glo "ZERO"], .ap .idx [.var 1, .cst (.int 3)]]])) (ps.map Pp.D) [some (.val b (netD nds ps)), none] = .ok (ps.map restD) [some (.val b (netD nds ps)), none] := fun d => turns_on held_val fun p hp => by
    have hpk := h.pk p hp
    have i3 : Op.idx.ap (Γ L).flds [p.D, .int 3] = some (.int p.ticks) := rfl
    have hm := mulT_one (fl := (Γ L).flds) (q := fr 0) (t := p.ticks) hpk.t1 (by have := hpk.t2; omega)
    rw [restD_eq]
    simp [lcF_eq, Z, i3, -o_mulT, hm]
  have hr : ps.map restD = (restW ps).map wD := by
    unfold restW restD
    rw [List.map_map]
    rfl
  rw [hr] at ht
  unfold wsD
  generalize netD nds ps = N at *
  generalize (restW ps).map wD = R at *
  simp [run1_eq, f_rest, finR, ev_comp, f1, hws, ht]
/-! ### spots -/
theorem spot_run (L : Nat) (hfl : ∀ L, (Γ L).flds 0 = netF) {nds : List Nd} {ps : List Pp} (h : NetOk nds ps) {i : Nat} {n : Nd} (hi : nds[i]? = some n) (b b2 : Bool) : run1 (Γ L) f_spot_of [.val b (netD nds ps), .val b2 (st n.nm)] = .ok (false, .int i) [some (.val b (netD nds ps)), some (.val b2 (st n.nm))] := by
  have f2 : fldD (Γ L).flds "spots" (netD nds ps) = some (.dic (nds.map fun n => .inr (sOf n.nm)) (rangeD 0 nds.length)) := fldD_at (k := 2) (hfl _) (by decide +kernel) rfl
  have h1 : Op.idx.ap (Γ L).flds [.dic (nds.map fun n => .inr (sOf n.nm)) (rangeD 0 nds.length), st n.nm] = some (.int i) := by
    show look (.inr (sOf n.nm)) _ _ = _
    rw [spot_at h.nn hi, Int.zero_add]
  have hin : (Op.cmp .notin).ap (Γ L).flds [st n.nm, .dic (nds.map fun n => .inr (sOf n.nm)) (rangeD 0 nds.length)] = some (.bl false) := by
    rw [o_nin]
    show (some (look (.inr (sOf n.nm)) (nds.map fun n => .inr (sOf n.nm)) (rangeD 0 nds.length)).isSome).map _ = _
    rw [spot_at h.nn hi]
    rfl
  generalize netD nds ps = N at *
  generalize (rangeD 0 nds.length) = R at *
  generalize (nds.map fun n => (Sum.inr (sOf n.nm) : Key)) = K at *
  simp [run1_eq, f_spot_of, finR, f2, hin, h1, D.isa]
theorem check_pair_run (kj : Knows Γ "joint_of" f_joint_of) (ks : Knows Γ "spot_of" f_spot_of) (L : Nat) (hfl : ∀ L, (Γ L).flds 0 = netF) {nds : List Nd} {ps : List Pp} (h : NetOk nds ps) {i j : Nat} {n m : Nd} (hi : nds[i]? = some n) (hn : n.tank = false) (hj : nds[j]? = some m) (b b1 b2 : Bool) :
    run1 (Γ (L + 2)) f_check_pair [.val b (netD nds ps), .val b1 (st n.nm), .val b2 (st m.nm)] = .ok (false, .non) [some (.val b (netD nds ps)), some (.val b1 (st n.nm)), some (.val b2 (st m.nm))] := by
  have f0 : fldD (Γ (L + 1)).flds "nodes" (netD nds ps) = some (.tup (nds.map Nd.D)) := fldD_at (k := 0) (hfl _) (by decide +kernel) rfl
  have hD : n.D = .tup [st n.nm, .str "joint", .int n.ves] := by unfold Nd.D kindS; rw [hn]; rfl
  have i0 : Op.idx.ap (Γ (L + 1)).flds [.tup (nds.map Nd.D), .int (i : Int)] = some n.D := by
    show atI (nds.map Nd.D) (i : Int) = _
    rw [atI_nat, List.getElem?_map, hi]
    rfl
  have i1 : Op.idx.ap (Γ (L + 1)).flds [n.D, .int 1] = some (.str "joint") := by rw [hD]; rfl
  have hjt : (("joint" : Str) = "tank") = False := eq_false (by decide +kernel)
  have hs1 := fun b b2 => spot_run (Γ := Γ) L hfl h hi b b2
  have hs2 := fun b b2 => spot_run (Γ := Γ) (L + 1) hfl h hj b b2
  have hjo : ∀ b b1, run1 (Γ (L + 1)) f_joint_of [.val b (netD nds ps), .val b1 (st n.nm)] = .ok (false, .int i) [some (.val b (netD nds ps)), some (.val b1 (st n.nm))] := fun b b1 => by
    generalize netD nds ps = N at *
    generalize (nds.map Nd.D) = NN at *
    simp [run1_eq, f_joint_of, finR, ks.has, ks.frz, ks.cal, hs1, f0, i0, i1, eqv_str, hjt]
  generalize netD nds ps = N at *
  simp [run1_eq, f_check_pair, finR, ks.has, ks.frz, ks.cal, kj.has, kj.frz, kj.cal, hs2, hjo]
theorem check_ticks_run (B : Basics Γ) (gm : ∀ L, (Γ L).glo "MOST_RESPONSE" = some (.int 60)) (L : Nat) {t : Nat} (h : t ≤ 60) (b b1 : Bool) : run1 (Γ (L + 2)) f_check_ticks [.val b (.int t), .val b1 (.int 0)] = .ok (false, .non) [some (.val b (.int t)), some (.val b1 (.int 0))] := by
  have hw := fun (i j k : Int) (b b1 b2 : Bool) => within_run B.number L (i := i) (j := j) (k := k) (b := b) (b1 := b1) (b2 := b2)
  have h60 : (t : Int) ≤ 60 := by omega
  simp [run1_eq, f_check_ticks, finR, B.within.has, B.within.frz, B.within.cal, hw, gm, h60]
end Pf
end
section
set_option Elab.async false
set_option linter.all false
set_option maxRecDepth 100000
set_option maxHeartbeats 4000000
/-! Fx9: the program's response. -/
namespace Pf
open PySem PySem.Spec PyProof.Rows L2
variable {Γ : Nat → Ga}
def uAt (a : List Nat) : List Nat → Rat := fun x => if x = a then 1 else 0
def u0 : List Nat → Rat := fun _ => 0
def usOf (a : List Nat) (m : Nat) : List (List Nat → Rat) := uAt a :: List.replicate m u0
def csOf (a : List Nat) (m : Nat) : List D := .dic [.inr (sOf a)] [fr 1] :: List.replicate m (.dic [] [])
theorem tkAt (a : List Nat) : Tk (.dic [.inr (sOf a)] [fr 1]) (uAt a) := ⟨⟨_, _, rfl⟩, fun x => by
  show some ((if (Sum.inr (sOf a) : Key) = .inr (sOf x) then some (fr 1) else none).getD (fr 0)) = _
  unfold uAt
  by_cases h : x = a
  · subst h
    rw [if_pos rfl, if_pos rfl]
    rfl
  · rw [if_neg (fun z => h (sOf_inj.mp (Sum.inr.inj z)).symm), if_neg h]
    rfl⟩
theorem tk0 : Tk (.dic [] []) u0 := ⟨⟨_, _, rfl⟩, fun x => rfl⟩
theorem bnd1 : Bnd 1 1 1 := ⟨⟨1, by simp⟩, by decide, by decide⟩
theorem crOk {nds : List Nd} {ps : List Pp} (h : NetOk nds ps) {a : List Nat} {m : Nat} (hm : m ≤ 39) (hP : prodS nds ps ^ (m + 1) < 2 ^ 1900) : CrOk nds ps (restW ps) (csOf a m) (usOf a m) 1 0 1 := by
  have hl : (usOf a m).length = m + 1 := by unfold usOf; rw [List.length_cons, List.length_replicate]
  refine ⟨h, rest_ok h, by unfold csOf usOf; simp, fun i c u hc hu => ?_, fun u hu n _ => ?_, by decide, by decide, by rw [hl, Nat.one_mul]; exact hP, ?_, by rw [hl]; omega⟩
  · unfold csOf at hc
    unfold usOf at hu
    cases i with
    | zero => cases hc; cases hu; exact tkAt a
    | succ i =>
      rw [List.getElem?_cons_succ] at hc hu
      rw [(List.mem_replicate.mp (List.mem_of_getElem? hc)).2, (List.mem_replicate.mp (List.mem_of_getElem? hu)).2]
      exact tk0
  · unfold usOf at hu
    rcases List.mem_cons.mp hu with rfl | hu
    · unfold uAt
      split
      · exact bnd1
      · exact Bnd.zero
    · rw [(List.mem_replicate.mp hu).2]
      exact Bnd.zero
  · rw [hl]
    refine Nat.lt_of_le_of_lt (vB_mono 0 1 (show m + 1 ≤ 40 by omega)) ?_
    have hb : ∀ t, vB 0 1 t + 1 ≤ 218 ^ t := fun t => by
      induction t with
      | zero => decide
      | succ t ih =>
        show 217 * vB 0 1 t + 1 + 1 ≤ 218 ^ t * 218
        have : 1 ≤ 218 ^ t := Nat.pow_pos (by decide)
        omega
    have h1 := hb 40
    have h2 : 218 ^ 40 ≤ 2 ^ 1700 := by decide +kernel
    omega
def colQ (nds : List Nd) (ps : List Pp) (x : List Nat) : List Wv → List (List Nat → Rat) → List Rat
  | _, [] => []
  | ws, u :: us => hAt nds ps ws u x :: colQ nds ps x (tickW nds ps ws u) us
theorem colQ_len {nds : List Nd} {ps : List Pp} {x : List Nat} : ∀ {us : List (List Nat → Rat)} {ws : List Wv}, (colQ nds ps x ws us).length = us.length
  | [], _ => rfl
  | u :: us, ws => by
    show (colQ nds ps x _ us).length + 1 = us.length + 1
    rw [colQ_len]
theorem col_eq {nds : List Nd} {ps : List Pp} (h : (nds.map Nd.nm).Nodup) {j : Nat} {n : Nd} (hi : nds[j]? = some n) : ∀ {us : List (List Nat → Rat)} {ws : List Wv}, (rowsQ nds ps ws us).map (fun r => (r[j]?).getD 0) = colQ nds ps n.nm ws us
  | [], _ => rfl
  | u :: us, ws => by
    show ((headsQ nds ps ws u)[j]?).getD 0 :: (rowsQ nds ps (tickW nds ps ws u) us).map _ = hAt nds ps ws u n.nm :: colQ nds ps n.nm _ us
    rw [col_eq h hi, hAt_eq h hi]
    unfold headsQ
    rw [List.getElem?_map, hi]
    rfl
theorem rows_mem {nds : List Nd} {ps : List Pp} {r : List Rat} : ∀ {us : List (List Nat → Rat)} {ws : List Wv}, r ∈ rowsQ nds ps ws us → r.length = nds.length
  | [], _, h => by cases h
  | u :: us, ws, h => by
    rcases List.mem_cons.mp h with rfl | h
    · unfold headsQ
      rw [List.length_map]
    · exact rows_mem h
theorem row_at {fl : Nat → List Str} {r : List Rat} {j : Nat} (h : j < r.length) : Op.idx.ap fl [rowD2 r, .int j] = some (fr ((r[j]?).getD 0)) := by
  show atI (r.map fr) (j : Int) = _
  rw [atI_nat, List.getElem?_map, List.getElem?_eq_getElem h]
  rfl
structure Rx (Γ : Nat → Ga) : Prop where
  px : Px Γ
  bs : Basics Γ
  spot : Knows Γ "spot_of" f_spot_of
  joint : Knows Γ "joint_of" f_joint_of
  pair : Knows Γ "check_pair" f_check_pair
  ticks : Knows Γ "check_ticks" f_check_ticks
  taking : Knows Γ "heads_of_taking" f_heads_of_taking
  most : ∀ L, (Γ L).glo "MOST_RESPONSE" = some (.int 60)
theorem cutL_take {α : Type} {l : List α} {t : Nat} : cutL l none (some (t : Int)) = l.take t := by
  have h1 : HT.sIx l.length 0 none = 0 := rfl
  have h2 : HT.sIx l.length l.length (some (t : Int)) = min t l.length := by
    show (if (t : Int) < 0 then ((t : Int) + (l.length : Int)).toNat else min (t : Int).toNat l.length) = _
    rw [if_neg (by omega), Int.toNat_natCast]
  unfold cutL
  rw [h1, h2, List.drop_zero, Nat.sub_zero, Nat.min_comm]
  by_cases h : t ≤ l.length
  · rw [Nat.min_eq_right h]
  · rw [Nat.min_eq_left (by omega), List.take_of_length_le (Nat.le_refl _), List.take_of_length_le (by omega)]
theorem heads_run (X : Rx Γ) (L : Nat) {nds : List Nd} {ps : List Pp} (h : NetOk nds ps) {a : List Nat} {m t : Nat} (ht : t = m + 1) (hm : m ≤ 39) (hP : prodS nds ps ^ (m + 1) < 2 ^ 1900) (b b1 b2 : Bool) :
    run1 (Γ (L + 7)) f_heads_of_taking [.val b (netD nds ps), .val b1 (st a), .val b2 (.int t)] = .ok (false, .tup ((rowsQ nds ps (restW ps) (usOf a m)).map rowD2)) [some (.val b (netD nds ps)), some (.val b1 (st a)), some (.val b2 (.int t))] := by
  have hr := fun b => rest_run X.px.zero X.px.fl (L + 6) h b
  have hrun := run_run X.px L (crOk h (a := a) hm hP) false
  have hmul : (Op.bin .mul).ap (Γ (L + 7)).flds [.lst [.dic [] []], .int ((t : Int) - 1)] = some (.lst (List.replicate m (.dic [] []))) := by
    rw [show ((t : Int) - 1) = (m : Int) by omega]
    exact mulL_one (by omega)
  have hsl : slcO (.lst (csOf a m)) none (some (t : Int)) = some (.lst (csOf a m)) := by
    show some (D.lst (cutL (csOf a m) none (some (t : Int)))) = _
    rw [cutL_take, List.take_of_length_le (by unfold csOf; rw [List.length_cons, List.length_replicate]; omega)]
  have hszl : szl (1 + m) = true := decide_eq_true (by omega)
  have hst : stow (.inr (sOf a)) (fr 1) [] [] = ([.inr (sOf a)], [fr 1]) := rfl
  have hcs : (.dic [.inr (sOf a)] [fr 1] :: List.replicate m (.dic [] [])) = csOf a m := rfl
  rw [rowD_f] at hrun
  generalize netD nds ps = N at *
  generalize wsD (restW ps) = W at *
  generalize rowsQ nds ps (restW ps) (usOf a m) = rows at *
  generalize wsD (stepW nds ps (restW ps) (usOf a m)) = W2 at *
  simp [run1_eq, f_heads_of_taking, finR, X.px.one, X.px.run.has, X.px.run.frz, X.px.run.cal, X.px.rest.has, X.px.rest.frz, X.px.rest.cal, -o_mulL, hmul, hszl, hst, hcs, hr, hsl, hrun]
def respQ (nds : List Nd) (ps : List Pp) (a x : List Nat) (m : Nat) : List Rat := colQ nds ps x (restW ps) (usOf a m)
theorem resp_run (X : Rx Γ) (L : Nat) {nds : List Nd} {ps : List Pp} (h : NetOk nds ps) {i j : Nat} {n k : Nd} (hi : nds[i]? = some n) (hn : n.tank = false) (hj : nds[j]? = some k) {m t : Nat} (ht : t = m + 1) (hm : m ≤ 39) (hP : prodS nds ps ^ (m + 1) < 2 ^ 1900) (b b1 b2 b3 : Bool) :
    run1 (Γ (L + 8)) f_response [.val b (netD nds ps), .val b1 (st n.nm), .val b2 (st k.nm), .val b3 (.int t)] = .ok (false, .tup ((respQ nds ps n.nm k.nm m).map fr)) [some (.val b (netD nds ps)), some (.val b1 (st n.nm)), some (.val b2 (st k.nm)), some (.val b3 (.int t))] := by
  have hcp := fun b b1 b2 => check_pair_run X.joint X.spot (L + 5) X.px.fl h hi hn hj b b1 b2
  have hct := fun b b1 => check_ticks_run X.bs X.most (L + 5) (t := t) (by omega) b b1
  have hhe := fun b b1 b2 => heads_run X L h (a := n.nm) ht hm hP b b1 b2
  have f2 : fldD (Γ (L + 8)).flds "spots" (netD nds ps) = some (.dic (nds.map fun n => .inr (sOf n.nm)) (rangeD 0 nds.length)) := fldD_at (k := 2) (X.px.fl _) (by decide +kernel) rfl
  have h1 : Op.idx.ap (Γ (L + 8)).flds [.dic (nds.map fun n => .inr (sOf n.nm)) (rangeD 0 nds.length), st k.nm] = some (.int j) := by
    show look (.inr (sOf k.nm)) _ _ = _
    rw [spot_at h.nn hj, Int.zero_add]
  have hjl := (List.getElem?_eq_some_iff.mp hj).1
  have hlen : (rowsQ nds ps (restW ps) (usOf n.nm m)).length = m + 1 := by
    rw [rowsQ_len]
    unfold usOf
    rw [List.length_cons, List.length_replicate]
  have htu : ∀ o0 o1 o2 o3 d, turns (fun ρ => held ρ [.val d] [d]) (lcF (Γ (L + 8)) [5] (.nm 5) [] (.ap .idx [.var 5, .var 4])) ((rowsQ nds ps (restW ps) (usOf n.nm m)).map rowD2) [o0, o1, o2, o3, some (.val false (.int j)), none] = .ok ((rowsQ nds ps (restW ps) (usOf n.nm m)).map fun r => fr ((r[j]?).getD 0)) [o0, o1, o2, o3, some (.val false (.int j)), none] := fun o0 o1 o2 o3 d => turns_on held_val fun r hr => by
    have h1 := row_at (fl := (Γ (L + 8)).flds) (r := r) (j := j) (by rw [rows_mem hr]; exact hjl)
    generalize rowD2 r = R at *
    simp [lcF_eq, h1]
  have hfin : ((rowsQ nds ps (restW ps) (usOf n.nm m)).map fun r => fr ((r[j]?).getD 0)) = (respQ nds ps n.nm k.nm m).map fr := by
    unfold respQ
    rw [← col_eq h.nn hj, List.map_map]
    rfl
  rw [hfin] at htu
  have hws : walkS .seq [.tup ((rowsQ nds ps (restW ps) (usOf n.nm m)).map rowD2)] = some ((rowsQ nds ps (restW ps) (usOf n.nm m)).map rowD2) := walkS_seqR (t := true) (by rw [List.length_map, hlen]; omega)
  generalize netD nds ps = N at *
  generalize (rowsQ nds ps (restW ps) (usOf n.nm m)).map rowD2 = rows at *
  generalize (respQ nds ps n.nm k.nm m).map fr = R at *
  generalize (rangeD 0 nds.length) = RR at *
  generalize (nds.map fun n => (Sum.inr (sOf n.nm) : Key)) = K at *
  simp [run1_eq, f_response, finR, X.pair.has, X.pair.frz, X.pair.cal, X.ticks.has, X.ticks.frz, X.ticks.cal, X.taking.has, X.taking.frz, X.taking.cal, hcp, hct, hhe, f2, h1, ev_comp, hws, htu]
end Pf
end
section
set_option Elab.async false
set_option linter.all false
set_option maxRecDepth 100000
set_option maxHeartbeats 4000000
/-! Fx10: the law's head. -/
namespace Pf
open PySem PySem.Spec PyProof.Rows L2
def bodyL : List S := [.iff (.or [.ap (.cmp .eq) [.ap .idx [.var 9, .cst (.int 1)], .var 4], .ap (.cmp .eq) [.ap .idx [.var 9, .cst (.int 2)], .var 4]])
     [.set 10 (.ife (.ap (.cmp .eq) [.ap .idx [.var 9, .cst (.int 1)], .var 4]) (.ap .idx [.ap .idx [.ap .idx [.var 2, .var 8], .cst (.int 1)], .cst (.int 0)]) (.ap .idx [.ap .idx [.ap .idx [.var 2, .var 8], .cst (.int 0)], .cst (.int 0)])),
      .set 6 (.ap (.bin .add) [.var 6, .ap .idx [.var 9, .cst (.int 4)]]),
      .set 7 (.call "_law_plus" [.var 7, .tup [.ap (.bin .mul) [.ap (.bin .mul) [.cst (.int 2), .ap .idx [.var 9, .cst (.int 4)]], .ap .idx [.var 10, .cst (.int 0)]], .ap .idx [.var 10, .cst (.int 1)]]])]
     []]
def f__law_head : Fn := ⟨4, 11, [.tgt (.tp [.nm 4, .nm 5, .nm 6]) (.var 1),
  .iff (.ap (.cmp .eq) [.var 5, .cst (.str "tank")])
   [.ret (.tup [.cst (.int 0), .cst (.int 1)])]
   [],
  .set 7 (.get (.var 3) (.var 4) (.tup [.cst (.int 0), .cst (.int 1)])),
  .set 7 (.tup [.ap (.bin .sub) [.cst (.int 0), .ap .idx [.var 7, .cst (.int 0)]], .ap .idx [.var 7, .cst (.int 1)]]),
  .for_ (.tp [.nm 8, .nm 9]) .enm [.ap .idx [.var 0, .cst (.int 1)]] bodyL,
  .ret (.call "_law_low" [.ap .idx [.var 7, .cst (.int 0)], .ap (.bin .mul) [.ap .idx [.var 7, .cst (.int 1)], .var 6]])]⟩
variable {Γ : Nat → Ga}
def endO (k : Nat) (p : Pp) (x : List Nat) : List (Nat × Nat) := if p.one = x then [(k, 0)] else if p.other = x then [(k, 1)] else []
theorem endsN_snoc {p : Pp} {x : List Nat} : ∀ {ps : List Pp} {i : Nat}, endsN i (ps ++ [p]) x = endsN i ps x ++ endO (i + ps.length) p x
  | [], i => by
    show (_ ++ []) = [] ++ _
    rw [List.append_nil, List.nil_append]
    rfl
  | q :: ps, i => by
    show _ ++ endsN (i + 1) (ps ++ [p]) x = (_ ++ endsN (i + 1) ps x) ++ _
    rw [endsN_snoc, List.append_assoc, List.length_cons, show i + 1 + ps.length = i + (ps.length + 1) by omega]
theorem sumC_bnd {ps : List Pp} {nds : List Nd} {ws : List Wv} {M V : Nat} (hn : NetOk nds ps) (hw : WOk ps ws M V) {l : List (Nat × Nat)} (hl : l.length ≤ 12) : Bnd M (216 * V) (sumQ (l.map (endC ps ws))) := by
  have hh : ∀ {l : List Rat}, (∀ q ∈ l, Bnd M V q) → Bnd M V (hdQ l) := fun {l} k => by
    cases l with
    | nil => exact Bnd.zero
    | cons a l => exact k a List.mem_cons_self
  have h1 : ∀ e, Bnd M (18 * V) (endC ps ws e) := fun e => by
    unfold endC
    cases hp : ps[e.1]? with
    | none => exact Bnd.zero
    | some p =>
      cases hw' : ws[e.1]? with
      | none => exact Bnd.zero
      | some w =>
        obtain ⟨b1, b2⟩ := hw.bnd w (List.mem_of_getElem? hw')
        have hs := (hn.pk p (List.mem_of_getElem? hp)).s2
        have k : Bnd M V (if e.2 = 0 then hdQ w.2 else hdQ w.1) := by
          split
          · exact hh b2
          · exact hh b1
        exact (k.scale (2 * p.size)).mono (Nat.dvd_refl _) (Nat.mul_le_mul_right V (by omega))
  have h2 : ∀ l : List (Nat × Nat), Bnd M (l.length * (18 * V)) (sumQ (l.map (endC ps ws))) := fun l => by
    induction l with
    | nil => exact Bnd.zero
    | cons e l ih =>
      refine ((h1 e).add ih).mono (Nat.dvd_refl _) ?_
      rw [List.length_cons, Nat.add_comm]
      exact Nat.le_of_eq (Nat.succ_mul _ _).symm
  refine (h2 l).mono (Nat.dvd_refl _) ?_
  have h5 : l.length * (18 * V) ≤ 12 * (18 * V) := Nat.mul_le_mul_right _ hl
  have h6 : 12 * (18 * V) = 216 * V := by rw [← Nat.mul_assoc]
  omega
structure LhI (o0 o1 o2 o3 o4 o5 : Option Sl) (ps : List Pp) (ws : List Wv) (nm : List Nat) (ves : Nat) (u : Rat) (j : Nat) (ρ : Rho) : Prop where
  ex : ∃ (s8 s9 s10 : Option Sl), ρ = [o0, o1, o2, o3, o4, o5, some (.val false (.int ((ves + ((endsN 0 (ps.take j) nm).map (endS ps)).sum : Nat) : Int))), some (.val false (fr (sumQ ((endsN 0 (ps.take j) nm).map (endC ps ws)) + -u))), s8, s9, s10] ∧ Vl s8 ∧ Vl s9 ∧ Vl s10
theorem lh_turn (F : Lx Γ) (L : Nat) {ps : List Pp} {ws : List Wv} {nds : List Nd} {M V U ves : Nat} (hn : NetOk nds ps) (hw : WOk ps ws M V) (hM0 : 0 < M) (hM : M < 2 ^ 1900) (hV : V < 2 ^ 1800) (hU : U < 2 ^ 1800) {nm : List Nat} {u : Rat} (hu : Bnd M U u) {b2 b4 : Bool} {o0 o1 o3 o5 : Option Sl} {i : Nat} {p : Pp} {ρ : Rho}
    (hp : ps[i]? = some p) (h : LhI o0 o1 (some (.val b2 (wsD ws))) o3 (some (.val b4 (st nm))) o5 ps ws nm ves u i ρ) {R : SO → Prop} :
    TurnOk R (LhI o0 o1 (some (.val b2 (wsD ws))) o3 (some (.val b4 (st nm))) o5 ps ws nm ves u (i + 1))
      (optS (bind1 (.tp [.nm 8, .nm 9]) (.tup [.int i, p.D]) ρ) fun ρ3 => exs (Γ (L + 2)) bodyL ρ3) := by
  obtain ⟨s8, s9, s10, rfl, f8, f9, f10⟩ := h
  have hi := (List.getElem?_eq_some_iff.mp hp).1
  obtain ⟨w, hwi⟩ : ∃ w, ws[i]? = some w := ⟨_, List.getElem?_eq_getElem (by rw [hw.len]; exact hi)⟩
  have hpk := hn.pk p (List.mem_of_getElem? hp)
  obtain ⟨l1, l2⟩ := hw.fit i p w hp hwi
  obtain ⟨b1, b2'⟩ := hw.bnd w (List.mem_of_getElem? hwi)
  have ht := hpk.t1
  have ne1 : w.1 ≠ [] := fun z => by rw [z] at l1; simp at l1; omega
  have ne2 : w.2 ≠ [] := fun z => by rw [z] at l2; simp at l2; omega
  have hh : ∀ {l : List Rat}, l ≠ [] → (∀ q ∈ l, Bnd M V q) → Bnd M V (hdQ l) := fun {l} h k => by
    cases l with
    | nil => exact absurd rfl h
    | cons a l => exact k a List.mem_cons_self
  have htk : ps.take (i + 1) = ps.take i ++ [p] := by rw [List.take_succ, hp]; rfl
  have hln : (ps.take i).length = i := by rw [List.length_take]; omega
  have hel : (endsN 0 (ps.take i) nm).length ≤ 12 := by
    have h1 := endsN_len (x := nm) (ps := ps.take i) (i := 0)
    have h2 := hn.p2
    omega
  have hqb := (sumC_bnd hn hw hel).add hu.neg
  have c18 : (2 : Nat) ^ 1800 * 2 ^ 100 = 2 ^ 1900 := by rw [← Nat.pow_add]
  have c19 : (2 : Nat) ^ 1800 * 217 ≤ 2 ^ 1800 * 2 ^ 100 := Nat.mul_le_mul_left _ (by decide)
  have hqs : Sz (sumQ ((endsN 0 (ps.take i) nm).map (endC ps ws)) + -u) := hqb.sz hM0 hM (by omega)
  have d1 : Op.idx.ap (Γ (L + 2)).flds [p.D, .int 1] = some (st p.one) := rfl
  have d2 : Op.idx.ap (Γ (L + 2)).flds [p.D, .int 2] = some (st p.other) := rfl
  have d4 : Op.idx.ap (Γ (L + 2)).flds [p.D, .int 4] = some (.int p.size) := rfl
  have i0 : Op.idx.ap (Γ (L + 2)).flds [wsD ws, .int (i : Int)] = some (wD w) := by
    show atI (ws.map wD) (i : Int) = _
    rw [atI_nat, List.getElem?_map, hwi]
    rfl
  have w0 : Op.idx.ap (Γ (L + 2)).flds [wD w, .int 0] = some (.tup (w.1.map fr)) := rfl
  have w1 : Op.idx.ap (Γ (L + 2)).flds [wD w, .int 1] = some (.tup (w.2.map fr)) := rfl
  have g1 := fr_hd (fl := (Γ (L + 2)).flds) ne1
  have g2 := fr_hd (fl := (Γ (L + 2)).flds) ne2
  have hsz := hpk.s2
  have m1 : (Op.bin .mul).ap (Γ (L + 2)).flds [.int 2, .int p.size] = some (.int (2 * p.size)) := mul_ok (k := 10) (m := 10) (by decide) (by rw [Int.natAbs_natCast]; exact Nat.lt_of_le_of_lt hsz (by decide)) (by decide) (by decide) (by decide)
  have m2 : ∀ {wv : Rat}, Sz wv → (Op.bin .mul).ap (Γ (L + 2)).flds [.int (2 * p.size), .int wv.num] = some (.int (2 * p.size * wv.num)) := fun {wv} sw => mul_ok (k := 10) (m := 3900) (by omega) sw.1 (by decide) (by decide) (by decide)
  have sw : ∀ {wv : Rat}, Bnd M V wv → Sz wv := fun hb => hb.sz hM0 hM (Nat.lt_trans hV (Nat.pow_lt_pow_right (by decide) (by decide)))
  have hpl : ∀ {wv : Rat}, Bnd M V wv → run1 (Γ (L + 1)) f__law_plus [.val false (fr (sumQ ((endsN 0 (ps.take i) nm).map (endC ps ws)) + -u)), .val false (.tup [.int (2 * p.size * wv.num), .int wv.den])] = .ok (false, fr (sumQ ((endsN 0 (ps.take i) nm).map (endC ps ws)) + -u + ((2 * p.size : Nat) : Rat) * wv))
      [some (.val false (fr (sumQ ((endsN 0 (ps.take i) nm).map (endC ps ws)) + -u))), some (.val false (.tup [.int (2 * p.size * wv.num), .int wv.den]))] := fun {wv} hb => by
    have hs2 := sw hb
    have := lplus_gen F L (n1 := (sumQ ((endsN 0 (ps.take i) nm).map (endC ps ws)) + -u).num) (d1 := (sumQ ((endsN 0 (ps.take i) nm).map (endC ps ws)) + -u).den) (n2 := 2 * p.size * wv.num) (d2 := wv.den) (Rat.den_nz _) wv.den_nz
      (Nat.lt_trans hqs.1 (Nat.pow_lt_pow_right (by decide) (by decide))) (by
        have e : (2 * (p.size : Int) * wv.num).natAbs = 2 * p.size * wv.num.natAbs := by rw [Int.natAbs_mul, Int.natAbs_mul]; rfl
        rw [e]
        have h1 : 2 * p.size * wv.num.natAbs ≤ 2 ^ 10 * 2 ^ 3900 := Nat.mul_le_mul (by omega) (Nat.le_of_lt hs2.1)
        rw [← Nat.pow_add] at h1
        exact Nat.lt_of_le_of_lt h1 (Nat.pow_lt_pow_right (by decide) (by decide))) (Nat.lt_trans hqs.2 (Nat.pow_lt_pow_right (by decide) (by decide))) (Nat.lt_trans hs2.2 (Nat.pow_lt_pow_right (by decide) (by decide)))
    have e2 : mkRat (2 * p.size * wv.num) wv.den = ((2 * p.size : Nat) : Rat) * wv := by
      rw [show (2 * (p.size : Int)) = ((2 * p.size : Nat) : Int) by omega, mkRat_scale]
    rw [Rat.mkRat_self, e2] at this
    exact this
  have fin : ∀ (s8 s9 s10 : Option Sl) (t : Int) (q : Rat), Vl s8 → Vl s9 → Vl s10 → t = ((ves + ((endsN 0 (ps.take (i + 1)) nm).map (endS ps)).sum : Nat) : Int) → q = sumQ ((endsN 0 (ps.take (i + 1)) nm).map (endC ps ws)) + -u →
      LhI o0 o1 (some (.val b2 (wsD ws))) o3 (some (.val b4 (st nm))) o5 ps ws nm ves u (i + 1) [o0, o1, some (.val b2 (wsD ws)), o3, some (.val b4 (st nm)), o5, some (.val false (.int t)), some (.val false (fr q)), s8, s9, s10] := fun s8 s9 s10 t q h8 h9 h10 e1 e2 => by
    subst e1 e2
    exact ⟨s8, s9, s10, rfl, h8, h9, h10⟩
  rw [htk, endsN_snoc, hln, Nat.zero_add, List.map_append, List.map_append, List.sum_append, sumQ_app] at fin
  unfold endO at fin
  have hcs : ∀ s, endS ps (i, s) = p.size := fun s => by unfold endS; simp only [hp]
  have hc0 : endC ps ws (i, 0) = ((2 * p.size : Nat) : Rat) * hdQ w.2 := by unfold endC; simp only [hp, hwi]; rfl
  have hc1 : endC ps ws (i, 1) = ((2 * p.size : Nat) : Rat) * hdQ w.1 := by unfold endC; simp only [hp, hwi]; rfl
  generalize sumQ ((endsN 0 (ps.take i) nm).map (endC ps ws)) = q0 at *
  generalize ((endsN 0 (ps.take i) nm).map (endS ps)).sum = z0 at *
  generalize wsD ws = W at *
  generalize wD w = W1 at *
  by_cases h1 : p.one = nm
  · have hb := hh ne2 b2'
    have h3 := m2 (sw hb)
    have h4 := hpl hb
    simp only [if_pos h1, List.map_cons, List.map_nil, List.sum_cons, List.sum_nil, hcs, hc0, sumQ_one] at fin
    generalize hdQ w.2 = wv at *
    generalize (w.2.map fr) = wl at *
    simp [bodyL, putS_free f8.fr, putS_free f9.fr, putS_free f10.fr, d1, d2, d4, h1, i0, w1, g2, fr_num, fr_den, -o_mul, -o_idxT, m1, h3, F.plus.has, F.plus.frz, F.plus.cal, h4]
    refine fin _ _ _ _ _ .val .val .val (by omega) ?_
    rw [Rat.add_assoc, Rat.add_assoc, Rat.add_comm (-u), Rat.natCast_mul]
    rfl
  · by_cases h2 : p.other = nm
    · have hb := hh ne1 b1
      have h3 := m2 (sw hb)
      have h4 := hpl hb
      simp only [if_neg h1, if_pos h2, List.map_cons, List.map_nil, List.sum_cons, List.sum_nil, hcs, hc1, sumQ_one] at fin
      generalize hdQ w.1 = wv at *
      generalize (w.1.map fr) = wl at *
      simp [bodyL, putS_free f8.fr, putS_free f9.fr, putS_free f10.fr, d1, d2, d4, h1, h2, i0, w0, g1, fr_num, fr_den, -o_mul, -o_idxT, m1, h3, F.plus.has, F.plus.frz, F.plus.cal, h4]
      refine fin _ _ _ _ _ .val .val .val (by omega) ?_
      rw [Rat.add_assoc, Rat.add_assoc, Rat.add_comm (-u), Rat.natCast_mul]
      rfl
    · simp only [if_neg h1, if_neg h2, List.map_nil, List.sum_nil] at fin
      simp [bodyL, putS_free f8.fr, putS_free f9.fr, putS_free f10.fr, d1, d2, d4, h1, h2]
      refine fin _ _ _ _ _ .val .val f10 (by omega) ?_
      show q0 + -u = q0 + 0 + -u
      rw [Rat.add_zero]
theorem lhead_run (F : Lx Γ) (L : Nat) {ps : List Pp} {ws : List Wv} {nds : List Nd} {M V U : Nat} (hn : NetOk nds ps) (hw : WOk ps ws M V) (hM0 : 0 < M) (hM : M < 2 ^ 1900) (hV : V < 2 ^ 1800) (hU : U < 2 ^ 1800)
    {n : Nd} (hm : n ∈ nds) {td : D} {u : List Nat → Rat} (ht : Tk td u) (hu : Bnd M U (u n.nm)) (b0 b1 b2 b3 : Bool) : run1 (Γ (L + 2)) f__law_head [.val b0 (partsD nds ps), .val b1 n.D, .val b2 (wsD ws), .val b3 td] = .ok (false, fr (headQ ps ws n (u n.nm))) [some (.val b0 (partsD nds ps)), some (.val b1 n.D), some (.val b2 (wsD ws)), some (.val b3 td)] := by
  have f1 : Op.idx.ap (Γ (L + 2)).flds [partsD nds ps, .int 1] = some (.tup (ps.map Pp.D)) := rfl
  have hjt : (("joint" : Str) = "tank") = False := eq_false (by decide +kernel)
  cases htk : n.tank with
  | true =>
    have hh : headQ ps ws n (u n.nm) = 0 := by unfold headQ; rw [if_pos htk]
    rw [hh]
    have hD : n.D = .tup [st n.nm, .str "tank", .int n.ves] := by unfold Nd.D kindS; rw [htk]; rfl
    have h0 : D.tup [.int 0, .int 1] = fr 0 := rfl
    rw [hD]
    generalize partsD nds ps = N at *
    simp [run1_eq, f__law_head, finR, eqv_str, h0]
  | false =>
    have hD : n.D = .tup [st n.nm, .str "joint", .int n.ves] := by unfold Nd.D kindS; rw [htk]; rfl
    obtain ⟨s1, s2⟩ := szN_le hn hm
    have hib := inc_bnd hn hw n.nm
    have c18 : (2 : Nat) ^ 1800 * 2 ^ 100 = 2 ^ 1900 := by rw [← Nat.pow_add]
    have c19 : (2 : Nat) ^ 1800 * 217 ≤ 2 ^ 1800 * 2 ^ 100 := Nat.mul_le_mul_left _ (by decide)
    have szd : Sz (inc ps ws n.nm + -u n.nm) := (hib.add hu.neg).sz hM0 hM (by omega)
    have hdn : (inc ps ws n.nm + -u n.nm).den * szN ps n < 2 ^ 8000 := by
      have h1 : (inc ps ws n.nm + -u n.nm).den * szN ps n ≤ 2 ^ 3900 * 168 := Nat.mul_le_mul (Nat.le_of_lt szd.2) s2
      have h2 : (2 : Nat) ^ 3900 * 168 < 2 ^ 3900 * 2 ^ 100 := Nat.mul_lt_mul_of_pos_left (by decide) (Nat.pow_pos (by decide))
      rw [← Nat.pow_add] at h2
      exact Nat.lt_trans (Nat.lt_of_le_of_lt h1 h2) (Nat.pow_lt_pow_right (by decide) (by decide))
    have hl := low_run F (L + 1) (t := (inc ps ws n.nm + -u n.nm).num) (Nat.mul_ne_zero (inc ps ws n.nm + -u n.nm).den_nz (Nat.ne_of_gt s1)) hdn
    rw [mkRat_div _ (Nat.ne_of_gt s1), Int.natCast_mul] at hl
    have hh : headQ ps ws n (u n.nm) = (inc ps ws n.nm + -u n.nm) / ((szN ps n : Nat) : Rat) := by unfold headQ szN; rw [if_neg (by rw [htk]; decide), Rat.sub_eq_add_neg]
    rw [← hh] at hl
    have m1 : (Op.bin .mul).ap (Γ (L + 2)).flds [.int (inc ps ws n.nm + -u n.nm).den, .int (szN ps n)] = some (.int (((inc ps ws n.nm + -u n.nm).den * szN ps n : Nat) : Int)) := by
      rw [Int.natCast_mul]
      exact mul_ok (k := 3900) (m := 10) (by rw [Int.natAbs_natCast]; exact szd.2) (by rw [Int.natAbs_natCast]; exact Nat.lt_of_le_of_lt s2 (by decide)) (by decide) (by decide) (by decide)
    have hwe : walk .enm [.tup (ps.map Pp.D)] = some (enumD 0 (ps.map Pp.D)) := rfl
    have hlp : ∀ o0 o1 o3 o5, ∃ ρ, loop (fun ρ => held ρ [.val (.tup (ps.map Pp.D))] [.tup (ps.map Pp.D)]) (fun x ρ2 => optS (bind1 (.tp [.nm 8, .nm 9]) x ρ2) fun ρ3 => exs (Γ (L + 2)) bodyL ρ3) (enumD 0 (ps.map Pp.D))
        [o0, o1, some (.val b2 (wsD ws)), o3, some (.val false (st n.nm)), o5, some (.val false (.int n.ves)), some (.val false (fr (-u n.nm))), none, none, none] = .nx ρ ∧
        LhI o0 o1 (some (.val b2 (wsD ws))) o3 (some (.val false (st n.nm))) o5 ps ws n.nm n.ves (u n.nm) ps.length ρ := fun o0 o1 o3 o5 => by
      refine loop_at (R := fun out => ∃ ρ, out = .nx ρ ∧ LhI o0 o1 (some (.val b2 (wsD ws))) o3 (some (.val false (st n.nm))) o5 ps ws n.nm n.ves (u n.nm) ps.length ρ)
        (LhI o0 o1 (some (.val b2 (wsD ws))) o3 (some (.val false (st n.nm))) o5 ps ws n.nm n.ves (u n.nm)) ?_ ?_ ?_
      · refine ⟨none, none, none, ?_, .none, .none, .none⟩
        have : sumQ ((endsN 0 (ps.take 0) n.nm).map (endC ps ws)) + -u n.nm = -u n.nm := Rat.zero_add _
        rw [this]
        rfl
      · intro ρ h
        rw [enum_len, List.length_map] at h
        exact ⟨held_val, ρ, rfl, h⟩
      · intro j x ρ hx h
        refine ⟨held_val, ?_⟩
        rw [enumD_get, List.getElem?_map] at hx
        cases hp : ps[j]? with
        | none => rw [hp] at hx; cases hx
        | some p =>
          rw [hp] at hx
          cases hx
          have := lh_turn F L hn hw hM0 hM hV hU hu hp h (R := fun out => ∃ ρ, out = .nx ρ ∧ LhI o0 o1 (some (.val b2 (wsD ws))) o3 (some (.val false (st n.nm))) o5 ps ws n.nm n.ves (u n.nm) ps.length ρ)
          rwa [Nat.zero_add]
    obtain ⟨ρ, hlp, s8, s9, s10, rfl, _⟩ := hlp (some (.val b0 (partsD nds ps))) (some (.val b1 n.D)) (some (.val b3 td)) (some (.val false (.str "joint")))
    rw [List.take_length] at hlp
    have hS : n.ves + ((endsN 0 ps n.nm).map (endS ps)).sum = szN ps n := rfl
    have hQ : sumQ ((endsN 0 ps n.nm).map (endC ps ws)) = inc ps ws n.nm := rfl
    rw [hS, hQ] at hlp
    obtain ⟨ks, l, rfl⟩ := ht.dic
    have hg := ht.get n.nm
    have h0 : D.tup [.int 0, .int 1] = fr 0 := rfl
    have hneg : D.tup [.int (-(u n.nm).num), .int (u n.nm).den] = fr (-u n.nm) := rfl
    have hn1 : ∀ r : Rat, fr r = .tup [.int r.num, .int r.den] := fun r => rfl
    rw [hD] at hlp ⊢
    generalize partsD nds ps = N at *
    generalize wsD ws = W at *
    generalize (ps.map Pp.D) = es at *
    generalize headQ ps ws n (u n.nm) = hq0 at *
    generalize inc ps ws n.nm + -u n.nm = dq at *
    simp [run1_eq, f__law_head, finR, f1, eqv_str, hjt, ex_for, hwe, -getD_dic, h0, hg, fr_num, fr_den, hneg]
    generalize hlo : loop _ _ _ _ = out
    obtain rfl := hlo.symm.trans hlp
    simp [fr_num, fr_den, -o_mul, m1, F.low.has, F.low.frz, F.low.cal, hl, finR]
end Pf
end
section
set_option Elab.async false
set_option linter.all false
set_option maxRecDepth 100000
set_option maxHeartbeats 4000000
/-! Fx11: the law's tick. -/
namespace Pf
open PySem PySem.Spec PyProof.Rows L2
def bodyT1 : List S := [.sti 3 (.ap .idx [.var 5, .cst (.int 0)]) (.call "_law_head" [.var 0, .var 5, .var 1, .var 2])]
def bodyT2 : List S := [.tgt (.tp [.nm 8, .nm 9]) (.ap .idx [.var 1, .var 6]),
    .mt 4 .append [.tup [.ap (.bin .add) [.slc (.var 8) (.cst (.int 1)) (.cst .non), .tup [.call "_law_minus" [.ap .idx [.var 3, .ap .idx [.var 7, .cst (.int 1)]], .ap .idx [.var 9, .cst (.int 0)]]]], .ap (.bin .add) [.slc (.var 9) (.cst (.int 1)) (.cst .non), .tup [.call "_law_minus" [.ap .idx [.var 3, .ap .idx [.var 7, .cst (.int 2)]], .ap .idx [.var 8, .cst (.int 0)]]]]]]]
def f__law_tick : Fn := ⟨3, 10, [.par [3, 4] [.dic [], .lst []],
  .for_ (.nm 5) .seq [.ap .idx [.var 0, .cst (.int 0)]] bodyT1,
  .for_ (.tp [.nm 6, .nm 7]) .enm [.ap .idx [.var 0, .cst (.int 1)]] bodyT2,
  .ret (.tup [.ap (.bi .tuple) [.comp [5] (.nm 5) .seq [.ap .idx [.var 0, .cst (.int 0)]] [] (.ap .idx [.var 3, .ap .idx [.var 5, .cst (.int 0)]])], .ap (.bi .tuple) [.var 4]])]⟩
variable {Γ : Nat → Ga}
def kN (n : Nd) : Key := .inr (sOf n.nm)
theorem look_at {g : Nd → D} : ∀ {nds : List Nd}, (nds.map Nd.nm).Nodup → ∀ {n : Nd}, n ∈ nds → look (kN n) (nds.map kN) (nds.map g) = some (g n)
  | [], _, n, h => by cases h
  | m :: nds, hd, n, h => by
    rw [List.map_cons, List.nodup_cons] at hd
    rw [List.map_cons, List.map_cons]
    unfold look
    by_cases e : n = m
    · subst e
      rw [if_pos rfl]
    · have hn : n ∈ nds := (List.mem_cons.mp h).resolve_left e
      have hne : ¬ kN m = kN n := fun z => hd.1 (by rw [sOf_inj.mp (Sum.inr.inj z)]; exact List.mem_map_of_mem hn)
      rw [if_neg hne]
      exact look_at hd.2 hn
theorem stow_new {n : Nd} {nds : List Nd} {d : D} {l : List D} (h : n.nm ∉ nds.map Nd.nm) : stow (kN n) d (nds.map kN) l = (nds.map kN ++ [kN n], l ++ [d]) := by
  unfold stow
  rw [if_neg]
  intro z
  rw [List.any_eq_true] at z
  obtain ⟨k, hk, hk2⟩ := z
  obtain ⟨m, hm, rfl⟩ := List.mem_map.mp hk
  have := sOf_inj.mp (Sum.inr.inj (of_decide_eq_true hk2))
  exact h (by rw [← this]; exact List.mem_map_of_mem hm)
structure T1I (o0 o1 o2 : Option Sl) (nds : List Nd) (g : Nd → D) (i : Nat) (ρ : Rho) : Prop where
  ex : ∃ (s5 : Option Sl), ρ = [o0, o1, o2, some (.cel false (.dic ((nds.take i).map kN) ((nds.take i).map g))), some (.cel false (.lst [])), s5, none, none, none, none] ∧ Vl s5
structure T2I (o0 o1 o2 o3 s5 : Option Sl) (nws : List Wv) (i : Nat) (ρ : Rho) : Prop where
  ex : ∃ (s6 s7 s8 s9 : Option Sl), ρ = [o0, o1, o2, o3, some (.cel false (.lst ((nws.take i).map wD))), s5, s6, s7, s8, s9] ∧ Vl s6 ∧ Vl s7 ∧ Vl s8 ∧ Vl s9
def hvD (ps : List Pp) (ws : List Wv) (u : List Nat → Rat) (n : Nd) : D := fr (headQ ps ws n (u n.nm))
theorem lt_one (F : Lx Γ) (kh : Knows Γ "_law_head" f__law_head) (L : Nat) {nds : List Nd} {ps : List Pp} {ws : List Wv} {u : List Nat → Rat} {M V U : Nat} (hn : NetOk nds ps) (hw : WOk ps ws M V) (hM0 : 0 < M) (hM : M < 2 ^ 1900) (hV : V < 2 ^ 1800) (hU : U < 2 ^ 1800) (hu : ∀ n ∈ nds, Bnd M U (u n.nm)) {td : D} (ht : Tk td u) (b0 b1 b2 : Bool) {d : D} :
    ∃ ρ, loop (fun ρ => held ρ [.val d] [d]) (fun x ρ2 => optS (bind1 (.nm 5) x ρ2) fun ρ3 => exs (Γ (L + 3)) bodyT1 ρ3) (nds.map Nd.D)
      [some (.val b0 (partsD nds ps)), some (.val b1 (wsD ws)), some (.val b2 td), some (.cel false (.dic [] [])), some (.cel false (.lst [])), none, none, none, none, none] = .nx ρ ∧
      T1I (some (.val b0 (partsD nds ps))) (some (.val b1 (wsD ws))) (some (.val b2 td)) nds (hvD ps ws u) nds.length ρ := by
  refine loop_at (R := fun out => ∃ ρ, out = .nx ρ ∧ T1I (some (.val b0 (partsD nds ps))) (some (.val b1 (wsD ws))) (some (.val b2 td)) nds (hvD ps ws u) nds.length ρ) (T1I (some (.val b0 (partsD nds ps))) (some (.val b1 (wsD ws))) (some (.val b2 td)) nds (hvD ps ws u)) ?_ ?_ ?_
  · exact ⟨none, rfl, .none⟩
  · intro ρ h
    rw [List.length_map] at h
    exact ⟨held_val, ρ, rfl, h⟩
  · intro i x ρ hx ⟨s5, hρ, f5⟩
    refine ⟨held_val, ?_⟩
    subst hρ
    rw [List.getElem?_map] at hx
    cases hni : nds[i]? with
    | none => rw [hni] at hx; cases hx
    | some n =>
    rw [hni] at hx
    cases hx
    have hil := (List.getElem?_eq_some_iff.mp hni).1
    have hm := List.mem_of_getElem? hni
    have hh := fun b0 b1 b2 b3 => lhead_run F L hn hw hM0 hM hV hU hm ht (hu n hm) b0 b1 b2 b3
    have hnm : (nds.map Nd.nm)[i]? = some n.nm := by rw [List.getElem?_map, hni]; rfl
    have hnin : n.nm ∉ (nds.take i).map Nd.nm := by rw [List.map_take]; exact nin_take hn.nn hnm
    have d0 : Op.idx.ap (Γ (L + 3)).flds [n.D, .int 0] = some (st n.nm) := rfl
    have hzl : szl ((nds.take i).map kN).length = true := decide_eq_true (by rw [List.length_map, List.length_take]; have := hn.n2; omega)
    have hset : setD (.dic ((nds.take i).map kN) ((nds.take i).map (hvD ps ws u))) (st n.nm) (hvD ps ws u n) = some (.dic ((nds.take (i + 1)).map kN) ((nds.take (i + 1)).map (hvD ps ws u))) := by
      rw [setD_dic (j := kN n) rfl, stow_new hnin, if_pos hzl, take_snoc hni, take_snoc hni]
    have hq : fr (headQ ps ws n (u n.nm)) = hvD ps ws u n := rfl
    rw [hq] at hh
    have fin : T1I (some (.val b0 (partsD nds ps))) (some (.val b1 (wsD ws))) (some (.val b2 td)) nds (hvD ps ws u) (i + 1) [some (.val b0 (partsD nds ps)), some (.val b1 (wsD ws)), some (.val b2 td), some (.cel false (.dic ((nds.take (i + 1)).map kN) ((nds.take (i + 1)).map (hvD ps ws u)))), some (.cel false (.lst [])), some (.val false n.D), none, none, none, none] :=
      ⟨some (.val false n.D), rfl, .val⟩
    generalize hvD ps ws u n = hv at *
    generalize D.dic ((nds.take (i + 1)).map kN) ((nds.take (i + 1)).map (hvD ps ws u)) = D2 at *
    generalize D.dic ((nds.take i).map kN) ((nds.take i).map (hvD ps ws u)) = D1 at *
    generalize partsD nds ps = N at *
    generalize wsD ws = W at *
    generalize n.D = ND at *
    simp [bodyT1, putS_free f5.fr, kh.has, kh.frz, kh.cal, hh, d0, hset]
    exact fin
theorem ltick_run (F : Lx Γ) (kh : Knows Γ "_law_head" f__law_head) (L : Nat) {nds : List Nd} {ps : List Pp} {ws : List Wv} {u : List Nat → Rat} {M V U : Nat} (H : TickHyp Γ nds ps ws u M V U) {td : D} (ht : Tk td u) (b0 b1 b2 : Bool) :
    run1 (Γ (L + 3)) f__law_tick [.val b0 (partsD nds ps), .val b1 (wsD ws), .val b2 td] = .ok (false, .tup [.tup ((headsQ nds ps ws u).map fr), wsD (tickW nds ps ws u)]) [some (.val b0 (partsD nds ps)), some (.val b1 (wsD ws)), some (.val b2 td)] := by
  obtain ⟨hn, hw, hM0, hMP, hV, hU, hu⟩ := H
  have hP := prodS_pos hn
  have hM : M < 2 ^ 1900 := Nat.lt_of_le_of_lt (Nat.le_mul_of_pos_right M hP) hMP
  have c17 : (2 : Nat) ^ 1700 < 2 ^ 1800 := Nat.pow_lt_pow_right (by decide) (by decide)
  have hn8 := hn.n2
  have hp12 := hn.p2
  have f0 : Op.idx.ap (Γ (L + 3)).flds [partsD nds ps, .int 0] = some (.tup (nds.map Nd.D)) := rfl
  have f1 : Op.idx.ap (Γ (L + 3)).flds [partsD nds ps, .int 1] = some (.tup (ps.map Pp.D)) := rfl
  have hw0 : walk .seq [.tup (nds.map Nd.D)] = some (nds.map Nd.D) := rfl
  have hw1 : walk .enm [.tup (ps.map Pp.D)] = some (enumD 0 (ps.map Pp.D)) := rfl
  have hws : walkS .seq [.tup (nds.map Nd.D)] = some (nds.map Nd.D) := walkS_seqR (t := true) (by rw [List.length_map]; omega)
  obtain ⟨ρ1, hl1, s5, rfl, f5⟩ := lt_one F kh L hn hw hM0 hM (Nat.lt_trans hV c17) (Nat.lt_trans hU c17) hu ht b0 b1 b2 (d := .tup (nds.map Nd.D))
  rw [List.take_length] at hl1
  have hlk : ∀ {n : Nd}, n ∈ nds → Op.idx.ap (Γ (L + 3)).flds [.dic (nds.map kN) (nds.map (hvD ps ws u)), st n.nm] = some (hvD ps ws u n) := fun {n} hm => look_at (g := hvD ps ws u) hn.nn hm
  have hsp : ∀ x, x ∈ nds.map Nd.nm → Op.idx.ap (Γ (L + 3)).flds [.dic (nds.map kN) (nds.map (hvD ps ws u)), st x] = some (fr (hAt nds ps ws u x)) := fun x hx => by
    obtain ⟨i, n, hi, rfl⟩ := node_of_name hx
    rw [hlk (List.mem_of_getElem? hi), hAt_eq hn.nn hi]
    rfl
  have hlp : ∀ o0 o2 s5, ∃ ρ, loop (fun ρ => held ρ [.val (.tup (ps.map Pp.D))] [.tup (ps.map Pp.D)]) (fun x ρ2 => optS (bind1 (.tp [.nm 6, .nm 7]) x ρ2) fun ρ3 => exs (Γ (L + 3)) bodyT2 ρ3) (enumD 0 (ps.map Pp.D))
      [o0, some (.val b1 (wsD ws)), o2, some (.cel false (.dic (nds.map kN) (nds.map (hvD ps ws u)))), some (.cel false (.lst [])), s5, none, none, none, none] = .nx ρ ∧ T2I o0 (some (.val b1 (wsD ws))) o2 (some (.cel false (.dic (nds.map kN) (nds.map (hvD ps ws u))))) s5 (tickW nds ps ws u) (tickW nds ps ws u).length ρ := fun o0 o2 s5 => by
    refine loop_at (R := fun out => ∃ ρ, out = .nx ρ ∧ T2I o0 (some (.val b1 (wsD ws))) o2 (some (.cel false (.dic (nds.map kN) (nds.map (hvD ps ws u))))) s5 (tickW nds ps ws u) (tickW nds ps ws u).length ρ) (T2I o0 (some (.val b1 (wsD ws))) o2 (some (.cel false (.dic (nds.map kN) (nds.map (hvD ps ws u))))) s5 (tickW nds ps ws u)) ?_ ?_ ?_
    · exact ⟨none, none, none, none, by simp, .none, .none, .none, .none⟩
    · intro ρ h
      rw [enum_len, List.length_map] at h
      have : (tickW nds ps ws u).length = ps.length := by unfold tickW; rw [List.length_zipWith, hw.len, Nat.min_self]
      rw [← this] at h
      exact ⟨held_val, ρ, rfl, h⟩
    · intro i x ρ hx ⟨s6, s7, s8, s9, hρ, f6, f7, f8, f9⟩
      refine ⟨held_val, ?_⟩
      subst hρ
      rw [enumD_get, List.getElem?_map] at hx
      cases hp : ps[i]? with
      | none => rw [hp] at hx; cases hx
      | some p =>
      rw [hp] at hx
      cases hx
      rw [Nat.zero_add]
      have hil := (List.getElem?_eq_some_iff.mp hp).1
      obtain ⟨w, hwi⟩ : ∃ w, ws[i]? = some w := ⟨_, List.getElem?_eq_getElem (by rw [hw.len]; exact hil)⟩
      have hpk := hn.pk p (List.mem_of_getElem? hp)
      obtain ⟨l1, l2⟩ := hw.fit i p w hp hwi
      obtain ⟨c1, c2⟩ := hw.bnd w (List.mem_of_getElem? hwi)
      have ht1 := hpk.t1
      have ht2 := hpk.t2
      have ne1 : w.1 ≠ [] := fun z => by rw [z] at l1; simp at l1; omega
      have ne2 : w.2 ≠ [] := fun z => by rw [z] at l2; simp at l2; omega
      have g2 := hsp p.one hpk.one
      have g4 := hsp p.other hpk.other
      have d1 : Op.idx.ap (Γ (L + 3)).flds [p.D, .int 1] = some (st p.one) := rfl
      have d2 : Op.idx.ap (Γ (L + 3)).flds [p.D, .int 2] = some (st p.other) := rfl
      have i0 : Op.idx.ap (Γ (L + 3)).flds [wsD ws, .int (i : Int)] = some (wD w) := by
        show atI (ws.map wD) (i : Int) = _
        rw [atI_nat, List.getElem?_map, hwi]
        rfl
      have w1 := fr_hd (fl := (Γ (L + 3)).flds) ne1
      have w2 := fr_hd (fl := (Γ (L + 3)).flds) ne2
      have sl1 := slc_tail (l := w.1) (by omega)
      have sl2 := slc_tail (l := w.2) (by omega)
      have cc : (2 : Nat) ^ 1700 * 2 ^ 100 = 2 ^ 1800 := by rw [← Nat.pow_add]
      have cc2 : (2 : Nat) ^ 1700 * 217 ≤ 2 ^ 1700 * 2 ^ 100 := Nat.mul_le_mul_left _ (by decide)
      have cc3 : (2 : Nat) ^ 1800 < 2 ^ 1900 := Nat.pow_lt_pow_right (by decide) (by decide)
      have szh : ∀ x, x ∈ nds.map Nd.nm → Sz (hAt nds ps ws u x) := fun x hx => by
        obtain ⟨k, n, hk, rfl⟩ := node_of_name hx
        rw [hAt_eq hn.nn hk]
        exact ((headQ_bnd hn hw (List.mem_of_getElem? hk) (hu n (List.mem_of_getElem? hk))).mono (Nat.mul_dvd_mul_left M (prodS_dvd (List.mem_of_getElem? hk))) (Nat.le_refl _)).sz (Nat.mul_pos hM0 hP) hMP (by omega)
      have szw : ∀ {l : List Rat}, (∀ q ∈ l, Bnd M V q) → Sz (hdQ l) := fun {l} k => by
        cases l with
        | nil => exact Bnd.zero.sz (M := 1) (V := 0) (by decide) (Nat.one_lt_two_pow (by decide)) (Nat.pow_pos (by decide))
        | cons a l => exact (k a List.mem_cons_self).sz hM0 hM (by omega)
      have mi1 := lminus_run F (L + 1) (szh _ hpk.one) (szw c2)
      have mi2 := lminus_run F (L + 1) (szh _ hpk.other) (szw c1)
      have ad1 := fl_one (fl := (Γ (L + 3)).flds) (l := w.1.tail) (hAt nds ps ws u p.one - hdQ w.2) (by rw [List.length_tail]; omega)
      have ad2 := fl_one (fl := (Γ (L + 3)).flds) (l := w.2.tail) (hAt nds ps ws u p.other - hdQ w.1) (by rw [List.length_tail]; omega)
      have hti : (tickW nds ps ws u)[i]? = some (nextW (hAt nds ps ws u) p w) := by
        unfold tickW
        rw [List.getElem?_zipWith, hp, hwi]
      have hsz : ((tickW nds ps ws u).take i).length + 1 ≤ 1000000 := by rw [List.length_take]; omega
      have hwd : wD w = .tup [.tup (w.1.map fr), .tup (w.2.map fr)] := rfl
      have fin : ∀ s6 s7 s8 s9, Vl s6 → Vl s7 → Vl s8 → Vl s9 → T2I o0 (some (.val b1 (wsD ws))) o2 (some (.cel false (.dic (nds.map kN) (nds.map (hvD ps ws u))))) s5 (tickW nds ps ws u) (i + 1)
          [o0, some (.val b1 (wsD ws)), o2, some (.cel false (.dic (nds.map kN) (nds.map (hvD ps ws u)))), some (.cel false (.lst (((tickW nds ps ws u).take i).map wD ++ [.tup [.tup ((w.1.tail ++ [hAt nds ps ws u p.one - hdQ w.2]).map fr), .tup ((w.2.tail ++ [hAt nds ps ws u p.other - hdQ w.1]).map fr)]]))), s5, s6, s7, s8, s9] := by
        intro s6 s7 s8 s9 v6 v7 v8 v9
        refine ⟨s6, s7, s8, s9, ?_, v6, v7, v8, v9⟩
        rw [take_snoc hti]
        rfl
      rw [hwd] at i0
      generalize wsD ws = W at *
      generalize D.dic (nds.map kN) (nds.map (hvD ps ws u)) = HD at *
      generalize (tickW nds ps ws u).take i = tw at *
      generalize (w.1.tail ++ [hAt nds ps ws u p.one - hdQ w.2]).map fr = n1 at *
      generalize (w.2.tail ++ [hAt nds ps ws u p.other - hdQ w.1]).map fr = n2 at *
      generalize w.1.tail.map fr = t1 at *
      generalize w.2.tail.map fr = t2 at *
      generalize w.1.map fr = q1 at *
      generalize w.2.map fr = q2 at *
      simp [bodyT2, putS_free f6.fr, putS_free f7.fr, putS_free f8.fr, putS_free f9.fr, d1, d2, i0, g2, g4, -o_idxT, w1, w2, sl1, sl2, F.minus.has, F.minus.frz, F.minus.cal, mi1, mi2, -o_addT, ad1, ad2, szl, hsz]
      exact fin _ _ _ _ .val .val .val .val
  obtain ⟨ρ, hlp, s6, s7, s8, s9, rfl, f6, f7, f8, f9⟩ := hlp (some (.val b0 (partsD nds ps))) (some (.val b2 td)) s5
  rw [List.take_length] at hlp
  have htu : ∀ o0 o1 o2 o4 s6 s7 s8 s9 d, turns (fun ρ => held ρ [.val d] [d]) (lcF (Γ (L + 3)) [5] (.nm 5) [] (.ap .idx [.var 3, .ap .idx [.var 5, .cst (.int 0)]])) (nds.map Nd.D) [o0, o1, o2, some (.cel false (.dic (nds.map kN) (nds.map (hvD ps ws u)))), o4, s5, s6, s7, s8, s9] =
      .ok (nds.map (hvD ps ws u)) [o0, o1, o2, some (.cel false (.dic (nds.map kN) (nds.map (hvD ps ws u)))), o4, s5, s6, s7, s8, s9] := fun o0 o1 o2 o4 s6 s7 s8 s9 d => turns_on held_val fun n hm => by
    have h1 := hlk hm
    have d0 : Op.idx.ap (Γ (L + 3)).flds [n.D, .int 0] = some (st n.nm) := rfl
    generalize D.dic (nds.map kN) (nds.map (hvD ps ws u)) = HD at *
    generalize n.D = ND at *
    simp [lcF_eq, d0, h1, f5.rest]
  have hwd2 : wsD (tickW nds ps ws u) = .tup ((tickW nds ps ws u).map wD) := rfl
  have hh2 : (headsQ nds ps ws u).map fr = nds.map (hvD ps ws u) := by
    unfold headsQ
    rw [List.map_map]
    rfl
  rw [hwd2, hh2]
  generalize D.dic (nds.map kN) (nds.map (hvD ps ws u)) = HD at *
  generalize partsD nds ps = N at *
  generalize wsD ws = W at *
  generalize nds.map (hvD ps ws u) = hs at *
  generalize (tickW nds ps ws u).map wD = tw at *
  generalize (nds.map Nd.D) = NN at *
  generalize (ps.map Pp.D) = PP at *
  simp [run1_eq, f__law_tick, finR, Pf.putAll, ex_for, f0, f1, hw0, hw1]
  generalize hlo : loop _ _ _ _ = out
  obtain rfl := hlo.symm.trans hl1
  simp [ex_for, f1, hw1]
  generalize hlo2 : loop _ _ _ _ = out
  obtain rfl := hlo2.symm.trans hlp
  simp [finR, f0, ev_comp, hws, htu]
end Pf
end
section
set_option Elab.async false
set_option linter.all false
set_option maxRecDepth 100000
set_option maxHeartbeats 4000000
/-! Fx12: the law's run, rest, unit, spot. -/
namespace Pf
open PySem PySem.Spec PyProof.Rows L2
def f__law_run : Fn := ⟨3, 6, [.set 3 (.lst []),
  .for_ (.nm 4) .seq [.fz 2]
   [.tgt (.tp [.nm 5, .nm 1]) (.call "_law_tick" [.var 0, .var 1, .var 4]),
    .mt 3 .append [.var 5]],
  .ret (.tup [.ap (.bi .tuple) [.var 3], .var 1])]⟩
def f__law_rest : Fn := ⟨1, 2, [.ret (.ap (.bi .tuple) [.comp [1] (.nm 1) .seq [.ap .idx [.var 0, .cst (.int 1)]] [] (.tup [.ap (.bin .mul) [.tup [.tup [.cst (.int 0), .cst (.int 1)]], .ap .idx [.var 1, .cst (.int 3)]], .ap (.bin .mul) [.tup [.tup [.cst (.int 0), .cst (.int 1)]], .ap .idx [.var 1, .cst (.int 3)]]])])]⟩
def f__law_unit : Fn := ⟨3, 4, [.set 3 (.ap (.bin .add) [.lst [.dic [.var 1, .tup [.cst (.int 1), .cst (.int 1)]]], .ap (.bin .mul) [.lst [.dic []], .var 2]]),
  .ret (.ap .idx [.call "_law_run" [.var 0, .call "_law_rest" [.var 0], .slc (.var 3) (.cst .non) (.var 2)], .cst (.int 0)])]⟩
def f__law_spot : Fn := ⟨2, 3, [.ret (.meth "index" (.comp [2] (.nm 2) .seq [.ap .idx [.var 0, .cst (.int 0)]] [] (.ap .idx [.var 2, .cst (.int 0)])) [.var 1])]⟩
def f__law_joints : Fn := ⟨1, 2, [.ret (.comp [1] (.nm 1) .seq [.ap .idx [.var 0, .cst (.int 0)]] [.ap (.cmp .eq) [.ap .idx [.var 1, .cst (.int 1)], .cst (.str "joint")]] (.ap .idx [.var 1, .cst (.int 0)]))]⟩
def f__law_with_joint : Fn := ⟨1, 1, [.iff (.ap (.cmp .ne) [.call "_law_joints" [.var 0], .lst []])
   [.ret (.var 0)]
   [],
  .ret (.tup [.ap (.bin .add) [.tup [.tup [.ap .idx [.ap .idx [.ap .idx [.var 0, .cst (.int 0)], .cst (.int 0)], .cst (.int 0)], .cst (.str "joint"), .cst (.int 0)]], .slc (.ap .idx [.var 0, .cst (.int 0)]) (.cst (.int 1)) (.cst .non)], .ap .idx [.var 0, .cst (.int 1)]])]⟩
variable {Γ : Nat → Ga}
structure Ux (Γ : Nat → Ga) : Prop where
  lx : Lx Γ
  head : Knows Γ "_law_head" f__law_head
  tick : Knows Γ "_law_tick" f__law_tick
  run : Knows Γ "_law_run" f__law_run
  rest : Knows Γ "_law_rest" f__law_rest
theorem lrun_run (X : Ux Γ) (L : Nat) {nds : List Nd} {ps : List Pp} {ws : List Wv} {cs : List D} {us : List (List Nat → Rat)} {M V U : Nat} (h : CrOk nds ps ws cs us M V U) (t : Bool) :
    run1 (Γ (L + 4)) f__law_run [.val false (partsD nds ps), .val false (wsD ws), .val false (rowD t cs)] = .ok (false, .tup [.tup ((rowsQ nds ps ws us).map rowD2), wsD (stepW nds ps ws us)]) [some (.val false (partsD nds ps)), some (.val false (wsD (stepW nds ps ws us))), some (.val false (rowD t cs))] := by
  have hln := h.ln
  have hlp : ∃ ρ, loop (fun ρ => held ρ [.val (rowD t cs)] [rowD t cs]) (fun x ρ2 => optS (bind1 (.nm 4) x ρ2) fun ρ3 => exs (Γ (L + 4)) [.tgt (.tp [.nm 5, .nm 1]) (.call "_law_tick" [.var 0, .var 1, .var 4]), .mt 3 .append [.var 5]] ρ3) cs
      [some (.val false (partsD nds ps)), some (.val false (wsD ws)), some (.val false (rowD t cs)), some (.cel false (.lst [])), none, none] = .nx ρ ∧ RnI (some (.val false (partsD nds ps))) (some (.val false (rowD t cs))) nds ps ws us us.length ρ := by
    refine loop_at (R := fun out => ∃ ρ, out = .nx ρ ∧ RnI (some (.val false (partsD nds ps))) (some (.val false (rowD t cs))) nds ps ws us us.length ρ) (RnI (some (.val false (partsD nds ps))) (some (.val false (rowD t cs))) nds ps ws us) ?_ ?_ ?_
    · exact ⟨none, none, by simp [stepW, rowsQ], .none, .none⟩
    · intro ρ hh
      rw [h.len] at hh
      exact ⟨held_val, ρ, rfl, hh⟩
    · intro i x ρ hx ⟨s4, s5, hρ, f4, f5⟩
      refine ⟨held_val, ?_⟩
      subst hρ
      have hil := (List.getElem?_eq_some_iff.mp hx).1
      rw [h.len] at hil
      have hui : us[i]? = some us[i] := List.getElem?_eq_getElem hil
      generalize us[i] = u at hui
      have htk := h.tk i x u hx hui
      have hti := ltick_run X.lx X.head L (h.tick (Γ := Γ) hui) htk false false false
      have hsz : ((rowsQ nds ps ws (us.take i))).length + 1 ≤ 1000000 := by rw [rowsQ_len, List.length_take]; omega
      have fin : RnI (some (.val false (partsD nds ps))) (some (.val false (rowD t cs))) nds ps ws us (i + 1) [some (.val false (partsD nds ps)), some (.val false (wsD (tickW nds ps (stepW nds ps ws (us.take i)) u))), some (.val false (rowD t cs)),
          some (.cel false (.lst ((rowsQ nds ps ws (us.take i)).map rowD2 ++ [.tup ((headsQ nds ps (stepW nds ps ws (us.take i)) u).map fr)]))), some (.val false x), some (.val false (.tup ((headsQ nds ps (stepW nds ps ws (us.take i)) u).map fr)))] := by
        refine ⟨some (.val false x), some (.val false (.tup ((headsQ nds ps (stepW nds ps ws (us.take i)) u).map fr))), ?_, .val, .val⟩
        have e : us.take (i + 1) = us.take i ++ [u] := by rw [List.take_succ, hui]; rfl
        rw [e, stepW_snoc, rowsQ_snoc, List.map_append]
        rfl
      generalize partsD nds ps = N at *
      generalize wsD (tickW nds ps (stepW nds ps ws (us.take i)) u) = W2 at *
      generalize wsD (stepW nds ps ws (us.take i)) = W at *
      generalize (headsQ nds ps (stepW nds ps ws (us.take i)) u).map fr = hs at *
      generalize rowsQ nds ps ws (us.take i) = rw0 at *
      simp [putS_free f4.fr, putS_free f5.fr, X.tick.has, X.tick.frz, X.tick.cal, hti, szl, hsz]
      exact fin
  obtain ⟨ρ, hlp, s4, s5, rfl, _⟩ := hlp
  rw [List.take_length] at hlp
  generalize partsD nds ps = N at *
  generalize wsD (stepW nds ps ws us) = W2 at *
  generalize wsD ws = W at *
  generalize (rowsQ nds ps ws us).map rowD2 = rws at *
  simp [run1_eq, f__law_run, finR, ex_for, walk_seqR]
  generalize hlo : loop _ _ _ _ = out
  obtain rfl := hlo.symm.trans hlp
  simp [finR]
theorem lrest_run (L : Nat) {nds : List Nd} {ps : List Pp} (h : NetOk nds ps) (b : Bool) : run1 (Γ L) f__law_rest [.val b (partsD nds ps)] = .ok (false, wsD (restW ps)) [some (.val b (partsD nds ps))] := by
  have f1 : Op.idx.ap (Γ L).flds [partsD nds ps, .int 1] = some (.tup (ps.map Pp.D)) := rfl
  have hws : walkS .seq [.tup (ps.map Pp.D)] = some (ps.map Pp.D) := walkS_seqR (t := true) (by rw [List.length_map]; have := h.p2; omega)
  have ht : ∀ d, turns (fun ρ => held ρ [.val d] [d]) (lcF (Γ L) [1] (.nm 1) [] (.tup [.ap (.bin .mul) [.tup [.tup [.cst (.int 0), .cst (.int 1)]], .ap .idx [.var 1, .cst (.int 3)]], .ap (.bin .mul) [.tup [.tup [.cst (.int 0), .cst (.int 1)]], .ap .idx [.var 1, .cst (.int 3)]]])) (ps.map Pp.D) [some (.val b (partsD nds ps)), none] = .ok (ps.map restD) [some (.val b (partsD nds ps)), none] := fun d => turns_on held_val fun p hp => by
    have hpk := h.pk p hp
    have i3 : Op.idx.ap (Γ L).flds [p.D, .int 3] = some (.int p.ticks) := rfl
    have hm := mulT_one (fl := (Γ L).flds) (q := fr 0) (t := p.ticks) hpk.t1 (by have := hpk.t2; omega)
    have h0 : D.tup [.int 0, .int 1] = fr 0 := rfl
    rw [restD_eq]
    simp [lcF_eq, h0, i3, -o_mulT, hm]
  have hr : ps.map restD = (restW ps).map wD := by
    unfold restW restD
    rw [List.map_map]
    rfl
  rw [hr] at ht
  unfold wsD
  generalize partsD nds ps = N at *
  generalize (restW ps).map wD = R at *
  simp [run1_eq, f__law_rest, finR, ev_comp, f1, hws, ht]
theorem lunit_run (X : Ux Γ) (L : Nat) {nds : List Nd} {ps : List Pp} (h : NetOk nds ps) {a : List Nat} {m t : Nat} (ht : t = m + 1) (hm : m ≤ 39) (hP : prodS nds ps ^ (m + 1) < 2 ^ 1900) (b b1 b2 : Bool) :
    run1 (Γ (L + 5)) f__law_unit [.val b (partsD nds ps), .val b1 (st a), .val b2 (.int t)] = .ok (false, .tup ((rowsQ nds ps (restW ps) (usOf a m)).map rowD2)) [some (.val b (partsD nds ps)), some (.val b1 (st a)), some (.val b2 (.int t))] := by
  have hr := fun b => lrest_run (Γ := Γ) (L + 4) h b
  have hrun := lrun_run X L (crOk h (a := a) hm hP) false
  have hmul : (Op.bin .mul).ap (Γ (L + 5)).flds [.lst [.dic [] []], .int (t : Int)] = some (.lst (List.replicate t (.dic [] []))) := mulL_one (by omega)
  have hsl : slcO (.lst (.dic [.inr (sOf a)] [fr 1] :: List.replicate t (.dic [] []))) none (some (t : Int)) = some (.lst (csOf a m)) := by
    show some (D.lst (cutL _ none (some (t : Int)))) = _
    rw [cutL_take, ht, List.take_succ_cons, List.take_replicate, Nat.min_eq_left (by omega)]
    rfl
  have hszl : szl (1 + t) = true := decide_eq_true (by omega)
  have hst : stow (.inr (sOf a)) (fr 1) [] [] = ([.inr (sOf a)], [fr 1]) := rfl
  have h1 : D.tup [.int 1, .int 1] = fr 1 := rfl
  rw [rowD_f] at hrun
  generalize partsD nds ps = N at *
  generalize wsD (restW ps) = W at *
  generalize rowsQ nds ps (restW ps) (usOf a m) = rows at *
  generalize wsD (stepW nds ps (restW ps) (usOf a m)) = W2 at *
  simp [run1_eq, f__law_unit, finR, h1, X.run.has, X.run.frz, X.run.cal, X.rest.has, X.rest.frz, X.rest.cal, -o_mulL, hmul, hszl, hst, hr, hsl, hrun]
end Pf
end
section
set_option Elab.async false
set_option linter.all false
set_option maxRecDepth 100000
set_option maxHeartbeats 4000000
/-! Fx13: spots, joints, fractions judged. -/
namespace Pf
open PySem PySem.Spec PyProof.Rows L2
def f__law_is_fraction : Fn := ⟨1, 2, [.iff (.or [.not (.ap (.isi [.tuple]) [.var 0]), .ap (.cmp .ne) [.ap (.bi .len) [.var 0], .cst (.int 2)], .ap (.cmp .ne) [.comp [1] (.nm 1) .seq [.var 0] [.or [.not (.ap (.isi [.int]) [.var 1]), .ap (.isi [.bool]) [.var 1]]] (.cst (.int 1)), .lst []]])
   [.ret (.cst (.bl false))]
   [],
  .ret (.and [.ap (.cmp .ge) [.ap .idx [.var 0, .cst (.int 1)], .cst (.int 1)], .oeq false [.call "_law_low" [.ap .idx [.var 0, .cst (.int 0)], .ap .idx [.var 0, .cst (.int 1)]], .var 0]])]⟩
def f__law_are_fractions : Fn := ⟨2, 3, [.iff (.or [.not (.ap (.isi [.list, .tuple]) [.var 0]), .ap (.cmp .ne) [.ap (.bi .len) [.var 0], .var 1]])
   [.ret (.cst (.bl false))]
   [],
  .ret (.ap (.cmp .eq) [.comp [2] (.nm 2) .seq [.var 0] [.not (.call "_law_is_fraction" [.var 2])] (.cst (.int 1)), .lst []])]⟩
variable {Γ : Nat → Ga}
theorem lk_fr {q : Rat} {n : Nat} : Lk (n + 1) (fr q) := .tup _ (fun d hd => by
  rcases List.mem_cons.mp hd with rfl | hd
  · exact .int _
  · rw [List.mem_singleton.mp hd]
    exact .int _) (by simp)
theorem lk_frs {l : List Rat} {n : Nat} (h : l.length ≤ 1000) : Lk (n + 2) (.tup (l.map fr)) := .tup _ (fun d hd => by
  obtain ⟨q, _, rfl⟩ := List.mem_map.mp hd
  exact lk_fr) (by rw [List.length_map]; omega)
theorem lk_frsL {l : List Rat} {n : Nat} (h : l.length ≤ 1000) : Lk (n + 2) (.lst (l.map fr)) := .lst _ (fun d hd => by
  obtain ⟨q, _, rfl⟩ := List.mem_map.mp hd
  exact lk_fr) (by rw [List.length_map]; omega)
theorem isf_run (F : Lx Γ) (L : Nat) {q : Rat} (h : Sz q) (b : Bool) : run1 (Γ (L + 1)) f__law_is_fraction [.val b (fr q)] = .ok (false, .bl true) [some (.val b (fr q))] := by
  have hl := low_run F L (t := q.num) (b := q.den) q.den_nz (Nat.lt_trans h.2 (Nat.pow_lt_pow_right (by decide) (by decide)))
  rw [Rat.mkRat_self] at hl
  have e0 : eqOk (.lst []) (.lst []) = true := by decide
  have e1 : (D.lst []).eqv (.lst []) = true := by decide
  have e2 : eqOk (fr q) (fr q) = true := Lk.eqOk (lk_fr (n := 0)) (lk_fr (n := 0)) (by decide)
  have e3 : (fr q).eqv (fr q) = true := (lk_fr (q := q) (n := 0)).all.2.1
  have he : eqC (fr q) (fr q) = none := rfl
  have hi : isiD [.tuple] (fr q) = some (.bl true) := rfl
  have hlen : (Op.bi .len).ap (Γ (L + 1)).flds [fr q] = some (.int 2) := rfl
  have hws : walkS .seq [fr q] = some [.int q.num, .int q.den] := rfl
  have hge : (1 : Int) ≤ (q.den : Int) := by have := q.den_nz; omega
  have ht : ∀ d, turns (fun ρ => held ρ [.val d] [d]) (lcF (Γ (L + 1)) [1] (.nm 1) [.or [.not (.ap (.isi [.int]) [.var 1]), .ap (.isi [.bool]) [.var 1]]] (.cst (.int 1))) [.int q.num, .int q.den] [some (.val b (fr q)), none] = .ok [] [some (.val b (fr q)), none] := fun d => by
    rw [turns_map (g := fun _ => none) held_val (fun x hx => by
      have : ∃ i : Int, x = .int i := by
        rcases List.mem_cons.mp hx with rfl | hx
        · exact ⟨_, rfl⟩
        · rw [List.mem_singleton.mp hx]
          exact ⟨_, rfl⟩
      obtain ⟨i, rfl⟩ := this
      simp [lcF_eq, D.isa])]
    congr 1
  have n0 := fr_num (fl := (Γ (L + 1)).flds) (q := q)
  have n1 := fr_den (fl := (Γ (L + 1)).flds) (q := q)
  generalize fr q = Q at *
  simp [run1_eq, f__law_is_fraction, finR, hi, hlen, ev_comp, hws, ht, e0, e1, n0, n1, hge, F.low.has, F.low.frz, F.low.cal, hl, he, e2, e3]
theorem arf_run (F : Lx Γ) (kf : Knows Γ "_law_is_fraction" f__law_is_fraction) (L : Nat) {l : List Rat} (h : ∀ q ∈ l, Sz q) {t : Nat} (ht : l.length = t) (h2 : t ≤ 1000) (b b1 : Bool) : run1 (Γ (L + 2)) f__law_are_fractions [.val b (.tup (l.map fr)), .val b1 (.int t)] = .ok (false, .bl true) [some (.val b (.tup (l.map fr))), some (.val b1 (.int t))] := by
  have e0 : eqOk (.lst []) (.lst []) = true := by decide
  have e1 : (D.lst []).eqv (.lst []) = true := by decide
  have hws : walkS .seq [.tup (l.map fr)] = some (l.map fr) := walkS_seqR (t := true) (by rw [List.length_map]; omega)
  have hlen : (Op.bi .len).ap (Γ (L + 2)).flds [.tup (l.map fr)] = some (.int t) := by
    show some (D.int ((l.map fr).length : Int)) = _
    rw [List.length_map, ht]
  have htu : ∀ d, turns (fun ρ => held ρ [.val d] [d]) (lcF (Γ (L + 2)) [2] (.nm 2) [.not (.call "_law_is_fraction" [.var 2])] (.cst (.int 1))) (l.map fr) [some (.val b (.tup (l.map fr))), some (.val b1 (.int t)), none] = .ok [] [some (.val b (.tup (l.map fr))), some (.val b1 (.int t)), none] := fun d => by
    rw [turns_map (g := fun _ => none) held_val (fun x hx => by
      obtain ⟨q, hq, rfl⟩ := List.mem_map.mp hx
      have := fun b => isf_run F L (h q hq) b
      generalize fr q = Q at *
      generalize l.map fr = ll at *
      simp [lcF_eq, kf.has, kf.frz, kf.cal, this])]
    congr 1
    exact List.filterMap_eq_nil_iff.mpr fun _ _ => rfl
  have hi : isiD [.list, .tuple] (.tup (l.map fr)) = some (.bl true) := rfl
  generalize l.map fr = ll at *
  simp [run1_eq, f__law_are_fractions, finR, hi, hlen, -o_len, ev_comp, hws, htu, e0, e1]
theorem lspot_run (L : Nat) {nds : List Nd} {ps : List Pp} (h : NetOk nds ps) {i : Nat} {n : Nd} (hi : nds[i]? = some n) (b b1 : Bool) : run1 (Γ L) f__law_spot [.val b (partsD nds ps), .val b1 (st n.nm)] = .ok (false, .int i) [some (.val b (partsD nds ps)), some (.val b1 (st n.nm))] := by
  have f0 : Op.idx.ap (Γ L).flds [partsD nds ps, .int 0] = some (.tup (nds.map Nd.D)) := rfl
  have hn8 := h.n2
  have hws : walkS .seq [.tup (nds.map Nd.D)] = some (nds.map Nd.D) := walkS_seqR (t := true) (by rw [List.length_map]; omega)
  have htu : ∀ o0 o1 d, turns (fun ρ => held ρ [.val d] [d]) (lcF (Γ L) [2] (.nm 2) [] (.ap .idx [.var 2, .cst (.int 0)])) (nds.map Nd.D) [o0, o1, none] = .ok (nds.map fun n => st n.nm) [o0, o1, none] := fun o0 o1 d => turns_on held_val fun n hm => by
    have d0 : Op.idx.ap (Γ L).flds [n.D, .int 0] = some (st n.nm) := rfl
    generalize n.D = ND at *
    simp [lcF_eq, d0]
  have hfd : ∀ {l : List Nd} {i : Nat}, (l.map Nd.nm).Nodup → l[i]? = some n → findD (st n.nm) (l.map fun n => st n.nm) = some i := fun {l} => by
    induction l with
    | nil => intro i _ hi; simp at hi
    | cons m l ih =>
      intro i hd hi
      rw [List.map_cons, List.nodup_cons] at hd
      rw [List.map_cons]
      unfold findD
      cases i with
      | zero =>
        cases hi
        rw [if_pos (by simp)]
      | succ i =>
        have hi : l[i]? = some n := by simpa using hi
        have hne : ¬ m.nm = n.nm := fun z => hd.1 (by rw [z]; exact List.mem_map_of_mem (List.mem_of_getElem? hi))
        rw [if_neg (by simpa using hne), ih hd.2 hi]
        rfl
  have hix : ixD (nds.map fun n => st n.nm) [st n.nm] = some (.int i) := by
    show (if flatD (st n.nm) = true ∧ (nds.map fun n => st n.nm).all flatD = true then _ else none) = _
    rw [if_pos ⟨rfl, List.all_eq_true.mpr fun d hd => by obtain ⟨m, _, rfl⟩ := List.mem_map.mp hd; rfl⟩, hfd h.nn hi]
    rfl
  generalize partsD nds ps = N at *
  generalize nds.map (fun n => st n.nm) = NN at *
  generalize nds.map Nd.D = MM at *
  simp [run1_eq, f__law_spot, finR, f0, ev_comp, hws, htu, hix]
end Pf
end
section
set_option Elab.async false
set_option linter.all false
set_option maxRecDepth 100000
set_option maxHeartbeats 4000000
/-! Fx14: joints. -/
namespace Pf
open PySem PySem.Spec PyProof.Rows L2
variable {Γ : Nat → Ga}
theorem turns_opt {α : Type} {hd : Rho → Bool} {f : D → Rho → Out (Option D)} {ρ : Rho} {dn : α → D} {gn : α → Option D} (h : hd ρ = true) : ∀ {ns : List α}, (∀ n ∈ ns, f (dn n) ρ = .ok (gn n) ρ) → turns hd f (ns.map dn) ρ = .ok (ns.filterMap gn) ρ
  | [], _ => by
    rw [List.map_nil]
    unfold turns
    rw [if_pos h]
    rfl
  | n :: ns, hx => by
    rw [List.map_cons]
    unfold turns
    have ih := turns_opt h (ns := ns) fun m hm => hx m (List.mem_cons_of_mem _ hm)
    rw [if_pos h, hx n List.mem_cons_self, List.filterMap_cons]
    cases hg : gn n with
    | none => exact ih
    | some d => simp only [ih, bnd_ok]
def jts (nds : List Nd) : List (List Nat) := nds.filterMap fun n => if n.tank = true then none else some n.nm
theorem jts_mem {nds : List Nd} {x : List Nat} (h : x ∈ jts nds) : ∃ (i : Nat) (n : Nd), nds[i]? = some n ∧ n.tank = false ∧ n.nm = x := by
  obtain ⟨n, hn, hx⟩ := List.mem_filterMap.mp h
  obtain ⟨i, hi⟩ := List.getElem?_of_mem hn
  by_cases ht : n.tank = true
  · rw [if_pos ht] at hx
    cases hx
  · rw [if_neg ht] at hx
    exact ⟨i, n, hi, by simpa using ht, Option.some.inj hx⟩
theorem jts_len {nds : List Nd} : (jts nds).length ≤ nds.length := List.length_filterMap_le _ _
theorem joints_run (L : Nat) {nds : List Nd} {ps : List Pp} (h : NetOk nds ps) (b : Bool) : run1 (Γ L) f__law_joints [.val b (partsD nds ps)] = .ok (true, .lst ((jts nds).map st)) [some (.val b (partsD nds ps))] := by
  have f0 : Op.idx.ap (Γ L).flds [partsD nds ps, .int 0] = some (.tup (nds.map Nd.D)) := rfl
  have hn8 := h.n2
  have hws : walkS .seq [.tup (nds.map Nd.D)] = some (nds.map Nd.D) := walkS_seqR (t := true) (by rw [List.length_map]; omega)
  have hjt : (("tank" : Str) = "joint") = False := eq_false (by decide +kernel)
  have htu : ∀ o0 d, turns (fun ρ => held ρ [.val d] [d]) (lcF (Γ L) [1] (.nm 1) [.ap (.cmp .eq) [.ap .idx [.var 1, .cst (.int 1)], .cst (.str "joint")]] (.ap .idx [.var 1, .cst (.int 0)])) (nds.map Nd.D) [o0, none] = .ok (nds.filterMap fun n => if n.tank = true then none else some (st n.nm)) [o0, none] := fun o0 d => turns_opt held_val fun n hm => by
    have d0 : Op.idx.ap (Γ L).flds [n.D, .int 0] = some (st n.nm) := rfl
    have d1 : Op.idx.ap (Γ L).flds [n.D, .int 1] = some (.str (kindS n.tank)) := rfl
    generalize n.D = ND at *
    cases ht : n.tank with
    | true =>
      have hk : kindS true = "tank" := rfl
      rw [ht, hk] at d1
      simp [lcF_eq, d0, d1, eqv_str, hjt]
    | false =>
      have hk : kindS false = "joint" := rfl
      rw [ht, hk] at d1
      simp [lcF_eq, d0, d1, eqv_str]
  have hj : (nds.filterMap fun n => if n.tank = true then none else some (st n.nm)) = (jts nds).map st := by
    unfold jts
    rw [List.map_filterMap]
    congr 1
    funext n
    by_cases ht : n.tank = true
    · rw [if_pos ht, if_pos ht]
      rfl
    · rw [if_neg ht, if_neg ht]
      rfl
  rw [hj] at htu
  generalize partsD nds ps = N at *
  generalize (jts nds).map st = NN at *
  generalize nds.map Nd.D = MM at *
  simp [run1_eq, f__law_joints, finR, f0, ev_comp, hws, htu]
theorem lk_sts {l : List (List Nat)} {n : Nat} (h : l.length ≤ 1000) : Lk (n + 1) (.lst (l.map st)) := .lst _ (fun d hd => by
  obtain ⟨q, _, rfl⟩ := List.mem_map.mp hd
  exact .str _) (by rw [List.length_map]; omega)
theorem wj_run (kj : Knows Γ "_law_joints" f__law_joints) (L : Nat) {nds : List Nd} {ps : List Pp} (h : NetOk nds ps) : ∃ nds', NetOk nds' ps ∧ jts nds' ≠ [] ∧ ∀ b, run1 (Γ (L + 1)) f__law_with_joint [.val b (partsD nds ps)] = .ok (false, partsD nds' ps) [some (.val b (partsD nds ps))] := by
  have hjr := fun b => joints_run (Γ := Γ) L h b
  have hn8 := h.n2
  have hk : Lk 1 (.lst ((jts nds).map st)) := lk_sts (by have := jts_len (nds := nds); omega)
  have hk0 : Lk 1 (.lst []) := .lst _ (fun d hd => by cases hd) (by simp)
  have he := Lk.eqOk hk hk0 (by decide)
  have f0 : Op.idx.ap (Γ (L + 1)).flds [partsD nds ps, .int 0] = some (.tup (nds.map Nd.D)) := rfl
  have f1 : Op.idx.ap (Γ (L + 1)).flds [partsD nds ps, .int 1] = some (.tup (ps.map Pp.D)) := rfl
  by_cases hj : jts nds = []
  · obtain ⟨m, tl, rfl⟩ : ∃ m tl, nds = m :: tl := by
      cases nds with
      | nil => have := h.n1; simp at this
      | cons m tl => exact ⟨m, tl, rfl⟩
    refine ⟨⟨m.nm, false, 0⟩ :: tl, ⟨h.n1, h.n2, h.nn, fun n hn => ?_, h.p1, h.p2, h.pn, h.pk, fun n hn => ?_⟩, ?_, ?_⟩
    · rcases List.mem_cons.mp hn with rfl | hn
      · exact ⟨(h.nk m List.mem_cons_self).nm, fun z => (by cases z), Nat.zero_le _⟩
      · exact h.nk n (List.mem_cons_of_mem _ hn)
    · rcases List.mem_cons.mp hn with rfl | hn
      · exact h.cov m List.mem_cons_self
      · exact h.cov n (List.mem_cons_of_mem _ hn)
    · unfold jts
      rw [List.filterMap_cons]
      simp
    · intro b
      have i0 : Op.idx.ap (Γ (L + 1)).flds [.tup ((m :: tl).map Nd.D), .int 0] = some m.D := by
        show atI ((m :: tl).map Nd.D) ((0 : Nat) : Int) = _
        rw [atI_nat]
        rfl
      have d0 : Op.idx.ap (Γ (L + 1)).flds [m.D, .int 0] = some (st m.nm) := rfl
      have hsl : slcO (.tup ((m :: tl).map Nd.D)) (some 1) none = some (.tup (tl.map Nd.D)) := by
        show some (D.tup (cutL ((m :: tl).map Nd.D) (some 1) none)) = _
        rw [cutL_drop (by simp)]
        rfl
      have hsz : szl (1 + tl.length) = true := decide_eq_true (by rw [List.length_cons] at hn8; omega)
      have hfin : D.tup [.tup (.tup [st m.nm, .str "joint", .int 0] :: tl.map Nd.D), .tup (ps.map Pp.D)] = partsD (⟨m.nm, false, 0⟩ :: tl) ps := rfl
      rw [← hfin]
      rw [hj] at hjr he
      generalize partsD (m :: tl) ps = N at *
      generalize (m :: tl).map Nd.D = MM at *
      generalize m.D = MD at *
      simp [run1_eq, f__law_with_joint, finR, kj.has, kj.frz, kj.cal, hjr, he, f0, f1, i0, d0, hsl, hsz, show eqOk (.lst []) (.lst []) = true from by decide, show (D.lst []).eqv (.lst []) = true from by decide, -o_idxT]
  · refine ⟨nds, h, hj, fun b => ?_⟩
    have hne : (D.lst ((jts nds).map st)).eqv (.lst []) = false := by
      cases hjj : jts nds with
      | nil => exact absurd hjj hj
      | cons a l => rfl
    generalize partsD nds ps = N at *
    generalize (jts nds).map st = NN at *
    simp [run1_eq, f__law_with_joint, finR, kj.has, kj.frz, kj.cal, hjr, he, hne]
end Pf
end
section
set_option Elab.async false
set_option linter.all false
set_option maxRecDepth 100000
set_option maxHeartbeats 4000000
/-! Fx15: reciprocity: the plain law. -/
namespace Pf
open PySem PySem.Spec PyProof.Rows L2
/-! ### sums -/
def sumL {α : Type} (f : α → Rat) : List α → Rat
  | [] => 0
  | a :: l => f a + sumL f l
def sumI (f : Nat → Pp → Rat) : Nat → List Pp → Rat
  | _, [] => 0
  | k, p :: ps => f k p + sumI f (k + 1) ps
def sumT (f : Nat → Rat) : Nat → Rat
  | 0 => 0
  | n + 1 => sumT f n + f n
section
variable {α : Type}
theorem sumL_add (f g : α → Rat) (l : List α) : sumL (fun a => f a + g a) l = sumL f l + sumL g l := by
  induction l with
  | nil => exact (Rat.add_zero 0).symm
  | cons a l ih => unfold sumL; rw [ih]; grind
theorem sumL_sub (f g : α → Rat) (l : List α) : sumL (fun a => f a - g a) l = sumL f l - sumL g l := by
  induction l with
  | nil => show (0 : Rat) = 0 - 0; grind
  | cons a l ih => unfold sumL; rw [ih]; grind
theorem sumL_zero (l : List α) : sumL (fun _ => (0 : Rat)) l = 0 := by
  induction l with
  | nil => rfl
  | cons a l ih => unfold sumL; rw [ih]; grind
theorem sumL_congr {f g : α → Rat} {l : List α} (h : ∀ a ∈ l, f a = g a) : sumL f l = sumL g l := by
  induction l with
  | nil => rfl
  | cons a l ih => unfold sumL; rw [h a List.mem_cons_self, ih fun b hb => h b (List.mem_cons_of_mem _ hb)]
theorem sumQ_map (f : α → Rat) (l : List α) : sumQ (l.map f) = sumL f l := by
  induction l with
  | nil => rfl
  | cons a l ih => rw [List.map_cons]; unfold sumQ sumL; rw [ih]
theorem sumI_sub (f g : Nat → Pp → Rat) : ∀ (ps : List Pp) (k : Nat), sumI (fun i p => f i p - g i p) k ps = sumI f k ps - sumI g k ps
  | [], _ => by show (0 : Rat) = 0 - 0; grind
  | p :: ps, k => by unfold sumI; rw [sumI_sub f g ps]; grind
theorem sumI_zero : ∀ (ps : List Pp) (k : Nat), sumI (fun _ _ => (0 : Rat)) k ps = 0
  | [], _ => rfl
  | p :: ps, k => by unfold sumI; rw [sumI_zero ps]; grind
theorem sumI_add (f g : Nat → Pp → Rat) : ∀ (ps : List Pp) (k : Nat), sumI (fun i p => f i p + g i p) k ps = sumI f k ps + sumI g k ps
  | [], _ => by show (0 : Rat) = 0 + 0; grind
  | p :: ps, k => by unfold sumI; rw [sumI_add f g ps]; grind
theorem sumI_congr {f g : Nat → Pp → Rat} : ∀ {ps : List Pp} {k : Nat}, (∀ (i : Nat) (p : Pp), ps[i]? = some p → f (k + i) p = g (k + i) p) → sumI f k ps = sumI g k ps
  | [], _, _ => rfl
  | p :: ps, k, h => by
    have h0 : f k p = g k p := h 0 p rfl
    have h1 := sumI_congr (f := f) (g := g) (ps := ps) (k := k + 1) fun i q hq => by
      have := h (i + 1) q (by simpa using hq)
      rwa [show k + 1 + i = k + (i + 1) by omega]
    show f k p + sumI f (k + 1) ps = g k p + sumI g (k + 1) ps
    rw [h0, h1]
theorem sumT_sub (f g : Nat → Rat) (n : Nat) : sumT (fun t => f t - g t) n = sumT f n - sumT g n := by
  induction n with
  | zero => show (0 : Rat) = 0 - 0; grind
  | succ n ih => unfold sumT; rw [ih]; grind
theorem sumT_add (f g : Nat → Rat) (n : Nat) : sumT (fun t => f t + g t) n = sumT f n + sumT g n := by
  induction n with
  | zero => show (0 : Rat) = 0 + 0; grind
  | succ n ih => unfold sumT; rw [ih]; grind
theorem sumT_mul (c : Rat) (f : Nat → Rat) (n : Nat) : sumT (fun t => c * f t) n = c * sumT f n := by
  induction n with
  | zero => show (0 : Rat) = c * 0; grind
  | succ n ih => unfold sumT; rw [ih]; grind
theorem sumT_zero (n : Nat) : sumT (fun _ => (0 : Rat)) n = 0 := by
  induction n with
  | zero => rfl
  | succ n ih => unfold sumT; rw [ih]; grind
theorem sumT_congr {f g : Nat → Rat} {n : Nat} (h : ∀ t, t < n → f t = g t) : sumT f n = sumT g n := by
  induction n with
  | zero => rfl
  | succ n ih => unfold sumT; rw [ih fun t ht => h t (by omega), h n (by omega)]
theorem sumT_I (f : Nat → Nat → Pp → Rat) (n : Nat) : ∀ (ps : List Pp) (k : Nat), sumT (fun t => sumI (f t) k ps) n = sumI (fun i p => sumT (fun t => f t i p) n) k ps
  | [], k => sumT_zero n
  | p :: ps, k => by
    show sumT (fun t => f t k p + sumI (f t) (k + 1) ps) n = _
    rw [sumT_add, sumT_I f n ps]
    rfl
end
/-! ### delays -/
def del (T : Nat) (x : Nat → Rat) (t : Nat) : Rat := if t < T then 0 else x (t - T)
theorem shiftA (T : Nat) (g : Nat → Rat) (n : Nat) : sumT (fun t => if t < T then 0 else g (t - T)) n = sumT g (n - T) := by
  induction n with
  | zero => rw [Nat.zero_sub]; rfl
  | succ n ih =>
    show sumT _ n + (if n < T then 0 else g (n - T)) = _
    rw [ih]
    by_cases h : n < T
    · rw [if_pos h, show n + 1 - T = 0 by omega, show n - T = 0 by omega, Rat.add_zero]
    · rw [if_neg h, show n + 1 - T = (n - T) + 1 by omega]
      rfl
theorem shiftB (T N : Nat) (g : Nat → Rat) (n : Nat) : sumT (fun t => if t + T < N then g t else 0) n = sumT g (min n (N - T)) := by
  induction n with
  | zero => rw [Nat.zero_min]; rfl
  | succ n ih =>
    show sumT _ n + (if n + T < N then g n else 0) = _
    rw [ih]
    by_cases h : n + T < N
    · rw [if_pos h, show min (n + 1) (N - T) = n + 1 by omega, show min n (N - T) = n by omega]
      rfl
    · rw [if_neg h, show min (n + 1) (N - T) = min n (N - T) by omega, Rat.add_zero]
/-- a delay may stand at either side -/
theorem conv_del (T : Nat) (x y : Nat → Rat) (N : Nat) : sumT (fun t => x t * del T y (N - 1 - t)) N = sumT (fun t => del T x t * y (N - 1 - t)) N := by
  have h1 : sumT (fun t => x t * del T y (N - 1 - t)) N = sumT (fun t => x t * y (N - 1 - (t + T))) (N - T) := by
    have := shiftB T N (fun t => x t * y (N - 1 - (t + T))) N
    rw [Nat.min_eq_right (by omega)] at this
    rw [← this]
    refine sumT_congr fun t ht => ?_
    unfold del
    by_cases h : t + T < N
    · rw [if_pos h, if_neg (by omega), show N - 1 - t - T = N - 1 - (t + T) by omega]
    · rw [if_neg h, if_pos (by omega), Rat.mul_zero]
  have h2 : sumT (fun t => del T x t * y (N - 1 - t)) N = sumT (fun t => x t * y (N - 1 - (t + T))) (N - T) := by
    have := shiftA T (fun t => x t * y (N - 1 - (t + T))) N
    rw [← this]
    refine sumT_congr fun t ht => ?_
    unfold del
    by_cases h : t < T
    · rw [if_pos h, if_pos h, Rat.zero_mul]
    · rw [if_neg h, if_neg h, show t - T + T = t by omega]
  rw [h1, h2]
theorem sumT_rev (f : Nat → Rat) (n : Nat) : sumT (fun t => f (n - 1 - t)) n = sumT f n := by
  have key : ∀ (n : Nat) (f : Nat → Rat), sumT f (n + 1) = f 0 + sumT (fun t => f (t + 1)) n := fun n => by
    induction n with
    | zero => intro f; show 0 + f 0 = f 0 + 0; grind
    | succ n ih =>
      intro f
      show sumT f (n + 1) + f (n + 1) = f 0 + (sumT (fun t => f (t + 1)) n + f (n + 1))
      rw [ih f]
      grind
  induction n with
  | zero => rfl
  | succ n ih =>
    rw [key n (fun t => f (n + 1 - 1 - t))]
    show f n + sumT (fun t => f (n - (t + 1))) n = sumT f n + f n
    have : sumT (fun t => f (n - (t + 1))) n = sumT (fun t => f (n - 1 - t)) n := sumT_congr fun t _ => by rw [show n - (t + 1) = n - 1 - t by omega]
    rw [this, ih, Rat.add_comm]
end Pf
end
section
set_option Elab.async false
set_option linter.all false
set_option maxRecDepth 100000
set_option maxHeartbeats 4000000
/-! Fx16: courses of waves; reciprocity. -/
namespace Pf
open PySem PySem.Spec PyProof.Rows L2
section
variable (nds : List Nd) (ps : List Pp)
def wT (u : Nat → List Nat → Rat) : Nat → List Wv
  | 0 => restW ps
  | t + 1 => tickW nds ps (wT u t) (u t)
def hT (u : Nat → List Nat → Rat) (t : Nat) (x : List Nat) : Rat := hAt nds ps (wT nds ps u t) (u t) x
def in1 (u : Nat → List Nat → Rat) (i t : Nat) : Rat := hdQ (((wT nds ps u t)[i]?).getD ([], [])).2
def in2 (u : Nat → List Nat → Rat) (i t : Nat) : Rat := hdQ (((wT nds ps u t)[i]?).getD ([], [])).1
def out1 (u : Nat → List Nat → Rat) (i : Nat) (p : Pp) (t : Nat) : Rat := hT nds ps u t p.one - in1 nds ps u i t
def out2 (u : Nat → List Nat → Rat) (i : Nat) (p : Pp) (t : Nat) : Rat := hT nds ps u t p.other - in2 nds ps u i t
end
def lineQ (T : Nat) (x : Nat → Rat) (t : Nat) : List Rat := (List.range T).map fun k => del T x (t + k)
theorem lineQ_zero {T : Nat} {x : Nat → Rat} : lineQ T x 0 = List.replicate T 0 := by
  refine List.eq_replicate_iff.mpr ⟨by unfold lineQ; rw [List.length_map, List.length_range], fun b hb => ?_⟩
  unfold lineQ at hb
  obtain ⟨k, hk, rfl⟩ := List.mem_map.mp hb
  unfold del
  rw [if_pos (by rw [Nat.zero_add]; exact List.mem_range.mp hk)]
theorem lineQ_step {T : Nat} {x : Nat → Rat} {t : Nat} (h : 1 ≤ T) : (lineQ T x t).tail ++ [x t] = lineQ T x (t + 1) := by
  obtain ⟨T, rfl⟩ : ∃ k, T = k + 1 := ⟨T - 1, by omega⟩
  unfold lineQ
  rw [List.range_succ_eq_map, List.map_cons, List.tail_cons, ← List.range_succ_eq_map, List.range_succ, List.map_append, List.map_map]
  congr 1
  · refine List.map_congr_left fun k _ => ?_
    show del (T + 1) x (t + (k + 1)) = _
    rw [show t + (k + 1) = t + 1 + k by omega]
  · show [x t] = [del (T + 1) x (t + 1 + T)]
    unfold del
    rw [if_neg (by omega), show t + 1 + T - (T + 1) = t by omega]
theorem lineQ_hd {T : Nat} {x : Nat → Rat} {t : Nat} (h : 1 ≤ T) : hdQ (lineQ T x t) = del T x t := by
  obtain ⟨T, rfl⟩ : ∃ k, T = k + 1 := ⟨T - 1, by omega⟩
  unfold lineQ
  rw [List.range_succ_eq_map, List.map_cons]
  rfl
theorem wT_at {nds : List Nd} {ps : List Pp} (hn : NetOk nds ps) (u : Nat → List Nat → Rat) {i : Nat} {p : Pp} (hp : ps[i]? = some p) : ∀ t, (wT nds ps u t)[i]? = some (lineQ p.ticks (out1 nds ps u i p) t, lineQ p.ticks (out2 nds ps u i p) t)
  | 0 => by
    show (restW ps)[i]? = _
    unfold restW
    rw [List.getElem?_map, hp, lineQ_zero, lineQ_zero]
    rfl
  | t + 1 => by
    have ih := wT_at hn u hp t
    have hpk := hn.pk p (List.mem_of_getElem? hp)
    show (tickW nds ps (wT nds ps u t) (u t))[i]? = _
    unfold tickW
    rw [List.getElem?_zipWith, hp, ih]
    show some (nextW _ p _) = _
    unfold nextW
    have e1 : hAt nds ps (wT nds ps u t) (u t) p.one - hdQ (lineQ p.ticks (out2 nds ps u i p) t) = out1 nds ps u i p t := by
      unfold out1 in1 hT
      rw [ih]
      rfl
    have e2 : hAt nds ps (wT nds ps u t) (u t) p.other - hdQ (lineQ p.ticks (out1 nds ps u i p) t) = out2 nds ps u i p t := by
      unfold out2 in2 hT
      rw [ih]
      rfl
    show some (_ ++ [_ - hdQ (lineQ p.ticks (out2 nds ps u i p) t)], _ ++ [_ - hdQ (lineQ p.ticks (out1 nds ps u i p) t)]) = _
    rw [e1, e2, lineQ_step hpk.t1, lineQ_step hpk.t1]
theorem in1_del {nds : List Nd} {ps : List Pp} (hn : NetOk nds ps) (u : Nat → List Nat → Rat) {i : Nat} {p : Pp} (hp : ps[i]? = some p) (t : Nat) : in1 nds ps u i t = del p.ticks (out2 nds ps u i p) t := by
  unfold in1
  rw [wT_at hn u hp]
  exact lineQ_hd (hn.pk p (List.mem_of_getElem? hp)).t1
theorem in2_del {nds : List Nd} {ps : List Pp} (hn : NetOk nds ps) (u : Nat → List Nat → Rat) {i : Nat} {p : Pp} (hp : ps[i]? = some p) (t : Nat) : in2 nds ps u i t = del p.ticks (out1 nds ps u i p) t := by
  unfold in2
  rw [wT_at hn u hp]
  exact lineQ_hd (hn.pk p (List.mem_of_getElem? hp)).t1
/-! ### the nodes' equations -/
theorem pick_one {nds : List Nd} (hd : (nds.map Nd.nm).Nodup) {x : List Nat} (hx : x ∈ nds.map Nd.nm) (F : List Nat → Rat) : sumL (fun n : Nd => if x = n.nm then F n.nm else 0) nds = F x := by
  induction nds with
  | nil => cases hx
  | cons m l ih =>
    rw [List.map_cons, List.nodup_cons] at hd
    rw [List.map_cons] at hx
    show (if x = m.nm then F m.nm else 0) + sumL _ l = F x
    by_cases h : x = m.nm
    · rw [if_pos h]
      have : sumL (fun n : Nd => if x = n.nm then F n.nm else 0) l = sumL (fun _ => (0 : Rat)) l := sumL_congr fun n hn => if_neg fun z => hd.1 (by rw [← h, z]; exact List.mem_map_of_mem hn)
      rw [this, sumL_zero, Rat.add_zero, h]
    · rw [if_neg h, ih hd.2 ((List.mem_cons.mp hx).resolve_left h), Rat.zero_add]
theorem ends_sum {nds : List Nd} (hd : (nds.map Nd.nm).Nodup) (g : List Nat → Rat) (c : List Nat → Nat × Nat → Rat) : ∀ {ps : List Pp} {k : Nat}, (∀ p ∈ ps, p.one ∈ nds.map Nd.nm ∧ p.other ∈ nds.map Nd.nm ∧ p.one ≠ p.other) →
    sumL (fun n : Nd => g n.nm * sumQ ((endsN k ps n.nm).map (c n.nm))) nds = sumI (fun i p => g p.one * c p.one (i, 0) + g p.other * c p.other (i, 1)) k ps
  | [], k, _ => by
    have : sumL (fun n : Nd => g n.nm * sumQ ((endsN k [] n.nm).map (c n.nm))) nds = sumL (fun _ => (0 : Rat)) nds := sumL_congr fun n _ => Rat.mul_zero _
    rw [this, sumL_zero]
    rfl
  | p :: ps, k, h => by
    obtain ⟨h1, h2, h3⟩ := h p List.mem_cons_self
    have ih := ends_sum hd g c (ps := ps) (k := k + 1) fun q hq => h q (List.mem_cons_of_mem _ hq)
    have p1 := pick_one hd h1 fun x => g x * c x (k, 0)
    have p2 := pick_one hd h2 fun x => g x * c x (k, 1)
    show _ = g p.one * c p.one (k, 0) + g p.other * c p.other (k, 1) + sumI _ (k + 1) ps
    rw [← ih, ← p1, ← p2, ← sumL_add, ← sumL_add]
    refine sumL_congr fun n _ => ?_
    show g n.nm * sumQ ((_ ++ endsN (k + 1) ps n.nm).map (c n.nm)) = _
    rw [List.map_append, sumQ_app]
    by_cases e1 : p.one = n.nm
    · have e2 : ¬ p.other = n.nm := fun z => h3 (e1.trans z.symm)
      rw [if_pos e1, if_pos e1, if_neg e2, List.map_cons, List.map_nil, sumQ_one]
      grind
    · by_cases e2 : p.other = n.nm
      · rw [if_neg e1, if_pos e2, if_neg e1, if_pos e2, List.map_cons, List.map_nil, sumQ_one]
        grind
      · rw [if_neg e1, if_neg e2, if_neg e1, if_neg e2, List.map_nil]
        show g n.nm * (0 + _) = 0 + 0 + _
        grind
theorem sumQ_lin (a b : Nat × Nat → Rat) (h : Rat) (l : List (Nat × Nat)) : sumQ (l.map fun e => a e * h - b e) = sumQ (l.map a) * h - sumQ (l.map b) := by
  induction l with
  | nil => show (0 : Rat) = 0 * h - 0; grind
  | cons e l ih =>
    rw [List.map_cons, List.map_cons, List.map_cons]
    unfold sumQ
    rw [ih]
    grind
theorem siz_cast (ps : List Pp) : ∀ l : List (Nat × Nat), (((l.map (endS ps)).sum : Nat) : Rat) = sumQ (l.map fun e => ((endS ps e : Nat) : Rat))
  | [] => rfl
  | e :: l => by
    rw [List.map_cons, List.sum_cons, Rat.natCast_add, siz_cast ps l]
    rfl
/-- a joint's equation -/
theorem joint_eq {nds : List Nd} {ps : List Pp} (hn : NetOk nds ps) (ws : List Wv) {n : Nd} (hm : n ∈ nds) (ht : n.tank = false) (u : Rat) : (n.ves : Rat) * headQ ps ws n u + sumQ ((endsN 0 ps n.nm).map fun e => ((endS ps e : Nat) : Rat) * headQ ps ws n u - endC ps ws e) = -u := by
  obtain ⟨s1, _⟩ := szN_le hn hm
  rw [sumQ_lin, ← siz_cast]
  have hS : ((n.ves + siz ps n.nm : Nat) : Rat) ≠ 0 := fun z => by
    have : (n.ves + siz ps n.nm : Nat) = 0 := by exact_mod_cast z
    unfold szN at s1
    omega
  have h1 : headQ ps ws n u = (inc ps ws n.nm - u) / ((n.ves + siz ps n.nm : Nat) : Rat) := by unfold headQ; rw [if_neg (by rw [ht]; decide)]
  have h2 : headQ ps ws n u * ((n.ves + siz ps n.nm : Nat) : Rat) = inc ps ws n.nm - u := by rw [h1]; exact Rat.div_mul_cancel hS
  rw [Rat.natCast_add] at h2
  have h3 : (((endsN 0 ps n.nm).map (endS ps)).sum : Nat) = siz ps n.nm := rfl
  have h4 : sumQ ((endsN 0 ps n.nm).map (endC ps ws)) = inc ps ws n.nm := rfl
  rw [h3, h4]
  grind
theorem hT_at {nds : List Nd} {ps : List Pp} (hn : NetOk nds ps) (u : Nat → List Nat → Rat) (t : Nat) {n : Nd} (hm : n ∈ nds) : hT nds ps u t n.nm = headQ ps (wT nds ps u t) n (u t n.nm) := by
  obtain ⟨i, hi⟩ := List.getElem?_of_mem hm
  exact hAt_eq hn.nn hi
theorem hT_tank {nds : List Nd} {ps : List Pp} (hn : NetOk nds ps) (u : Nat → List Nat → Rat) (t : Nat) {n : Nd} (hm : n ∈ nds) (ht : n.tank = true) : hT nds ps u t n.nm = 0 := by
  rw [hT_at hn u t hm]
  unfold headQ
  rw [if_pos ht]
/-- all equations of a tick, each with its weight -/
theorem net_eq {nds : List Nd} {ps : List Pp} (hn : NetOk nds ps) (u : Nat → List Nat → Rat) (t : Nat) (g : List Nat → Rat) (hg : ∀ n ∈ nds, n.tank = true → g n.nm = 0) :
    sumL (fun n : Nd => g n.nm * ((n.ves : Rat) * hT nds ps u t n.nm)) nds + sumI (fun i p => g p.one * ((p.size : Rat) * hT nds ps u t p.one - 2 * (p.size : Rat) * in1 nds ps u i t) + g p.other * ((p.size : Rat) * hT nds ps u t p.other - 2 * (p.size : Rat) * in2 nds ps u i t)) 0 ps = - sumL (fun n : Nd => g n.nm * u t n.nm) nds := by
  have h1 := ends_sum hn.nn g (fun x e => ((endS ps e : Nat) : Rat) * hT nds ps u t x - endC ps (wT nds ps u t) e) (ps := ps) (k := 0) fun p hp => ⟨(hn.pk p hp).one, (hn.pk p hp).other, (hn.pk p hp).ne⟩
  have h2 : sumI (fun i p => g p.one * ((p.size : Rat) * hT nds ps u t p.one - 2 * (p.size : Rat) * in1 nds ps u i t) + g p.other * ((p.size : Rat) * hT nds ps u t p.other - 2 * (p.size : Rat) * in2 nds ps u i t)) 0 ps =
      sumI (fun i p => g p.one * (((endS ps (i, 0) : Nat) : Rat) * hT nds ps u t p.one - endC ps (wT nds ps u t) (i, 0)) + g p.other * (((endS ps (i, 1) : Nat) : Rat) * hT nds ps u t p.other - endC ps (wT nds ps u t) (i, 1))) 0 ps := sumI_congr fun i p hp => by
    rw [Nat.zero_add]
    have e1 : ∀ s, endS ps (i, s) = p.size := fun s => by unfold endS; simp only [hp]
    have hw := wT_at hn u hp t
    have e2 : endC ps (wT nds ps u t) (i, 0) = 2 * (p.size : Rat) * in1 nds ps u i t := by
      unfold endC in1
      simp only [hp, hw, Rat.natCast_mul]
      rfl
    have e3 : endC ps (wT nds ps u t) (i, 1) = 2 * (p.size : Rat) * in2 nds ps u i t := by
      unfold endC in2
      simp only [hp, hw, Rat.natCast_mul]
      rfl
    rw [e1, e1, e2, e3]
  rw [h2, ← h1, ← sumL_add]
  have h3 : ∀ l : List Nd, - sumL (fun n : Nd => g n.nm * u t n.nm) l = sumL (fun n : Nd => g n.nm * - u t n.nm) l := fun l => by
    induction l with
    | nil => show -(0 : Rat) = 0; grind
    | cons a l ih =>
      show -(_ + sumL _ l) = _ + sumL _ l
      rw [← ih]
      grind
  rw [h3]
  refine sumL_congr fun n hm => ?_
  by_cases ht : n.tank = true
  · rw [hg n hm ht]
    grind
  · have := joint_eq hn (wT nds ps u t) hm (by simpa using ht) (u t n.nm)
    rw [← hT_at hn u t hm] at this
    rw [← this]
    grind
/-- two courses, one of them backwards -/
theorem cross_eq {nds : List Nd} {ps : List Pp} (hn : NetOk nds ps) (u v : Nat → List Nat → Rat) (t s : Nat) :
    sumL (fun n : Nd => hT nds ps u t n.nm * v s n.nm) nds - sumL (fun n : Nd => hT nds ps v s n.nm * u t n.nm) nds =
      sumI (fun i p => 2 * (p.size : Rat) * (out1 nds ps u i p t * in1 nds ps v i s - in1 nds ps u i t * out1 nds ps v i p s + (out2 nds ps u i p t * in2 nds ps v i s - in2 nds ps u i t * out2 nds ps v i p s))) 0 ps := by
  have h1 := net_eq hn u t (hT nds ps v s) fun n hm ht => hT_tank hn v s hm ht
  have h2 := net_eq hn v s (hT nds ps u t) fun n hm ht => hT_tank hn u t hm ht
  have h3 : sumL (fun n : Nd => hT nds ps v s n.nm * ((n.ves : Rat) * hT nds ps u t n.nm)) nds = sumL (fun n : Nd => hT nds ps u t n.nm * ((n.ves : Rat) * hT nds ps v s n.nm)) nds := sumL_congr fun n _ => by grind
  rw [h3] at h1
  have h4 : sumI (fun i p => 2 * (p.size : Rat) * (out1 nds ps u i p t * in1 nds ps v i s - in1 nds ps u i t * out1 nds ps v i p s + (out2 nds ps u i p t * in2 nds ps v i s - in2 nds ps u i t * out2 nds ps v i p s))) 0 ps =
      sumI (fun i p => hT nds ps v s p.one * ((p.size : Rat) * hT nds ps u t p.one - 2 * (p.size : Rat) * in1 nds ps u i t) + hT nds ps v s p.other * ((p.size : Rat) * hT nds ps u t p.other - 2 * (p.size : Rat) * in2 nds ps u i t)) 0 ps -
      sumI (fun i p => hT nds ps u t p.one * ((p.size : Rat) * hT nds ps v s p.one - 2 * (p.size : Rat) * in1 nds ps v i s) + hT nds ps u t p.other * ((p.size : Rat) * hT nds ps v s p.other - 2 * (p.size : Rat) * in2 nds ps v i s)) 0 ps := by
    rw [← sumI_sub]
    refine sumI_congr fun i p _ => ?_
    unfold out1 out2
    grind
  rw [h4]
  grind
theorem recip {nds : List Nd} {ps : List Pp} (hn : NetOk nds ps) (u v : Nat → List Nat → Rat) (N : Nat) :
    sumT (fun t => sumL (fun n : Nd => hT nds ps u t n.nm * v (N - 1 - t) n.nm) nds) N = sumT (fun t => sumL (fun n : Nd => hT nds ps v (N - 1 - t) n.nm * u t n.nm) nds) N := by
  have h1 : sumT (fun t => sumL (fun n : Nd => hT nds ps u t n.nm * v (N - 1 - t) n.nm) nds - sumL (fun n : Nd => hT nds ps v (N - 1 - t) n.nm * u t n.nm) nds) N = 0 := by
    rw [sumT_congr fun t _ => cross_eq hn u v t (N - 1 - t), sumT_I]
    rw [← sumI_zero ps 0]
    refine sumI_congr fun i p hp => ?_
    rw [Nat.zero_add, sumT_mul, sumT_add, sumT_sub, sumT_sub]
    have e1 := conv_del p.ticks (out1 nds ps u i p) (out2 nds ps v i p) N
    have e2 := conv_del p.ticks (out2 nds ps u i p) (out1 nds ps v i p) N
    rw [sumT_congr fun t _ => by rw [in1_del hn v hp], e1, sumT_congr (f := fun t => in1 nds ps u i t * out1 nds ps v i p (N - 1 - t)) fun t _ => by rw [in1_del hn u hp],
      sumT_congr (f := fun t => out2 nds ps u i p t * in2 nds ps v i (N - 1 - t)) fun t _ => by rw [in2_del hn v hp], e2, sumT_congr (f := fun t => in2 nds ps u i t * out2 nds ps v i p (N - 1 - t)) fun t _ => by rw [in2_del hn u hp]]
    grind
  rw [sumT_sub] at h1
  grind
end Pf
end
section
set_option Elab.async false
set_option linter.all false
set_option maxRecDepth 100000
set_option maxHeartbeats 4000000
/-! Fx17: responses: what the law asks of them. -/
namespace Pf
open PySem PySem.Spec PyProof.Rows L2
variable {Γ : Nat → Ga}
theorem colQ_wT {nds : List Nd} {ps : List Pp} {x : List Nat} (u : Nat → List Nat → Rat) : ∀ (k t : Nat), colQ nds ps x (wT nds ps u t) ((List.range' t k).map u) = (List.range' t k).map fun t => hT nds ps u t x
  | 0, t => rfl
  | k + 1, t => by
    rw [List.range'_succ, List.map_cons, List.map_cons]
    show hAt nds ps (wT nds ps u t) (u t) x :: colQ nds ps x (wT nds ps u (t + 1)) ((List.range' (t + 1) k).map u) = _
    rw [colQ_wT u k (t + 1)]
    rfl
def uU (a : List Nat) : Nat → List Nat → Rat
  | 0 => uAt a
  | _ + 1 => u0
theorem usOf_uU (a : List Nat) (m : Nat) : usOf a m = (List.range' 0 (m + 1)).map (uU a) := by
  rw [List.range'_succ, List.map_cons]
  show uAt a :: _ = uAt a :: _
  congr 1
  refine (List.eq_replicate_iff.mpr ⟨by rw [List.length_map, List.length_range'], fun b hb => ?_⟩).symm
  obtain ⟨k, hk, rfl⟩ := List.mem_map.mp hb
  have := (List.mem_range'_1.mp hk).1
  obtain ⟨j, rfl⟩ : ∃ j, k = j + 1 := ⟨k - 1, by omega⟩
  rfl
theorem respQ_eq {nds : List Nd} {ps : List Pp} {a x : List Nat} {m : Nat} : respQ nds ps a x m = (List.range' 0 (m + 1)).map fun t => hT nds ps (uU a) t x := by
  unfold respQ
  rw [usOf_uU]
  exact colQ_wT (uU a) (m + 1) 0
theorem sumT_fst (c : Nat → Rat) (n : Nat) : sumT (fun t => if t = 0 then c t else 0) (n + 1) = c 0 := by
  induction n with
  | zero => show 0 + c 0 = c 0; grind
  | succ n ih =>
    show sumT _ (n + 1) + (if n + 1 = 0 then c (n + 1) else 0) = c 0
    rw [ih, if_neg (by omega), Rat.add_zero]
theorem sum_unit {nds : List Nd} (hd : (nds.map Nd.nm).Nodup) {a : List Nat} (ha : a ∈ nds.map Nd.nm) (f : List Nat → Rat) (t : Nat) : sumL (fun n : Nd => f n.nm * uU a t n.nm) nds = if t = 0 then f a else 0 := by
  cases t with
  | zero =>
    rw [if_pos rfl, ← pick_one hd ha f]
    refine sumL_congr fun n _ => ?_
    show f n.nm * uAt a n.nm = _
    unfold uAt
    by_cases h : a = n.nm
    · rw [if_pos h.symm, if_pos h, Rat.mul_one]
    · rw [if_neg (fun z => h z.symm), if_neg h, Rat.mul_zero]
  | succ t =>
    rw [if_neg (by omega)]
    rw [← sumL_zero nds]
    exact sumL_congr fun n _ => Rat.mul_zero _
theorem unit_recip {nds : List Nd} {ps : List Pp} (hn : NetOk nds ps) {a b : List Nat} (ha : a ∈ nds.map Nd.nm) (hb : b ∈ nds.map Nd.nm) (t : Nat) : hT nds ps (uU a) t b = hT nds ps (uU b) t a := by
  have h := recip hn (uU a) (uU b) (t + 1)
  rw [sumT_congr (f := fun k => sumL (fun n : Nd => hT nds ps (uU a) k n.nm * uU b (t + 1 - 1 - k) n.nm) nds) fun k _ => sum_unit hn.nn hb (hT nds ps (uU a) k) (t + 1 - 1 - k),
    sumT_congr (f := fun k => sumL (fun n : Nd => hT nds ps (uU b) (t + 1 - 1 - k) n.nm * uU a k n.nm) nds) fun k _ => sum_unit hn.nn ha (hT nds ps (uU b) (t + 1 - 1 - k)) k,
    sumT_fst (fun k => hT nds ps (uU b) (t + 1 - 1 - k) a) t] at h
  have h2 : sumT (fun k => if t + 1 - 1 - k = 0 then hT nds ps (uU a) k b else 0) (t + 1) = hT nds ps (uU a) t b := by
    have e : t + 1 - 1 - 0 = t := by omega
    have h3 := sumT_fst (fun k => hT nds ps (uU a) (t + 1 - 1 - k) b) t
    rw [← sumT_rev]
    refine Eq.trans ?_ (h3.trans (by show hT nds ps (uU a) (t + 1 - 1 - 0) b = _; rw [e]))
    refine sumT_congr fun k hk => ?_
    rw [show t + 1 - 1 - (t + 1 - 1 - k) = k by omega]
  rw [h2] at h
  exact h
theorem resp_recip {nds : List Nd} {ps : List Pp} (hn : NetOk nds ps) {a b : List Nat} (ha : a ∈ nds.map Nd.nm) (hb : b ∈ nds.map Nd.nm) (m : Nat) : respQ nds ps a b m = respQ nds ps b a m := by
  rw [respQ_eq, respQ_eq]
  exact List.map_congr_left fun t _ => unit_recip hn ha hb t
theorem resp_tank {nds : List Nd} {ps : List Pp} (hn : NetOk nds ps) {a : List Nat} {n : Nd} (hm : n ∈ nds) (ht : n.tank = true) (m : Nat) : respQ nds ps a n.nm m = List.replicate (m + 1) 0 := by
  rw [respQ_eq]
  refine List.eq_replicate_iff.mpr ⟨by rw [List.length_map, List.length_range'], fun b hb => ?_⟩
  obtain ⟨k, hk, rfl⟩ := List.mem_map.mp hb
  exact hT_tank hn _ _ hm ht
theorem resp_len {nds : List Nd} {ps : List Pp} {a x : List Nat} {m : Nat} : (respQ nds ps a x m).length = m + 1 := by
  rw [respQ_eq, List.length_map, List.length_range']
theorem resp_neg {nds : List Nd} {ps : List Pp} (hn : NetOk nds ps) {n : Nd} (hm : n ∈ nds) (ht : n.tank = false) : hT nds ps (uU n.nm) 0 n.nm < 0 := by
  rw [hT_at hn _ _ hm]
  have h1 : inc ps (wT nds ps (uU n.nm) 0) n.nm = 0 := by
    unfold inc
    rw [sumQ_map, ← sumL_zero (endsN 0 ps n.nm)]
    refine sumL_congr fun e he => ?_
    obtain ⟨_, h2, _⟩ := endsN_mem he
    rw [Nat.zero_add] at h2
    have hp : ps[e.1]? = some ps[e.1] := List.getElem?_eq_getElem h2
    have hw := wT_at hn (uU n.nm) hp 0
    have ht1 := (hn.pk _ (List.mem_of_getElem? hp)).t1
    unfold endC
    rw [hp, hw]
    show _ * (if e.2 = 0 then hdQ (lineQ _ _ 0) else hdQ (lineQ _ _ 0)) = 0
    have hz : ∀ x, hdQ (lineQ (ps[e.1]).ticks x 0) = 0 := fun x => by
      rw [lineQ_hd ht1]
      unfold del
      rw [if_pos (by omega)]
    rw [hz, hz]
    split <;> exact Rat.mul_zero _
  unfold headQ
  rw [if_neg (by rw [ht]; decide), h1]
  have h2 : uU n.nm 0 n.nm = 1 := by
    show uAt n.nm n.nm = 1
    unfold uAt
    rw [if_pos rfl]
  rw [h2]
  obtain ⟨s1, _⟩ := szN_le hn hm
  unfold szN at s1
  have hS : (0 : Rat) < ((n.ves + siz ps n.nm : Nat) : Rat) := by exact_mod_cast s1
  generalize ((n.ves + siz ps n.nm : Nat) : Rat) = S at hS
  have h3 : (0 - 1) / S * S = 0 - 1 := Rat.div_mul_cancel (by grind)
  by_cases h : 0 ≤ (0 - 1) / S
  · have := Rat.mul_nonneg h (Rat.le_of_lt hS)
    rw [h3] at this
    grind
  · exact Rat.not_le.mp h
theorem colQ_get {nds : List Nd} {ps : List Pp} {x : List Nat} {q : Rat} : ∀ {us : List (List Nat → Rat)} {ws : List Wv} {i : Nat}, (colQ nds ps x ws us)[i]? = some q → ∃ u, us[i]? = some u ∧ q = hAt nds ps (stepW nds ps ws (us.take i)) u x
  | [], _, _, h => by simp [colQ] at h
  | u :: us, ws, 0, h => by
    cases h
    exact ⟨u, rfl, rfl⟩
  | u :: us, ws, i + 1, h => by
    have h : (colQ nds ps x (tickW nds ps ws u) us)[i]? = some q := by simpa [colQ] using h
    obtain ⟨v, h1, h2⟩ := colQ_get h
    exact ⟨v, by simpa using h1, by rw [h2]; rfl⟩
theorem resp_sz (Γ : Nat → Ga) {nds : List Nd} {ps : List Pp} (hn : NetOk nds ps) {a x : List Nat} (hx : x ∈ nds.map Nd.nm) {m : Nat} (hm : m ≤ 39) (hP : prodS nds ps ^ (m + 1) < 2 ^ 1900) : ∀ q ∈ respQ nds ps a x m, Sz q := fun q hq => by
  obtain ⟨i, hi⟩ := List.getElem?_of_mem hq
  obtain ⟨u, hu, rfl⟩ := colQ_get hi
  have hc := crOk hn (a := a) hm hP
  obtain ⟨_, hw, hM0, hMP, hV, hU, hub⟩ := hc.tick (Γ := Γ) hu
  obtain ⟨k, n, hk, rfl⟩ := node_of_name hx
  rw [hAt_eq hn.nn hk]
  have hP0 := prodS_pos hn
  have cc : (2 : Nat) ^ 1700 * 2 ^ 200 = 2 ^ 1900 := by rw [← Nat.pow_add]
  have cc2 : (2 : Nat) ^ 1700 * 217 ≤ 2 ^ 1700 * 2 ^ 200 := Nat.mul_le_mul_left _ (by decide)
  exact ((headQ_bnd hn hw (List.mem_of_getElem? hk) (hub n (List.mem_of_getElem? hk))).mono (Nat.mul_dvd_mul_left _ (prodS_dvd (List.mem_of_getElem? hk))) (Nat.le_refl _)).sz (Nat.mul_pos hM0 hP0) hMP (by omega)
end Pf
end
section
set_option Elab.async false
set_option linter.all false
set_option maxRecDepth 100000
set_option maxHeartbeats 4000000
/-! Fx18: picks from a list of a name; likeness with a list of a name. -/
namespace Pf
open PySem PySem.Spec PyProof.Rows L2
variable {Γ : Nat → Ga}
theorem pick_runC (kt : Knows Γ "_law_taken" f__law_taken) (L : Nat) {ns : List Int} {w : Rw} {l : List D} (o : w.Ok) (h : l ≠ []) (hl : l.length < 1000000) {d : D} (hd : pk ns w l = some d) :
    run1 (Γ (L + 1)) f__law_pick [.cel true (w.D ns), .cel true (.lst l)] = .ok (false, d) [some (.cel true ((tk ns w l.length).2.D ns)), some (.cel true (.lst l))] := by
  have hp : 0 < l.length := List.length_pos_iff.mpr h
  have ht := fun L b => taken_run (Γ L) (ns := ns) (w := w) (m := l.length) (b := b) o (by omega) (small_nat hl)
  have ha := atI_pk (ns := ns) o h
  simp [run1_eq, f__law_pick, finR, kt.has, kt.frz, kt.cal, ht, ha, hd, Op.new]
theorem pick_exC (kt : Knows Γ "_law_taken" f__law_taken) (kp : Knows Γ "_law_pick" f__law_pick) {ns : List Int} {w : Rw} (o : w.Ok) (l : List D) (h : l ≠ []) (hl : l.length < 1000000) : ∃ (d : D) (w' : Rw), d ∈ l ∧ w'.Ok ∧
    ∀ L, (Γ (L + 2)).cal "_law_pick" [.cel true (w.D ns), .cel true (.lst l)] = .ok (false, d) [some (.cel true (w'.D ns)), some (.cel true (.lst l))] := by
  obtain ⟨d, h1, h2⟩ := pk_some (ns := ns) o h
  have hp : 0 < l.length := List.length_pos_iff.mpr h
  obtain ⟨_, _, h3⟩ := tk_in (ns := ns) o (m := l.length) (by omega)
  exact ⟨d, _, h2, h3, fun L => by rw [kp.cal]; exact pick_runC kt L o h hl h1⟩
theorem alike_turnsC (ka : Knows Γ "_law_alike" f__law_alike) {L : Nat} {l : List D} {b : Bool}
    (ih : ∀ e ∈ l, ∀ b b2, run1 (Γ L) f__law_alike [.val b e, .val b2 e] = .ok (false, .bl true) [some (.val b e), some (.val b2 e)]) {h0 : D} :
    turns (fun ρ => held ρ [.val h0] [h0]) (lcF (Γ (L + 1)) [2] (.nm 2) [.not (.call "_law_alike" [.ap .idx [.var 0, .var 2], .ap .idx [.var 1, .var 2]])] (.var 2)) (rangeD 0 l.length) [some (.val b (.lst l)), some (.cel true (.lst l)), none, none] = .ok [] [some (.val b (.lst l)), some (.cel true (.lst l)), none, none] := by
  rw [turns_map (g := fun _ => none) held_val (fun x hx => by
    obtain ⟨k, hk, rfl⟩ := rangeD_mem hx
    have e1 : l[k]? = some l[k] := List.getElem?_eq_getElem hk
    have hm : l[k] ∈ l := List.getElem_mem hk
    generalize l[k] = e at *
    have e2 : Op.idx.ap (Γ (L + 1)).flds [.lst l, .int k] = some e := (atI_nat l k).trans e1
    rw [show (0 : Int) + (k : Int) = k from Int.zero_add _]
    simp [lcF_eq, -o_idxL, e2, ka.has, ka.frz, ka.cal, ih e hm])]
  congr 1
  exact List.filterMap_eq_nil_iff.mpr fun _ _ => rfl
theorem alike_runC (ka : Knows Γ "_law_alike" f__law_alike) {n : Nat} {l : List D} (h : ∀ d ∈ l, Lk n d) (hl : l.length ≤ 1000000) {L : Nat} (hL : n ≤ L) (b : Bool) : run1 (Γ (L + 1)) f__law_alike [.val b (.lst l), .cel true (.lst l)] = .ok (false, .bl true) [some (.val b (.lst l)), some (.cel true (.lst l))] := by
  have e1 : eqOk (.lst []) (.lst []) = true := by decide
  have e2 : (D.lst []).eqv (.lst []) = true := by decide
  have ht := fun b h0 => alike_turnsC ka (L := L) (l := l) (b := b) (h0 := h0) fun e he b b2 => alike_run ka (h e he) hL b b2
  simp [run1_eq, f__law_alike, finR, D.isa, ev_comp, walkS_rng hl, ht, e1, e2]
/-- a name picked from the joints -/
theorem pick_joint (kt : Knows Γ "_law_taken" f__law_taken) (kp : Knows Γ "_law_pick" f__law_pick) {ns : List Int} {w : Rw} (o : w.Ok) {nds : List Nd} (h : jts nds ≠ []) (h8 : nds.length ≤ 8) : ∃ (x : List Nat) (w' : Rw), x ∈ jts nds ∧ w'.Ok ∧
    ∀ L, (Γ (L + 2)).cal "_law_pick" [.cel true (w.D ns), .cel true (.lst ((jts nds).map st))] = .ok (false, st x) [some (.cel true (w'.D ns)), some (.cel true (.lst ((jts nds).map st)))] := by
  have hl := jts_len (nds := nds)
  obtain ⟨d, w', hd, ow, hc⟩ := pick_exC kt kp o ((jts nds).map st) (by simpa using h) (by rw [List.length_map]; omega)
  obtain ⟨x, hx, rfl⟩ := List.mem_map.mp hd
  exact ⟨x, w', hx, ow, hc⟩
end Pf
end
section
set_option Elab.async false
set_option linter.all false
set_option maxRecDepth 100000
set_option maxHeartbeats 0
namespace K06
open PySem PySem.Spec PyProof.Rows L2 Pf
def top (i : Nat) : Stmt := PySem.Challenge.pw_pipeshocks_k06_whole_reciprocity.main.body.getD i (.Pass ⟨0, 0, 0, 0⟩)
def clsB : Stmt → List Stmt
  | .ClassDef (body := b) .. => b
  | _ => []
def d_is_number : Df := ⟨⟨("is_number", none), "is_number", "is_number", L2.defArgs (top 3), L2.defBody (top 3), L2.defScope (top 3), [], []⟩, ["thing"], ["thing"]⟩
def d_is_within : Df := ⟨⟨("is_within", none), "is_within", "is_within", L2.defArgs (top 4), L2.defBody (top 4), L2.defScope (top 4), [], []⟩, ["thing", "least", "most"], ["thing", "least", "most"]⟩
def d_is_row : Df := ⟨⟨("is_row", none), "is_row", "is_row", L2.defArgs (top 5), L2.defBody (top 5), L2.defScope (top 5), [], []⟩, ["thing"], ["thing"]⟩
def d_is_name : Df := ⟨⟨("is_name", none), "is_name", "is_name", L2.defArgs (top 6), L2.defBody (top 6), L2.defScope (top 6), [], []⟩, ["thing", "sign"], ["thing"]⟩
def d_common : Df := ⟨⟨("common", none), "common", "common", L2.defArgs (top 7), L2.defBody (top 7), L2.defScope (top 7), [], []⟩, ["one", "other"], ["one", "other"]⟩
def d_is_node : Df := ⟨⟨("is_node", none), "is_node", "is_node", L2.defArgs (top 21), L2.defBody (top 21), L2.defScope (top 21), [], []⟩, ["thing"], ["thing"]⟩
def d_is_pipe : Df := ⟨⟨("is_pipe", none), "is_pipe", "is_pipe", L2.defArgs (top 22), L2.defBody (top 22), L2.defScope (top 22), [], []⟩, ["thing", "names"], ["thing", "names"]⟩
def d_check_nodes : Df := ⟨⟨("check_nodes", none), "check_nodes", "check_nodes", L2.defArgs (top 23), L2.defBody (top 23), L2.defScope (top 23), [], []⟩, ["nodes", "names", "at", "node"], ["nodes"]⟩
def d_check_pipes : Df := ⟨⟨("check_pipes", none), "check_pipes", "check_pipes", L2.defArgs (top 24), L2.defBody (top 24), L2.defScope (top 24), [], []⟩, ["nodes", "pipes", "names", "met", "node", "at", "pipe", "name"], ["nodes", "pipes"]⟩
def d_Net_init : Df := ⟨⟨("Net", some "__init__"), "__init__", "Net.__init__", L2.defArgs ((clsB (top 25)).getD 0 (.Pass ⟨0, 0, 0, 0⟩)), L2.defBody ((clsB (top 25)).getD 0 (.Pass ⟨0, 0, 0, 0⟩)), L2.defScope ((clsB (top 25)).getD 0 (.Pass ⟨0, 0, 0, 0⟩)), [], []⟩, ["self", "nodes", "pipes", "at", "node"], ["self", "nodes", "pipes"]⟩
def d_Net_ends_at : Df := ⟨⟨("Net", some "ends_at"), "ends_at", "Net.ends_at", L2.defArgs ((clsB (top 25)).getD 1 (.Pass ⟨0, 0, 0, 0⟩)), L2.defBody ((clsB (top 25)).getD 1 (.Pass ⟨0, 0, 0, 0⟩)), L2.defScope ((clsB (top 25)).getD 1 (.Pass ⟨0, 0, 0, 0⟩)), [], []⟩, ["self", "name", "found", "at", "pipe"], ["self", "name"]⟩
def d_Net_eq : Df := ⟨⟨("Net", some "__eq__"), "__eq__", "Net.__eq__", L2.defArgs ((clsB (top 25)).getD 2 (.Pass ⟨0, 0, 0, 0⟩)), L2.defBody ((clsB (top 25)).getD 2 (.Pass ⟨0, 0, 0, 0⟩)), L2.defScope ((clsB (top 25)).getD 2 (.Pass ⟨0, 0, 0, 0⟩)), [], []⟩, ["self", "other"], ["self", "other"]⟩
def d_Net_names : Df := ⟨⟨("Net", some "names"), "names", "Net.names", L2.defArgs ((clsB (top 25)).getD 3 (.Pass ⟨0, 0, 0, 0⟩)), L2.defBody ((clsB (top 25)).getD 3 (.Pass ⟨0, 0, 0, 0⟩)), L2.defScope ((clsB (top 25)).getD 3 (.Pass ⟨0, 0, 0, 0⟩)), [], []⟩, ["self", "node"], ["self"]⟩
def d_Net_joints : Df := ⟨⟨("Net", some "joints"), "joints", "Net.joints", L2.defArgs ((clsB (top 25)).getD 4 (.Pass ⟨0, 0, 0, 0⟩)), L2.defBody ((clsB (top 25)).getD 4 (.Pass ⟨0, 0, 0, 0⟩)), L2.defScope ((clsB (top 25)).getD 4 (.Pass ⟨0, 0, 0, 0⟩)), [], []⟩, ["self", "node"], ["self"]⟩
def d_Net_pipes_at : Df := ⟨⟨("Net", some "pipes_at"), "pipes_at", "Net.pipes_at", L2.defArgs ((clsB (top 25)).getD 5 (.Pass ⟨0, 0, 0, 0⟩)), L2.defBody ((clsB (top 25)).getD 5 (.Pass ⟨0, 0, 0, 0⟩)), L2.defScope ((clsB (top 25)).getD 5 (.Pass ⟨0, 0, 0, 0⟩)), [], []⟩, ["self", "name"], ["self", "name"]⟩
def d_spot_of : Df := ⟨⟨("spot_of", none), "spot_of", "spot_of", L2.defArgs (top 26), L2.defBody (top 26), L2.defScope (top 26), [], []⟩, ["net", "name"], ["net", "name"]⟩
def d_joint_of : Df := ⟨⟨("joint_of", none), "joint_of", "joint_of", L2.defArgs (top 27), L2.defBody (top 27), L2.defScope (top 27), [], []⟩, ["net", "name", "at"], ["net", "name"]⟩
def d_lowest : Df := ⟨⟨("lowest", none), "lowest", "lowest", L2.defArgs (top 31), L2.defBody (top 31), L2.defScope (top 31), [], []⟩, ["top", "bottom", "part"], ["top", "bottom"]⟩
def d_plus : Df := ⟨⟨("plus", none), "plus", "plus", L2.defArgs (top 32), L2.defBody (top 32), L2.defScope (top 32), [], []⟩, ["one", "other"], ["one", "other"]⟩
def d_minus : Df := ⟨⟨("minus", none), "minus", "minus", L2.defArgs (top 33), L2.defBody (top 33), L2.defScope (top 33), [], []⟩, ["one", "other"], ["one", "other"]⟩
def d_rest : Df := ⟨⟨("rest", none), "rest", "rest", L2.defArgs (top 35), L2.defBody (top 35), L2.defScope (top 35), [], []⟩, ["net", "pipe"], ["net"]⟩
def d_head_at : Df := ⟨⟨("head_at", none), "head_at", "head_at", L2.defArgs (top 36), L2.defBody (top 36), L2.defScope (top 36), [], []⟩, ["net", "place", "waves", "takings", "name", "kind", "size", "found", "pipe", "side", "wave", "part"], ["net", "place", "waves", "takings"]⟩
def d_tick : Df := ⟨⟨("tick", none), "tick", "tick", L2.defArgs (top 37), L2.defBody (top 37), L2.defScope (top 37), [], []⟩, ["net", "waves", "takings", "heads", "place", "found", "pipe", "pair", "there", "back", "from_one", "from_other"], ["net", "waves", "takings"]⟩
def d_run : Df := ⟨⟨("run", none), "run", "run", L2.defArgs (top 39), L2.defBody (top 39), L2.defScope (top 39), [], []⟩, ["net", "waves", "course", "found", "takings", "heads"], ["net", "waves", "course"]⟩
def d_check_pair : Df := ⟨⟨("check_pair", none), "check_pair", "check_pair", L2.defArgs (top 42), L2.defBody (top 42), L2.defScope (top 42), [], []⟩, ["net", "at", "seen"], ["net", "at", "seen"]⟩
def d_check_ticks : Df := ⟨⟨("check_ticks", none), "check_ticks", "check_ticks", L2.defArgs (top 43), L2.defBody (top 43), L2.defScope (top 43), [], []⟩, ["ticks", "least"], ["ticks", "least"]⟩
def d_heads_of_taking : Df := ⟨⟨("heads_of_taking", none), "heads_of_taking", "heads_of_taking", L2.defArgs (top 44), L2.defBody (top 44), L2.defScope (top 44), [], []⟩, ["net", "at", "ticks", "course"], ["net", "at", "ticks"]⟩
def d_response : Df := ⟨⟨("response", none), "response", "response", L2.defArgs (top 45), L2.defBody (top 45), L2.defScope (top 45), [], []⟩, ["net", "at", "seen", "ticks", "place", "heads"], ["net", "at", "seen", "ticks"]⟩
def d__law_taken : Df := ⟨⟨("_law_taken", none), "_law_taken", "_law_taken", L2.defArgs (top 47), L2.defBody (top 47), L2.defScope (top 47), [], []⟩, ["row", "many", "found", "cell"], ["row", "many"]⟩
def d__law_pick : Df := ⟨⟨("_law_pick", none), "_law_pick", "_law_pick", L2.defArgs (top 48), L2.defBody (top 48), L2.defScope (top 48), [], []⟩, ["row", "some"], ["row", "some"]⟩
def d__law_alike : Df := ⟨⟨("_law_alike", none), "_law_alike", "_law_alike", L2.defArgs (top 49), L2.defBody (top 49), L2.defScope (top 49), [], []⟩, ["found", "due", "k", "key"], ["found", "due"]⟩
def d__law_low : Df := ⟨⟨("_law_low", none), "_law_low", "_law_low", L2.defArgs (top 50), L2.defBody (top 50), L2.defScope (top 50), [], []⟩, ["top", "bottom", "one", "other"], ["top", "bottom"]⟩
def d__law_plus : Df := ⟨⟨("_law_plus", none), "_law_plus", "_law_plus", L2.defArgs (top 51), L2.defBody (top 51), L2.defScope (top 51), [], []⟩, ["one", "other"], ["one", "other"]⟩
def d__law_minus : Df := ⟨⟨("_law_minus", none), "_law_minus", "_law_minus", L2.defArgs (top 52), L2.defBody (top 52), L2.defScope (top 52), [], []⟩, ["one", "other"], ["one", "other"]⟩
def d__law_less : Df := ⟨⟨("_law_less", none), "_law_less", "_law_less", L2.defArgs (top 53), L2.defBody (top 53), L2.defScope (top 53), [], []⟩, ["one", "other"], ["one", "other"]⟩
def d__law_is_fraction : Df := ⟨⟨("_law_is_fraction", none), "_law_is_fraction", "_law_is_fraction", L2.defArgs (top 54), L2.defBody (top 54), L2.defScope (top 54), [], []⟩, ["thing", "one"], ["thing"]⟩
def d__law_are_fractions : Df := ⟨⟨("_law_are_fractions", none), "_law_are_fractions", "_law_are_fractions", L2.defArgs (top 55), L2.defBody (top 55), L2.defScope (top 55), [], []⟩, ["thing", "many", "one"], ["thing", "many"]⟩
def d__law_names : Df := ⟨⟨("_law_names", none), "_law_names", "_law_names", L2.defArgs (top 56), L2.defBody (top 56), L2.defScope (top 56), [], []⟩, ["row", "many", "taken", "letters", "found", "start", "near", "head", "tail", "k", "body", "some", "at", "one"], ["row", "many", "taken"]⟩
def d__law_net : Df := ⟨⟨("_law_net", none), "_law_net", "_law_net", L2.defArgs (top 57), L2.defBody (top 57), L2.defScope (top 57), [], []⟩, ["row", "most", "wide", "many", "names", "nodes", "pipes", "at", "kind", "vessel", "lines", "other", "pair", "turn", "one"], ["row", "most"]⟩
def d__law_joints : Df := ⟨⟨("_law_joints", none), "_law_joints", "_law_joints", L2.defArgs (top 58), L2.defBody (top 58), L2.defScope (top 58), [], []⟩, ["parts", "node"], ["parts"]⟩
def d__law_with_joint : Df := ⟨⟨("_law_with_joint", none), "_law_with_joint", "_law_with_joint", L2.defArgs (top 59), L2.defBody (top 59), L2.defScope (top 59), [], []⟩, ["parts"], ["parts"]⟩
def d__law_made : Df := ⟨⟨("_law_made", none), "_law_made", "_law_made", L2.defArgs (top 60), L2.defBody (top 60), L2.defScope (top 60), [], []⟩, ["parts"], ["parts"]⟩
def d__law_rest : Df := ⟨⟨("_law_rest", none), "_law_rest", "_law_rest", L2.defArgs (top 61), L2.defBody (top 61), L2.defScope (top 61), [], []⟩, ["parts", "pipe"], ["parts"]⟩
def d__law_head : Df := ⟨⟨("_law_head", none), "_law_head", "_law_head", L2.defArgs (top 62), L2.defBody (top 62), L2.defScope (top 62), [], []⟩, ["parts", "node", "waves", "takings", "name", "kind", "size", "found", "at", "pipe", "wave"], ["parts", "node", "waves", "takings"]⟩
def d__law_tick : Df := ⟨⟨("_law_tick", none), "_law_tick", "_law_tick", L2.defArgs (top 63), L2.defBody (top 63), L2.defScope (top 63), [], []⟩, ["parts", "waves", "takings", "heads", "later", "node", "at", "pipe", "there", "back"], ["parts", "waves", "takings"]⟩
def d__law_run : Df := ⟨⟨("_law_run", none), "_law_run", "_law_run", L2.defArgs (top 64), L2.defBody (top 64), L2.defScope (top 64), [], []⟩, ["parts", "waves", "course", "found", "takings", "heads"], ["parts", "waves", "course"]⟩
def d__law_unit : Df := ⟨⟨("_law_unit", none), "_law_unit", "_law_unit", L2.defArgs (top 65), L2.defBody (top 65), L2.defScope (top 65), [], []⟩, ["parts", "name", "ticks", "course"], ["parts", "name", "ticks"]⟩
def d__law_spot : Df := ⟨⟨("_law_spot", none), "_law_spot", "_law_spot", L2.defArgs (top 66), L2.defBody (top 66), L2.defScope (top 66), [], []⟩, ["parts", "name", "node"], ["parts", "name"]⟩
def d_law : Df := ⟨⟨("law", none), "law", "law", L2.defArgs (top 67), L2.defBody (top 67), L2.defScope (top 67), [], []⟩, ["script", "row", "turn", "parts", "net", "joints", "many", "time", "one", "other", "there", "back", "node", "name", "due", "heads"], ["script"]⟩
def lay : Lay := ⟨[d_is_number, d_is_within, d_is_row, d_is_name, d_common, d_is_node, d_is_pipe, d_check_nodes, d_check_pipes, d_Net_init, d_Net_ends_at, d_Net_eq, d_Net_names, d_Net_joints, d_Net_pipes_at, d_spot_of, d_joint_of, d_lowest, d_plus, d_minus, d_rest, d_head_at, d_tick, d_run, d_check_pair, d_check_ticks, d_heads_of_taking, d_response, d__law_taken, d__law_pick, d__law_alike, d__law_low, d__law_plus, d__law_minus, d__law_less, d__law_is_fraction, d__law_are_fractions, d__law_names, d__law_net, d__law_joints, d__law_with_joint, d__law_made, d__law_rest, d__law_head, d__law_tick, d__law_run, d__law_unit, d__law_spot, d_law], [⟨"Net", ["nodes", "pipes", "spots", "ends"], true⟩], [("MOST_NODES", 8), ("MOST_PIPES", 12), ("MOST_TICKS", 6), ("MOST_SIZE", 9), ("MOST_VESSEL", 60), ("MOST_RESPONSE", 60)], [("LETTERS", "abcdefghijklmnopqrstuvwxyz")], [("ZERO", [0, 1]), ("ONE", [1, 1])]⟩
theorem good : lay.good = true := by decide +kernel
theorem bds : AllBd lay.defs := ⟨fun _ _ _ _ _ _ us hl => (match us, hl with | [_], _ => rfl), fun _ _ _ _ _ _ us hl => (match us, hl with | [_, _, _], _ => rfl), fun _ _ _ _ _ _ us hl => (match us, hl with | [_], _ => rfl), fun _ _ _ _ _ _ us hl => (match us, hl with | [_], _ => rfl), fun _ _ _ _ _ _ us hl => (match us, hl with | [_, _], _ => rfl), fun _ _ _ _ _ _ us hl => (match us, hl with | [_], _ => rfl), fun _ _ _ _ _ _ us hl => (match us, hl with | [_, _], _ => rfl), fun _ _ _ _ _ _ us hl => (match us, hl with | [_], _ => rfl), fun _ _ _ _ _ _ us hl => (match us, hl with | [_, _], _ => rfl), fun _ _ _ _ _ _ us hl => (match us, hl with | [_, _, _], _ => rfl), fun _ _ _ _ _ _ us hl => (match us, hl with | [_, _], _ => rfl), fun _ _ _ _ _ _ us hl => (match us, hl with | [_, _], _ => rfl), fun _ _ _ _ _ _ us hl => (match us, hl with | [_], _ => rfl), fun _ _ _ _ _ _ us hl => (match us, hl with | [_], _ => rfl), fun _ _ _ _ _ _ us hl => (match us, hl with | [_, _], _ => rfl), fun _ _ _ _ _ _ us hl => (match us, hl with | [_, _], _ => rfl), fun _ _ _ _ _ _ us hl => (match us, hl with | [_, _], _ => rfl), fun _ _ _ _ _ _ us hl => (match us, hl with | [_, _], _ => rfl), fun _ _ _ _ _ _ us hl => (match us, hl with | [_, _], _ => rfl), fun _ _ _ _ _ _ us hl => (match us, hl with | [_, _], _ => rfl), fun _ _ _ _ _ _ us hl => (match us, hl with | [_], _ => rfl), fun _ _ _ _ _ _ us hl => (match us, hl with | [_, _, _, _], _ => rfl), fun _ _ _ _ _ _ us hl => (match us, hl with | [_, _, _], _ => rfl), fun _ _ _ _ _ _ us hl => (match us, hl with | [_, _, _], _ => rfl), fun _ _ _ _ _ _ us hl => (match us, hl with | [_, _, _], _ => rfl), fun _ _ _ _ _ _ us hl => (match us, hl with | [_, _], _ => rfl), fun _ _ _ _ _ _ us hl => (match us, hl with | [_, _, _], _ => rfl), fun _ _ _ _ _ _ us hl => (match us, hl with | [_, _, _, _], _ => rfl), fun _ _ _ _ _ _ us hl => (match us, hl with | [_, _], _ => rfl), fun _ _ _ _ _ _ us hl => (match us, hl with | [_, _], _ => rfl), fun _ _ _ _ _ _ us hl => (match us, hl with | [_, _], _ => rfl), fun _ _ _ _ _ _ us hl => (match us, hl with | [_, _], _ => rfl), fun _ _ _ _ _ _ us hl => (match us, hl with | [_, _], _ => rfl), fun _ _ _ _ _ _ us hl => (match us, hl with | [_, _], _ => rfl), fun _ _ _ _ _ _ us hl => (match us, hl with | [_, _], _ => rfl), fun _ _ _ _ _ _ us hl => (match us, hl with | [_], _ => rfl), fun _ _ _ _ _ _ us hl => (match us, hl with | [_, _], _ => rfl), fun _ _ _ _ _ _ us hl => (match us, hl with | [_, _, _], _ => rfl), fun _ _ _ _ _ _ us hl => (match us, hl with | [_, _], _ => rfl), fun _ _ _ _ _ _ us hl => (match us, hl with | [_], _ => rfl), fun _ _ _ _ _ _ us hl => (match us, hl with | [_], _ => rfl), fun _ _ _ _ _ _ us hl => (match us, hl with | [_], _ => rfl), fun _ _ _ _ _ _ us hl => (match us, hl with | [_], _ => rfl), fun _ _ _ _ _ _ us hl => (match us, hl with | [_, _, _, _], _ => rfl), fun _ _ _ _ _ _ us hl => (match us, hl with | [_, _, _], _ => rfl), fun _ _ _ _ _ _ us hl => (match us, hl with | [_, _, _], _ => rfl), fun _ _ _ _ _ _ us hl => (match us, hl with | [_, _, _], _ => rfl), fun _ _ _ _ _ _ us hl => (match us, hl with | [_, _], _ => rfl), fun _ _ _ _ _ _ us hl => (match us, hl with | [_], _ => rfl), trivial⟩
def loose0 : List Str := ["_wall", "LETTERS", "is_number", "is_within", "is_row", "is_name", "common", "PipeError", "BadNodes", "BadPipes", "UnknownNode", "NoJoint", "BadNumber", "MOST_NODES", "MOST_PIPES", "MOST_TICKS", "MOST_SIZE", "MOST_VESSEL", "is_node", "is_pipe"]
def loose1 : List Str := ["check_nodes", "check_pipes", "Net", "spot_of", "joint_of", "ZERO", "ONE", "lowest", "plus", "minus", "rest", "head_at", "tick", "run", "MOST_RESPONSE", "check_pair", "check_ticks", "heads_of_taking", "response", "_law_taken"]
def loose2 : List Str := ["_law_pick", "_law_alike", "_law_low", "_law_plus", "_law_minus", "_law_less", "_law_is_fraction", "_law_are_fractions", "_law_names", "_law_net", "_law_joints", "_law_with_joint", "_law_made", "_law_rest", "_law_head", "_law_tick", "_law_run", "_law_unit", "_law_spot"]
def loose : List Str := loose0 ++ loose1 ++ loose2
abbrev R : PySem.W.OpenRow := PySem.W.OpenLaw.row PySem.Challenge.rw_pipeshocks_k06_whole_reciprocity
abbrev hk : PySem.W.Hook := lay.hook 4
def ob (s : PySem.W.SharedT) : He.AlD := lay.obsG 4 (HandSHeadRun.getT s)
theorem ob_eq (s : PySem.W.SharedT) : ob s = hk.obs s.abs := Lay.obsG_eq lay (HandSHeadRun.getT_eq s)
theorem run (w : World) : HandSHeadRun.RunEq R (PySem.W.view R.prog [67]) hk ob 6000 loose w := by
  intro os
  kernel_rfl
end K06
end
section
set_option Elab.async false
set_option linter.all false
set_option maxRecDepth 100000
set_option maxHeartbeats 0
namespace K06
open PySem PySem.Spec PyProof.Rows L2 Pf
def f_is_number : Fn := ⟨1, 1, [.ret (.and [.ap (.isi [.int]) [.var 0], .not (.ap (.isi [.bool]) [.var 0])])]⟩
theorem e_is_number : lay.fn 40 d_is_number = f_is_number := by kernel_rfl
def f_is_within : Fn := ⟨3, 3, [.ret (.and [.call "is_number" [.var 0], .chn .le .le (.var 1) (.var 0) (.var 2)])]⟩
theorem e_is_within : lay.fn 40 d_is_within = f_is_within := by kernel_rfl
def f_is_row : Fn := ⟨1, 1, [.ret (.ap (.isi [.list, .tuple]) [.var 0])]⟩
theorem e_is_row : lay.fn 40 d_is_row = f_is_row := by kernel_rfl
def f_is_name : Fn := ⟨1, 2, [.ret (.and [.ap (.isi [.str]) [.var 0], .chn .le .le (.cst (.int 1)) (.ap (.bi .len) [.var 0]) (.cst (.int 8)), .ap (.bi .all) [.comp [1] (.nm 1) .seq [.var 0] [] (.ap (.cmp .isin) [.var 1, .glo "LETTERS"])]])]⟩
theorem e_is_name : lay.fn 40 d_is_name = f_is_name := by kernel_rfl
def f_common : Fn := ⟨2, 2, [.whl (.ap (.cmp .gt) [.var 1, .cst (.int 0)])
   [.par [0, 1] [.var 1, .ap (.bin .mod) [.var 0, .var 1]]],
  .ret (.var 0)]⟩
theorem e_common : lay.fn 40 d_common = f_common := by kernel_rfl
def f_is_node : Fn := ⟨1, 1, [.iff (.or [.not (.ap (.isi [.tuple]) [.var 0]), .ap (.cmp .ne) [.ap (.bi .len) [.var 0], .cst (.int 3)], .not (.call "is_name" [.ap .idx [.var 0, .cst (.int 0)]])])
   [.ret (.cst (.bl false))]
   [],
  .iff (.ap (.cmp .eq) [.ap .idx [.var 0, .cst (.int 1)], .cst (.str "tank")])
   [.ret (.call "is_within" [.ap .idx [.var 0, .cst (.int 2)], .cst (.int 0), .cst (.int 0)])]
   [],
  .ret (.and [.ap (.cmp .eq) [.ap .idx [.var 0, .cst (.int 1)], .cst (.str "joint")], .call "is_within" [.ap .idx [.var 0, .cst (.int 2)], .cst (.int 0), .glo "MOST_VESSEL"]])]⟩
theorem e_is_node : lay.fn 40 d_is_node = f_is_node := by kernel_rfl
def f_is_pipe : Fn := ⟨2, 2, [.iff (.or [.not (.ap (.isi [.tuple]) [.var 0]), .ap (.cmp .ne) [.ap (.bi .len) [.var 0], .cst (.int 5)], .not (.call "is_name" [.ap .idx [.var 0, .cst (.int 0)]])])
   [.ret (.cst (.bl false))]
   [],
  .iff (.or [.not (.call "is_name" [.ap .idx [.var 0, .cst (.int 1)]]), .not (.call "is_name" [.ap .idx [.var 0, .cst (.int 2)]]), .ap (.cmp .notin) [.ap .idx [.var 0, .cst (.int 1)], .var 1], .ap (.cmp .notin) [.ap .idx [.var 0, .cst (.int 2)], .var 1]])
   [.ret (.cst (.bl false))]
   [],
  .ret (.and [.ap (.cmp .ne) [.ap .idx [.var 0, .cst (.int 1)], .ap .idx [.var 0, .cst (.int 2)]], .call "is_within" [.ap .idx [.var 0, .cst (.int 3)], .cst (.int 1), .glo "MOST_TICKS"], .call "is_within" [.ap .idx [.var 0, .cst (.int 4)], .cst (.int 1), .glo "MOST_SIZE"]])]⟩
theorem e_is_pipe : lay.fn 40 d_is_pipe = f_is_pipe := by kernel_rfl
def f_check_nodes : Fn := ⟨1, 4, [.iff (.or [.not (.call "is_row" [.var 0]), .not (.chn .le .le (.cst (.int 2)) (.ap (.bi .len) [.var 0]) (.glo "MOST_NODES"))])
   [.bad]
   [],
  .set 1 (.lst []),
  .for_ (.tp [.nm 2, .nm 3]) .enm [.fz 0]
   [.iff (.or [.not (.call "is_node" [.var 3]), .ap (.cmp .isin) [.ap .idx [.var 3, .cst (.int 0)], .var 1]])
     [.bad]
     [],
    .mt 1 .append [.ap .idx [.var 3, .cst (.int 0)]]]]⟩
theorem e_check_nodes : lay.fn 40 d_check_nodes = f_check_nodes := by kernel_rfl
def f_check_pipes : Fn := ⟨2, 8, [.iff (.or [.not (.call "is_row" [.var 1]), .not (.chn .le .le (.cst (.int 1)) (.ap (.bi .len) [.var 1]) (.glo "MOST_PIPES"))])
   [.bad]
   [],
  .par [2, 3] [.comp [4] (.nm 4) .seq [.var 0] [] (.ap .idx [.var 4, .cst (.int 0)]), .lst []],
  .for_ (.tp [.nm 5, .nm 6]) .enm [.fz 1]
   [.iff (.or [.not (.call "is_pipe" [.var 6, .var 2]), .ap (.cmp .isin) [.ap .idx [.var 6, .cst (.int 0)], .var 3]])
     [.bad]
     [],
    .mt 3 .append [.ap .idx [.var 6, .cst (.int 0)]]],
  .for_ (.tp [.nm 5, .nm 7]) .enm [.fz 2]
   [.iff (.not (.ap (.bi .any) [.comp [6] (.nm 6) .seq [.var 1] [] (.or [.ap (.cmp .eq) [.var 7, .ap .idx [.var 6, .cst (.int 1)]], .ap (.cmp .eq) [.var 7, .ap .idx [.var 6, .cst (.int 2)]]])]))
     [.bad]
     []]]⟩
theorem e_check_pipes : lay.fn 40 d_check_pipes = f_check_pipes := by kernel_rfl
def f_Net_init : Fn := ⟨3, 5, [.ex (.call "check_nodes" [.var 1]),
  .ex (.call "check_pipes" [.var 1, .var 2]),
  .stf 0 "nodes" (.ap (.bi .tuple) [.var 1]),
  .stf 0 "pipes" (.ap (.bi .tuple) [.var 2]),
  .stf 0 "spots" (.dcmp [3, 4] (.tp [.nm 3, .nm 4]) .enm [.var 1] [] (.ap .idx [.var 4, .cst (.int 0)]) (.var 3)),
  .stf 0 "ends" (.comp [4] (.nm 4) .seq [.var 1] [] (.meth "ends_at" (.var 0) [.ap .idx [.var 4, .cst (.int 0)]]))]⟩
theorem e_Net_init : lay.fn 40 d_Net_init = f_Net_init := by kernel_rfl
def f_Net_ends_at : Fn := ⟨2, 5, [.set 2 (.lst []),
  .for_ (.tp [.nm 3, .nm 4]) .enm [.ap (.fld "pipes") [.var 0]]
   [.iff (.ap (.cmp .eq) [.ap .idx [.var 4, .cst (.int 1)], .var 1])
     [.mt 2 .append [.tup [.var 3, .cst (.int 0)]]]
     [.iff (.ap (.cmp .eq) [.ap .idx [.var 4, .cst (.int 2)], .var 1])
       [.mt 2 .append [.tup [.var 3, .cst (.int 1)]]]
       []]],
  .ret (.ap (.bi .tuple) [.var 2])]⟩
theorem e_Net_ends_at : lay.fn 40 d_Net_ends_at = f_Net_ends_at := by kernel_rfl
def f_Net_eq : Fn := ⟨2, 2, [.ret (.and [.ap (.isi [.own 0]) [.var 1], .ap (.cmp .eq) [.ap (.fld "nodes") [.var 0], .ap (.fld "nodes") [.var 1]], .ap (.cmp .eq) [.ap (.fld "pipes") [.var 0], .ap (.fld "pipes") [.var 1]]])]⟩
theorem e_Net_eq : lay.fn 40 d_Net_eq = f_Net_eq := by kernel_rfl
def f_Net_names : Fn := ⟨1, 2, [.ret (.ap (.bi .tuple) [.comp [1] (.nm 1) .seq [.ap (.fld "nodes") [.var 0]] [] (.ap .idx [.var 1, .cst (.int 0)])])]⟩
theorem e_Net_names : lay.fn 40 d_Net_names = f_Net_names := by kernel_rfl
def f_Net_joints : Fn := ⟨1, 2, [.ret (.ap (.bi .tuple) [.comp [1] (.nm 1) .seq [.ap (.fld "nodes") [.var 0]] [.ap (.cmp .eq) [.ap .idx [.var 1, .cst (.int 1)], .cst (.str "joint")]] (.ap .idx [.var 1, .cst (.int 0)])])]⟩
theorem e_Net_joints : lay.fn 40 d_Net_joints = f_Net_joints := by kernel_rfl
def f_Net_pipes_at : Fn := ⟨2, 2, [.ex (.call "_wall" [.cst (.int 0)])]⟩
theorem e_Net_pipes_at : lay.fn 40 d_Net_pipes_at = f_Net_pipes_at := by kernel_rfl
def f_spot_of : Fn := ⟨2, 2, [.iff (.or [.not (.ap (.isi [.str]) [.var 1]), .ap (.cmp .notin) [.var 1, .ap (.fld "spots") [.var 0]]])
   [.bad]
   [],
  .ret (.ap .idx [.ap (.fld "spots") [.var 0], .var 1])]⟩
theorem e_spot_of : lay.fn 40 d_spot_of = f_spot_of := by kernel_rfl
def f_joint_of : Fn := ⟨2, 3, [.set 2 (.call "spot_of" [.var 0, .var 1]),
  .iff (.ap (.cmp .eq) [.ap .idx [.ap .idx [.ap (.fld "nodes") [.var 0], .var 2], .cst (.int 1)], .cst (.str "tank")])
   [.bad]
   [],
  .ret (.var 2)]⟩
theorem e_joint_of : lay.fn 40 d_joint_of = f_joint_of := by kernel_rfl
def f_lowest : Fn := ⟨2, 3, [.iff (.ap (.cmp .lt) [.var 1, .cst (.int 0)])
   [.par [0, 1] [.ap .neg [.var 0], .ap .neg [.var 1]]]
   [],
  .set 2 (.call "common" [.ap (.bi .abs) [.var 0], .var 1]),
  .ret (.tup [.ap (.bin .fdiv) [.var 0, .var 2], .ap (.bin .fdiv) [.var 1, .var 2]])]⟩
theorem e_lowest : lay.fn 40 d_lowest = f_lowest := by kernel_rfl
def f_plus : Fn := ⟨2, 2, [.iff (.ap (.cmp .eq) [.ap .idx [.var 0, .cst (.int 1)], .ap .idx [.var 1, .cst (.int 1)]])
   [.ret (.call "lowest" [.ap (.bin .add) [.ap .idx [.var 0, .cst (.int 0)], .ap .idx [.var 1, .cst (.int 0)]], .ap .idx [.var 0, .cst (.int 1)]])]
   [],
  .ret (.call "lowest" [.ap (.bin .add) [.ap (.bin .mul) [.ap .idx [.var 0, .cst (.int 0)], .ap .idx [.var 1, .cst (.int 1)]], .ap (.bin .mul) [.ap .idx [.var 1, .cst (.int 0)], .ap .idx [.var 0, .cst (.int 1)]]], .ap (.bin .mul) [.ap .idx [.var 0, .cst (.int 1)], .ap .idx [.var 1, .cst (.int 1)]]])]⟩
theorem e_plus : lay.fn 40 d_plus = f_plus := by kernel_rfl
def f_minus : Fn := ⟨2, 2, [.ret (.call "plus" [.var 0, .tup [.ap .neg [.ap .idx [.var 1, .cst (.int 0)]], .ap .idx [.var 1, .cst (.int 1)]]])]⟩
theorem e_minus : lay.fn 40 d_minus = f_minus := by kernel_rfl
def f_rest : Fn := ⟨1, 2, [.ret (.ap (.bi .tuple) [.comp [1] (.nm 1) .seq [.ap (.fld "pipes") [.var 0]] [] (.tup [.ap (.bin .mul) [.tup [.glo "ZERO"], .ap .idx [.var 1, .cst (.int 3)]], .ap (.bin .mul) [.tup [.glo "ZERO"], .ap .idx [.var 1, .cst (.int 3)]]])])]⟩
theorem e_rest : lay.fn 40 d_rest = f_rest := by kernel_rfl
def f_head_at : Fn := ⟨4, 12, [.tgt (.tp [.nm 4, .nm 5, .nm 6]) (.ap .idx [.ap (.fld "nodes") [.var 0], .var 1]),
  .iff (.ap (.cmp .eq) [.var 5, .cst (.str "tank")])
   [.ret (.glo "ZERO")]
   [],
  .set 7 (.glo "ZERO"),
  .for_ (.tp [.nm 8, .nm 9]) .seq [.ap .idx [.ap (.fld "ends") [.var 0], .var 1]]
   [.par [10, 11] [.ap .idx [.ap .idx [.ap .idx [.var 2, .var 8], .ap (.bin .sub) [.cst (.int 1), .var 9]], .cst (.int 0)], .ap .idx [.ap .idx [.ap (.fld "pipes") [.var 0], .var 8], .cst (.int 4)]],
    .aug 6 .add (.var 11),
    .iff (.ap (.cmp .ne) [.ap .idx [.var 10, .cst (.int 0)], .cst (.int 0)])
     [.set 7 (.call "plus" [.var 7, .call "lowest" [.ap (.bin .mul) [.ap (.bin .mul) [.cst (.int 2), .var 11], .ap .idx [.var 10, .cst (.int 0)]], .ap .idx [.var 10, .cst (.int 1)]]])]
     []],
  .set 7 (.call "minus" [.var 7, .get (.var 3) (.var 4) (.glo "ZERO")]),
  .ret (.call "lowest" [.ap .idx [.var 7, .cst (.int 0)], .ap (.bin .mul) [.ap .idx [.var 7, .cst (.int 1)], .var 6]])]⟩
theorem e_head_at : lay.fn 40 d_head_at = f_head_at := by kernel_rfl
def f_tick : Fn := ⟨3, 12, [.set 3 (.ap (.bi .tuple) [.comp [4] (.nm 4) .rng [.ap (.bi .len) [.ap (.fld "nodes") [.var 0]]] [] (.call "head_at" [.var 0, .var 4, .var 1, .var 2])]),
  .set 5 (.lst []),
  .for_ (.tp [.nm 6, .nm 7]) .zip [.ap (.fld "pipes") [.var 0], .fz 1]
   [.tgt (.tp [.nm 8, .nm 9]) (.var 7),
    .set 10 (.call "minus" [.ap .idx [.var 3, .ap .idx [.ap (.fld "spots") [.var 0], .ap .idx [.var 6, .cst (.int 1)]]], .ap .idx [.var 9, .cst (.int 0)]]),
    .set 11 (.call "minus" [.ap .idx [.var 3, .ap .idx [.ap (.fld "spots") [.var 0], .ap .idx [.var 6, .cst (.int 2)]]], .ap .idx [.var 8, .cst (.int 0)]]),
    .mt 5 .append [.tup [.ap (.bin .add) [.slc (.var 8) (.cst (.int 1)) (.cst .non), .tup [.var 10]], .ap (.bin .add) [.slc (.var 9) (.cst (.int 1)) (.cst .non), .tup [.var 11]]]]],
  .ret (.tup [.var 3, .ap (.bi .tuple) [.var 5]])]⟩
theorem e_tick : lay.fn 40 d_tick = f_tick := by kernel_rfl
def f_run : Fn := ⟨3, 6, [.set 3 (.lst []),
  .for_ (.nm 4) .seq [.fz 2]
   [.tgt (.tp [.nm 5, .nm 1]) (.call "tick" [.var 0, .var 1, .var 4]),
    .mt 3 .append [.var 5]],
  .ret (.tup [.ap (.bi .tuple) [.var 3], .var 1])]⟩
theorem e_run : lay.fn 40 d_run = f_run := by kernel_rfl
def f_check_pair : Fn := ⟨3, 3, [.ex (.call "joint_of" [.var 0, .var 1]),
  .ex (.call "spot_of" [.var 0, .var 2])]⟩
theorem e_check_pair : lay.fn 40 d_check_pair = f_check_pair := by kernel_rfl
def f_check_ticks : Fn := ⟨2, 2, [.iff (.not (.call "is_within" [.var 0, .var 1, .glo "MOST_RESPONSE"]))
   [.bad]
   []]⟩
theorem e_check_ticks : lay.fn 40 d_check_ticks = f_check_ticks := by kernel_rfl
def f_heads_of_taking : Fn := ⟨3, 4, [.set 3 (.ap (.bin .add) [.lst [.dic [.var 1, .glo "ONE"]], .ap (.bin .mul) [.lst [.dic []], .ap (.bin .sub) [.var 2, .cst (.int 1)]]]),
  .ret (.ap .idx [.call "run" [.var 0, .call "rest" [.var 0], .slc (.var 3) (.cst .non) (.var 2)], .cst (.int 0)])]⟩
theorem e_heads_of_taking : lay.fn 40 d_heads_of_taking = f_heads_of_taking := by kernel_rfl
def f_response : Fn := ⟨4, 6, [.ex (.call "check_pair" [.var 0, .var 1, .var 2]),
  .ex (.call "check_ticks" [.var 3, .cst (.int 0)]),
  .set 4 (.ap .idx [.ap (.fld "spots") [.var 0], .var 2]),
  .ret (.ap (.bi .tuple) [.comp [5] (.nm 5) .seq [.call "heads_of_taking" [.var 0, .var 1, .var 3]] [] (.ap .idx [.var 5, .var 4])])]⟩
theorem e_response : lay.fn 40 d_response = f_response := by kernel_rfl
def f__law_taken : Fn := ⟨2, 4, [.iff (.ap (.cmp .gt) [.ap .idx [.var 0, .cst (.int 3)], .cst (.int 0)])
   [.set 2 (.ap (.bin .mod) [.ap (.bi .int) [.ap .idx [.var 0, .cst (.int 3)]], .var 1]),
    .sti 0 (.cst (.int 3)) (.ap (.bin .fdiv) [.ap .idx [.var 0, .cst (.int 3)], .var 1]),
    .ret (.var 2)]
   [],
  .sti 0 (.cst (.int 1)) (.ap (.bin .add) [.ap .idx [.var 0, .cst (.int 1)], .cst (.int 1)]),
  .iff (.ap (.cmp .gt) [.ap .idx [.var 0, .cst (.int 1)], .ap (.bi .len) [.ap .idx [.var 0, .cst (.int 0)]]])
   [.sti 0 (.cst (.int 2)) (.ap (.bin .mod) [.ap (.bi .int) [.ap (.bin .add) [.ap (.bin .mul) [.ap .idx [.var 0, .cst (.int 2)], .cst (.int 48271)], .cst (.int 11)]], .cst (.int 2147483647)]),
    .ret (.ap (.bin .mod) [.ap (.bi .int) [.ap (.bin .fdiv) [.ap .idx [.var 0, .cst (.int 2)], .cst (.int 7)]], .var 1])]
   [],
  .set 3 (.ap .idx [.ap .idx [.var 0, .cst (.int 0)], .ap (.bin .sub) [.ap .idx [.var 0, .cst (.int 1)], .cst (.int 1)]]),
  .sti 0 (.cst (.int 2)) (.ap (.bin .mod) [.ap (.bi .int) [.ap (.bin .add) [.ap (.bin .add) [.ap (.bin .mul) [.ap .idx [.var 0, .cst (.int 2)], .cst (.int 48271)], .var 3], .cst (.int 11)]], .cst (.int 2147483647)]),
  .iff (.ap (.cmp .ge) [.var 3, .ap (.bin .pow) [.cst (.int 10), .cst (.int 18)]])
   [.sti 0 (.cst (.int 3)) (.ap (.bin .fdiv) [.var 3, .var 1])]
   [],
  .ret (.ap (.bin .mod) [.ap (.bi .int) [.var 3], .var 1])]⟩
theorem e__law_taken : lay.fn 40 d__law_taken = f__law_taken := by kernel_rfl
def f__law_pick : Fn := ⟨2, 2, [.ret (.ap .idx [.var 1, .call "_law_taken" [.var 0, .ap (.bi .len) [.var 1]]])]⟩
theorem e__law_pick : lay.fn 40 d__law_pick = f__law_pick := by kernel_rfl
def f__law_alike : Fn := ⟨2, 4, [.iff (.ap (.isi [.tuple, .list]) [.var 1])
   [.iff (.or [.not (.ap (.isi [.tuple, .list]) [.var 0]), .ap (.cmp .ne) [.ap (.isi [.list]) [.var 0], .ap (.isi [.list]) [.var 1]]])
     [.ret (.cst (.bl false))]
     [],
    .iff (.ap (.cmp .ne) [.ap (.bi .len) [.var 0], .ap (.bi .len) [.var 1]])
     [.ret (.cst (.bl false))]
     [],
    .ret (.ap (.cmp .eq) [.comp [2] (.nm 2) .rng [.ap (.bi .len) [.var 1]] [.not (.call "_law_alike" [.ap .idx [.var 0, .var 2], .ap .idx [.var 1, .var 2]])] (.var 2), .lst []])]
   [],
  .iff (.ap (.isi [.dict]) [.var 1])
   [.iff (.or [.not (.ap (.isi [.dict]) [.var 0]), .ap (.cmp .ne) [.ap (.bi .list) [.var 0], .ap (.bi .list) [.var 1]]])
     [.ret (.cst (.bl false))]
     [],
    .ret (.ap (.cmp .eq) [.comp [3] (.nm 3) .seq [.var 1] [.not (.call "_law_alike" [.ap .idx [.var 0, .var 3], .ap .idx [.var 1, .var 3]])] (.var 3), .lst []])]
   [],
  .iff (.or [.ap (.isn true) [.var 1], .ap (.isi [.str]) [.var 1]])
   [.ret (.and [.oeq false [.var 0, .var 1], .ap (.cmp .eq) [.ap (.isi [.str]) [.var 0], .ap (.isi [.str]) [.var 1]]])]
   [],
  .ret (.and [.ap (.isi [.int]) [.var 0], .ap (.cmp .eq) [.ap (.isi [.bool]) [.var 0], .ap (.isi [.bool]) [.var 1]], .oeq false [.var 0, .var 1]])]⟩
theorem e__law_alike : lay.fn 40 d__law_alike = f__law_alike := by kernel_rfl
def f__law_low : Fn := ⟨2, 4, [.par [2, 3] [.ap (.bi .abs) [.var 0], .var 1],
  .whl (.ap (.cmp .gt) [.var 3, .cst (.int 0)])
   [.par [2, 3] [.var 3, .ap (.bin .mod) [.ap (.bi .int) [.var 2], .var 3]]],
  .ret (.tup [.ap (.bin .fdiv) [.var 0, .var 2], .ap (.bin .fdiv) [.var 1, .var 2]])]⟩
theorem e__law_low : lay.fn 40 d__law_low = f__law_low := by kernel_rfl
def f__law_plus : Fn := ⟨2, 2, [.ret (.call "_law_low" [.ap (.bin .add) [.ap (.bin .mul) [.ap .idx [.var 0, .cst (.int 0)], .ap .idx [.var 1, .cst (.int 1)]], .ap (.bin .mul) [.ap .idx [.var 1, .cst (.int 0)], .ap .idx [.var 0, .cst (.int 1)]]], .ap (.bin .mul) [.ap .idx [.var 0, .cst (.int 1)], .ap .idx [.var 1, .cst (.int 1)]]])]⟩
theorem e__law_plus : lay.fn 40 d__law_plus = f__law_plus := by kernel_rfl
def f__law_minus : Fn := ⟨2, 2, [.ret (.call "_law_low" [.ap (.bin .sub) [.ap (.bin .mul) [.ap .idx [.var 0, .cst (.int 0)], .ap .idx [.var 1, .cst (.int 1)]], .ap (.bin .mul) [.ap .idx [.var 1, .cst (.int 0)], .ap .idx [.var 0, .cst (.int 1)]]], .ap (.bin .mul) [.ap .idx [.var 0, .cst (.int 1)], .ap .idx [.var 1, .cst (.int 1)]]])]⟩
theorem e__law_minus : lay.fn 40 d__law_minus = f__law_minus := by kernel_rfl
def f__law_less : Fn := ⟨2, 2, [.ret (.ap (.cmp .lt) [.ap (.bin .mul) [.ap .idx [.var 0, .cst (.int 0)], .ap .idx [.var 1, .cst (.int 1)]], .ap (.bin .mul) [.ap .idx [.var 1, .cst (.int 0)], .ap .idx [.var 0, .cst (.int 1)]]])]⟩
theorem e__law_less : lay.fn 40 d__law_less = f__law_less := by kernel_rfl
def f__law_is_fraction : Fn := ⟨1, 2, [.iff (.or [.not (.ap (.isi [.tuple]) [.var 0]), .ap (.cmp .ne) [.ap (.bi .len) [.var 0], .cst (.int 2)], .ap (.cmp .ne) [.comp [1] (.nm 1) .seq [.var 0] [.or [.not (.ap (.isi [.int]) [.var 1]), .ap (.isi [.bool]) [.var 1]]] (.cst (.int 1)), .lst []]])
   [.ret (.cst (.bl false))]
   [],
  .ret (.and [.ap (.cmp .ge) [.ap .idx [.var 0, .cst (.int 1)], .cst (.int 1)], .oeq false [.call "_law_low" [.ap .idx [.var 0, .cst (.int 0)], .ap .idx [.var 0, .cst (.int 1)]], .var 0]])]⟩
theorem e__law_is_fraction : lay.fn 40 d__law_is_fraction = f__law_is_fraction := by kernel_rfl
def f__law_are_fractions : Fn := ⟨2, 3, [.iff (.or [.not (.ap (.isi [.list, .tuple]) [.var 0]), .ap (.cmp .ne) [.ap (.bi .len) [.var 0], .var 1]])
   [.ret (.cst (.bl false))]
   [],
  .ret (.ap (.cmp .eq) [.comp [2] (.nm 2) .seq [.var 0] [.not (.call "_law_is_fraction" [.var 2])] (.cst (.int 1)), .lst []])]⟩
theorem e__law_are_fractions : lay.fn 40 d__law_are_fractions = f__law_are_fractions := by kernel_rfl
def f__law_names : Fn := ⟨3, 14, [.par [3, 4] [.cst (.str "abcdefghijklmnopqrstuvwxyz"), .lst []],
  .par [5, 6] [.call "_law_taken" [.var 0, .cst (.int 26)], .ap (.cmp .eq) [.call "_law_taken" [.var 0, .cst (.int 2)], .cst (.int 0)]],
  .par [7, 8] [.ap (.bin .mul) [.ap .idx [.var 3, .call "_law_taken" [.var 0, .cst (.int 26)]], .call "_law_taken" [.var 0, .cst (.int 4)]], .ap (.bin .mul) [.ap .idx [.var 3, .call "_law_taken" [.var 0, .cst (.int 26)]], .call "_law_taken" [.var 0, .cst (.int 4)]]],
  .for_ (.nm 9) .rng [.fz 1]
   [.set 10 (.ife (.var 6) (.cst (.str "")) (.ap (.bin .mul) [.ap .idx [.var 3, .call "_law_taken" [.var 0, .cst (.int 26)]], .call "_law_taken" [.var 0, .cst (.int 4)]])),
    .set 11 (.comp [12] (.nm 12) .rng [.cst (.int 26)] [] (.ap (.bin .add) [.ap (.bin .add) [.var 7, .ap .idx [.var 3, .ap (.bin .mod) [.ap (.bi .int) [.ap (.bin .add) [.ap (.bin .add) [.var 5, .ap (.bin .mul) [.cst (.int 7), .var 9]], .var 12]], .cst (.int 26)]]], .ife (.var 6) (.var 8) (.var 10)])),
    .mt 4 .append [.ap .idx [.comp [13] (.nm 13) .seq [.var 11] [.and [.ap (.cmp .notin) [.var 13, .var 4], .ap (.cmp .notin) [.var 13, .var 2]]] (.var 13), .cst (.int 0)]]],
  .ret (.var 4)]⟩
theorem e__law_names : lay.fn 40 d__law_names = f__law_names := by kernel_rfl
def f__law_net : Fn := ⟨2, 15, [.set 2 (.ap (.cmp .eq) [.call "_law_taken" [.var 0, .cst (.int 12)], .cst (.int 0)]),
  .set 3 (.ife (.var 2) (.cst (.int 8)) (.ap (.bin .add) [.cst (.int 2), .call "_law_taken" [.var 0, .ap (.bin .sub) [.var 1, .cst (.int 1)]]])),
  .par [4, 5, 6] [.call "_law_names" [.var 0, .var 3, .lst []], .lst [], .lst []],
  .for_ (.nm 7) .rng [.fz 3]
   [.set 8 (.ife (.ap (.cmp .eq) [.call "_law_taken" [.var 0, .cst (.int 4)], .cst (.int 0)]) (.cst (.str "tank")) (.cst (.str "joint"))),
    .set 9 (.ife (.ap (.cmp .eq) [.var 8, .cst (.str "tank")]) (.cst (.int 0)) (.call "_law_pick" [.var 0, .lst [.cst (.int 0), .cst (.int 0), .cst (.int 0), .cst (.int 1), .cst (.int 2), .ife (.var 2) (.cst (.int 60)) (.cst (.int 5))]])),
    .mt 5 .append [.tup [.ap .idx [.var 4, .var 7], .var 8, .var 9]]],
  .set 10 (.call "_law_names" [.var 0, .cst (.int 12), .lst []]),
  .for_ (.nm 7) .rng [.cst (.int 1), .fz 3]
   [.set 11 (.call "_law_taken" [.var 0, .var 7]),
    .set 12 (.call "_law_pick" [.var 0, .lst [.tup [.ap .idx [.var 4, .var 7], .ap .idx [.var 4, .var 11]], .tup [.ap .idx [.var 4, .var 11], .ap .idx [.var 4, .var 7]]]]),
    .mt 6 .append [.tup [.ap .idx [.var 10, .ap (.bi .len) [.var 6]], .ap .idx [.var 12, .cst (.int 0)], .ap .idx [.var 12, .cst (.int 1)], .ap (.bin .add) [.cst (.int 1), .call "_law_taken" [.var 0, .ife (.var 2) (.cst (.int 6)) (.cst (.int 3))]], .ap (.bin .add) [.cst (.int 1), .call "_law_taken" [.var 0, .ife (.var 2) (.cst (.int 9)) (.cst (.int 4))]]]]],
  .for_ (.nm 13) .rng [.ife (.var 2) (.cst (.int 5)) (.call "_law_taken" [.var 0, .cst (.int 3)])]
   [.set 14 (.call "_law_taken" [.var 0, .var 3]),
    .set 11 (.ap (.bin .mod) [.ap (.bi .int) [.ap (.bin .add) [.ap (.bin .add) [.var 14, .cst (.int 1)], .call "_law_taken" [.var 0, .ap (.bin .sub) [.var 3, .cst (.int 1)]]]], .var 3]),
    .mt 6 .append [.tup [.ap .idx [.var 10, .ap (.bi .len) [.var 6]], .ap .idx [.var 4, .var 14], .ap .idx [.var 4, .var 11], .ap (.bin .add) [.cst (.int 1), .call "_law_taken" [.var 0, .cst (.int 3)]], .ap (.bin .add) [.cst (.int 1), .call "_law_taken" [.var 0, .cst (.int 4)]]]]],
  .ret (.tup [.ap (.bi .tuple) [.var 5], .ap (.bi .tuple) [.var 6]])]⟩
theorem e__law_net : lay.fn 40 d__law_net = f__law_net := by kernel_rfl
def f__law_joints : Fn := ⟨1, 2, [.ret (.comp [1] (.nm 1) .seq [.ap .idx [.var 0, .cst (.int 0)]] [.ap (.cmp .eq) [.ap .idx [.var 1, .cst (.int 1)], .cst (.str "joint")]] (.ap .idx [.var 1, .cst (.int 0)]))]⟩
theorem e__law_joints : lay.fn 40 d__law_joints = f__law_joints := by kernel_rfl
def f__law_with_joint : Fn := ⟨1, 1, [.iff (.ap (.cmp .ne) [.call "_law_joints" [.var 0], .lst []])
   [.ret (.var 0)]
   [],
  .ret (.tup [.ap (.bin .add) [.tup [.tup [.ap .idx [.ap .idx [.ap .idx [.var 0, .cst (.int 0)], .cst (.int 0)], .cst (.int 0)], .cst (.str "joint"), .cst (.int 0)]], .slc (.ap .idx [.var 0, .cst (.int 0)]) (.cst (.int 1)) (.cst .non)], .ap .idx [.var 0, .cst (.int 1)]])]⟩
theorem e__law_with_joint : lay.fn 40 d__law_with_joint = f__law_with_joint := by kernel_rfl
def f__law_made : Fn := ⟨1, 1, [.ret (.call "Net" [.ap .idx [.var 0, .cst (.int 0)], .ap .idx [.var 0, .cst (.int 1)]])]⟩
theorem e__law_made : lay.fn 40 d__law_made = f__law_made := by kernel_rfl
def f__law_rest : Fn := ⟨1, 2, [.ret (.ap (.bi .tuple) [.comp [1] (.nm 1) .seq [.ap .idx [.var 0, .cst (.int 1)]] [] (.tup [.ap (.bin .mul) [.tup [.tup [.cst (.int 0), .cst (.int 1)]], .ap .idx [.var 1, .cst (.int 3)]], .ap (.bin .mul) [.tup [.tup [.cst (.int 0), .cst (.int 1)]], .ap .idx [.var 1, .cst (.int 3)]]])])]⟩
theorem e__law_rest : lay.fn 40 d__law_rest = f__law_rest := by kernel_rfl
def f__law_head : Fn := ⟨4, 11, [.tgt (.tp [.nm 4, .nm 5, .nm 6]) (.var 1),
  .iff (.ap (.cmp .eq) [.var 5, .cst (.str "tank")])
   [.ret (.tup [.cst (.int 0), .cst (.int 1)])]
   [],
  .set 7 (.get (.var 3) (.var 4) (.tup [.cst (.int 0), .cst (.int 1)])),
  .set 7 (.tup [.ap (.bin .sub) [.cst (.int 0), .ap .idx [.var 7, .cst (.int 0)]], .ap .idx [.var 7, .cst (.int 1)]]),
  .for_ (.tp [.nm 8, .nm 9]) .enm [.ap .idx [.var 0, .cst (.int 1)]]
   [.iff (.or [.ap (.cmp .eq) [.ap .idx [.var 9, .cst (.int 1)], .var 4], .ap (.cmp .eq) [.ap .idx [.var 9, .cst (.int 2)], .var 4]])
     [.set 10 (.ife (.ap (.cmp .eq) [.ap .idx [.var 9, .cst (.int 1)], .var 4]) (.ap .idx [.ap .idx [.ap .idx [.var 2, .var 8], .cst (.int 1)], .cst (.int 0)]) (.ap .idx [.ap .idx [.ap .idx [.var 2, .var 8], .cst (.int 0)], .cst (.int 0)])),
      .set 6 (.ap (.bin .add) [.var 6, .ap .idx [.var 9, .cst (.int 4)]]),
      .set 7 (.call "_law_plus" [.var 7, .tup [.ap (.bin .mul) [.ap (.bin .mul) [.cst (.int 2), .ap .idx [.var 9, .cst (.int 4)]], .ap .idx [.var 10, .cst (.int 0)]], .ap .idx [.var 10, .cst (.int 1)]]])]
     []],
  .ret (.call "_law_low" [.ap .idx [.var 7, .cst (.int 0)], .ap (.bin .mul) [.ap .idx [.var 7, .cst (.int 1)], .var 6]])]⟩
theorem e__law_head : lay.fn 40 d__law_head = f__law_head := by kernel_rfl
def f__law_tick : Fn := ⟨3, 10, [.par [3, 4] [.dic [], .lst []],
  .for_ (.nm 5) .seq [.ap .idx [.var 0, .cst (.int 0)]]
   [.sti 3 (.ap .idx [.var 5, .cst (.int 0)]) (.call "_law_head" [.var 0, .var 5, .var 1, .var 2])],
  .for_ (.tp [.nm 6, .nm 7]) .enm [.ap .idx [.var 0, .cst (.int 1)]]
   [.tgt (.tp [.nm 8, .nm 9]) (.ap .idx [.var 1, .var 6]),
    .mt 4 .append [.tup [.ap (.bin .add) [.slc (.var 8) (.cst (.int 1)) (.cst .non), .tup [.call "_law_minus" [.ap .idx [.var 3, .ap .idx [.var 7, .cst (.int 1)]], .ap .idx [.var 9, .cst (.int 0)]]]], .ap (.bin .add) [.slc (.var 9) (.cst (.int 1)) (.cst .non), .tup [.call "_law_minus" [.ap .idx [.var 3, .ap .idx [.var 7, .cst (.int 2)]], .ap .idx [.var 8, .cst (.int 0)]]]]]]],
  .ret (.tup [.ap (.bi .tuple) [.comp [5] (.nm 5) .seq [.ap .idx [.var 0, .cst (.int 0)]] [] (.ap .idx [.var 3, .ap .idx [.var 5, .cst (.int 0)]])], .ap (.bi .tuple) [.var 4]])]⟩
theorem e__law_tick : lay.fn 40 d__law_tick = f__law_tick := by kernel_rfl
def f__law_run : Fn := ⟨3, 6, [.set 3 (.lst []),
  .for_ (.nm 4) .seq [.fz 2]
   [.tgt (.tp [.nm 5, .nm 1]) (.call "_law_tick" [.var 0, .var 1, .var 4]),
    .mt 3 .append [.var 5]],
  .ret (.tup [.ap (.bi .tuple) [.var 3], .var 1])]⟩
theorem e__law_run : lay.fn 40 d__law_run = f__law_run := by kernel_rfl
def f__law_unit : Fn := ⟨3, 4, [.set 3 (.ap (.bin .add) [.lst [.dic [.var 1, .tup [.cst (.int 1), .cst (.int 1)]]], .ap (.bin .mul) [.lst [.dic []], .var 2]]),
  .ret (.ap .idx [.call "_law_run" [.var 0, .call "_law_rest" [.var 0], .slc (.var 3) (.cst .non) (.var 2)], .cst (.int 0)])]⟩
theorem e__law_unit : lay.fn 40 d__law_unit = f__law_unit := by kernel_rfl
def f__law_spot : Fn := ⟨2, 3, [.ret (.meth "index" (.comp [2] (.nm 2) .seq [.ap .idx [.var 0, .cst (.int 0)]] [] (.ap .idx [.var 2, .cst (.int 0)])) [.var 1])]⟩
theorem e__law_spot : lay.fn 40 d__law_spot = f__law_spot := by kernel_rfl
def f_law : Fn := ⟨1, 16, [.set 1 (.lst [.var 0, .cst (.int 0), .cst (.int 1601), .cst (.int 0)]),
  .for_ (.nm 2) .rng [.cst (.int 2)]
   [.set 3 (.call "_law_with_joint" [.call "_law_net" [.var 1, .cst (.int 5)]]),
    .par [4, 5] [.call "_law_made" [.var 3], .call "_law_joints" [.var 3]],
    .set 6 (.ife (.and [.ap (.cmp .eq) [.call "_law_taken" [.var 1, .cst (.int 12)], .cst (.int 0)], .ap (.cmp .lt) [.ap (.bi .len) [.ap .idx [.var 3, .cst (.int 0)]], .cst (.int 5)]]) (.cst (.int 40)) (.ap (.bin .add) [.cst (.int 1), .call "_law_taken" [.var 1, .cst (.int 14)]])),
    .for_ (.nm 7) .rng [.cst (.int 4)]
     [.par [8, 9] [.call "_law_pick" [.var 1, .var 5], .call "_law_pick" [.var 1, .var 5]],
      .par [10, 11] [.call "response" [.var 4, .var 8, .var 9, .var 6], .call "response" [.var 4, .var 9, .var 8, .var 6]],
      .iff (.or [.not (.call "_law_alike" [.var 10, .var 11]), .ap (.cmp .ne) [.ap (.bi .len) [.var 10], .var 6], .not (.call "_law_are_fractions" [.var 10, .var 6])])
       [.ret (.cst (.bl false))]
       [],
      .iff (.and [.oeq false [.var 8, .var 9], .not (.call "_law_less" [.ap .idx [.var 10, .cst (.int 0)], .tup [.cst (.int 0), .cst (.int 1)]])])
       [.ret (.cst (.bl false))]
       []],
    .for_ (.nm 12) .seq [.ap .idx [.var 3, .cst (.int 0)]]
     [.iff (.and [.ap (.cmp .eq) [.ap .idx [.var 12, .cst (.int 1)], .cst (.str "tank")], .not (.call "_law_alike" [.call "response" [.var 4, .ap .idx [.var 5, .cst (.int 0)], .ap .idx [.var 12, .cst (.int 0)], .var 6], .ap (.bin .mul) [.tup [.tup [.cst (.int 0), .cst (.int 1)]], .var 6]])])
       [.ret (.cst (.bl false))]
       []],
    .set 13 (.call "_law_pick" [.var 1, .var 5]),
    .set 14 (.comp [15] (.nm 15) .seq [.call "_law_unit" [.var 3, .var 13, .var 6]] [] (.ap .idx [.var 15, .call "_law_spot" [.var 3, .ap .idx [.var 5, .cst (.int 0)]]])),
    .iff (.not (.call "_law_alike" [.ap (.bi .list) [.call "response" [.var 4, .ap .idx [.var 5, .cst (.int 0)], .var 13, .var 6]], .var 14]))
     [.ret (.cst (.bl false))]
     []],
  .ret (.cst (.bl true))]⟩
theorem e_law : lay.fn 40 d_law = f_law := by kernel_rfl
end K06
end
section
set_option Elab.async false
set_option linter.all false
set_option maxRecDepth 100000
set_option maxHeartbeats 0
namespace K06
open PySem PySem.Spec PyProof.Rows L2 Pf
abbrev P : Prg := lay.prg 40 (2 ^ 8000)
theorem k_is_number : Knows (ga P) "is_number" f_is_number := knows_of (by
  show (findDf ("is_number", none) lay.defs).map (lay.fn 40) = _
  rw [show findDf ("is_number", none) lay.defs = some d_is_number from by kernel_rfl]
  exact congrArg some e_is_number) (by kernel_rfl)
theorem k_is_within : Knows (ga P) "is_within" f_is_within := knows_of (by
  show (findDf ("is_within", none) lay.defs).map (lay.fn 40) = _
  rw [show findDf ("is_within", none) lay.defs = some d_is_within from by kernel_rfl]
  exact congrArg some e_is_within) (by kernel_rfl)
theorem k_is_row : Knows (ga P) "is_row" f_is_row := knows_of (by
  show (findDf ("is_row", none) lay.defs).map (lay.fn 40) = _
  rw [show findDf ("is_row", none) lay.defs = some d_is_row from by kernel_rfl]
  exact congrArg some e_is_row) (by kernel_rfl)
theorem k_is_name : Knows (ga P) "is_name" f_is_name := knows_of (by
  show (findDf ("is_name", none) lay.defs).map (lay.fn 40) = _
  rw [show findDf ("is_name", none) lay.defs = some d_is_name from by kernel_rfl]
  exact congrArg some e_is_name) (by kernel_rfl)
theorem k_common : Knows (ga P) "common" f_common := knows_of (by
  show (findDf ("common", none) lay.defs).map (lay.fn 40) = _
  rw [show findDf ("common", none) lay.defs = some d_common from by kernel_rfl]
  exact congrArg some e_common) (by kernel_rfl)
theorem k_is_node : Knows (ga P) "is_node" f_is_node := knows_of (by
  show (findDf ("is_node", none) lay.defs).map (lay.fn 40) = _
  rw [show findDf ("is_node", none) lay.defs = some d_is_node from by kernel_rfl]
  exact congrArg some e_is_node) (by kernel_rfl)
theorem k_is_pipe : Knows (ga P) "is_pipe" f_is_pipe := knows_of (by
  show (findDf ("is_pipe", none) lay.defs).map (lay.fn 40) = _
  rw [show findDf ("is_pipe", none) lay.defs = some d_is_pipe from by kernel_rfl]
  exact congrArg some e_is_pipe) (by kernel_rfl)
theorem k_check_nodes : Knows (ga P) "check_nodes" f_check_nodes := knows_of (by
  show (findDf ("check_nodes", none) lay.defs).map (lay.fn 40) = _
  rw [show findDf ("check_nodes", none) lay.defs = some d_check_nodes from by kernel_rfl]
  exact congrArg some e_check_nodes) (by kernel_rfl)
theorem k_check_pipes : Knows (ga P) "check_pipes" f_check_pipes := knows_of (by
  show (findDf ("check_pipes", none) lay.defs).map (lay.fn 40) = _
  rw [show findDf ("check_pipes", none) lay.defs = some d_check_pipes from by kernel_rfl]
  exact congrArg some e_check_pipes) (by kernel_rfl)
theorem k_spot_of : Knows (ga P) "spot_of" f_spot_of := knows_of (by
  show (findDf ("spot_of", none) lay.defs).map (lay.fn 40) = _
  rw [show findDf ("spot_of", none) lay.defs = some d_spot_of from by kernel_rfl]
  exact congrArg some e_spot_of) (by kernel_rfl)
theorem k_joint_of : Knows (ga P) "joint_of" f_joint_of := knows_of (by
  show (findDf ("joint_of", none) lay.defs).map (lay.fn 40) = _
  rw [show findDf ("joint_of", none) lay.defs = some d_joint_of from by kernel_rfl]
  exact congrArg some e_joint_of) (by kernel_rfl)
theorem k_lowest : Knows (ga P) "lowest" f_lowest := knows_of (by
  show (findDf ("lowest", none) lay.defs).map (lay.fn 40) = _
  rw [show findDf ("lowest", none) lay.defs = some d_lowest from by kernel_rfl]
  exact congrArg some e_lowest) (by kernel_rfl)
theorem k_plus : Knows (ga P) "plus" f_plus := knows_of (by
  show (findDf ("plus", none) lay.defs).map (lay.fn 40) = _
  rw [show findDf ("plus", none) lay.defs = some d_plus from by kernel_rfl]
  exact congrArg some e_plus) (by kernel_rfl)
theorem k_minus : Knows (ga P) "minus" f_minus := knows_of (by
  show (findDf ("minus", none) lay.defs).map (lay.fn 40) = _
  rw [show findDf ("minus", none) lay.defs = some d_minus from by kernel_rfl]
  exact congrArg some e_minus) (by kernel_rfl)
theorem k_rest : Knows (ga P) "rest" f_rest := knows_of (by
  show (findDf ("rest", none) lay.defs).map (lay.fn 40) = _
  rw [show findDf ("rest", none) lay.defs = some d_rest from by kernel_rfl]
  exact congrArg some e_rest) (by kernel_rfl)
theorem k_head_at : Knows (ga P) "head_at" f_head_at := knows_of (by
  show (findDf ("head_at", none) lay.defs).map (lay.fn 40) = _
  rw [show findDf ("head_at", none) lay.defs = some d_head_at from by kernel_rfl]
  exact congrArg some e_head_at) (by kernel_rfl)
theorem k_tick : Knows (ga P) "tick" f_tick := knows_of (by
  show (findDf ("tick", none) lay.defs).map (lay.fn 40) = _
  rw [show findDf ("tick", none) lay.defs = some d_tick from by kernel_rfl]
  exact congrArg some e_tick) (by kernel_rfl)
theorem k_run : Knows (ga P) "run" f_run := knows_of (by
  show (findDf ("run", none) lay.defs).map (lay.fn 40) = _
  rw [show findDf ("run", none) lay.defs = some d_run from by kernel_rfl]
  exact congrArg some e_run) (by kernel_rfl)
theorem k_check_pair : Knows (ga P) "check_pair" f_check_pair := knows_of (by
  show (findDf ("check_pair", none) lay.defs).map (lay.fn 40) = _
  rw [show findDf ("check_pair", none) lay.defs = some d_check_pair from by kernel_rfl]
  exact congrArg some e_check_pair) (by kernel_rfl)
theorem k_check_ticks : Knows (ga P) "check_ticks" f_check_ticks := knows_of (by
  show (findDf ("check_ticks", none) lay.defs).map (lay.fn 40) = _
  rw [show findDf ("check_ticks", none) lay.defs = some d_check_ticks from by kernel_rfl]
  exact congrArg some e_check_ticks) (by kernel_rfl)
theorem k_heads_of_taking : Knows (ga P) "heads_of_taking" f_heads_of_taking := knows_of (by
  show (findDf ("heads_of_taking", none) lay.defs).map (lay.fn 40) = _
  rw [show findDf ("heads_of_taking", none) lay.defs = some d_heads_of_taking from by kernel_rfl]
  exact congrArg some e_heads_of_taking) (by kernel_rfl)
theorem k_response : Knows (ga P) "response" f_response := knows_of (by
  show (findDf ("response", none) lay.defs).map (lay.fn 40) = _
  rw [show findDf ("response", none) lay.defs = some d_response from by kernel_rfl]
  exact congrArg some e_response) (by kernel_rfl)
theorem k__law_taken : Knows (ga P) "_law_taken" f__law_taken := knows_of (by
  show (findDf ("_law_taken", none) lay.defs).map (lay.fn 40) = _
  rw [show findDf ("_law_taken", none) lay.defs = some d__law_taken from by kernel_rfl]
  exact congrArg some e__law_taken) (by kernel_rfl)
theorem k__law_pick : Knows (ga P) "_law_pick" f__law_pick := knows_of (by
  show (findDf ("_law_pick", none) lay.defs).map (lay.fn 40) = _
  rw [show findDf ("_law_pick", none) lay.defs = some d__law_pick from by kernel_rfl]
  exact congrArg some e__law_pick) (by kernel_rfl)
theorem k__law_alike : Knows (ga P) "_law_alike" f__law_alike := knows_of (by
  show (findDf ("_law_alike", none) lay.defs).map (lay.fn 40) = _
  rw [show findDf ("_law_alike", none) lay.defs = some d__law_alike from by kernel_rfl]
  exact congrArg some e__law_alike) (by kernel_rfl)
theorem k__law_low : Knows (ga P) "_law_low" f__law_low := knows_of (by
  show (findDf ("_law_low", none) lay.defs).map (lay.fn 40) = _
  rw [show findDf ("_law_low", none) lay.defs = some d__law_low from by kernel_rfl]
  exact congrArg some e__law_low) (by kernel_rfl)
theorem k__law_plus : Knows (ga P) "_law_plus" f__law_plus := knows_of (by
  show (findDf ("_law_plus", none) lay.defs).map (lay.fn 40) = _
  rw [show findDf ("_law_plus", none) lay.defs = some d__law_plus from by kernel_rfl]
  exact congrArg some e__law_plus) (by kernel_rfl)
theorem k__law_minus : Knows (ga P) "_law_minus" f__law_minus := knows_of (by
  show (findDf ("_law_minus", none) lay.defs).map (lay.fn 40) = _
  rw [show findDf ("_law_minus", none) lay.defs = some d__law_minus from by kernel_rfl]
  exact congrArg some e__law_minus) (by kernel_rfl)
theorem k__law_less : Knows (ga P) "_law_less" f__law_less := knows_of (by
  show (findDf ("_law_less", none) lay.defs).map (lay.fn 40) = _
  rw [show findDf ("_law_less", none) lay.defs = some d__law_less from by kernel_rfl]
  exact congrArg some e__law_less) (by kernel_rfl)
theorem k__law_is_fraction : Knows (ga P) "_law_is_fraction" f__law_is_fraction := knows_of (by
  show (findDf ("_law_is_fraction", none) lay.defs).map (lay.fn 40) = _
  rw [show findDf ("_law_is_fraction", none) lay.defs = some d__law_is_fraction from by kernel_rfl]
  exact congrArg some e__law_is_fraction) (by kernel_rfl)
theorem k__law_are_fractions : Knows (ga P) "_law_are_fractions" f__law_are_fractions := knows_of (by
  show (findDf ("_law_are_fractions", none) lay.defs).map (lay.fn 40) = _
  rw [show findDf ("_law_are_fractions", none) lay.defs = some d__law_are_fractions from by kernel_rfl]
  exact congrArg some e__law_are_fractions) (by kernel_rfl)
theorem k__law_names : Knows (ga P) "_law_names" f__law_names := knows_of (by
  show (findDf ("_law_names", none) lay.defs).map (lay.fn 40) = _
  rw [show findDf ("_law_names", none) lay.defs = some d__law_names from by kernel_rfl]
  exact congrArg some e__law_names) (by kernel_rfl)
theorem k__law_net : Knows (ga P) "_law_net" f__law_net := knows_of (by
  show (findDf ("_law_net", none) lay.defs).map (lay.fn 40) = _
  rw [show findDf ("_law_net", none) lay.defs = some d__law_net from by kernel_rfl]
  exact congrArg some e__law_net) (by kernel_rfl)
theorem k__law_joints : Knows (ga P) "_law_joints" f__law_joints := knows_of (by
  show (findDf ("_law_joints", none) lay.defs).map (lay.fn 40) = _
  rw [show findDf ("_law_joints", none) lay.defs = some d__law_joints from by kernel_rfl]
  exact congrArg some e__law_joints) (by kernel_rfl)
theorem k__law_with_joint : Knows (ga P) "_law_with_joint" f__law_with_joint := knows_of (by
  show (findDf ("_law_with_joint", none) lay.defs).map (lay.fn 40) = _
  rw [show findDf ("_law_with_joint", none) lay.defs = some d__law_with_joint from by kernel_rfl]
  exact congrArg some e__law_with_joint) (by kernel_rfl)
theorem k__law_made : Knows (ga P) "_law_made" f__law_made := knows_of (by
  show (findDf ("_law_made", none) lay.defs).map (lay.fn 40) = _
  rw [show findDf ("_law_made", none) lay.defs = some d__law_made from by kernel_rfl]
  exact congrArg some e__law_made) (by kernel_rfl)
theorem k__law_rest : Knows (ga P) "_law_rest" f__law_rest := knows_of (by
  show (findDf ("_law_rest", none) lay.defs).map (lay.fn 40) = _
  rw [show findDf ("_law_rest", none) lay.defs = some d__law_rest from by kernel_rfl]
  exact congrArg some e__law_rest) (by kernel_rfl)
theorem k__law_head : Knows (ga P) "_law_head" f__law_head := knows_of (by
  show (findDf ("_law_head", none) lay.defs).map (lay.fn 40) = _
  rw [show findDf ("_law_head", none) lay.defs = some d__law_head from by kernel_rfl]
  exact congrArg some e__law_head) (by kernel_rfl)
theorem k__law_tick : Knows (ga P) "_law_tick" f__law_tick := knows_of (by
  show (findDf ("_law_tick", none) lay.defs).map (lay.fn 40) = _
  rw [show findDf ("_law_tick", none) lay.defs = some d__law_tick from by kernel_rfl]
  exact congrArg some e__law_tick) (by kernel_rfl)
theorem k__law_run : Knows (ga P) "_law_run" f__law_run := knows_of (by
  show (findDf ("_law_run", none) lay.defs).map (lay.fn 40) = _
  rw [show findDf ("_law_run", none) lay.defs = some d__law_run from by kernel_rfl]
  exact congrArg some e__law_run) (by kernel_rfl)
theorem k__law_unit : Knows (ga P) "_law_unit" f__law_unit := knows_of (by
  show (findDf ("_law_unit", none) lay.defs).map (lay.fn 40) = _
  rw [show findDf ("_law_unit", none) lay.defs = some d__law_unit from by kernel_rfl]
  exact congrArg some e__law_unit) (by kernel_rfl)
theorem k__law_spot : Knows (ga P) "_law_spot" f__law_spot := knows_of (by
  show (findDf ("_law_spot", none) lay.defs).map (lay.fn 40) = _
  rw [show findDf ("_law_spot", none) lay.defs = some d__law_spot from by kernel_rfl]
  exact congrArg some e__law_spot) (by kernel_rfl)
theorem k_law : Knows (ga P) "law" f_law := knows_of (by
  show (findDf ("law", none) lay.defs).map (lay.fn 40) = _
  rw [show findDf ("law", none) lay.defs = some d_law from by kernel_rfl]
  exact congrArg some e_law) (by kernel_rfl)
theorem kc_Net : KnowsC (ga P) 0 "Net" (P.fz "Net") (P.flds 0) f_Net_init := knowsC_of (by kernel_rfl) (by
  show (match lay.own "Net", findDf ("Net", some "__init__") lay.defs with
    | some c, some d => (lay.cls[c]?).map fun (q : Cl) => (c, lay.fn 40 d, q.frz)
    | _, _ => none) = _
  rw [show lay.own "Net" = some 0 from by kernel_rfl, show findDf ("Net", some "__init__") lay.defs = some d_Net_init from by kernel_rfl]
  exact congrArg (fun f => some (0, f, P.fz "Net")) e_Net_init) rfl
theorem km_Net_ends_at : KnowsM (ga P) 0 "ends_at" f_Net_ends_at := knowsM_of (by
  show (if ("ends_at" : Str) = "__init__" then none else (findDf ("Net", some "ends_at") lay.defs).map (lay.fn 40)) = _
  rw [if_neg (by decide +kernel), show findDf ("Net", some "ends_at") lay.defs = some d_Net_ends_at from by kernel_rfl]
  exact congrArg some e_Net_ends_at) (by decide +kernel)
theorem km_Net_eq : KnowsM (ga P) 0 "__eq__" f_Net_eq := knowsM_of (by
  show (if ("__eq__" : Str) = "__init__" then none else (findDf ("Net", some "__eq__") lay.defs).map (lay.fn 40)) = _
  rw [if_neg (by decide +kernel), show findDf ("Net", some "__eq__") lay.defs = some d_Net_eq from by kernel_rfl]
  exact congrArg some e_Net_eq) (by decide +kernel)
theorem km_Net_names : KnowsM (ga P) 0 "names" f_Net_names := knowsM_of (by
  show (if ("names" : Str) = "__init__" then none else (findDf ("Net", some "names") lay.defs).map (lay.fn 40)) = _
  rw [if_neg (by decide +kernel), show findDf ("Net", some "names") lay.defs = some d_Net_names from by kernel_rfl]
  exact congrArg some e_Net_names) (by decide +kernel)
theorem km_Net_joints : KnowsM (ga P) 0 "joints" f_Net_joints := knowsM_of (by
  show (if ("joints" : Str) = "__init__" then none else (findDf ("Net", some "joints") lay.defs).map (lay.fn 40)) = _
  rw [if_neg (by decide +kernel), show findDf ("Net", some "joints") lay.defs = some d_Net_joints from by kernel_rfl]
  exact congrArg some e_Net_joints) (by decide +kernel)
theorem km_Net_pipes_at : KnowsM (ga P) 0 "pipes_at" f_Net_pipes_at := knowsM_of (by
  show (if ("pipes_at" : Str) = "__init__" then none else (findDf ("Net", some "pipes_at") lay.defs).map (lay.fn 40)) = _
  rw [if_neg (by decide +kernel), show findDf ("Net", some "pipes_at") lay.defs = some d_Net_pipes_at from by kernel_rfl]
  exact congrArg some e_Net_pipes_at) (by decide +kernel)
end K06
end
section
set_option Elab.async false
set_option linter.all false
set_option maxRecDepth 100000
set_option maxHeartbeats 4000000
namespace K06
open PySem PySem.Spec PyProof.Rows L2 Pf
abbrev Γ : Nat → Ga := ga P
theorem glo : Glo Γ where
  letters := fun L => by rw [ga_glo]; kernel_rfl
  vessel := fun L => by rw [ga_glo]; kernel_rfl
  nodes := fun L => by rw [ga_glo]; kernel_rfl
  pipes := fun L => by rw [ga_glo]; kernel_rfl
  ticks := fun L => by rw [ga_glo]; kernel_rfl
  size := fun L => by rw [ga_glo]; kernel_rfl
theorem basics : Basics Γ := ⟨k_is_number, k_is_within, k_is_row, k_is_name⟩
theorem nets : Nets Γ := ⟨k_is_node, k_is_pipe, k_check_nodes, k_check_pipes, km_Net_ends_at, kc_Net⟩
theorem flds0 (L : Nat) : (Γ L).flds 0 = netF := by
  rw [ga_flds]
  kernel_rfl
theorem zero (L : Nat) : (Γ L).glo "ZERO" = some (fr 0) := by rw [ga_glo]; kernel_rfl
theorem one (L : Nat) : (Γ L).glo "ONE" = some (fr 1) := by rw [ga_glo]; kernel_rfl
theorem most (L : Nat) : (Γ L).glo "MOST_RESPONSE" = some (.int 60) := by rw [ga_glo]; kernel_rfl
theorem wf (L : Nat) : 2 ^ 8000 ≤ (Γ L).wf := by
  rw [ga_wf]
  exact Nat.le_refl _
theorem fx : Fx Γ := ⟨wf, k_common, k_lowest, k_plus, k_minus⟩
theorem lx : Lx Γ := ⟨wf, k__law_low, k__law_plus, k__law_minus, k__law_less⟩
theorem px : Px Γ := ⟨fx, k_head_at, k_tick, k_run, k_rest, zero, one, flds0⟩
theorem rx : Rx Γ := ⟨px, basics, k_spot_of, k_joint_of, k_check_pair, k_check_ticks, k_heads_of_taking, most⟩
theorem ux : Ux Γ := ⟨lx, k__law_head, k__law_tick, k__law_run, k__law_rest⟩
end K06
end
section
set_option Elab.async false
set_option linter.all false
set_option maxRecDepth 100000
set_option maxHeartbeats 4000000
namespace K06
open PySem PySem.Spec PyProof.Rows L2 Pf
theorem jts_nm {nds : List Nd} {x : List Nat} (h : x ∈ jts nds) : x ∈ nds.map Nd.nm := by
  obtain ⟨i, n, hi, _, rfl⟩ := jts_mem h
  exact List.mem_map_of_mem (List.mem_of_getElem? hi)
structure ManyOk (nds : List Nd) (ps : List Pp) (m t : Nat) : Prop where
  tt : t = m + 1
  mm : m ≤ 39
  P : prodS nds ps ^ (m + 1) < 2 ^ 1900
theorem hresp {nds : List Nd} {ps : List Pp} (hn : NetOk nds ps) {m t : Nat} (hm : ManyOk nds ps m t) {a x : List Nat} (ha : a ∈ jts nds) (hx : x ∈ nds.map Nd.nm) (b b1 b2 b3 : Bool) :
    run1 (Γ 11) Pf.f_response [.val b (netD nds ps), .val b1 (st a), .val b2 (st x), .val b3 (.int t)] = .ok (false, .tup ((respQ nds ps a x m).map fr)) [some (.val b (netD nds ps)), some (.val b1 (st a)), some (.val b2 (st x)), some (.val b3 (.int t))] := by
  obtain ⟨i, n, hi, ht, rfl⟩ := jts_mem ha
  obtain ⟨j, k, hj, rfl⟩ := node_of_name hx
  exact resp_run rx 3 hn hi ht hj hm.tt hm.mm hm.P b b1 b2 b3
theorem many_ex {nds : List Nd} {ps : List Pp} (hn : NetOk nds ps) {ns : List Int} {w : Rw} (o : w.Ok) : ∃ (m t : Nat) (w' : Rw), ManyOk nds ps m t ∧ w'.Ok ∧ ∀ (r : Rho) (o0 o2 : Option Sl) (s : Rho), r = o0 :: some (.cel false (w.D ns)) :: o2 :: some (.val false (partsD nds ps)) :: s →
    ev (Γ 12) (.ife (.and [.ap (.cmp .eq) [.call "_law_taken" [.var 1, .cst (.int 12)], .cst (.int 0)], .ap (.cmp .lt) [.ap (.bi .len) [.ap .idx [.var 3, .cst (.int 0)]], .cst (.int 5)]]) (.cst (.int 40)) (.ap (.bin .add) [.cst (.int 1), .call "_law_taken" [.var 1, .cst (.int 14)]])) false r = .ok (false, .int t) (o0 :: some (.cel false (w'.D ns)) :: o2 :: some (.val false (partsD nds ps)) :: s) := by
  have kt : Knows Γ "_law_taken" Pf.f__law_taken := k__law_taken
  obtain ⟨k1, w1, l1, o1, c1⟩ := taken_ex kt (ns := ns) o 12 (by decide) (small_nat (n := 12) (by decide))
  obtain ⟨k2, w2, l2, o2, c2⟩ := taken_ex kt (ns := ns) o1 14 (by decide) (small_nat (n := 14) (by decide))
  have f0 : Op.idx.ap (Γ 12).flds [partsD nds ps, .int 0] = some (.tup (nds.map Nd.D)) := rfl
  have hlen : (Op.bi .len).ap (Γ 12).flds [.tup (nds.map Nd.D)] = some (.int nds.length) := by
    show some (D.int ((nds.map Nd.D).length : Int)) = _
    rw [List.length_map]
  have hle : ∀ k, nds.length ≤ k → prodS nds ps ≤ 168 ^ k := fun k hk => by
    have h1 : prodS nds ps ≤ 168 ^ (nds.map (szN ps)).length := fold_le fun a ha => by
      obtain ⟨n, hm, rfl⟩ := List.mem_map.mp ha
      exact (szN_le hn hm).2
    rw [List.length_map] at h1
    exact Nat.le_trans h1 (Nat.pow_le_pow_right (by decide) hk)
  by_cases h : k1 = 0 ∧ nds.length < 5
  · obtain ⟨h1, h2⟩ := h
    subst h1
    refine ⟨39, 40, w1, ⟨rfl, by omega, ?_⟩, o1, fun r o0 o2 s hr => ?_⟩
    · have h3 : prodS nds ps ^ 40 ≤ (168 ^ 4) ^ 40 := Nat.pow_le_pow_left (hle 4 (by omega)) 40
      exact Nat.lt_of_le_of_lt h3 (by decide +kernel)
    · subst hr
      have h5 : (nds.length : Int) < 5 := by omega
      generalize partsD nds ps = N at *
      generalize nds.map Nd.D = NN at *
      simp [kt.has, kt.frz, c1, f0, hlen, -o_len, h5]
  · have hk2 : k2 ≤ 13 := by omega
    have hP : prodS nds ps ^ (k2 + 1) < 2 ^ 1900 := by
      have h3 : prodS nds ps ^ (k2 + 1) ≤ (2 ^ 64) ^ (k2 + 1) := Nat.pow_le_pow_left (prodS_le hn) _
      have h4 : (2 ^ 64) ^ (k2 + 1) ≤ (2 ^ 64) ^ 14 := Nat.pow_le_pow_right (by decide) (by omega)
      exact Nat.lt_of_le_of_lt (Nat.le_trans h3 h4) (by decide +kernel)
    by_cases h0 : k1 = 0
    · refine ⟨k2, k2 + 1, w2, ⟨rfl, by omega, hP⟩, o2, fun r o0 o2 s hr => ?_⟩
      subst hr h0
      have h5 : ¬ (nds.length : Int) < 5 := fun z => h ⟨rfl, by omega⟩
      generalize partsD nds ps = N at *
      generalize nds.map Nd.D = NN at *
      simp [kt.has, kt.frz, c1, c2, f0, hlen, -o_len, h5, Int.add_comm]
    · refine ⟨k2, k2 + 1, w2, ⟨rfl, by omega, hP⟩, o2, fun r o0 o2 s hr => ?_⟩
      subst hr
      have h5 : ¬ (k1 : Int) = 0 := by omega
      generalize partsD nds ps = N at *
      simp [kt.has, kt.frz, c1, c2, h5, h0, Int.add_comm]
/-! ### four pairs of joints -/
def body4 : List S := [.par [8, 9] [.call "_law_pick" [.var 1, .var 5], .call "_law_pick" [.var 1, .var 5]],
      .par [10, 11] [.call "response" [.var 4, .var 8, .var 9, .var 6], .call "response" [.var 4, .var 9, .var 8, .var 6]],
      .iff (.or [.not (.call "_law_alike" [.var 10, .var 11]), .ap (.cmp .ne) [.ap (.bi .len) [.var 10], .var 6], .not (.call "_law_are_fractions" [.var 10, .var 6])])
       [.ret (.cst (.bl false))]
       [],
      .iff (.and [.oeq false [.var 8, .var 9], .not (.call "_law_less" [.ap .idx [.var 10, .cst (.int 0)], .tup [.cst (.int 0), .cst (.int 1)]])])
       [.ret (.cst (.bl false))]
       []]
structure InI (ns : List Int) (o0 o2 : Option Sl) (nds : List Nd) (ps : List Pp) (t : Nat) (q : Rho) (i : Nat) (ρ : Rho) : Prop where
  ex : ∃ (w : Rw) (s7 s8 s9 s10 s11 : Option Sl), w.Ok ∧ ρ = o0 :: some (.cel false (w.D ns)) :: o2 :: some (.val false (partsD nds ps)) :: some (.val false (netD nds ps)) :: some (.cel false (.lst ((jts nds).map st))) :: some (.val false (.int t)) :: s7 :: s8 :: s9 :: s10 :: s11 :: q ∧ Fr s7 ∧ Fr s8 ∧ Fr s9 ∧ Fr s10 ∧ Fr s11
theorem frv {d : D} : Fr (some (.val false d)) := rfl
theorem four_turn (ns : List Int) {o0 o2 : Option Sl} {nds : List Nd} {ps : List Pp} (hn : NetOk nds ps) (hj : jts nds ≠ []) {m t : Nat} (hm : ManyOk nds ps m t) {q : Rho} (i : Nat) (ρ : Rho) (x : D) (h : InI ns o0 o2 nds ps t q i ρ) {R : SO → Prop} : TurnOk R (InI ns o0 o2 nds ps t q (i + 1)) (optS (bind1 (.nm 7) x ρ) fun ρ3 => exs (Γ 12) body4 ρ3) := by
  obtain ⟨w, s7, s8, s9, s10, s11, ow, rfl, f7, f8, f9, f10, f11⟩ := h
  have kt : Knows Γ "_law_taken" Pf.f__law_taken := k__law_taken
  have kp : Knows Γ "_law_pick" Pf.f__law_pick := k__law_pick
  have kr : Knows Γ "response" Pf.f_response := k_response
  have ka : Knows Γ "_law_alike" Pf.f__law_alike := k__law_alike
  have kf : Knows Γ "_law_are_fractions" Pf.f__law_are_fractions := k__law_are_fractions
  have kl : Knows Γ "_law_less" Pf.f__law_less := k__law_less
  obtain ⟨a, w1, ha, ow1, c1⟩ := pick_joint kt kp (ns := ns) ow hj hn.n2
  obtain ⟨b, w2, hb, ow2, c2⟩ := pick_joint kt kp (ns := ns) ow1 hj hn.n2
  have c1 := c1 10
  have c2 := c2 10
  have h1 := fun b0 b1 b2 b3 => hresp hn hm ha (jts_nm hb) b0 b1 b2 b3
  have h2 := fun b0 b1 b2 b3 => hresp hn hm hb (jts_nm ha) b0 b1 b2 b3
  rw [← resp_recip hn (jts_nm ha) (jts_nm hb)] at h2
  have hlen : (respQ nds ps a b m).length = t := by rw [resp_len, hm.tt]
  have hmm := hm.mm
  have htt := hm.tt
  have hal := fun b0 b1 => alike_run ka (lk_frs (l := respQ nds ps a b m) (n := 0) (by omega)) (L := 11) (by omega) b0 b1
  have harf := fun b0 b1 => arf_run lx k__law_is_fraction 9 (resp_sz Γ hn (a := a) (jts_nm hb) hm.mm hm.P) hlen (by omega) b0 b1
  have hl2 : (Op.bi .len).ap (Γ 12).flds [.tup ((respQ nds ps a b m).map fr)] = some (.int t) := by
    show some (D.int (((respQ nds ps a b m).map fr).length : Int)) = _
    rw [List.length_map, hlen]
  have hec : eqC (st a) (st b) = none := rfl
  have h0 : D.tup [.int 0, .int 1] = fr 0 := rfl
  have fin : InI ns o0 o2 nds ps t q (i + 1) (o0 :: some (.cel false (w2.D ns)) :: o2 :: some (.val false (partsD nds ps)) :: some (.val false (netD nds ps)) :: some (.cel false (.lst ((jts nds).map st))) :: some (.val false (.int t)) :: some (.val false x) :: some (.val false (st a)) :: some (.val false (st b)) :: some (.val false (.tup ((respQ nds ps a b m).map fr))) :: some (.val false (.tup ((respQ nds ps a b m).map fr))) :: q) :=
    ⟨w2, _, _, _, _, _, ow2, rfl, frv, frv, frv, frv, frv⟩
  by_cases e : a = b
  · subst e
    obtain ⟨k, n, hk, htk, hnm⟩ := jts_mem ha
    have hneg := resp_neg hn (List.mem_of_getElem? hk) htk
    rw [hnm] at hneg
    have hi0 : Op.idx.ap (Γ 12).flds [.tup ((respQ nds ps a a m).map fr), .int 0] = some (fr (hT nds ps (uU a) 0 a)) := by
      show atI _ ((0 : Nat) : Int) = _
      rw [Pf.atI_nat, respQ_eq, List.range'_succ]
      rfl
    have hs0 : Sz (hT nds ps (uU a) 0 a) := resp_sz Γ hn (a := a) (jts_nm ha) hm.mm hm.P _ (by rw [respQ_eq, List.range'_succ]; exact List.mem_cons_self)
    have hs1 : Sz 0 := Bnd.zero.sz (M := 1) (V := 0) (by decide) (Nat.one_lt_two_pow (by decide)) (Nat.pow_pos (by decide))
    have hls := lless_run (Γ := Γ) 11 hs0 hs1
    have hd : decide (hT nds ps (uU a) 0 a < 0) = true := decide_eq_true hneg
    rw [hd] at hls
    generalize netD nds ps = N at *
    generalize partsD nds ps = Pd at *
    generalize (respQ nds ps a a m).map fr = RR at *
    generalize (jts nds).map st = J at *
    generalize hT nds ps (uU a) 0 a = q0 at *
    simp [body4, putS_free f7, putS_free f8, putS_free f9, putS_free f10, putS_free f11, Pf.putAll, kp.has, kp.frz, c1, c2, kr.has, kr.frz, kr.cal, h1, ka.has, ka.frz, ka.cal, hal, -o_len, hl2, kf.has, kf.frz, kf.cal, harf, hec, kl.has, kl.frz, kl.cal, -o_idxT, hi0, h0, hls]
    exact fin
  · generalize netD nds ps = N at *
    generalize partsD nds ps = Pd at *
    generalize (respQ nds ps a b m).map fr = RR at *
    generalize (jts nds).map st = J at *
    simp [body4, putS_free f7, putS_free f8, putS_free f9, putS_free f10, putS_free f11, Pf.putAll, kp.has, kp.frz, c1, c2, kr.has, kr.frz, kr.cal, h1, h2, ka.has, ka.frz, ka.cal, hal, -o_len, hl2, kf.has, kf.frz, kf.cal, harf, hec, e]
    exact fin
end K06
end
section
set_option Elab.async false
set_option linter.all false
set_option maxRecDepth 100000
set_option maxHeartbeats 4000000
namespace K06
open PySem PySem.Spec PyProof.Rows L2 Pf
def bodyTk : List S := [.iff (.and [.ap (.cmp .eq) [.ap .idx [.var 12, .cst (.int 1)], .cst (.str "tank")], .not (.call "_law_alike" [.call "response" [.var 4, .ap .idx [.var 5, .cst (.int 0)], .ap .idx [.var 12, .cst (.int 0)], .var 6], .ap (.bin .mul) [.tup [.tup [.cst (.int 0), .cst (.int 1)]], .var 6]])])
       [.ret (.cst (.bl false))]
       []]
structure TaI (o0 o1 o2 : Option Sl) (nds : List Nd) (ps : List Pp) (t : Nat) (o7 o8 o9 o10 o11 : Option Sl) (q : Rho) (i : Nat) (ρ : Rho) : Prop where
  ex : ∃ (s12 : Option Sl), ρ = o0 :: o1 :: o2 :: some (.val false (partsD nds ps)) :: some (.val false (netD nds ps)) :: some (.cel false (.lst ((jts nds).map st))) :: some (.val false (.int t)) :: o7 :: o8 :: o9 :: o10 :: o11 :: s12 :: q ∧ Fr s12
theorem tank_turn {o0 o1 o2 : Option Sl} {nds : List Nd} {ps : List Pp} (hn : NetOk nds ps) (hj : jts nds ≠ []) {m t : Nat} (hm : ManyOk nds ps m t) {o7 o8 o9 o10 o11 : Option Sl} {q : Rho} (i : Nat) (ρ : Rho) {n : Nd} (hnd : n ∈ nds) (h : TaI o0 o1 o2 nds ps t o7 o8 o9 o10 o11 q i ρ) {R : SO → Prop} :
    TurnOk R (TaI o0 o1 o2 nds ps t o7 o8 o9 o10 o11 q (i + 1)) (optS (bind1 (.nm 12) n.D ρ) fun ρ3 => exs (Γ 12) bodyTk ρ3) := by
  obtain ⟨s12, rfl, f12⟩ := h
  have kr : Knows Γ "response" Pf.f_response := k_response
  have ka : Knows Γ "_law_alike" Pf.f__law_alike := k__law_alike
  obtain ⟨a, tl, hja⟩ : ∃ a tl, jts nds = a :: tl := by
    cases h : jts nds with
    | nil => exact absurd h hj
    | cons a tl => exact ⟨a, tl, rfl⟩
  have ha : a ∈ jts nds := by rw [hja]; exact List.mem_cons_self
  have i0 : Op.idx.ap (Γ 12).flds [.lst ((jts nds).map st), .int 0] = some (st a) := by
    show atI _ ((0 : Nat) : Int) = _
    rw [Pf.atI_nat, hja]
    rfl
  have d0 : Op.idx.ap (Γ 12).flds [n.D, .int 0] = some (st n.nm) := rfl
  have d1 : Op.idx.ap (Γ 12).flds [n.D, .int 1] = some (.str (kindS n.tank)) := rfl
  have fin : TaI o0 o1 o2 nds ps t o7 o8 o9 o10 o11 q (i + 1) (o0 :: o1 :: o2 :: some (.val false (partsD nds ps)) :: some (.val false (netD nds ps)) :: some (.cel false (.lst ((jts nds).map st))) :: some (.val false (.int t)) :: o7 :: o8 :: o9 :: o10 :: o11 :: some (.val false n.D) :: q) := ⟨_, rfl, frv⟩
  have hjt : (("joint" : Str) = "tank") = False := eq_false (by decide +kernel)
  have hmm := hm.mm
  have htt := hm.tt
  cases ht : n.tank with
  | true =>
    have hk : kindS true = "tank" := rfl
    rw [ht, hk] at d1
    have h1 := fun b0 b1 b2 b3 => hresp hn hm ha (List.mem_map_of_mem hnd) b0 b1 b2 b3
    rw [resp_tank hn hnd ht, ← htt, List.map_replicate] at h1
    have hmul := mulT_one (fl := (Γ 12).flds) (q := fr 0) (t := t) (by omega) (by omega)
    have hlk : Lk 2 (.tup (List.replicate t (fr 0))) := by
      have := lk_frs (l := List.replicate t 0) (n := 0) (by rw [List.length_replicate]; omega)
      rwa [List.map_replicate] at this
    have hal := fun b0 b1 => alike_run ka hlk (L := 11) (by omega) b0 b1
    have h0 : D.tup [.int 0, .int 1] = fr 0 := rfl
    generalize netD nds ps = N at *
    generalize partsD nds ps = Pd at *
    generalize (jts nds).map st = J at *
    generalize D.tup (List.replicate t (fr 0)) = RR at *
    generalize n.D = ND at *
    simp [bodyTk, putS_free f12, d0, d1, eqv_str, kr.has, kr.frz, kr.cal, h1, ka.has, ka.frz, ka.cal, hal, -o_idxL, i0, h0, -o_mulT, hmul]
    exact fin
  | false =>
    have hk : kindS false = "joint" := rfl
    rw [ht, hk] at d1
    generalize netD nds ps = N at *
    generalize partsD nds ps = Pd at *
    generalize (jts nds).map st = J at *
    generalize n.D = ND at *
    simp [bodyTk, putS_free f12, d0, d1, eqv_str, hjt]
    exact fin
end K06
end
section
set_option Elab.async false
set_option linter.all false
set_option maxRecDepth 100000
set_option maxHeartbeats 4000000
namespace K06
open PySem PySem.Spec PyProof.Rows L2 Pf
structure LwI (ns : List Int) (o0 : Option Sl) (i : Nat) (ρ : Rho) : Prop where
  ex : ∃ (w : Rw) (s2 s3 s4 s5 s6 s7 s8 s9 s10 s11 s12 s13 s14 : Option Sl), w.Ok ∧ ρ = [o0, some (.cel false (w.D ns)), s2, s3, s4, s5, s6, s7, s8, s9, s10, s11, s12, s13, s14, none] ∧ Fr s2 ∧ Fr s3 ∧ Fr s4 ∧ Fr s5 ∧ Fr s6 ∧ Fr s7 ∧ Fr s8 ∧ Fr s9 ∧ Fr s10 ∧ Fr s11 ∧ Fr s12 ∧ Fr s13 ∧ Fr s14
def bodyW : List S := [.set 3 (.call "_law_with_joint" [.call "_law_net" [.var 1, .cst (.int 5)]]),
    .par [4, 5] [.call "_law_made" [.var 3], .call "_law_joints" [.var 3]],
    .set 6 (.ife (.and [.ap (.cmp .eq) [.call "_law_taken" [.var 1, .cst (.int 12)], .cst (.int 0)], .ap (.cmp .lt) [.ap (.bi .len) [.ap .idx [.var 3, .cst (.int 0)]], .cst (.int 5)]]) (.cst (.int 40)) (.ap (.bin .add) [.cst (.int 1), .call "_law_taken" [.var 1, .cst (.int 14)]])),
    .for_ (.nm 7) .rng [.cst (.int 4)] body4,
    .for_ (.nm 12) .seq [.ap .idx [.var 3, .cst (.int 0)]] bodyTk,
    .set 13 (.call "_law_pick" [.var 1, .var 5]),
    .set 14 (.comp [15] (.nm 15) .seq [.call "_law_unit" [.var 3, .var 13, .var 6]] [] (.ap .idx [.var 15, .call "_law_spot" [.var 3, .ap .idx [.var 5, .cst (.int 0)]]])),
    .iff (.not (.call "_law_alike" [.ap (.bi .list) [.call "response" [.var 4, .ap .idx [.var 5, .cst (.int 0)], .var 13, .var 6]], .var 14]))
     [.ret (.cst (.bl false))]
     []]
theorem law_turn (ns : List Int) (o0 : Option Sl) (i : Nat) (ρ : Rho) (x : D) (h : LwI ns o0 i ρ) {R : SO → Prop} : TurnOk R (LwI ns o0 (i + 1)) (optS (bind1 (.nm 2) x ρ) fun ρ3 => exs (Γ 12) bodyW ρ3) := by
  obtain ⟨w, s2, s3, s4, s5, s6, s7, s8, s9, s10, s11, s12, s13, s14, ow, rfl, f2, f3, f4, f5, f6, f7, f8, f9, f10, f11, f12, f13, f14⟩ := h
  have kt : Knows Γ "_law_taken" Pf.f__law_taken := k__law_taken
  have kp : Knows Γ "_law_pick" Pf.f__law_pick := k__law_pick
  have kr : Knows Γ "response" Pf.f_response := k_response
  have ka : Knows Γ "_law_alike" Pf.f__law_alike := k__law_alike
  have kn : Knows Γ "_law_net" Pf.f__law_net := k__law_net
  have km : Knows Γ "_law_made" Pf.f__law_made := k__law_made
  have kj : Knows Γ "_law_joints" Pf.f__law_joints := k__law_joints
  have kw : Knows Γ "_law_with_joint" Pf.f__law_with_joint := k__law_with_joint
  have ku : Knows Γ "_law_unit" Pf.f__law_unit := k__law_unit
  have ks : Knows Γ "_law_spot" Pf.f__law_spot := k__law_spot
  obtain ⟨nds0, ps, w1, q, ow1, hn0, hnet⟩ := net_run (Γ := Γ) (ns := ns) kt kp k__law_names 8 ow 5 (by decide) (by decide) false
  have hnet : run1 (Γ 11) Pf.f__law_net [.cel true (w.D ns), .val false (.int 5)] = .ok (false, partsD nds0 ps) [some (.cel true (w1.D ns)), q] := hnet
  obtain ⟨nds, hn, hj, hwj⟩ := wj_run (Γ := Γ) kj 10 hn0
  have hwj : ∀ b, run1 (Γ 11) Pf.f__law_with_joint [.val b (partsD nds0 ps)] = .ok (false, partsD nds ps) [some (.val b (partsD nds0 ps))] := hwj
  have hmade := fun b => made_run glo basics nets 6 hn (b := b)
  have hjn := fun b => joints_run (Γ := Γ) 11 hn b
  obtain ⟨m, t, w2, hm, ow2, hife⟩ := many_ex hn (ns := ns) ow1
  have hw4 : walk .rng [.int 4] = some (rangeD 0 4) := by kernel_rfl
  have f0 : Op.idx.ap (Γ 12).flds [partsD nds ps, .int 0] = some (.tup (nds.map Nd.D)) := rfl
  have hwn : walk .seq [.tup (nds.map Nd.D)] = some (nds.map Nd.D) := rfl
  -- the first loop
  have lp1 : ∀ (d : D), ∃ ρ, loop (fun ρ => held ρ [.val d] [d]) (fun x ρ2 => optS (bind1 (.nm 7) x ρ2) fun ρ3 => exs (Γ 12) body4 ρ3) (rangeD 0 4)
      (o0 :: some (.cel false (w2.D ns)) :: some (.val false x) :: some (.val false (partsD nds ps)) :: some (.val false (netD nds ps)) :: some (.cel false (.lst ((jts nds).map st))) :: some (.val false (.int t)) :: s7 :: s8 :: s9 :: s10 :: s11 :: [s12, s13, s14, none]) = .nx ρ ∧ InI ns o0 (some (.val false x)) nds ps t [s12, s13, s14, none] 4 ρ := fun d => by
    refine loop_at (R := fun out => ∃ ρ, out = .nx ρ ∧ InI ns o0 (some (.val false x)) nds ps t [s12, s13, s14, none] 4 ρ) (InI ns o0 (some (.val false x)) nds ps t [s12, s13, s14, none]) ?_ ?_ ?_
    · exact ⟨w2, s7, s8, s9, s10, s11, ow2, rfl, f7, f8, f9, f10, f11⟩
    · intro ρ hh
      rw [rangeD_len] at hh
      exact ⟨held_val, ρ, rfl, hh⟩
    · intro i x ρ hx h
      exact ⟨held_val, four_turn ns hn hj hm i ρ x h⟩
  obtain ⟨ρ1, hl1, w3, r7, r8, r9, r10, r11, ow3, rfl, e7, e8, e9, e10, e11⟩ := lp1 (.int 4)
  have lp2 : ∀ (d : D), ∃ ρ, loop (fun ρ => held ρ [.val d] [d]) (fun x ρ2 => optS (bind1 (.nm 12) x ρ2) fun ρ3 => exs (Γ 12) bodyTk ρ3) (nds.map Nd.D)
      (o0 :: some (.cel false (w3.D ns)) :: some (.val false x) :: some (.val false (partsD nds ps)) :: some (.val false (netD nds ps)) :: some (.cel false (.lst ((jts nds).map st))) :: some (.val false (.int t)) :: r7 :: r8 :: r9 :: r10 :: r11 :: s12 :: [s13, s14, none]) = .nx ρ ∧ TaI o0 (some (.cel false (w3.D ns))) (some (.val false x)) nds ps t r7 r8 r9 r10 r11 [s13, s14, none] (nds.map Nd.D).length ρ := fun d => by
    refine loop_at (R := fun out => ∃ ρ, out = .nx ρ ∧ TaI o0 (some (.cel false (w3.D ns))) (some (.val false x)) nds ps t r7 r8 r9 r10 r11 [s13, s14, none] (nds.map Nd.D).length ρ) (TaI o0 (some (.cel false (w3.D ns))) (some (.val false x)) nds ps t r7 r8 r9 r10 r11 [s13, s14, none]) ?_ ?_ ?_
    · exact ⟨s12, rfl, f12⟩
    · intro ρ hh
      exact ⟨held_val, ρ, rfl, hh⟩
    · intro i x ρ hx h
      obtain ⟨n, hnd, rfl⟩ := List.mem_map.mp (List.mem_of_getElem? hx)
      exact ⟨held_val, tank_turn hn hj hm i ρ hnd h⟩
  obtain ⟨ρ2, hl2, r12, rfl, e12⟩ := lp2 (.tup (nds.map Nd.D))
  -- the last comparison
  obtain ⟨a, w4, ha, ow4, c4⟩ := pick_joint kt kp (ns := ns) ow3 hj hn.n2
  have c4 := c4 10
  obtain ⟨j0, tl, hja⟩ : ∃ a tl, jts nds = a :: tl := by
    cases h : jts nds with
    | nil => exact absurd h hj
    | cons a tl => exact ⟨a, tl, rfl⟩
  have hj0 : j0 ∈ jts nds := by rw [hja]; exact List.mem_cons_self
  have i0 : Op.idx.ap (Γ 12).flds [.lst ((jts nds).map st), .int 0] = some (st j0) := by
    show atI _ ((0 : Nat) : Int) = _
    rw [Pf.atI_nat, hja]
    rfl
  have hmm := hm.mm
  have htt := hm.tt
  have hu := fun b b1 b2 => lunit_run ux 6 hn (a := a) hm.tt hm.mm hm.P b b1 b2
  obtain ⟨k, n0, hk, htk, hnm⟩ := jts_mem hj0
  have hsp := fun b b1 => lspot_run (Γ := Γ) 11 hn hk b b1
  rw [hnm] at hsp
  have hlen : (rowsQ nds ps (restW ps) (usOf a m)).length = m + 1 := by
    rw [rowsQ_len]
    unfold usOf
    rw [List.length_cons, List.length_replicate]
  have hws : walkS .seq [.tup ((rowsQ nds ps (restW ps) (usOf a m)).map rowD2)] = some ((rowsQ nds ps (restW ps) (usOf a m)).map rowD2) := walkS_seqR (t := true) (by rw [List.length_map, hlen]; omega)
  have hkl := (List.getElem?_eq_some_iff.mp hk).1
  have htu : ∀ o0 o1 o2 o4 o6 o7 o8 o9 o10 o11 o12 o13 o14 d, turns (fun ρ => held ρ [.val d] [d]) (lcF (Γ 12) [15] (.nm 15) [] (.ap .idx [.var 15, .call "_law_spot" [.var 3, .ap .idx [.var 5, .cst (.int 0)]]])) ((rowsQ nds ps (restW ps) (usOf a m)).map rowD2)
      [o0, o1, o2, some (.val false (partsD nds ps)), o4, some (.cel false (.lst ((jts nds).map st))), o6, o7, o8, o9, o10, o11, o12, o13, o14, none] = .ok ((rowsQ nds ps (restW ps) (usOf a m)).map fun r => fr ((r[k]?).getD 0)) [o0, o1, o2, some (.val false (partsD nds ps)), o4, some (.cel false (.lst ((jts nds).map st))), o6, o7, o8, o9, o10, o11, o12, o13, o14, none] := fun o0 o1 o2 o4 o6 o7 o8 o9 o10 o11 o12 o13 o14 d => turns_on held_val fun r hr => by
    have h1 := row_at (fl := (Γ 12).flds) (r := r) (j := k) (by rw [rows_mem hr]; exact hkl)
    generalize rowD2 r = R at *
    generalize partsD nds ps = Pd at *
    generalize (jts nds).map st = J at *
    simp [lcF_eq, ks.has, ks.frz, ks.cal, -o_idxL, i0, hsp, h1]
  have hfin : ((rowsQ nds ps (restW ps) (usOf a m)).map fun r => fr ((r[k]?).getD 0)) = (respQ nds ps j0 a m).map fr := by
    rw [resp_recip hn (jts_nm hj0) (jts_nm ha)]
    unfold respQ
    rw [← hnm, ← col_eq hn.nn hk, List.map_map]
    rfl
  rw [hfin] at htu
  have hr := fun b0 b1 b2 b3 => hresp hn hm hj0 (jts_nm ha) b0 b1 b2 b3
  have hal := fun b => alike_runC ka (n := 1) (l := (respQ nds ps j0 a m).map fr) (fun d hd => by
    obtain ⟨q, _, rfl⟩ := List.mem_map.mp hd
    exact lk_fr) (by rw [List.length_map, resp_len]; omega) (L := 10) (by omega) b
  have hal : ∀ b, run1 (Γ 11) Pf.f__law_alike [.val b (.lst ((respQ nds ps j0 a m).map fr)), .cel true (.lst ((respQ nds ps j0 a m).map fr))] = .ok (false, .bl true) [some (.val b (.lst ((respQ nds ps j0 a m).map fr))), some (.cel true (.lst ((respQ nds ps j0 a m).map fr)))] := hal
  have fin : LwI ns o0 (i + 1) [o0, some (.cel false (w4.D ns)), some (.val false x), some (.val false (partsD nds ps)), some (.val false (netD nds ps)), some (.cel false (.lst ((jts nds).map st))), some (.val false (.int t)), r7, r8, r9, r10, r11, r12, some (.val false (st a)), some (.cel false (.lst ((respQ nds ps j0 a m).map fr))), none] :=
    ⟨w4, _, _, _, _, _, _, _, _, _, _, _, _, _, ow4, rfl, rfl, rfl, rfl, rfl, rfl, e7, e8, e9, e10, e11, e12, rfl, rfl⟩
  have hlt : (Op.bi .list).ap (Γ 12).flds [.tup ((respQ nds ps j0 a m).map fr)] = some (.lst ((respQ nds ps j0 a m).map fr)) := rfl
  generalize netD nds ps = N at *
  generalize partsD nds ps = Pd at *
  generalize partsD nds0 ps = Pd0 at *
  generalize (jts nds).map st = J at *
  generalize (respQ nds ps j0 a m).map fr = RR at *
  generalize (rowsQ nds ps (restW ps) (usOf a m)).map rowD2 = rows at *
  generalize nds.map Nd.D = NN at *
  simp [bodyW, putS_free f2, putS_free f3, putS_free f4, putS_free f5, putS_free f6, Pf.putAll, kn.has, kn.frz, kn.cal, hnet, kw.has, kw.frz, kw.cal, hwj, km.has, km.frz, km.cal, hmade, kj.has, kj.frz, kj.cal, hjn, -ev_ife, hife _ _ _ _ rfl, ex_for, hw4]
  generalize hlo : loop _ _ _ _ = out
  obtain rfl := hlo.symm.trans hl1
  simp [ex_for, f0, hwn]
  generalize hlo2 : loop _ _ _ _ = out
  obtain rfl := hlo2.symm.trans hl2
  simp [putS_free f13, putS_free f14, kp.has, kp.frz, c4, ev_comp, ku.has, ku.frz, ku.cal, hu, hws, htu, kr.has, kr.frz, kr.cal, -o_idxL, i0, hr, hlt, ka.has, ka.frz, ka.cal, hal]
  exact fin
end K06
end
section
set_option Elab.async false
set_option linter.all false
set_option maxRecDepth 100000
set_option maxHeartbeats 4000000
namespace K06
open PySem PySem.Spec PyProof.Rows L2 Pf
theorem law_run (ns : List Int) : ∃ outs, run1 (Γ 12) f_law [.val false (.scr ns)] = .ok (false, .bl true) outs := by
  have hw : walk .rng [.int 2] = some (rangeD 0 2) := by kernel_rfl
  have ow : (⟨0, 1601, 0⟩ : Rw).Ok := ⟨by decide, by decide, by decide, by decide⟩
  have hd : D.lst [.scr ns, .int 0, .int 1601, .int 0] = (⟨0, 1601, 0⟩ : Rw).D ns := rfl
  simp [run1_eq, f_law, finR, ex_for, hw, hd]
  generalize hlo : loop _ _ _ _ = out
  have key : ∃ ρ, out = .nx ρ ∧ LwI ns (some (.val false (.scr ns))) 2 ρ := by
    rw [← hlo]
    refine loop_at (R := fun out => ∃ ρ, out = .nx ρ ∧ LwI ns (some (.val false (.scr ns))) 2 ρ) (LwI ns (some (.val false (.scr ns)))) ?_ ?_ ?_
    · exact ⟨_, none, none, none, none, none, none, none, none, none, none, none, none, none, ow, rfl, rfl, rfl, rfl, rfl, rfl, rfl, rfl, rfl, rfl, rfl, rfl, rfl, rfl⟩
    · intro ρ hh
      rw [rangeD_len] at hh
      exact ⟨held_val, ρ, rfl, hh⟩
    · intro i x ρ hx h
      exact ⟨held_val, law_turn ns _ i ρ x h⟩
  obtain ⟨ρ, rfl, w, s2, s3, s4, s5, s6, s7, s8, s9, s10, s11, s12, s13, s14, _, rfl, _⟩ := key
  simp [finR]
end K06
end
section
set_option Elab.async false
set_option linter.all false
set_option maxRecDepth 100000
set_option maxHeartbeats 0
open PySem PySem.W PySem.Calls PyProof.Rows
theorem K06.hlaw : ∀ ns : List Int, ns.length ≤ 63 → ∃ outs, Pf.run1 (Pf.ga (K06.lay.prg 40 (2 ^ 8000)) 12) (K06.lay.fn 40 K06.d_law) [.val false (.scr ns)] = .ok (false, .bl true) outs := fun ns _ => by
  rw [K06.e_law]
  exact K06.law_run ns
theorem PySem.Challenge.cw_pipeshocks_k06_whole_reciprocity_holds : PySem.Challenge.rw_pipeshocks_k06_whole_reciprocity.Holds := by
  w_on; o_law
  refine HandSHeadRun.head_any (r := K06.R) (q := view K06.R.prog [67]) (H := K06.hk) (ob := K06.ob) (M := 6000) (loose := K06.loose) (d := HandSHeadRun.topDef K06.R.prog 67) (kwd := []) K06.ob_eq
    (by kernel_rfl) (fun s => by kernel_rfl) K06.run (by kernel_rfl) (by kernel_rfl) (by kernel_rfl) (by rfl) (by first | assumption | decide +kernel) (by decide +kernel) ⟨rfl, rfl, rfl, rfl, rfl, by decide +kernel⟩ ?hw ?hc
  case hw => w_witness2
  case hc =>
    refine L2.walk_ofE (l := PySem.Challenge.rw_pipeshocks_k06_whole_reciprocity) (n := 63) (k := 2 * 12 + 2) (x := "script") (CX := L2.CX0) rfl (by decide) (by kernel_rfl) ⟨rfl, by decide, by decide⟩ ?F (fun _ _ _ _ z => z)
    intro w mg fa h Y G hmg0
    obtain ⟨K, KX, c⟩ := Y
    have hmg : mg ("law" : PySem.Str) = some (.ref fa) := by
      have e : (HandSHeadRun.topDef K06.R.prog 67).name = ("law" : PySem.Str) := by kernel_rfl
      rw [← e]
      exact hmg0
    obtain ⟨fd, sp, hb, hs, hF⟩ := Pf.law_end (prog := (PySem.Challenge.rw_pipeshocks_k06_whole_reciprocity).prog) (w := w) c KX G K06.good K06.bds hmg (d := K06.d_law) (List.mem_of_getElem? (i := 48) rfl) rfl rfl 63 K06.hlaw
    exact ⟨K, fd, sp, KX, hb, fun H a ns hl _ hS => hs H a ns hl hS, hF⟩
end
