import PyProof.Rows.All
import Wide.All
import OpenK.AllK
import Wide.FinOn
import HandS.ForMost
import HandS.Exc
import HandS.CallSlots
import HandS.IsInst
import HandS.Wide
import HandS.WordsExc
import HandS.Deep
import HandS.ExcOwn
import HandS.TupAny
import HandS.Style
import HandS.TupLe
import HandS.More
import HandS.Conv
import HandS.Codes
import HandS.Replace
import HandS.FStr
import PySem.Challenge.RW_greywait_k04_weights_as_texts
set_option Elab.async false
set_option linter.all false
set_option maxRecDepth 100000
set_option maxHeartbeats 8000000
/-! Part A: plain data, the small machine's state, how both lie in the layer's heap, and what a reading is worth. -/
namespace G
open PySem PySem.Spec PyProof.Rows L2

inductive D where
  | non | bl (b : Bool) | int (i : Int) | str (x : Str) | ty (n : String) | glb (x : Str) | ref (n : Nat)
  | tup (ds : List D) | lst (ds : List D) | dic (ks : List Key) (ds : List D) | obj (x : Str) (ns : List Str) (ds : List D)
  deriving Inhabited
inductive O where
  | lst (ds : List D) | dic (ks : List Key) (ds : List D) | ins (x : Str) (ns : List Str) (ds : List D)

/-- a list that is only read -/
def LstAt (K : PySem.W.Frag) (F : Addr → Prop) (H : Hp) (a : Addr) (vs : List V) : Prop :=
  (Rd H a (.lst vs) ∧ ¬ F a) ∨
    ∃ (o : Obj) (its : Array Value) (n : Nat), K.lookup a = some o ∧ o.cls = .type "list" ∧ o.dict = none ∧ o.data = .seq its n ∧ its.size ≤ sizeLine ∧ Vals vs its.toList

mutual
inductive DV (K : PySem.W.Frag) (mg : Str → Option Value) (F : Addr → Prop) (ι : List Addr) (H : Hp) : D → V → Prop
  | non : DV K mg F ι H .non .non
  | bl (b : Bool) : DV K mg F ι H (.bl b) (.bl b)
  | int (i : Int) : DV K mg F ι H (.int i) (.int i)
  | str (x : Str) : DV K mg F ι H (.str x) (.str x)
  | ty (n : String) : DV K mg F ι H (.ty n) (.ty n)
  | glb {x : Str} {u : Value} {v : V} (m : mg x = some u) (r : RelV v u) : DV K mg F ι H (.glb x) v
  | ref {n : Nat} {a : Addr} (e : ι[n]? = some a) : DV K mg F ι H (.ref n) (.ref a)
  | tup {a : Addr} {ds : List D} {vs : List V} (h : Rd H a (.tup vs)) (r : DVs K mg F ι H ds vs) : DV K mg F ι H (.tup ds) (.ref a)
  | lst {a : Addr} {ds : List D} {vs : List V} (h : LstAt K F H a vs) (r : DVs K mg F ι H ds vs) : DV K mg F ι H (.lst ds) (.ref a)
  | dic {a : Addr} {ks : List Key} {ds : List D} {kvs : List (Key × V)} (h : Rd H a (.dK kvs)) (n : ¬ F a) (e : kvs.map (·.1) = ks) (r : DVs K mg F ι H ds (kvs.map (·.2))) : DV K mg F ι H (.dic ks ds) (.ref a)
  | obj {a C dx : Addr} {x : Str} {ns : List Str} {ds : List D} {fs : List (Str × V)} (h : H a = some (.ins C dx fs)) (n : ¬ F a) (m : mg x = some (.ref C)) (e : fs.map (·.1) = ns) (r : DVs K mg F ι H ds (fs.map (·.2))) : DV K mg F ι H (.obj x ns ds) (.ref a)
inductive DVs (K : PySem.W.Frag) (mg : Str → Option Value) (F : Addr → Prop) (ι : List Addr) (H : Hp) : List D → List V → Prop
  | nil : DVs K mg F ι H [] []
  | cons {d : D} {ds : List D} {v : V} {vs : List V} (h : DV K mg F ι H d v) (t : DVs K mg F ι H ds vs) : DVs K mg F ι H (d :: ds) (v :: vs)
end

/-- an object of the machine, as it stands -/
inductive OV (K : PySem.W.Frag) (mg : Str → Option Value) (F : Addr → Prop) (ι : List Addr) (H : Hp) (a : Addr) : O → Prop
  | lst {ds : List D} {vs : List V} (h : H a = some (.lst vs)) (r : DVs K mg F ι H ds vs) : OV K mg F ι H a (.lst ds)
  | dic {ks : List Key} {ds : List D} {kvs : List (Key × V)} (h : H a = some (.dK kvs)) (e : kvs.map (·.1) = ks) (r : DVs K mg F ι H ds (kvs.map (·.2))) : OV K mg F ι H a (.dic ks ds)
  | ins {C dx : Addr} {x : Str} {ns : List Str} {ds : List D} {fs : List (Str × V)} (h : H a = some (.ins C dx fs)) (m : mg x = some (.ref C)) (e : fs.map (·.1) = ns) (r : DVs K mg F ι H ds (fs.map (·.2))) : OV K mg F ι H a (.ins x ns ds)

structure SR (K : PySem.W.Frag) (mg : Str → Option Value) (F : Addr → Prop) (ι : List Addr) (mh : List O) (H : Hp) : Prop where
  len : ι.length = mh.length
  nd : ι.Nodup
  ob : ∀ (n : Nat) (o : O) (a : Addr), mh[n]? = some o → ι[n]? = some a → OV K mg F ι H a o
  sub : ∀ a, a ∈ ι → F a
  old : ∀ a, F a → H a ≠ none

/-- what an evaluation may do to the heap -/
structure Step (F : Addr → Prop) (ι : List Addr) (H : Hp) (F' : Addr → Prop) (ι' : List Addr) (H' : Hp) : Prop where
  pre : ι <+: ι'
  up : ∀ a, F a → F' a
  new : ∀ a, F' a → F a ∨ H a = none
  inew : ∀ a, a ∈ ι' → a ∈ ι ∨ H a = none
  keep : ∀ a o, H a = some o → a ∉ ι → H' a = some o
  tups : ∀ a vs, Rd H a (.tup vs) → Rd H' a (.tup vs)
  live : ∀ a o, H a = some o → ∃ o', H' a = some o'

theorem Step.refl {F : Addr → Prop} {ι : List Addr} {H : Hp} : Step F ι H F ι H :=
  ⟨List.prefix_refl _, fun _ h => h, fun _ h => .inl h, fun _ h => .inl h, fun _ _ h _ => h, fun _ _ h => h, fun _ o h => ⟨o, h⟩⟩
theorem Step.trans {F F1 F2 : Addr → Prop} {ι ι1 ι2 : List Addr} {H H1 H2 : Hp} (a : Step F ι H F1 ι1 H1) (b : Step F1 ι1 H1 F2 ι2 H2) : Step F ι H F2 ι2 H2 := by
  have back : ∀ x, H1 x = none → H x = none := fun x h => by
    cases q : H x with
    | none => rfl
    | some o => obtain ⟨o', e⟩ := a.live x o q; rw [h] at e; cases e
  refine ⟨a.pre.trans b.pre, fun x h => b.up x (a.up x h), fun x h => ?_, fun x h => ?_, fun x o h n => ?_, fun x vs h => b.tups x vs (a.tups x vs h), fun x o h => ?_⟩
  · rcases b.new x h with z | z
    · exact a.new x z
    · exact .inr (back x z)
  · rcases b.inew x h with z | z
    · exact a.inew x z
    · exact .inr (back x z)
  · refine b.keep x o (a.keep x o h n) fun z => ?_
    rcases a.inew x z with q | q
    · exact n q
    · rw [q] at h; cases h
  · obtain ⟨o1, e1⟩ := a.live x o h
    exact b.live x o1 e1

section
variable {K : PySem.W.Frag} {mg : Str → Option Value} {F F' : Addr → Prop} {ι ι' : List Addr} {H H' : Hp}
theorem rd_some {a : Addr} {u : HO} (h : Rd H a u) : ∃ o, H a = some o := by
  rcases h with h | ⟨o, h⟩
  · exact ⟨_, h⟩
  · exact ⟨_, h⟩
theorem rd_upto {a : Addr} {u : HO} (h : Rd H a u) (k : ∀ o, H a = some o → H' a = some o) : Rd H' a u := by
  rcases h with h | ⟨o, h⟩
  · exact .inl (k _ h)
  · exact .inr ⟨o, k _ h⟩
theorem LstAt.to {a : Addr} {vs : List V} (h : LstAt K F H a vs) (sub : ∀ a, a ∈ ι → F a) (st : Step F ι H F' ι' H') : LstAt K F' H' a vs := by
  rcases h with ⟨h, n⟩ | h
  · refine .inl ⟨rd_upto h fun o e => st.keep a o e fun z => n (sub a z), fun z => ?_⟩
    rcases st.new a z with q | q
    · exact n q
    · obtain ⟨o, e⟩ := rd_some h
      rw [q] at e; cases e
  · exact .inr h
mutual
theorem DV.to (sub : ∀ a, a ∈ ι → F a) (st : Step F ι H F' ι' H') : ∀ (d : D) (v : V), DV K mg F ι H d v → DV K mg F' ι' H' d v
  | .non, _, h => by cases h; exact .non
  | .bl b, _, h => by cases h; exact .bl b
  | .int i, _, h => by cases h; exact .int i
  | .str x, _, h => by cases h; exact .str x
  | .ty n, _, h => by cases h; exact .ty n
  | .glb x, _, h => by
    cases h with
    | glb m r => exact .glb m r
  | .ref n, _, h => by
    cases h with
    | ref e =>
      refine .ref ?_
      obtain ⟨t, q⟩ := st.pre
      rw [← q, List.getElem?_append_left]
      · exact e
      · exact (List.getElem?_eq_some_iff.mp e).1
  | .tup ds, _, h => by
    cases h with
    | tup h r => exact .tup (st.tups _ _ h) (DVs.to sub st ds _ r)
  | .lst ds, _, h => by
    cases h with
    | lst h r => exact .lst (h.to sub st) (DVs.to sub st ds _ r)
  | .dic ks ds, _, h => by
    cases h with
    | dic h n e r =>
      refine .dic (rd_upto h fun o q => st.keep _ o q fun z => n (sub _ z)) (fun z => ?_) e (DVs.to sub st ds _ r)
      rcases st.new _ z with q | q
      · exact n q
      · obtain ⟨o, e⟩ := rd_some h
        rw [q] at e; cases e
  | .obj x ns ds, _, h => by
    cases h with
    | obj h n m e r =>
      refine .obj (st.keep _ _ h fun z => n (sub _ z)) (fun z => ?_) m e (DVs.to sub st ds _ r)
      rcases st.new _ z with q | q
      · exact n q
      · rw [q] at h; cases h
theorem DVs.to (sub : ∀ a, a ∈ ι → F a) (st : Step F ι H F' ι' H') : ∀ (ds : List D) (vs : List V), DVs K mg F ι H ds vs → DVs K mg F' ι' H' ds vs
  | [], _, h => by cases h; exact .nil
  | d :: ds, _, h => by
    cases h with
    | cons h t => exact .cons (DV.to sub st d _ h) (DVs.to sub st ds _ t)
end
theorem DVs.length : ∀ {ds : List D} {vs : List V}, DVs K mg F ι H ds vs → ds.length = vs.length
  | [], _, h => by cases h; rfl
  | d :: ds, _, h => by
    cases h with
    | cons _ t => rw [List.length_cons, List.length_cons, DVs.length t]
theorem DVs.get : ∀ {ds : List D} {vs : List V} {i : Nat} {d : D}, DVs K mg F ι H ds vs → ds[i]? = some d → ∃ v, vs[i]? = some v ∧ DV K mg F ι H d v
  | [], _, i, d, h, e => by simp at e
  | x :: ds, _, 0, d, h, e => by
    cases h with
    | cons h t => simp at e; subst e; exact ⟨_, rfl, h⟩
  | x :: ds, _, i + 1, d, h, e => by
    cases h with
    | cons h t =>
      obtain ⟨v, q, r⟩ := DVs.get (i := i) t (by simpa using e)
      exact ⟨v, by simpa using q, r⟩
theorem DVs.getV {ds : List D} {vs : List V} {i : Nat} {v : V} (h : DVs K mg F ι H ds vs) (e : vs[i]? = some v) : ∃ d, ds[i]? = some d ∧ DV K mg F ι H d v := by
  have hi := (List.getElem?_eq_some_iff.mp e).1
  rw [← h.length] at hi
  obtain ⟨v', q, r⟩ := h.get (List.getElem?_eq_getElem hi)
  rw [e] at q; cases q
  exact ⟨_, List.getElem?_eq_getElem hi, r⟩
theorem DVs.append : ∀ {ds es : List D} {vs ws : List V}, DVs K mg F ι H ds vs → DVs K mg F ι H es ws → DVs K mg F ι H (ds ++ es) (vs ++ ws)
  | [], _, _, _, h, k => by cases h; exact k
  | d :: ds, _, _, _, h, k => by
    cases h with
    | cons h t => exact .cons h (DVs.append t k)
theorem DVs.take : ∀ {ds : List D} {vs : List V} (n : Nat), DVs K mg F ι H ds vs → DVs K mg F ι H (ds.take n) (vs.take n)
  | _, _, 0, _ => .nil
  | [], _, n + 1, h => by cases h; exact .nil
  | d :: ds, _, n + 1, h => by
    cases h with
    | cons h t => exact .cons h (DVs.take n t)
theorem DVs.drop : ∀ {ds : List D} {vs : List V} (n : Nat), DVs K mg F ι H ds vs → DVs K mg F ι H (ds.drop n) (vs.drop n)
  | _, _, 0, h => h
  | [], _, n + 1, h => by cases h; exact .nil
  | d :: ds, _, n + 1, h => by
    cases h with
    | cons h t => exact DVs.drop n t
theorem DVs.set {d : D} {v : V} (r : DV K mg F ι H d v) : ∀ {ds : List D} {vs : List V} (i : Nat), DVs K mg F ι H ds vs → DVs K mg F ι H (ds.set i d) (vs.set i v)
  | [], _, _, h => by cases h; exact .nil
  | x :: ds, _, 0, h => by
    cases h with
    | cons h t => exact .cons r t
  | x :: ds, _, i + 1, h => by
    cases h with
    | cons h t => exact .cons h (DVs.set r i t)
theorem DVs.eraseIdx : ∀ {ds : List D} {vs : List V} (i : Nat), DVs K mg F ι H ds vs → DVs K mg F ι H (ds.eraseIdx i) (vs.eraseIdx i)
  | [], _, _, h => by cases h; exact .nil
  | x :: ds, _, 0, h => by
    cases h with
    | cons h t => exact t
  | x :: ds, _, i + 1, h => by
    cases h with
    | cons h t => exact .cons h (DVs.eraseIdx i t)
theorem DVs.reverse : ∀ {ds : List D} {vs : List V}, DVs K mg F ι H ds vs → DVs K mg F ι H ds.reverse vs.reverse
  | [], _, h => by cases h; exact .nil
  | x :: ds, _, h => by
    cases h with
    | cons h t =>
      rw [List.reverse_cons, List.reverse_cons]
      exact (DVs.reverse t).append (.cons h .nil)
theorem OV.to {a : Addr} {o : O} (h : OV K mg F ι H a o) (sub : ∀ a, a ∈ ι → F a) (st : Step F ι H F' ι' H') (k : H' a = H a) : OV K mg F' ι' H' a o := by
  cases h with
  | lst h r => exact .lst (k.trans h) (DVs.to sub st _ _ r)
  | dic h e r => exact .dic (k.trans h) e (DVs.to sub st _ _ r)
  | ins h m e r => exact .ins (k.trans h) m e (DVs.to sub st _ _ r)
/-- a new object that nobody writes -/
theorem step_new {p : Addr} {u : HO} (hp : H p = none) : Step F ι H F ι (upd H p u) :=
  ⟨List.prefix_refl _, fun _ h => h, fun _ h => .inl h, fun _ h => .inl h, fun a o h _ => by rw [upd_ne (ne_of_none h hp)]; exact h,
    fun a vs h => by
      obtain ⟨o, e⟩ := rd_some h
      exact rd_upto h fun o' q => by rw [upd_ne (ne_of_none e hp)]; exact q,
    fun a o h => ⟨o, by rw [upd_ne (ne_of_none h hp)]; exact h⟩⟩
theorem SR.notNew {mh : List O} {p : Addr} (sr : SR K mg F ι mh H) (hp : H p = none) : ¬ F p := fun z => sr.old p z hp
theorem SR.fresh {mh : List O} {p : Addr} {u : HO} (sr : SR K mg F ι mh H) (hp : H p = none) : SR K mg F ι mh (upd H p u) := by
  refine ⟨sr.len, sr.nd, fun n o a e1 e2 => ?_, sr.sub, fun a h => ?_⟩
  · have hF := sr.sub a (List.mem_of_getElem? e2)
    have na : a ≠ p := fun z => sr.old a hF (by rw [z]; exact hp)
    exact (sr.ob n o a e1 e2).to sr.sub (step_new hp) (upd_ne na)
  · have na : a ≠ p := fun z => sr.old a h (by rw [z]; exact hp)
    rw [upd_ne na]
    exact sr.old a h
/-- only the heap is larger -/
theorem SR.same {mh : List O} (sr : SR K mg F ι mh H) (k : ∀ a o, H a = some o → H' a = some o) : SR K mg F ι mh H' ∧ Step F ι H F ι H' := by
  have st : Step F ι H F ι H' := ⟨List.prefix_refl _, fun _ h => h, fun _ h => .inl h, fun _ h => .inl h, fun a o h _ => k a o h, fun a vs h => rd_upto h fun o q => k a o q, fun a o h => ⟨o, k a o h⟩⟩
  refine ⟨⟨sr.len, sr.nd, fun n o a e1 e2 => ?_, sr.sub, fun a h => ?_⟩, st⟩
  · have ho := sr.ob n o a e1 e2
    have hF := sr.sub a (List.mem_of_getElem? e2)
    cases q : H a with
    | none => exact absurd q (sr.old a hF)
    | some u => exact ho.to sr.sub st ((k a u q).trans q.symm)
  · cases q : H a with
    | none => exact absurd q (sr.old a h)
    | some u => rw [k a u q]; exact fun z => nomatch z
end

/-! ### results -/
inductive Res (α : Type) where
  | ok (a : α) (mh : List O)
  | err (c : Str) (ds : List D) (mh : List O)
  | stuck
def Res.bind {α β : Type} (r : Res α) (f : α → List O → Res β) : Res β := match r with
  | .ok a mh => f a mh
  | .err c ds mh => .err c ds mh
  | .stuck => .stuck
@[simp] theorem Res.bind_ok {α β : Type} (a : α) (mh : List O) (f : α → List O → Res β) : (Res.ok a mh).bind f = f a mh := rfl
@[simp] theorem Res.bind_err {α β : Type} (c : Str) (ds : List D) (mh : List O) (f : α → List O → Res β) : (Res.err c ds mh : Res α).bind f = .err c ds mh := rfl
@[simp] theorem Res.bind_stuck {α β : Type} (f : α → List O → Res β) : (Res.stuck : Res α).bind f = .stuck := rfl

abbrev En := List (Option D)
abbrev CE := En → List O → Res D
abbrev CT := En → List O → Res Bool
abbrev CA := En → List O → Res (List D)

abbrev Rel (α β : Type) := (Addr → Prop) → List Addr → Hp → α → β → Prop
/-- an exception of the class that the module's name c holds, its fields' values -/
def ExV (K : PySem.W.Frag) (mg : Str → Option Value) (F : Addr → Prop) (ι : List Addr) (H : Hp) (c : Str) (ds : List D) (cls : Value) (dx : Option Addr) : Prop :=
  ∃ C, mg c = some (.ref C) ∧ cls = .ref C ∧ ((dx = none ∧ ds = []) ∨ ∃ d fs, dx = some d ∧ H d = some (.xd fs) ∧ DVs K mg F ι H ds (fs.map (·.2)))
/-- what a result is worth from a state on -/
def Post {α β : Type} (K : PySem.W.Frag) (mg : Str → Option Value) (R : Rel α β) (W : WX) (σ : L2.St) (F : Addr → Prop) (ι : List Addr) (H : Hp) (r : Res α) (Q : β → Hp → Prop) : Prop := match r with
  | .ok a mh' => ∀ F' ι' H' b, Step F ι H F' ι' H' → SR K mg F' ι' mh' H' → R F' ι' H' a b → Q b H'
  | .err c ds mh' => ∀ F' ι' H' cls dx, Step F ι H F' ι' H' → SR K mg F' ι' mh' H' → ExV K mg F' ι' H' c ds cls dx → W cls dx σ H'
  | .stuck => False
section
variable {α β γ δ : Type} {K : PySem.W.Frag} {mg : Str → Option Value} {R : Rel α β} {R' : Rel γ δ} {W : WX} {σ : L2.St} {F F1 : Addr → Prop} {ι ι1 : List Addr} {H H1 : Hp} {Q Q' : β → Hp → Prop}
theorem Post.at {r : Res α} (h : Post K mg R W σ F ι H r Q) (st : Step F ι H F1 ι1 H1) : Post K mg R W σ F1 ι1 H1 r Q := by
  cases r with
  | ok a mh => exact fun F' ι' H' b s x y => h F' ι' H' b (st.trans s) x y
  | err c ds mh => exact fun F' ι' H' cls dx s x y => h F' ι' H' cls dx (st.trans s) x y
  | stuck => exact h
theorem Post.mono {r : Res α} (h : Post K mg R W σ F ι H r Q) (k : ∀ b H', Q b H' → Q' b H') : Post K mg R W σ F ι H r Q' := by
  cases r with
  | ok a mh => exact fun F' ι' H' b s x y => k _ _ (h F' ι' H' b s x y)
  | err c ds mh => exact fun F' ι' H' cls dx s x y => h F' ι' H' cls dx s x y
  | stuck => exact h
/-- the state behind a first part, with what is left to be shown -/
structure Nxt (K : PySem.W.Frag) (mg : Str → Option Value) (R : Rel α β) (R' : Rel γ δ) (W : WX) (σ : L2.St) (F : Addr → Prop) (ι : List Addr) (H : Hp) (f : α → List O → Res γ) (Q : δ → Hp → Prop) (b : β) (H1 : Hp) : Prop where
  ex : ∃ F1 ι1 a mh1, Step F ι H F1 ι1 H1 ∧ SR K mg F1 ι1 mh1 H1 ∧ R F1 ι1 H1 a b ∧ Post K mg R' W σ F1 ι1 H1 (f a mh1) Q
theorem Post.bind {r : Res α} {f : α → List O → Res γ} {Q : δ → Hp → Prop} (h : Post K mg R' W σ F ι H (r.bind f) Q) : Post K mg R W σ F ι H r (Nxt K mg R R' W σ F ι H f Q) := by
  cases r with
  | ok a mh => exact fun F' ι' H' b s x y => ⟨F', ι', a, mh, s, x, y, Post.at (r := f a mh) h s⟩
  | err c ds mh => exact fun F' ι' H' cls dx s x y => h F' ι' H' cls dx s x y
  | stuck => exact h
theorem Post.ok {a : α} {mh : List O} {b : β} (h : Post K mg R W σ F ι H (.ok a mh) Q) (sr : SR K mg F ι mh H) (r : R F ι H a b) : Q b H := h F ι H b Step.refl sr r
end

/-- slots -/
def ER (K : PySem.W.Frag) (mg : Str → Option Value) (F : Addr → Prop) (ι : List Addr) (H : Hp) (ρ : En) (σ : L2.St) : Prop :=
  ρ.length = σ.length ∧ ∀ (i : Nat) (d : D), ρ[i]? = some (some d) → ∃ v, σ[i]? = some (some v) ∧ DV K mg F ι H d v
section
variable {K : PySem.W.Frag} {mg : Str → Option Value} {F F' : Addr → Prop} {ι ι' : List Addr} {H H' : Hp} {ρ : En} {σ : L2.St}
theorem ER.to (h : ER K mg F ι H ρ σ) (sub : ∀ a, a ∈ ι → F a) (st : Step F ι H F' ι' H') : ER K mg F' ι' H' ρ σ :=
  ⟨h.1, fun i d e => let ⟨v, q, r⟩ := h.2 i d e; ⟨v, q, DV.to sub st _ _ r⟩⟩
theorem ER.set {i : Nat} {d : D} {v : V} (h : ER K mg F ι H ρ σ) (r : DV K mg F ι H d v) : ER K mg F ι H (ρ.set i (some d)) (σ.set i (some v)) := by
  refine ⟨by rw [List.length_set, List.length_set]; exact h.1, fun j e q => ?_⟩
  by_cases hj : i = j
  · subst hj
    by_cases hl : i < ρ.length
    · rw [List.getElem?_set_self hl] at q
      cases q
      exact ⟨v, List.getElem?_set_self (by rw [← h.1]; exact hl), r⟩
    · rw [List.getElem?_eq_none (by rw [List.length_set]; omega)] at q; cases q
  · rw [List.getElem?_set_ne hj] at q
    obtain ⟨w, e1, e2⟩ := h.2 j e q
    exact ⟨w, by rw [List.getElem?_set_ne hj]; exact e1, e2⟩
theorem ER.clear {i : Nat} (h : ER K mg F ι H ρ σ) : ER K mg F ι H (ρ.set i none) (σ.set i none) := by
  refine ⟨by rw [List.length_set, List.length_set]; exact h.1, fun j e q => ?_⟩
  by_cases hj : i = j
  · subst hj
    by_cases hl : i < ρ.length
    · rw [List.getElem?_set_self hl] at q; cases q
    · rw [List.getElem?_eq_none (by rw [List.length_set]; omega)] at q; cases q
  · rw [List.getElem?_set_ne hj] at q
    obtain ⟨w, e1, e2⟩ := h.2 j e q
    exact ⟨w, by rw [List.getElem?_set_ne hj]; exact e1, e2⟩
end
end G

/-! Part B: judgements over the readings; expressions. -/
namespace G
open PySem PySem.Spec PyProof.Rows L2

abbrev DR (X : Cx) : Rel D V := fun F ι H d v => DV X.K X.mg F ι H d v
abbrev DRs (X : Cx) : Rel (List D) (List V) := fun F ι H d v => DVs X.K X.mg F ι H d v
abbrev BR : Rel Bool Bool := fun _ _ _ a b => a = b

structure Cc (k : Nat) (X : Cx) (W : WX) : Prop where
  calm : X.calm = true
  nd : X.N.Nodup
  tk : Takes X W
  hr : Room k X.A
  po : PassesOwn (model X.prog X.w) X.A X.env X.xe
theorem Cc.hu {k : Nat} {X : Cx} {W : WX} (c : Cc k X W) : X.A.units + 64 < cLine := c.hr.units

structure JE (X : Cx) (W : WX) (e : Expr) (f : CE) : Prop where
  ex : ∃ t, PE X e t ∧ ∀ (ρ : En) (mh : List O) (F : Addr → Prop) (ι : List Addr) (σ : L2.St) (H : Hp) (Q : VK), SR X.K X.mg F ι mh H → ER X.K X.mg F ι H ρ σ → Post X.K X.mg (DR X) W σ F ι H (f ρ mh) Q → t σ H Q
structure JT (X : Cx) (W : WX) (e : Expr) (f : CT) : Prop where
  ex : ∃ t, PT X e t ∧ ∀ (ρ : En) (mh : List O) (F : Addr → Prop) (ι : List Addr) (σ : L2.St) (H : Hp) (Q : Bool → Hp → Prop), SR X.K X.mg F ι mh H → ER X.K X.mg F ι H ρ σ → Post X.K X.mg BR W σ F ι H (f ρ mh) Q → t σ H Q
structure JW (X : Cx) (W : WX) (e : Expr) (f : CT) : Prop where
  ex : ∃ t, PW X e t ∧ ∀ (ρ : En) (mh : List O) (F : Addr → Prop) (ι : List Addr) (σ : L2.St) (H : Hp) (Q : Bool → Hp → Prop), SR X.K X.mg F ι mh H → ER X.K X.mg F ι H ρ σ → Post X.K X.mg BR W σ F ι H (f ρ mh) Q → t σ H Q
structure JA (X : Cx) (W : WX) (es : List Expr) (f : CA) : Prop where
  ex : ∃ t, PA X es t ∧ ∀ (ρ : En) (mh : List O) (F : Addr → Prop) (ι : List Addr) (σ : L2.St) (H : Hp) (Q : List V → Hp → Prop), SR X.K X.mg F ι mh H → ER X.K X.mg F ι H ρ σ → Post X.K X.mg (DRs X) W σ F ι H (f ρ mh) Q → t σ H Q
theorem JW.jt {X : Cx} {W : WX} {e : Expr} {f : CT} (h : JW X W e f) : JT X W e f := by
  obtain ⟨t, p, q⟩ := h.ex
  exact ⟨t, p.pt, q⟩

/-! ### names, constants -/
def cVar (i : Nat) : CE := fun ρ mh => match ρ[i]? with
  | some (some d) => .ok d mh
  | _ => .stuck
def cK (d : D) : CE := fun _ mh => .ok d mh
section
variable {X : Cx} {W : WX} {k : Nat} {pos : Pos}
theorem j_var (i : Nat) {x : Str} (hN : X.N[i]? = some x := by rfl) (hv : Vis X.env.scope x := by first | exact Or.inl rfl | exact Or.inr (Or.inl rfl) | exact Or.inr (Or.inr rfl)) (hd : (x == ("__debug__" : Str)) = false := by decide)
    (hcd : (x == ("__classdict__" : Str)) = false := by decide) : JE X W (.Name x pos) (cVar i) := by
  refine ⟨tVar i, pe_var hN hv hd hcd, fun ρ mh F ι σ H Q sr er h => ?_⟩
  unfold cVar at h
  split at h
  · rename_i d e
    obtain ⟨v, q, r⟩ := er.2 i d e
    exact ⟨v, q, h.ok sr r⟩
  · exact h.elim
theorem j_int {i j} : JE X W (.Constant (.int i) j pos) (cK (.int i)) := ⟨_, pe_int, fun _ _ _ _ _ _ _ sr _ h => h.ok sr (.int i)⟩
theorem j_bl {b j} : JE X W (.Constant (.bool b) j pos) (cK (.bl b)) := ⟨_, pe_bl, fun _ _ _ _ _ _ _ sr _ h => h.ok sr (.bl b)⟩
theorem j_non {j} : JE X W (.Constant .none j pos) (cK .non) := ⟨_, pe_non, fun _ _ _ _ _ _ _ sr _ h => h.ok sr .non⟩
theorem j_str {x j} : JE X W (.Constant (.str x) j pos) (cK (.str x)) := ⟨_, pe_str, fun _ _ _ _ _ _ _ sr _ h => h.ok sr (.str x)⟩
/-- a class or a def of the module, as a value -/
theorem j_glb {x : Str} {v : V} {u : Value} (hm : X.mg x = some u) (r : RelV v u) (hg : Gl X x := by rfl) (hd : (x == ("__debug__" : Str)) = false := by decide) : JE X W (.Name x pos) (cK (.glb x)) :=
  ⟨_, pe_glob hg hm r hd, fun _ _ _ _ _ _ _ sr _ h => h.ok sr (.glb hm r)⟩
/-- a constant of the module -/
theorem j_glbI {x : Str} {i : Int} {t : Tok} (hm : X.mg x = some (.int i t)) (hg : Gl X x := by rfl) (hd : (x == ("__debug__" : Str)) = false := by decide) : JE X W (.Name x pos) (cK (.int i)) :=
  ⟨_, pe_glob (v := .int i) hg hm ⟨t, rfl⟩ hd, fun _ _ _ _ _ _ _ sr _ h => h.ok sr (.int i)⟩
theorem j_glbS {x : Str} {z : Str} {t : Tok} (hm : X.mg x = some (.str z t)) (hg : Gl X x := by rfl) (hd : (x == ("__debug__" : Str)) = false := by decide) : JE X W (.Name x pos) (cK (.str z)) :=
  ⟨_, pe_glob (v := .str z) hg hm ⟨t, rfl⟩ hd, fun _ _ _ _ _ _ _ sr _ h => h.ok sr (.str z)⟩
theorem j_bltn {x : Str} {n : String} (hm : X.mg x = none) (hv : bootBuiltins x = some (.type n)) (hg : Gl X x := by rfl) (hn : x ≠ "__name__" := by decide) (hd : (x == ("__debug__" : Str)) = false := by decide) : JE X W (.Name x pos) (cK (.ty n)) :=
  ⟨_, pe_bltn (v := .ty n) hg hm hv rfl hn hd, fun _ _ _ _ _ _ _ sr _ h => h.ok sr (.ty n)⟩
end

/-! ### operations by values -/
/-- the reading r is worth the operation o -/
def VO1 (X : Cx) (r : V → Hp → VK → Prop) (o : D → List O → Res D) : Prop :=
  ∀ (W : WX) (σ : L2.St) (F : Addr → Prop) (ι : List Addr) (mh : List O) (H : Hp) (d : D) (v : V) (Q : VK), SR X.K X.mg F ι mh H → DV X.K X.mg F ι H d v → Post X.K X.mg (DR X) W σ F ι H (o d mh) Q → r v H Q
def VO2 (X : Cx) (r : R2) (o : D → D → List O → Res D) : Prop :=
  ∀ (W : WX) (σ : L2.St) (F : Addr → Prop) (ι : List Addr) (mh : List O) (H : Hp) (d e : D) (v u : V) (Q : VK), SR X.K X.mg F ι mh H → DV X.K X.mg F ι H d v → DV X.K X.mg F ι H e u → Post X.K X.mg (DR X) W σ F ι H (o d e mh) Q → r v u H Q
def VOL (X : Cx) (r : List V → Hp → VK → Prop) (o : List D → List O → Res D) : Prop :=
  ∀ (W : WX) (σ : L2.St) (F : Addr → Prop) (ι : List Addr) (mh : List O) (H : Hp) (ds : List D) (vs : List V) (Q : VK), SR X.K X.mg F ι mh H → DVs X.K X.mg F ι H ds vs → Post X.K X.mg (DR X) W σ F ι H (o ds mh) Q → r vs H Q

def c1 (o : D → List O → Res D) (f : CE) : CE := fun ρ mh => (f ρ mh).bind o
def c2 (o : D → D → List O → Res D) (f g : CE) : CE := fun ρ mh => (f ρ mh).bind fun x m => (g ρ m).bind fun y m' => o x y m'
def cL (o : List D → List O → Res D) (f : CA) : CE := fun ρ mh => (f ρ mh).bind o
def cNil : CA := fun _ mh => .ok [] mh
def cCons (f : CE) (g : CA) : CA := fun ρ mh => (f ρ mh).bind fun x m => (g ρ m).bind fun xs m' => .ok (x :: xs) m'
section
variable {X : Cx} {W : WX} {k : Nat} {pos : Pos} {a b : Expr} {fa fb : CE}
theorem two {ta tb : TE} {σ : L2.St} {r : R2} {o : D → D → List O → Res D}
    (qa : ∀ (ρ : En) (mh : List O) (F : Addr → Prop) (ι : List Addr) (σ : L2.St) (H : Hp) (Q : VK), SR X.K X.mg F ι mh H → ER X.K X.mg F ι H ρ σ → Post X.K X.mg (DR X) W σ F ι H (fa ρ mh) Q → ta σ H Q)
    (qb : ∀ (ρ : En) (mh : List O) (F : Addr → Prop) (ι : List Addr) (σ : L2.St) (H : Hp) (Q : VK), SR X.K X.mg F ι mh H → ER X.K X.mg F ι H ρ σ → Post X.K X.mg (DR X) W σ F ι H (fb ρ mh) Q → tb σ H Q)
    (vo : VO2 X r o) {ρ : En} {mh : List O} {F : Addr → Prop} {ι : List Addr} {H : Hp} {Q : VK} (sr : SR X.K X.mg F ι mh H) (er : ER X.K X.mg F ι H ρ σ)
    (h : Post X.K X.mg (DR X) W σ F ι H (c2 o fa fb ρ mh) Q) : ta σ H fun x H1 => tb σ H1 fun y H2 => r x y H2 Q := by
  refine qa ρ mh F ι σ H _ sr er (h.bind.mono fun x H1 ⟨F1, ι1, d1, m1, st1, sr1, r1, h1⟩ => ?_)
  refine qb ρ m1 F1 ι1 σ H1 _ sr1 (er.to sr.sub st1) (h1.bind.mono fun y H2 ⟨F2, ι2, d2, m2, st2, sr2, r2, h2⟩ => ?_)
  exact vo W σ F2 ι2 m2 H2 d1 d2 x y Q sr2 (DV.to sr1.sub st2 _ _ r1) r2 h2
theorem j_op {op : Operator} {r : R2} {o : D → D → List O → Res D} (ho : OpR X (binaryOp op) r) (vo : VO2 X r o) (ha : JE X W a fa) (hb : JE X W b fb) : JE X W (.BinOp a op b pos) (c2 o fa fb) := by
  obtain ⟨ta, pa, qa⟩ := ha.ex
  obtain ⟨tb, pb, qb⟩ := hb.ex
  exact ⟨_, pe_op ho pa pb, fun ρ mh F ι σ H Q sr er h => two qa qb vo sr er h⟩
theorem j_un {op : UnaryOp} {r : V → Hp → VK → Prop} {o : D → List O → Res D} (ho : UnR X (unaryOp op) r) (vo : VO1 X r o) (ha : JE X W a fa) : JE X W (.UnaryOp op a pos) (c1 o fa) := by
  obtain ⟨ta, pa, qa⟩ := ha.ex
  refine ⟨_, pe_un ho pa, fun ρ mh F ι σ H Q sr er h => ?_⟩
  exact qa ρ mh F ι σ H _ sr er (h.bind.mono fun x H1 ⟨F1, ι1, d1, m1, st1, sr1, r1, h1⟩ => vo W σ F1 ι1 m1 H1 d1 x Q sr1 r1 h1)
theorem j_cmp {op : CmpOp} {r : R2} {o : D → D → List O → Res D} (ho : OpR X (compareOp op) r) (vo : VO2 X r o) (ha : JE X W a fa) (hb : JE X W b fb) (hm : behindInMarks op b = false := by first | exact nomark _ | with_unfolding_all rfl) : JE X W (.Compare a [op] [b] pos) (c2 o fa fb) := by
  obtain ⟨ta, pa, qa⟩ := ha.ex
  obtain ⟨tb, pb, qb⟩ := hb.ex
  exact ⟨_, pe_cmpR ho pa pb hm, fun ρ mh F ι σ H Q sr er h => two qa qb vo sr er h⟩
def isB (d : D) (mh : List O) : Res Bool := match d with
  | .bl b => .ok b mh
  | _ => .stuck
def cB (f : CE) : CT := fun ρ mh => (f ρ mh).bind isB
theorem post_isB {d : D} {v : V} {mh : List O} {F : Addr → Prop} {ι : List Addr} {σ : L2.St} {H : Hp} {Q : Bool → Hp → Prop} (sr : SR X.K X.mg F ι mh H) (r : DV X.K X.mg F ι H d v) (h : Post X.K X.mg BR W σ F ι H (isB d mh) Q) : ∃ c, v = .bl c ∧ Q c H := by
  unfold isB at h
  split at h
  · cases r
    exact ⟨_, rfl, h.ok sr rfl⟩
  · exact h.elim
theorem j_tst {e : Expr} {f : CE} (he : JE X W e f) (hh : ∀ whole, isTrue e X.env whole = (do let v ← whole; standAt e.pos; holding [v] (truthy v)) := by intro _; rfl) : JT X W e (cB f) := by
  obtain ⟨t, p, q⟩ := he.ex
  refine ⟨_, pt_val p hh, fun ρ mh F ι σ H Q sr er h => ?_⟩
  exact q ρ mh F ι σ H _ sr er (h.bind.mono fun x H1 ⟨F1, ι1, d1, m1, st1, sr1, r1, h1⟩ => post_isB sr1 r1 h1)
theorem t_cmp {op : CmpOp} {r : R2} {o : D → D → List O → Res D} (ho : OpR X (compareOp op) r) (vo : VO2 X r o) (ha : JE X W a fa) (hb : JE X W b fb) (hm : behindInMarks op b = false := by first | exact nomark _ | with_unfolding_all rfl) : JT X W (.Compare a [op] [b] pos) (cB (c2 o fa fb)) := by
  obtain ⟨ta, pa, qa⟩ := ha.ex
  obtain ⟨tb, pb, qb⟩ := hb.ex
  refine ⟨_, pt_cmpR ho pa pb hm, fun ρ mh F ι σ H Q sr er h => ?_⟩
  have h' : Post X.K X.mg (DR X) W σ F ι H (c2 o fa fb ρ mh) _ := Post.bind (R := DR X) h
  exact two qa qb vo sr er (h'.mono fun x H1 ⟨F1, ι1, d1, m1, st1, sr1, r1, h1⟩ => post_isB sr1 r1 h1)
/-! chains -/
def cChain (o o' : D → D → List O → Res D) (fa fb fc : CE) : CE := fun ρ mh => (fa ρ mh).bind fun x m => (fb ρ m).bind fun y m1 => (o x y m1).bind fun z m2 => (isB z m2).bind fun b m3 =>
  if b = true then (fc ρ m3).bind fun w m4 => o' y w m4 else .ok (.bl false) m3
theorem chain_ok {r r' : R2} {o o' : D → D → List O → Res D} {ta tb tc : TE} {fc : CE} (vo : VO2 X r o) (vo' : VO2 X r' o')
    (qa : ∀ (ρ : En) (mh : List O) (F : Addr → Prop) (ι : List Addr) (σ : L2.St) (H : Hp) (Q : VK), SR X.K X.mg F ι mh H → ER X.K X.mg F ι H ρ σ → Post X.K X.mg (DR X) W σ F ι H (fa ρ mh) Q → ta σ H Q)
    (qb : ∀ (ρ : En) (mh : List O) (F : Addr → Prop) (ι : List Addr) (σ : L2.St) (H : Hp) (Q : VK), SR X.K X.mg F ι mh H → ER X.K X.mg F ι H ρ σ → Post X.K X.mg (DR X) W σ F ι H (fb ρ mh) Q → tb σ H Q)
    (qc : ∀ (ρ : En) (mh : List O) (F : Addr → Prop) (ι : List Addr) (σ : L2.St) (H : Hp) (Q : VK), SR X.K X.mg F ι mh H → ER X.K X.mg F ι H ρ σ → Post X.K X.mg (DR X) W σ F ι H (fc ρ mh) Q → tc σ H Q)
    {ρ : En} {mh : List O} {F : Addr → Prop} {ι : List Addr} {σ : L2.St} {H : Hp} {Q : VK} (sr : SR X.K X.mg F ι mh H) (er : ER X.K X.mg F ι H ρ σ)
    (h : Post X.K X.mg (DR X) W σ F ι H (cChain o o' fa fb fc ρ mh) Q) : tChain r r' ta tb tc σ H Q := by
  refine qa ρ mh F ι σ H _ sr er (h.bind.mono fun x H1 ⟨F1, ι1, d1, m1, st1, sr1, r1, h1⟩ => ?_)
  refine qb ρ m1 F1 ι1 σ H1 _ sr1 (er.to sr.sub st1) (h1.bind.mono fun y H2 ⟨F2, ι2, d2, m2, st2, sr2, r2, h2⟩ => ?_)
  refine vo W σ F2 ι2 m2 H2 d1 d2 x y _ sr2 (DV.to sr1.sub st2 _ _ r1) r2 ((Post.bind (R := DR X) h2).mono fun z H3 ⟨F3, ι3, d3, m3, st3, sr3, r3, h3⟩ => ?_)
  have h4 := Post.bind (R := BR) h3
  obtain ⟨c, rfl, n4⟩ := post_isB sr3 r3 h4
  obtain ⟨F4, ι4, b, m4, st4, sr4, e4, h5⟩ := n4.ex
  have e5 : b = c := e4
  subst e5
  refine ⟨b, rfl, ?_⟩
  cases b with
  | false =>
    rw [if_neg Bool.false_ne_true] at h5 ⊢
    exact h5.ok sr4 (.bl false)
  | true =>
    rw [if_pos rfl] at h5 ⊢
    have st24 := st3.trans st4
    refine qc ρ m4 F4 ι4 σ H3 _ sr4 ((er.to sr.sub (st1.trans st2)).to sr2.sub st24) (h5.bind.mono fun w' H5 ⟨F5, ι5, d5, m5, st5, sr5, r5, h6⟩ => ?_)
    exact vo' W σ F5 ι5 m5 H5 d2 d5 y w' Q sr5 (DV.to sr2.sub (st24.trans st5) _ _ r2) r5 h6
theorem j_chain {op op' : CmpOp} {r r' : R2} {o o' : D → D → List O → Res D} {c : Expr} {fc : CE} (ho : OpR X (compareOp op) r) (vo : VO2 X r o) (ho' : OpR X (compareOp op') r') (vo' : VO2 X r' o') (ha : JE X W a fa) (hb : JE X W b fb) (hc : JE X W c fc)
    (hm : lastMarks [op, op'] [b, c] = false := by with_unfolding_all rfl) : JE X W (.Compare a [op, op'] [b, c] pos) (cChain o o' fa fb fc) := by
  obtain ⟨ta, pa, qa⟩ := ha.ex
  obtain ⟨tb, pb, qb⟩ := hb.ex
  obtain ⟨tc, pc, qc⟩ := hc.ex
  exact ⟨_, pe_chain ho ho' pa pb pc hm, fun ρ mh F ι σ H Q sr er h => chain_ok vo vo' qa qb qc sr er h⟩
theorem t_chain {op op' : CmpOp} {r r' : R2} {o o' : D → D → List O → Res D} {c : Expr} {fc : CE} (ho : OpR X (compareOp op) r) (vo : VO2 X r o) (ho' : OpR X (compareOp op') r') (vo' : VO2 X r' o') (ha : JE X W a fa) (hb : JE X W b fb) (hc : JE X W c fc)
    (hm : lastMarks [op, op'] [b, c] = false := by with_unfolding_all rfl) : JT X W (.Compare a [op, op'] [b, c] pos) (cB (cChain o o' fa fb fc)) := by
  obtain ⟨ta, pa, qa⟩ := ha.ex
  obtain ⟨tb, pb, qb⟩ := hb.ex
  obtain ⟨tc, pc, qc⟩ := hc.ex
  refine ⟨_, pt_chain ho ho' pa pb pc hm, fun ρ mh F ι σ H Q sr er h => ?_⟩
  have h' : Post X.K X.mg (DR X) W σ F ι H (cChain o o' fa fb fc ρ mh) _ := Post.bind (R := DR X) h
  exact chain_ok vo vo' qa qb qc sr er (h'.mono fun x H1 ⟨F1, ι1, d1, m1, st1, sr1, r1, h1⟩ => post_isB sr1 r1 h1)
end

/-! ### and, or, not, if -/
def tAnd2 (f g : CT) : CT := fun ρ mh => (f ρ mh).bind fun b m => if b = true then g ρ m else .ok false m
def tOr2 (f g : CT) : CT := fun ρ mh => (f ρ mh).bind fun b m => if b = true then .ok true m else g ρ m
def tNot1 (f : CT) : CT := fun ρ mh => (f ρ mh).bind fun b m => .ok (!b) m
def cOfT (f : CT) : CE := fun ρ mh => (f ρ mh).bind fun b m => .ok (.bl b) m
def cIf (t : CT) (f g : CE) : CE := fun ρ mh => (t ρ mh).bind fun b m => if b = true then f ρ m else g ρ m
def cAnd2 (f g : CE) : CE := fun ρ mh => (f ρ mh).bind fun x m => (isB x m).bind fun b m => if b = true then g ρ m else .ok (.bl false) m
def cOr2 (f g : CE) : CE := fun ρ mh => (f ρ mh).bind fun x m => (isB x m).bind fun b m => if b = true then .ok (.bl true) m else g ρ m
def cNot1 (f : CE) : CE := fun ρ mh => (f ρ mh).bind fun x m => (isB x m).bind fun b m => .ok (.bl (!b)) m
section
variable {X : Cx} {W : WX} {k : Nat} {pos : Pos} {a b : Expr} {rest : List Expr}
theorem w_and1 {f : CT} (h : JT X W a f) : JW X W (.BoolOp .And [a] pos) f := by
  obtain ⟨t, p, q⟩ := h.ex
  exact ⟨_, pw_and1 p, q⟩
theorem w_or1 {f : CT} (h : JT X W a f) : JW X W (.BoolOp .Or [a] pos) f := by
  obtain ⟨t, p, q⟩ := h.ex
  exact ⟨_, pw_or1 p, q⟩
theorem w_and {f g : CT} (h : JT X W a f) (h' : JW X W (.BoolOp .And (b :: rest) pos) g) : JW X W (.BoolOp .And (a :: b :: rest) pos) (tAnd2 f g) := by
  obtain ⟨t, p, q⟩ := h.ex
  obtain ⟨t', p', q'⟩ := h'.ex
  refine ⟨_, pw_and p p', fun ρ mh F ι σ H Q sr er h => ?_⟩
  refine q ρ mh F ι σ H _ sr er (h.bind.mono fun c H1 ⟨F1, ι1, d1, m1, st1, sr1, r1, h1⟩ => ?_)
  have e : d1 = c := r1
  subst e
  cases d1 with
  | true => rw [if_pos rfl] at h1 ⊢; exact q' ρ m1 F1 ι1 σ H1 Q sr1 (er.to sr.sub st1) h1
  | false => rw [if_neg Bool.false_ne_true] at h1 ⊢; exact h1.ok sr1 rfl
theorem w_or {f g : CT} (h : JT X W a f) (h' : JW X W (.BoolOp .Or (b :: rest) pos) g) : JW X W (.BoolOp .Or (a :: b :: rest) pos) (tOr2 f g) := by
  obtain ⟨t, p, q⟩ := h.ex
  obtain ⟨t', p', q'⟩ := h'.ex
  refine ⟨_, pw_or p p', fun ρ mh F ι σ H Q sr er h => ?_⟩
  refine q ρ mh F ι σ H _ sr er (h.bind.mono fun c H1 ⟨F1, ι1, d1, m1, st1, sr1, r1, h1⟩ => ?_)
  have e : d1 = c := r1
  subst e
  cases d1 with
  | true => rw [if_pos rfl] at h1 ⊢; exact h1.ok sr1 rfl
  | false => rw [if_neg Bool.false_ne_true] at h1 ⊢; exact q' ρ m1 F1 ι1 σ H1 Q sr1 (er.to sr.sub st1) h1
theorem t_not {f : CT} (h : JT X W a f) : JT X W (.UnaryOp .Not a pos) (tNot1 f) := by
  obtain ⟨t, p, q⟩ := h.ex
  refine ⟨_, pt_not p, fun ρ mh F ι σ H Q sr er h => ?_⟩
  refine q ρ mh F ι σ H _ sr er (h.bind.mono fun c H1 ⟨F1, ι1, d1, m1, st1, sr1, r1, h1⟩ => ?_)
  have e : d1 = c := r1
  subst e
  exact h1.ok sr1 rfl
theorem j_one {op} {f : CE} (h : JE X W a f) : JE X W (.BoolOp op [a] pos) f := by
  obtain ⟨t, p, q⟩ := h.ex
  exact ⟨_, pe_one p, q⟩
theorem j_and {f g : CE} (h : JE X W a f) (h' : JE X W (.BoolOp .And (b :: rest) pos) g) : JE X W (.BoolOp .And (a :: b :: rest) pos) (cAnd2 f g) := by
  obtain ⟨t, p, q⟩ := h.ex
  obtain ⟨t', p', q'⟩ := h'.ex
  refine ⟨_, pe_and p p', fun ρ mh F ι σ H Q sr er h => ?_⟩
  refine q ρ mh F ι σ H _ sr er (h.bind.mono fun x H1 ⟨F1, ι1, d1, m1, st1, sr1, r1, h1⟩ => ?_)
  obtain ⟨c, rfl, n⟩ := post_isB sr1 r1 (Post.bind (R := BR) h1)
  obtain ⟨F4, ι4, b, m4, st4, sr4, e4, h5⟩ := n.ex
  have e5 : b = c := e4
  subst e5
  refine ⟨b, rfl, ?_⟩
  cases b with
  | true => rw [if_pos rfl] at h5 ⊢; exact q' ρ m4 F4 ι4 σ H1 Q sr4 (er.to sr.sub (st1.trans st4)) h5
  | false => rw [if_neg Bool.false_ne_true] at h5 ⊢; exact h5.ok sr4 (.bl false)
theorem j_or {f g : CE} (h : JE X W a f) (h' : JE X W (.BoolOp .Or (b :: rest) pos) g) : JE X W (.BoolOp .Or (a :: b :: rest) pos) (cOr2 f g) := by
  obtain ⟨t, p, q⟩ := h.ex
  obtain ⟨t', p', q'⟩ := h'.ex
  refine ⟨_, pe_or p p', fun ρ mh F ι σ H Q sr er h => ?_⟩
  refine q ρ mh F ι σ H _ sr er (h.bind.mono fun x H1 ⟨F1, ι1, d1, m1, st1, sr1, r1, h1⟩ => ?_)
  obtain ⟨c, rfl, n⟩ := post_isB sr1 r1 (Post.bind (R := BR) h1)
  obtain ⟨F4, ι4, b, m4, st4, sr4, e4, h5⟩ := n.ex
  have e5 : b = c := e4
  subst e5
  refine ⟨b, rfl, ?_⟩
  cases b with
  | true => rw [if_pos rfl] at h5 ⊢; exact h5.ok sr4 (.bl true)
  | false => rw [if_neg Bool.false_ne_true] at h5 ⊢; exact q' ρ m4 F4 ι4 σ H1 Q sr4 (er.to sr.sub (st1.trans st4)) h5
theorem j_not {f : CE} (h : JE X W a f) : JE X W (.UnaryOp .Not a pos) (cNot1 f) := by
  obtain ⟨t, p, q⟩ := h.ex
  refine ⟨_, pe_not p, fun ρ mh F ι σ H Q sr er h => ?_⟩
  refine q ρ mh F ι σ H _ sr er (h.bind.mono fun x H1 ⟨F1, ι1, d1, m1, st1, sr1, r1, h1⟩ => ?_)
  obtain ⟨c, rfl, n⟩ := post_isB sr1 r1 (Post.bind (R := BR) h1)
  obtain ⟨F4, ι4, b, m4, st4, sr4, e4, h5⟩ := n.ex
  have e5 : b = c := e4
  subst e5
  exact ⟨b, rfl, h5.ok sr4 (.bl _)⟩
theorem j_if {c : Expr} {t : CT} {f g : CE} (hc : JT X W c t) (ha : JE X W a f) (hb : JE X W b g) : JE X W (.IfExp c a b pos) (cIf t f g) := by
  obtain ⟨tc, pc, qc⟩ := hc.ex
  obtain ⟨ta, pa, qa⟩ := ha.ex
  obtain ⟨tb, pb, qb⟩ := hb.ex
  refine ⟨_, pe_ifExp pc pa pb, fun ρ mh F ι σ H Q sr er h => ?_⟩
  refine qc ρ mh F ι σ H _ sr er (h.bind.mono fun c H1 ⟨F1, ι1, d1, m1, st1, sr1, r1, h1⟩ => ?_)
  have e : d1 = c := r1
  subst e
  cases d1 with
  | true => rw [if_pos rfl] at h1 ⊢; exact qa ρ m1 F1 ι1 σ H1 Q sr1 (er.to sr.sub st1) h1
  | false => rw [if_neg Bool.false_ne_true] at h1 ⊢; exact qb ρ m1 F1 ι1 σ H1 Q sr1 (er.to sr.sub st1) h1
end

/-! ### argument lists, displays, calls of built-ins -/
def oTup (ds : List D) (mh : List O) : Res D := if ds.length ≤ sizeLine then .ok (.tup ds) mh else .stuck
def oLst (ds : List D) (mh : List O) : Res D := if ds.length ≤ sizeLine then .ok (.lst ds) mh else .stuck
/-- a list that is to be written -/
def oNew (ds : List D) (mh : List O) : Res D := if ds.length ≤ sizeLine then .ok (.ref mh.length) (mh ++ [.lst ds]) else .stuck
section
variable {X : Cx} {W : WX} {k : Nat} {pos : Pos} {e : Expr} {es : List Expr}
theorem a_nil : JA X W [] cNil := ⟨_, pa_nil, fun _ _ _ _ _ _ _ sr _ h => h.ok sr .nil⟩
theorem a_cons {f : CE} {g : CA} (h : JE X W e f) (h' : JA X W es g) (hs : starEach (e :: es) X.env = (false, eval e X.env) :: starEach es X.env := by rfl) : JA X W (e :: es) (cCons f g) := by
  obtain ⟨t, p, q⟩ := h.ex
  obtain ⟨t', p', q'⟩ := h'.ex
  refine ⟨_, pa_cons p p' hs, fun ρ mh F ι σ H Q sr er h => ?_⟩
  refine q ρ mh F ι σ H _ sr er (h.bind.mono fun x H1 ⟨F1, ι1, d1, m1, st1, sr1, r1, h1⟩ => ?_)
  refine q' ρ m1 F1 ι1 σ H1 _ sr1 (er.to sr.sub st1) (h1.bind.mono fun xs H2 ⟨F2, ι2, ds, m2, st2, sr2, r2, h2⟩ => ?_)
  exact h2.ok sr2 (.cons (DV.to sr1.sub st2 _ _ r1) r2)
variable {F : Addr → Prop} {ι : List Addr} {σ : L2.St} {H : Hp} {Q : VK} {mh : List O}
theorem post_tup {ds : List D} {vs : List V} (sr : SR X.K X.mg F ι mh H) (r : DVs X.K X.mg F ι H ds vs) (h : Post X.K X.mg (DR X) W σ F ι H (oTup ds mh) Q) : vs.length ≤ sizeLine ∧ ∀ p, H p = none → Q (.ref p) (upd H p (.tup vs)) := by
  unfold oTup at h
  split at h
  · rename_i hl
    refine ⟨by rw [← r.length]; exact hl, fun p hp => ?_⟩
    have st : Step F ι H F ι (upd H p (.tup vs)) := step_new hp
    exact h F ι _ _ st (sr.fresh hp) (.tup (.inl upd_same) (DVs.to sr.sub st _ _ r))
  · exact h.elim
theorem post_lst {ds : List D} {vs : List V} (sr : SR X.K X.mg F ι mh H) (r : DVs X.K X.mg F ι H ds vs) (h : Post X.K X.mg (DR X) W σ F ι H (oLst ds mh) Q) : vs.length ≤ sizeLine ∧ ∀ p, H p = none → Q (.ref p) (upd H p (.lst vs)) := by
  unfold oLst at h
  split at h
  · rename_i hl
    refine ⟨by rw [← r.length]; exact hl, fun p hp => ?_⟩
    have st : Step F ι H F ι (upd H p (.lst vs)) := step_new hp
    exact h F ι _ _ st (sr.fresh hp) (.lst (.inl ⟨.inl upd_same, sr.notNew hp⟩) (DVs.to sr.sub st _ _ r))
  · exact h.elim
/-- a new object that may be written -/
theorem alloc {K : PySem.W.Frag} {mg : Str → Option Value} {p : Addr} {u : HO} {o : O} (sr : SR K mg F ι mh H) (hp : H p = none) (ho : ∀ F' ι', Step F ι H F' ι' (upd H p u) → OV K mg F' ι' (upd H p u) p o) :
    Step F ι H (fun a => F a ∨ a = p) (ι ++ [p]) (upd H p u) ∧ SR K mg (fun a => F a ∨ a = p) (ι ++ [p]) (mh ++ [o]) (upd H p u) := by
  have st0 : Step F ι H F ι (upd H p u) := step_new hp
  have st : Step F ι H (fun a => F a ∨ a = p) (ι ++ [p]) (upd H p u) := ⟨List.prefix_append _ _, fun _ h => .inl h, fun a h => by
    rcases h with h | h
    · exact .inl h
    · subst h; exact .inr hp, fun a h => by
    rcases List.mem_append.mp h with h | h
    · exact .inl h
    · rw [List.mem_singleton.mp h]; exact .inr hp, st0.keep, st0.tups, st0.live⟩
  have np : p ∉ ι := fun h => sr.old p (sr.sub p h) hp
  refine ⟨st, ⟨by simp [sr.len], ?_, fun n o' a e1 e2 => ?_, fun a h => ?_, fun a h => ?_⟩⟩
  · rw [List.nodup_append]
    refine ⟨sr.nd, by simp, fun a h b h' e => ?_⟩
    rw [List.mem_singleton.mp h'] at e
    exact np (e ▸ h)
  · by_cases hn : n < mh.length
    · rw [List.getElem?_append_left hn] at e1
      rw [List.getElem?_append_left (by rw [sr.len]; exact hn)] at e2
      have na : a ≠ p := fun z => np (z ▸ List.mem_of_getElem? e2)
      exact (sr.ob n o' a e1 e2).to sr.sub st (upd_ne na)
    · rw [List.getElem?_append_right (by omega)] at e1
      rw [List.getElem?_append_right (by rw [sr.len]; omega)] at e2
      have hn1 : n - mh.length = 0 := by
        have := (List.getElem?_eq_some_iff.mp e1).1
        simpa using this
      rw [hn1] at e1
      rw [sr.len, hn1] at e2
      simp at e1 e2
      subst e1 e2
      exact ho _ _ st
  · rcases List.mem_append.mp h with h | h
    · exact .inl (sr.sub a h)
    · exact .inr (List.mem_singleton.mp h)
  · rcases h with h | h
    · have na : a ≠ p := fun z => sr.old a h (by rw [z]; exact hp)
      rw [upd_ne na]; exact sr.old a h
    · subst h; rw [upd_same]; exact fun z => nomatch z
theorem post_new {ds : List D} {vs : List V} (sr : SR X.K X.mg F ι mh H) (r : DVs X.K X.mg F ι H ds vs) (h : Post X.K X.mg (DR X) W σ F ι H (oNew ds mh) Q) : vs.length ≤ sizeLine ∧ ∀ p, H p = none → Q (.ref p) (upd H p (.lst vs)) := by
  unfold oNew at h
  split at h
  · rename_i hl
    refine ⟨by rw [← r.length]; exact hl, fun p hp => ?_⟩
    obtain ⟨st, sr'⟩ := alloc (o := .lst ds) sr hp fun F' ι' st => .lst upd_same (DVs.to sr.sub st _ _ r)
    exact h _ _ _ _ st sr' (.ref (by rw [← sr.len]; simp))
  · exact h.elim
theorem j_tup {f : CA} {x1} (h : JA X W es f) : JE X W (.Tuple es x1 pos) (cL oTup f) := by
  obtain ⟨t, p, q⟩ := h.ex
  refine ⟨_, pe_tup p, fun ρ mh F ι σ H Q sr er h => ?_⟩
  exact q ρ mh F ι σ H _ sr er (h.bind.mono fun xs H1 ⟨F1, ι1, d1, m1, st1, sr1, r1, h1⟩ => post_tup sr1 r1 h1)
theorem j_lst {f : CA} (h : JA X W es f) : JE X W (.List es pos) (cL oLst f) := by
  obtain ⟨t, p, q⟩ := h.ex
  refine ⟨_, pe_lst p, fun ρ mh F ι σ H Q sr er h => ?_⟩
  exact q ρ mh F ι σ H _ sr er (h.bind.mono fun xs H1 ⟨F1, ι1, d1, m1, st1, sr1, r1, h1⟩ => post_lst sr1 r1 h1)
theorem j_new {f : CA} (h : JA X W es f) : JE X W (.List es pos) (cL oNew f) := by
  obtain ⟨t, p, q⟩ := h.ex
  refine ⟨_, pe_lst p, fun ρ mh F ι σ H Q sr er h => ?_⟩
  exact q ρ mh F ι σ H _ sr er (h.bind.mono fun xs H1 ⟨F1, ι1, d1, m1, st1, sr1, r1, h1⟩ => post_new sr1 r1 h1)
variable {x : Str} {p : Pos} {id T : String} {r : List V → Hp → VK → Prop} {o : List D → List O → Res D}
theorem j_callB {f : CA} (hc : CallR X (.builtin id) r) (vo : VOL X r o) (hm : X.mg x = none) (hv : bootBuiltins x = some (.builtin id)) (ha : JA X W (e :: es) f) (hg : Gl X x := by rfl) (hn : x ≠ "__name__" := by decide) (hdb : (x == ("__debug__" : Str)) = false := by decide)
    (he : starEach (e :: es) X.env = (false, eval e X.env) :: starEach es X.env := by rfl) (hpl : (backTo pos (starEach es X.env)).any (·.1) = false := by rfl) : JE X W (.Call (.Name x p) (e :: es) [] pos) (cL o f) := by
  obtain ⟨t, pa, q⟩ := ha.ex
  refine ⟨_, pe_callB hc hg hm hv pa hn hdb he hpl, fun ρ mh F ι σ H Q sr er h => ?_⟩
  exact q ρ mh F ι σ H _ sr er (h.bind.mono fun xs H1 ⟨F1, ι1, d1, m1, st1, sr1, r1, h1⟩ => vo W σ F1 ι1 m1 H1 d1 xs Q sr1 r1 h1)
theorem j_callTy {f : CA} (hc : CallR X (.type T) r) (vo : VOL X r o) (hm : X.mg x = none) (hv : bootBuiltins x = some (.type T)) (ha : JA X W (e :: es) f) (hg : Gl X x := by rfl) (hn : x ≠ "__name__" := by decide) (hdb : (x == ("__debug__" : Str)) = false := by decide)
    (he : starEach (e :: es) X.env = (false, eval e X.env) :: starEach es X.env := by rfl) (hpl : (backTo pos (starEach es X.env)).any (·.1) = false := by rfl) : JE X W (.Call (.Name x p) (e :: es) [] pos) (cL o f) := by
  obtain ⟨t, pa, q⟩ := ha.ex
  refine ⟨_, pe_callTy hc hg hm hv pa hn hdb he hpl, fun ρ mh F ι σ H Q sr er h => ?_⟩
  exact q ρ mh F ι σ H _ sr er (h.bind.mono fun xs H1 ⟨F1, ι1, d1, m1, st1, sr1, r1, h1⟩ => vo W σ F1 ι1 m1 H1 d1 xs Q sr1 r1 h1)
/-- o[i] by values -/
theorem j_ix {a b : Expr} {fa fb : CE} {r : R2} {o : D → D → List O → Res D} (ho : IxR X r) (vo : VO2 X r o) (ha : JE X W a fa) (hb : JE X W b fb) (hs : PlainIx b := by exact fun _ _ => rfl) : JE X W (.Subscript a b pos) (c2 o fa fb) := by
  obtain ⟨ta, pa, qa⟩ := ha.ex
  obtain ⟨tb, pb, qb⟩ := hb.ex
  exact ⟨_, pe_ix ho pa pb hs, fun ρ mh F ι σ H Q sr er h => two qa qb vo sr er h⟩
end
end G

/-! Part C: statements, loops, defs, calls, the law's end. -/
namespace G
open PySem PySem.Spec PyProof.Rows L2

inductive Out where
  | nx (ρ : En) (mh : List O) | rt (d : D) (mh : List O) | bk (ρ : En) (mh : List O) | ct (ρ : En) (mh : List O)
  | err (c : Str) (ds : List D) (ρ : En) (mh : List O) | stuck
abbrev CS := En → List O → Out
def PostS (X : Cx) (W : WX) (F : Addr → Prop) (ι : List Addr) (H : Hp) (r : Out) (T : Ends) : Prop := match r with
  | .nx ρ' mh' => ∀ F' ι' H' σ', Step F ι H F' ι' H' → SR X.K X.mg F' ι' mh' H' → ER X.K X.mg F' ι' H' ρ' σ' → T.nx σ' H'
  | .rt d mh' => ∀ F' ι' H' v, Step F ι H F' ι' H' → SR X.K X.mg F' ι' mh' H' → DV X.K X.mg F' ι' H' d v → T.rt v H'
  | .bk ρ' mh' => ∀ F' ι' H' σ', Step F ι H F' ι' H' → SR X.K X.mg F' ι' mh' H' → ER X.K X.mg F' ι' H' ρ' σ' → T.bk σ' H'
  | .ct ρ' mh' => ∀ F' ι' H' σ', Step F ι H F' ι' H' → SR X.K X.mg F' ι' mh' H' → ER X.K X.mg F' ι' H' ρ' σ' → T.ct σ' H'
  | .err c ds ρ' mh' => ∀ F' ι' H' cls dx σ', Step F ι H F' ι' H' → SR X.K X.mg F' ι' mh' H' → ER X.K X.mg F' ι' H' ρ' σ' → ExV X.K X.mg F' ι' H' c ds cls dx → W cls dx σ' H'
  | .stuck => False
structure JS (X : Cx) (W : WX) (st : Stmt) (f : CS) : Prop where
  ex : ∃ t, PS X st t ∧ ∀ (ρ : En) (mh : List O) (F : Addr → Prop) (ι : List Addr) (σ : L2.St) (H : Hp) (T : Ends), SR X.K X.mg F ι mh H → ER X.K X.mg F ι H ρ σ → PostS X W F ι H (f ρ mh) T → t T σ H
structure JSs (X : Cx) (W : WX) (st : List Stmt) (f : CS) : Prop where
  ex : ∃ t, PSs X st t ∧ ∀ (ρ : En) (mh : List O) (F : Addr → Prop) (ι : List Addr) (σ : L2.St) (H : Hp) (T : Ends), SR X.K X.mg F ι mh H → ER X.K X.mg F ι H ρ σ → PostS X W F ι H (f ρ mh) T → t T σ H
def Res.toS {α : Type} (r : Res α) (ρ : En) (k : α → List O → Out) : Out := match r with
  | .ok a mh => k a mh
  | .err c ds mh => .err c ds ρ mh
  | .stuck => .stuck
@[simp] theorem Res.toS_ok {α : Type} (a : α) (mh : List O) (ρ : En) (k : α → List O → Out) : (Res.ok a mh).toS ρ k = k a mh := rfl
@[simp] theorem Res.toS_err {α : Type} (c : Str) (ds : List D) (mh : List O) (ρ : En) (k : α → List O → Out) : (Res.err c ds mh : Res α).toS ρ k = .err c ds ρ mh := rfl
@[simp] theorem Res.toS_stuck {α : Type} (ρ : En) (k : α → List O → Out) : (Res.stuck : Res α).toS ρ k = .stuck := rfl
def Out.seq (o : Out) (g : CS) : Out := match o with
  | .nx ρ mh => g ρ mh
  | o => o
@[simp] theorem Out.seq_nx (ρ : En) (mh : List O) (g : CS) : (Out.nx ρ mh).seq g = g ρ mh := rfl
@[simp] theorem Out.seq_rt (d : D) (mh : List O) (g : CS) : (Out.rt d mh).seq g = .rt d mh := rfl
@[simp] theorem Out.seq_bk (ρ : En) (mh : List O) (g : CS) : (Out.bk ρ mh).seq g = .bk ρ mh := rfl
@[simp] theorem Out.seq_ct (ρ : En) (mh : List O) (g : CS) : (Out.ct ρ mh).seq g = .ct ρ mh := rfl
@[simp] theorem Out.seq_err (c : Str) (ds : List D) (ρ : En) (mh : List O) (g : CS) : (Out.err c ds ρ mh).seq g = .err c ds ρ mh := rfl
@[simp] theorem Out.seq_stuck (g : CS) : Out.stuck.seq g = .stuck := rfl
section
variable {X : Cx} {W : WX} {F F1 : Addr → Prop} {ι ι1 : List Addr} {H H1 : Hp} {T T' : Ends}
theorem PostS.at {r : Out} (h : PostS X W F ι H r T) (st : Step F ι H F1 ι1 H1) : PostS X W F1 ι1 H1 r T := by
  cases r with
  | nx ρ mh => exact fun F' ι' H' σ' s x y => h F' ι' H' σ' (st.trans s) x y
  | rt d mh => exact fun F' ι' H' v s x y => h F' ι' H' v (st.trans s) x y
  | bk ρ mh => exact fun F' ι' H' σ' s x y => h F' ι' H' σ' (st.trans s) x y
  | ct ρ mh => exact fun F' ι' H' σ' s x y => h F' ι' H' σ' (st.trans s) x y
  | err c ds ρ mh => exact fun F' ι' H' cls dx σ' s x y z => h F' ι' H' cls dx σ' (st.trans s) x y z
  | stuck => exact h
theorem PostS.bindE {α β : Type} {R : Rel α β} {r : Res α} {ρ : En} {σ : L2.St} {mh : List O} {k : α → List O → Out} (sr : SR X.K X.mg F ι mh H) (er : ER X.K X.mg F ι H ρ σ) (h : PostS X W F ι H (r.toS ρ k) T) :
    Post X.K X.mg R W σ F ι H r (fun b H1 => ∃ F1 ι1 a mh1, Step F ι H F1 ι1 H1 ∧ SR X.K X.mg F1 ι1 mh1 H1 ∧ R F1 ι1 H1 a b ∧ ER X.K X.mg F1 ι1 H1 ρ σ ∧ PostS X W F1 ι1 H1 (k a mh1) T) := by
  cases r with
  | ok a mh' => exact fun F' ι' H' b s x y => ⟨F', ι', a, mh', s, x, y, er.to sr.sub s, PostS.at (r := k a mh') h s⟩
  | err c ds mh' => exact fun F' ι' H' cls dx s x y => h F' ι' H' cls dx σ s x (er.to sr.sub s) y
  | stuck => exact h
theorem PostS.bindS {r : Out} {g : CS} {u : TS} (h : PostS X W F ι H (r.seq g) T)
    (hu : ∀ (ρ : En) (mh : List O) (F : Addr → Prop) (ι : List Addr) (σ : L2.St) (H : Hp), SR X.K X.mg F ι mh H → ER X.K X.mg F ι H ρ σ → PostS X W F ι H (g ρ mh) T → u T σ H) : PostS X W F ι H r { T with nx := u T } := by
  cases r with
  | nx ρ mh => exact fun F' ι' H' σ' s x y => hu ρ mh F' ι' σ' H' x y (PostS.at (r := g ρ mh) h s)
  | rt d mh => exact h
  | bk ρ mh => exact h
  | ct ρ mh => exact h
  | err c ds ρ mh => exact h
  | stuck => exact h
end

/-! ### simple statements -/
def sNext : CS := fun ρ mh => .nx ρ mh
def sSeq (f g : CS) : CS := fun ρ mh => (f ρ mh).seq g
def sIf (c : CT) (f g : CS) : CS := fun ρ mh => (c ρ mh).toS ρ fun b m => if b = true then f ρ m else g ρ m
def sRet (f : CE) : CS := fun ρ mh => (f ρ mh).toS ρ fun d m => .rt d m
def sRetN : CS := fun _ mh => .rt .non mh
def sBrk : CS := fun ρ mh => .bk ρ mh
def sCnt : CS := fun ρ mh => .ct ρ mh
def sDrop (f : CE) : CS := fun ρ mh => (f ρ mh).toS ρ fun _ m => .nx ρ m
def sNever : CS := fun _ _ => .stuck
def sSet (i : Nat) (f : CE) : CS := fun ρ mh => (f ρ mh).toS ρ fun d m => .nx (ρ.set i (some d)) m
/-- a target of an assignment -/
abbrev CG := D → En → List O → Out
def sAsg (f : CE) (g : CG) : CS := fun ρ mh => (f ρ mh).toS ρ fun d m => g d ρ m
def gNm (i : Nat) : CG := fun d ρ mh => .nx (ρ.set i (some d)) mh
abbrev CGs := List D → En → List O → Out
def gsNil : CGs := fun ds ρ mh => match ds with
  | [] => .nx ρ mh
  | _ => .stuck
def gsCons (g : CG) (gs : CGs) : CGs := fun ds ρ mh => match ds with
  | d :: ds => (g d ρ mh).seq fun ρ' m => gs ds ρ' m
  | [] => .stuck
def gUnp (n : Nat) (gs : CGs) : CG := fun d ρ mh => match d with
  | .tup ds => if ds.length = n then gs ds ρ mh else .stuck
  | _ => .stuck
/-- a list is taken apart -/
def gUnpL (n : Nat) (gs : CGs) : CG := fun d ρ mh => match d with
  | .lst ds => if ds.length = n then gs ds ρ mh else .stuck
  | .ref m => match mh[m]? with
    | some (.lst ds) => if ds.length = n then gs ds ρ mh else .stuck
    | _ => .stuck
  | _ => .stuck
/-- what a target is worth: it goes on, or is stuck -/
def PostG (X : Cx) (F : Addr → Prop) (ι : List Addr) (H : Hp) (r : Out) (Q : L2.St → Hp → Prop) : Prop := match r with
  | .nx ρ' mh' => ∀ F' ι' H' σ', Step F ι H F' ι' H' → SR X.K X.mg F' ι' mh' H' → ER X.K X.mg F' ι' H' ρ' σ' → Q σ' H'
  | _ => False
/-- only the slots ix are touched -/
def Fs (ix : List Nat) (σ σ' : L2.St) : Prop := σ'.length = σ.length ∧ ∀ j, j ∉ ix → σ'[j]? = σ[j]?
structure JG (X : Cx) (W : WX) (tg : Expr) (ix : List Nat) (g : CG) : Prop where
  ex : ∃ t, PG X tg t ∧ ∀ (d : D) (v : V) (ρ : En) (mh : List O) (F : Addr → Prop) (ι : List Addr) (σ : L2.St) (H : Hp) (Q Q' : L2.St → Hp → Prop), SR X.K X.mg F ι mh H → ER X.K X.mg F ι H ρ σ → DV X.K X.mg F ι H d v → PostG X F ι H (g d ρ mh) Q → (∀ σ' H', Fs ix σ σ' → Q σ' H' → Q' σ' H') → t v σ H Q'
  only : ∀ d ρ mh, (∃ ρ' mh', g d ρ mh = .nx ρ' mh') ∨ g d ρ mh = .stuck
structure JGs (X : Cx) (W : WX) (tg : List Expr) (ix : List Nat) (g : CGs) : Prop where
  ex : ∃ t, PGs X tg t ∧ ∀ (ds : List D) (vs : List V) (ρ : En) (mh : List O) (F : Addr → Prop) (ι : List Addr) (σ : L2.St) (H : Hp) (Q Q' : L2.St → Hp → Prop), SR X.K X.mg F ι mh H → ER X.K X.mg F ι H ρ σ → DVs X.K X.mg F ι H ds vs → PostG X F ι H (g ds ρ mh) Q → (∀ σ' H', Fs ix σ σ' → Q σ' H' → Q' σ' H') → t vs σ H Q'
  only : ∀ ds ρ mh, (∃ ρ' mh', g ds ρ mh = .nx ρ' mh') ∨ g ds ρ mh = .stuck
section
variable {X : Cx} {W : WX} {k : Nat} {pos : Pos} {st : Stmt} {rest : List Stmt} {e : Expr} {es : List Expr}
theorem ss_nil : JSs X W [] sNext := ⟨_, pss_nil, fun _ _ F ι σ H T sr er h => h F ι H σ Step.refl sr er⟩
theorem ss_cons {f g : CS} (h : JS X W st f) (h' : JSs X W rest g) : JSs X W (st :: rest) (sSeq f g) := by
  obtain ⟨t, p, q⟩ := h.ex
  obtain ⟨u, p', q'⟩ := h'.ex
  refine ⟨_, pss_cons p p', fun ρ mh F ι σ H T sr er h => ?_⟩
  exact q ρ mh F ι σ H _ sr er (PostS.bindS h fun ρ mh F ι σ H sr er h => q' ρ mh F ι σ H T sr er h)
theorem ss_one {f : CS} (h : JS X W st f) : JSs X W [st] f := by
  obtain ⟨t, p, q⟩ := h.ex
  exact ⟨_, pss_one p, q⟩
theorem ss_never {sts : List Stmt} : JSs X W sts sNever := ⟨_, pss_never, fun _ _ _ _ _ _ _ _ _ h => h⟩
theorem s_never : JS X W st sNever := ⟨_, ps_never, fun _ _ _ _ _ _ _ _ _ h => h⟩
theorem s_pass : JS X W (.Pass pos) sNext := ⟨_, ps_pass, fun _ _ F ι σ H T sr er h => h F ι H σ Step.refl sr er⟩
theorem s_brk : JS X W (.Break pos) sBrk := ⟨_, ps_break, fun _ _ F ι σ H T sr er h => h F ι H σ Step.refl sr er⟩
theorem s_cnt : JS X W (.Continue pos) sCnt := ⟨_, ps_continue, fun _ _ F ι σ H T sr er h => h F ι H σ Step.refl sr er⟩
theorem s_ret {f : CE} (h : JE X W e f) : JS X W (.Return (some e) pos) (sRet f) := by
  obtain ⟨t, p, q⟩ := h.ex
  refine ⟨_, ps_ret p, fun ρ mh F ι σ H T sr er h => ?_⟩
  exact q ρ mh F ι σ H _ sr er ((PostS.bindE (R := DR X) sr er h).mono fun v H1 ⟨F1, ι1, d, m1, st1, sr1, r1, er1, h1⟩ => h1 F1 ι1 H1 v Step.refl sr1 r1)
theorem s_retN : JS X W (.Return none pos) sRetN := ⟨_, ps_retN, fun _ _ F ι σ H T sr er h => h F ι H .non Step.refl sr .non⟩
theorem s_drop {f : CE} (h : JE X W e f) (hs : swapsWith e none pos.line X.env = pure false := by rfl) : JS X W (.Expr e pos) (sDrop f) := by
  obtain ⟨t, p, q⟩ := h.ex
  refine ⟨_, ps_expr p hs, fun ρ mh F ι σ H T sr er h => ?_⟩
  exact q ρ mh F ι σ H _ sr er ((PostS.bindE (R := DR X) sr er h).mono fun v H1 ⟨F1, ι1, d, m1, st1, sr1, r1, er1, h1⟩ => h1 F1 ι1 H1 σ Step.refl sr1 er1)
theorem s_if {c : Expr} {a b : List Stmt} {t : CT} {f g : CS} (hc : JT X W c t) (ha : JSs X W a f) (hb : JSs X W b g) : JS X W (.If c a b pos) (sIf t f g) := by
  obtain ⟨tc, pc, qc⟩ := hc.ex
  obtain ⟨ta, pa, qa⟩ := ha.ex
  obtain ⟨tb, pb, qb⟩ := hb.ex
  refine ⟨_, ps_if pc pa pb, fun ρ mh F ι σ H T sr er h => ?_⟩
  refine qc ρ mh F ι σ H _ sr er ((PostS.bindE (R := BR) sr er h).mono fun c H1 ⟨F1, ι1, d, m1, st1, sr1, r1, er1, h1⟩ => ?_)
  have e : d = c := r1
  subst e
  cases d with
  | true => rw [if_pos rfl] at h1 ⊢; exact qa ρ m1 F1 ι1 σ H1 T sr1 er1 h1
  | false => rw [if_neg Bool.false_ne_true] at h1 ⊢; exact qb ρ m1 F1 ι1 σ H1 T sr1 er1 h1
theorem s_set (c : Cc k X W) {i : Nat} {x : Str} {pos' : Pos} {f : CE} (h : JE X W e f) (hi : X.N[i]? = some x := by rfl) (hx : Loc X.env.scope x := by first | exact Or.inl rfl | exact Or.inr rfl) (hs : swapsWith e (some (.Name x pos')) pos.line X.env = pure false := by rfl)
    (hf : X.fn x = true ∨ X.env.scope.names.lookup x = some .local := by first | exact .inl rfl | exact .inr rfl) : JS X W (.Assign [.Name x pos'] e pos) (sSet i f) := by
  obtain ⟨t, p, q⟩ := h.ex
  refine ⟨_, ps_set c.nd hi hx p hs hf, fun ρ mh F ι σ H T sr er h => ?_⟩
  exact q ρ mh F ι σ H _ sr er ((PostS.bindE (R := DR X) sr er h).mono fun v H1 ⟨F1, ι1, d, m1, st1, sr1, r1, er1, h1⟩ => h1 F1 ι1 H1 _ Step.refl sr1 (er1.set r1))
theorem g_name (c : Cc k X W) {i : Nat} {x : Str} (hi : X.N[i]? = some x := by rfl) (hx : Loc X.env.scope x := by first | exact Or.inl rfl | exact Or.inr rfl) (hf : X.fn x = true ∨ X.env.scope.names.lookup x = some .local := by first | exact .inl rfl | exact .inr rfl) : JG X W (.Name x pos) [i] (gNm i) :=
  ⟨⟨_, pg_name c.nd hi hx hf, fun d v ρ mh F ι σ H Q Q' sr er r h k => k _ _ ⟨List.length_set, fun j hj => List.getElem?_set_ne (fun e => hj (by simp [e]))⟩ (h F ι H _ Step.refl sr (er.set r))⟩, fun d ρ mh => .inl ⟨_, _, rfl⟩⟩
theorem gs_nil : JGs X W [] [] gsNil := by
  refine ⟨⟨_, pgs_nil, fun ds vs ρ mh F ι σ H Q Q' sr er r h k => ?_⟩, fun ds ρ mh => ?_⟩
  · unfold gsNil at h
    split at h
    · cases r
      exact ⟨rfl, k _ _ ⟨rfl, fun _ _ => rfl⟩ (h F ι H σ Step.refl sr er)⟩
    · exact h.elim
  · unfold gsNil
    split
    · exact .inl ⟨_, _, rfl⟩
    · exact .inr rfl
theorem PostG.seq {r : Out} {g : CS} {F : Addr → Prop} {ι : List Addr} {H : Hp} {Q : L2.St → Hp → Prop} (h : PostG X F ι H (r.seq g) Q) :
    PostG X F ι H r fun σ' H' => ∃ F' ι' ρ' mh', Step F ι H F' ι' H' ∧ SR X.K X.mg F' ι' mh' H' ∧ ER X.K X.mg F' ι' H' ρ' σ' ∧ PostG X F' ι' H' (g ρ' mh') Q := by
  cases r with
  | nx ρ mh =>
    refine fun F' ι' H' σ' s x y => ⟨F', ι', ρ, mh, s, x, y, ?_⟩
    have h' : PostG X F ι H (g ρ mh) Q := h
    generalize g ρ mh = o at h' ⊢
    cases o with
    | nx ρ2 m2 => exact fun F2 ι2 H2 σ2 s2 x2 y2 => h' F2 ι2 H2 σ2 (s.trans s2) x2 y2
    | rt d mh => exact h'
    | bk ρ mh => exact h'
    | ct ρ mh => exact h'
    | err c ds ρ mh => exact h'
    | stuck => exact h'
  | rt d mh => exact h
  | bk ρ mh => exact h
  | ct ρ mh => exact h
  | err c ds ρ mh => exact h
  | stuck => exact h
theorem PostG.mono {r : Out} {F : Addr → Prop} {ι : List Addr} {H : Hp} {Q Q' : L2.St → Hp → Prop} (h : PostG X F ι H r Q) (k : ∀ σ' H', Q σ' H' → Q' σ' H') : PostG X F ι H r Q' := by
  cases r with
  | nx ρ mh => exact fun F' ι' H' σ' s x y => k _ _ (h F' ι' H' σ' s x y)
  | rt d mh => exact h
  | bk ρ mh => exact h
  | ct ρ mh => exact h
  | err c ds ρ mh => exact h
  | stuck => exact h
theorem gs_cons {g : CG} {gs : CGs} {ix ix' : List Nat} (h : JG X W e ix g) (h' : JGs X W es ix' gs) (hs : (assignEach (e :: es) X.env).map (·.2) = assign e X.env :: (assignEach es X.env).map (·.2) := by rfl) : JGs X W (e :: es) (ix ++ ix') (gsCons g gs) := by
  obtain ⟨t, p, q⟩ := h.ex
  obtain ⟨u, p', q'⟩ := h'.ex
  refine ⟨⟨_, pgs_cons p p' hs, fun ds vs ρ mh F ι σ H Q Q' sr er r h k => ?_⟩, fun ds ρ mh => ?_⟩
  · unfold gsCons at h
    split at h
    · rename_i d ds
      cases r with
      | cons r1 r2 =>
        refine ⟨_, _, rfl, q _ _ ρ mh F ι σ H _ _ sr er r1 h.seq fun σ' H' f1 ⟨F', ι', ρ', mh', s, x, y, h2⟩ => ?_⟩
        exact q' _ _ ρ' mh' F' ι' σ' H' Q Q' x y (DVs.to sr.sub s _ _ r2) h2 fun σ2 H2 f2 z => k σ2 H2 ⟨f2.1.trans f1.1, fun j hj => (f2.2 j fun z => hj (List.mem_append_right _ z)).trans (f1.2 j fun z => hj (List.mem_append_left _ z))⟩ z
    · exact h.elim
  · unfold gsCons
    split
    · rename_i d ds
      rcases h.only d ρ mh with ⟨ρ', mh', e⟩ | e
      · rw [e]; exact h'.only ds ρ' mh'
      · rw [e]; exact .inr rfl
    · exact .inr rfl
theorem g_unp (c : Cc k X W) {gs : CGs} {kt n : Nat} {ix : List Nat} (h : JGs X W es ix gs) (hn : (assignEach es X.env).length = n := by rfl) (hst : (assignEach es X.env).findIdx? (·.1) = none := by rfl) : JG X W (.Tuple es kt pos) ix (gUnp n gs) := by
  obtain ⟨t, p, q⟩ := h.ex
  refine ⟨⟨_, pg_tup c.calm p hn hst, fun d v ρ mh F ι σ H Q Q' sr er r h k => ?_⟩, fun d ρ mh => ?_⟩
  · unfold gUnp at h
    split at h
    · rename_i ds
      split at h
      · rename_i hl
        cases r with
        | tup hr r2 => exact ⟨_, _, rfl, .inl hr, by rw [← r2.length]; exact hl, q _ _ ρ mh F ι σ H Q Q' sr er r2 h k⟩
      · exact h.elim
    · exact h.elim
  · unfold gUnp
    split
    · split
      · exact h.only _ ρ mh
      · exact .inr rfl
    · exact .inr rfl
theorem PostS.ofG {r : Out} {F : Addr → Prop} {ι : List Addr} {H : Hp} {T : Ends} (o : (∃ ρ' mh', r = .nx ρ' mh') ∨ r = .stuck) (h : PostS X W F ι H r T) : PostG X F ι H r T.nx := by
  rcases o with ⟨ρ', mh', rfl⟩ | rfl
  · exact h
  · exact h
theorem s_asg {tg : Expr} {f : CE} {g : CG} {ix : List Nat} (h : JE X W e f) (hg : JG X W tg ix g) (hs : swapsWithSole [tg] e pos.line X.env = pure false := by rfl) (hw : swappedStores [tg] e X.env = pure none := by rfl)
    (h1 : (assignEach [tg] X.env).map (·.2) = [assign tg X.env] := by rfl) : JS X W (.Assign [tg] e pos) (sAsg f g) := by
  obtain ⟨t, p, q⟩ := h.ex
  obtain ⟨tg', pg, qg⟩ := hg.ex
  refine ⟨_, ps_asg p pg hs hw h1, fun ρ mh F ι σ H T sr er h => ?_⟩
  exact q ρ mh F ι σ H _ sr er ((PostS.bindE (R := DR X) sr er h).mono fun v H1 ⟨F1, ι1, d, m1, st1, sr1, r1, er1, h1⟩ => qg d v ρ m1 F1 ι1 σ H1 _ _ sr1 er1 r1 (h1.ofG (hg.only _ _ _)) fun _ _ _ z => z)
def sPar (i j : Nat) (f : CA) : CS := fun ρ mh => (f ρ mh).toS ρ fun ds m => match ds with
  | [d, e] => .nx ((ρ.set i (some d)).set j (some e)) m
  | _ => .stuck
theorem s_par (c : Cc k X W) {i j : Nat} {x y : Str} {a b : Expr} {f : CA} {px py pt : Pos} {kt k2 pt2} (h : JA X W [a, b] f) (hi : X.N[i]? = some x := by rfl) (hj : X.N[j]? = some y := by rfl) (hij : i ≠ j := by decide)
    (hx : X.env.scope.names.lookup x = some .local := by rfl) (hy : X.env.scope.names.lookup y = some .local := by rfl)
    (hw : swappedStores [.Tuple [.Name x px, .Name y py] kt pt] (.Tuple [a, b] k2 pt2) X.env = pure (some [x, y]) := by rfl)
    (hs : swapsWithSole [.Tuple [.Name x px, .Name y py] kt pt] (.Tuple [a, b] k2 pt2) pos.line X.env = pure false := by rfl) :
    JS X W (.Assign [.Tuple [.Name x px, .Name y py] kt pt] (.Tuple [a, b] k2 pt2) pos) (sPar i j f) := by
  obtain ⟨t, p, q⟩ := h.ex
  refine ⟨_, ps_par c.calm c.nd hi hj hij hx hy p hw hs, fun ρ mh F ι σ H T sr er h => ?_⟩
  refine q ρ mh F ι σ H _ sr er ((PostS.bindE (R := DRs X) sr er h).mono fun vs H1 ⟨F1, ι1, ds, m1, st1, sr1, r1, er1, h1⟩ => ?_)
  split at h1
  · cases r1 with
    | cons r1 r2 =>
      cases r2 with
      | cons r2 r3 =>
        cases r3
        exact ⟨_, _, rfl, h1 F1 ι1 H1 _ Step.refl sr1 ((er1.set r1).set r2)⟩
  · exact h1.elim
/-- name op= e -/
def sAug (i : Nat) (o : D → D → List O → Res D) (f : CE) : CS := fun ρ mh => match ρ[i]? with
  | some (some d) => (f ρ mh).toS ρ fun x m => (o d x m).toS ρ fun z m' => .nx (ρ.set i (some z)) m'
  | _ => .stuck
theorem s_aug (c : Cc k X W) {i : Nat} {x : Str} {op : Operator} {r : R2} {o : D → D → List O → Res D} {pos' : Pos} {f : CE} (h : JE X W e f) (ho : OpR X (inplaceOp op) r) (vo : VO2 X r o) (hi : X.N[i]? = some x := by rfl) (hx : Loc X.env.scope x := by first | exact Or.inl rfl | exact Or.inr rfl)
    (hf : X.fn x = true ∨ X.env.scope.names.lookup x = some .local := by first | exact .inl rfl | exact .inr rfl) : JS X W (.AugAssign (.Name x pos') op e pos) (sAug i o f) := by
  obtain ⟨t, p, q⟩ := h.ex
  refine ⟨_, ps_aug c.nd hi hx p ho hf, fun ρ mh F ι σ H T sr er h => ?_⟩
  unfold sAug at h
  split at h
  · rename_i d e1
    obtain ⟨v, e2, r⟩ := er.2 i d e1
    refine ⟨v, e2, q ρ mh F ι σ H _ sr er ((PostS.bindE (R := DR X) sr er h).mono fun y H1 ⟨F1, ι1, d1, m1, st1, sr1, r1, er1, h1⟩ => ?_)⟩
    exact vo W σ F1 ι1 m1 H1 d d1 v y _ sr1 (DV.to sr.sub st1 _ _ r) r1 ((PostS.bindE (R := DR X) sr1 er1 h1).mono fun z H2 ⟨F2, ι2, d2, m2, st2, sr2, r2, er2, h2⟩ => h2 F2 ι2 H2 _ Step.refl sr2 (er2.set r2))
  · exact h.elim
end

/-! ### while -/
def whileN (c : CT) (b : CS) : Nat → CS
  | 0 => fun _ _ => .stuck
  | n + 1 => fun ρ mh => (c ρ mh).toS ρ fun t m => if t = true then (match b ρ m with
    | .nx ρ' m' => whileN c b n ρ' m'
    | .ct ρ' m' => whileN c b n ρ' m'
    | .bk ρ' m' => .nx ρ' m'
    | o => o) else .nx ρ m
theorem whileN_succ (c : CT) (b : CS) : ∀ (n : Nat) (ρ : En) (mh : List O), whileN c b n ρ mh ≠ .stuck → whileN c b (n + 1) ρ mh = whileN c b n ρ mh
  | 0, _, _, h => absurd rfl h
  | n + 1, ρ, mh, h => by
    have e1 : whileN c b (n + 1 + 1) ρ mh = (c ρ mh).toS ρ fun t m => if t = true then (match b ρ m with
      | .nx ρ' m' => whileN c b (n + 1) ρ' m'
      | .ct ρ' m' => whileN c b (n + 1) ρ' m'
      | .bk ρ' m' => .nx ρ' m'
      | o => o) else .nx ρ m := rfl
    have e2 : whileN c b (n + 1) ρ mh = (c ρ mh).toS ρ fun t m => if t = true then (match b ρ m with
      | .nx ρ' m' => whileN c b n ρ' m'
      | .ct ρ' m' => whileN c b n ρ' m'
      | .bk ρ' m' => .nx ρ' m'
      | o => o) else .nx ρ m := rfl
    rw [e2] at h
    rw [e1, e2]
    cases q : c ρ mh with
    | stuck => rfl
    | err x ds m => rfl
    | ok t m =>
      rw [q] at h
      simp only [Res.toS_ok] at h ⊢
      cases t with
      | false => rfl
      | true =>
        simp only [if_true] at h ⊢
        cases q2 : b ρ m with
        | nx ρ' m' => rw [q2] at h; exact whileN_succ c b n ρ' m' h
        | ct ρ' m' => rw [q2] at h; exact whileN_succ c b n ρ' m' h
        | bk ρ' m' => rfl
        | rt d m => rfl
        | err x ds r m => rfl
        | stuck => rfl
theorem whileN_le {c : CT} {b : CS} {ρ : En} {mh : List O} {n : Nat} (h : whileN c b n ρ mh ≠ .stuck) : ∀ j, whileN c b (n + j) ρ mh = whileN c b n ρ mh
  | 0 => rfl
  | j + 1 => by
    have ih := whileN_le h j
    rw [show n + (j + 1) = (n + j) + 1 from rfl, whileN_succ c b (n + j) ρ mh (by rw [ih]; exact h), ih]
open Classical in
noncomputable def sWhile (c : CT) (b : CS) : CS := fun ρ mh => if h : ∃ n, whileN c b n ρ mh ≠ .stuck then whileN c b h.choose ρ mh else .stuck
theorem sWhile_of {c : CT} {b : CS} {ρ : En} {mh : List O} {n : Nat} (h : whileN c b n ρ mh ≠ .stuck) : sWhile c b ρ mh = whileN c b n ρ mh := by
  have hx : ∃ n, whileN c b n ρ mh ≠ .stuck := ⟨n, h⟩
  unfold sWhile
  rw [dif_pos hx]
  have h2 := hx.choose_spec
  rcases Nat.le_total hx.choose n with hle | hle
  · obtain ⟨j, e⟩ := Nat.le.dest hle
    rw [← whileN_le h2 j, e]
  · obtain ⟨j, e⟩ := Nat.le.dest hle
    rw [← whileN_le h j, e]
theorem sWhile_stuck {c : CT} {b : CS} {ρ : En} {mh : List O} (h : ∀ n, whileN c b n ρ mh = .stuck) : sWhile c b ρ mh = .stuck := by
  unfold sWhile
  rw [dif_neg (fun ⟨n, q⟩ => q (h n))]
/-- one turn -/
theorem sWhile_eq (c : CT) (b : CS) (ρ : En) (mh : List O) : sWhile c b ρ mh = (c ρ mh).toS ρ fun t m => if t = true then (match b ρ m with
    | .nx ρ' m' => sWhile c b ρ' m'
    | .ct ρ' m' => sWhile c b ρ' m'
    | .bk ρ' m' => .nx ρ' m'
    | o => o) else .nx ρ m := by
  cases q : c ρ mh with
  | stuck =>
    refine sWhile_stuck fun n => ?_
    cases n with
    | zero => rfl
    | succ n => show (c ρ mh).toS ρ _ = _; rw [q]; rfl
  | err x ds m =>
    have e : whileN c b 1 ρ mh = .err x ds ρ m := by show (c ρ mh).toS ρ _ = _; rw [q]; rfl
    rw [sWhile_of (n := 1) (by rw [e]; exact fun z => nomatch z), e]; rfl
  | ok t m =>
    simp only [Res.toS_ok]
    have e1 : ∀ n, whileN c b (n + 1) ρ mh = if t = true then (match b ρ m with
      | .nx ρ' m' => whileN c b n ρ' m'
      | .ct ρ' m' => whileN c b n ρ' m'
      | .bk ρ' m' => .nx ρ' m'
      | o => o) else .nx ρ m := fun n => by show (c ρ mh).toS ρ _ = _; rw [q]; rfl
    have case : ∀ (ρ' : En) (m' : List O), (∀ n, whileN c b (n + 1) ρ mh = whileN c b n ρ' m') → sWhile c b ρ mh = sWhile c b ρ' m' := fun ρ' m' hn => by
      by_cases hx : ∃ n, whileN c b n ρ' m' ≠ .stuck
      · obtain ⟨n, hn'⟩ := hx
        rw [sWhile_of hn', sWhile_of (n := n + 1) (by rw [hn]; exact hn'), hn]
      · have hx' : ∀ n, whileN c b n ρ' m' = .stuck := fun n => Classical.byContradiction fun z => hx ⟨n, z⟩
        rw [sWhile_stuck hx']
        refine sWhile_stuck fun n => ?_
        cases n with
        | zero => rfl
        | succ n => rw [hn]; exact hx' n
    have val : ∀ o : Out, o ≠ .stuck → (∀ n, whileN c b (n + 1) ρ mh = o) → sWhile c b ρ mh = o := fun o ho hn => by
      rw [sWhile_of (n := 1) (by rw [hn 0]; exact ho), hn 0]
    cases t with
    | false =>
      simp only [Bool.false_eq_true, if_false] at e1 ⊢
      exact val _ (fun z => nomatch z) e1
    | true =>
      simp only [if_true] at e1 ⊢
      cases q2 : b ρ m with
      | nx ρ' m' => exact case ρ' m' fun n => by rw [e1, q2]
      | ct ρ' m' => exact case ρ' m' fun n => by rw [e1, q2]
      | bk ρ' m' => exact val _ (fun z => nomatch z) fun n => by rw [e1, q2]
      | rt d m2 => exact val _ (fun z => nomatch z) fun n => by rw [e1, q2]
      | err x ds r m2 => exact val _ (fun z => nomatch z) fun n => by rw [e1, q2]
      | stuck =>
        refine sWhile_stuck fun n => ?_
        cases n with
        | zero => rfl
        | succ n => rw [e1, q2]
section
variable {X : Cx} {W : WX} {k : Nat} {pos : Pos}
theorem s_while (c : Cc k X W) {t : Expr} {body : List Stmt} {ct : CT} {cb : CS} (hc : JT X W t ct) (hb : JSs X W body cb) : JS X W (.While t body [] pos) (sWhile ct cb) := by
  obtain ⟨tc, pc, qc⟩ := hc.ex
  obtain ⟨tb, pb, qb⟩ := hb.ex
  refine ⟨_, ps_while c.po pc pb, fun ρ mh F ι σ H T sr er h => ?_⟩
  have hx : ∃ n, whileN ct cb n ρ mh ≠ .stuck := Classical.byContradiction fun z => by
    rw [sWhile_stuck fun n => Classical.byContradiction fun q => z ⟨n, q⟩] at h
    exact h
  obtain ⟨n, hn⟩ := hx
  rw [sWhile_of hn] at h
  refine ⟨fun m σ1 H1 => ∃ F1 ι1 ρ1 mh1, SR X.K X.mg F1 ι1 mh1 H1 ∧ ER X.K X.mg F1 ι1 H1 ρ1 σ1 ∧ PostS X W F1 ι1 H1 (whileN ct cb m ρ1 mh1) T, ⟨n, F, ι, ρ, mh, sr, er, h⟩, ?_⟩
  rintro m σ1 H1 ⟨F1, ι1, ρ1, mh1, sr1, er1, h1⟩
  cases m with
  | zero => exact (show False from h1).elim
  | succ m =>
    refine qc ρ1 mh1 F1 ι1 σ1 H1 _ sr1 er1 ((PostS.bindE (R := BR) sr1 er1 h1).mono fun b H2 ⟨F2, ι2, d, m2, st2, sr2, r2, er2, h2⟩ => ?_)
    have e : d = b := r2
    subst e
    cases d with
    | false =>
      rw [if_neg Bool.false_ne_true] at h2 ⊢
      exact h2 F2 ι2 H2 σ1 Step.refl sr2 er2
    | true =>
      rw [if_pos rfl] at h2 ⊢
      refine ⟨fun σ' H' => ∃ F1 ι1 ρ1 mh1, SR X.K X.mg F1 ι1 mh1 H' ∧ ER X.K X.mg F1 ι1 H' ρ1 σ' ∧ PostS X W F1 ι1 H' (whileN ct cb m ρ1 mh1) T, fun σ' H' z => ⟨m, Nat.lt_succ_self m, z⟩, ?_⟩
      refine qb ρ1 m2 F2 ι2 σ1 H2 _ sr2 er2 ?_
      revert h2
      generalize cb ρ1 m2 = o
      intro h2
      cases o with
      | nx ρ' m' => exact fun F' ι' H' σ' s x y => ⟨F', ι', ρ', m', x, y, PostS.at (r := whileN ct cb m ρ' m') h2 s⟩
      | ct ρ' m' => exact fun F' ι' H' σ' s x y => ⟨F', ι', ρ', m', x, y, PostS.at (r := whileN ct cb m ρ' m') h2 s⟩
      | bk ρ' m' => exact h2
      | rt d mh => exact h2
      | err x ds r mh => exact h2
      | stuck => exact h2
end

/-! ### for -/
abbrev Its := List D × Option (Nat × List D)
def guard (g : Its) (mh : List O) : Prop := match g.2 with
  | none => True
  | some n => mh[n.1]? = some (.lst n.2)
abbrev CI := En → List O → Res Its
def RI (X : Cx) : Rel Its It := fun F ι H g J => ∀ F' ι' H' mh', Step F ι H F' ι' H' → SR X.K X.mg F' ι' mh' H' → guard g mh' →
  ∀ i, (∀ d, g.1[i]? = some d → J.go i H' ∧ ∀ x H'', J.yld i H' x H'' → (∀ a o, H' a = some o → H'' a = some o) ∧ DV X.K X.mg F' ι' H'' d x) ∧ (g.1.length ≤ i → J.stop i H')
structure JI (X : Cx) (W : WX) (tg iter : Expr) (f : CI) : Prop where
  ex : ∃ wi, PI X tg iter wi ∧ ∀ (ρ : En) (mh : List O) (F : Addr → Prop) (ι : List Addr) (σ : L2.St) (H : Hp) (R : It → Hp → Prop), SR X.K X.mg F ι mh H → ER X.K X.mg F ι H ρ σ → Post X.K X.mg (RI X) W σ F ι H (f ρ mh) R → wi σ H R
open Classical in
noncomputable def forL (g : Its) (tg : CG) (b : CS) : List D → CS
  | [] => fun ρ mh => if guard g mh then .nx ρ mh else .stuck
  | d :: ds => fun ρ mh => if guard g mh then (match (tg d ρ mh).seq b with
    | .nx ρ' m' => forL g tg b ds ρ' m'
    | .ct ρ' m' => forL g tg b ds ρ' m'
    | .bk ρ' m' => .nx ρ' m'
    | o => o) else .stuck
noncomputable def sFor (it : CI) (tg : CG) (b : CS) : CS := fun ρ mh => (it ρ mh).toS ρ fun g m => forL g tg b g.1 ρ m
section
variable {X : Cx} {W : WX} {k : Nat} {pos : Pos}
theorem s_for (c : Cc k X W) {tg iter : Expr} {body : List Stmt} {fi : CI} {fg : CG} {fb : CS} {ix : List Nat} (hi : JI X W tg iter fi) (hg : JG X W tg ix fg) (hb : JSs X W body fb)
    (hs : ∀ x, foldedSetIterable iter X.env x = pure x := by intro _; rfl) : JS X W (.For tg iter body [] pos) (sFor fi fg fb) := by
  obtain ⟨wi, pi, qi⟩ := hi.ex
  obtain ⟨tg', pg, qg⟩ := hg.ex
  obtain ⟨tb, pb, qb⟩ := hb.ex
  refine ⟨_, ps_for c.po c.calm pi pg pb hs, fun ρ mh F ι σ H T sr er h => ?_⟩
  refine qi ρ mh F ι σ H _ sr er ((PostS.bindE (R := RI X) sr er h).mono fun J H1 ⟨F1, ι1, g, m1, st1, sr1, r1, er1, h1⟩ => ?_)
  have h1 : PostS X W F1 ι1 H1 (forL g fg fb (g.1.drop 0) ρ m1) T := h1
  refine ⟨fun i m σ2 H2 => m = g.1.length - i ∧ ∃ F2 ι2 ρ2 mh2, Step F1 ι1 H1 F2 ι2 H2 ∧ SR X.K X.mg F2 ι2 mh2 H2 ∧ ER X.K X.mg F2 ι2 H2 ρ2 σ2 ∧ PostS X W F2 ι2 H2 (forL g fg fb (g.1.drop i) ρ2 mh2) T, ⟨_, rfl, F1, ι1, ρ, m1, Step.refl, sr1, er1, h1⟩, ?_⟩
  rintro i m σ2 H2 ⟨rfl, F2, ι2, ρ2, mh2, st2, sr2, er2, h2⟩
  by_cases hl : i < g.1.length
  · have ed : g.1.drop i = g.1[i] :: g.1.drop (i + 1) := List.drop_eq_getElem_cons hl
    rw [ed] at h2
    unfold forL at h2
    split at h2
    · rename_i hgd
      obtain ⟨hgo, hy⟩ := (r1 F2 ι2 H2 mh2 st2 sr2 hgd i).1 _ (List.getElem?_eq_getElem hl)
      refine .inr ⟨hgo, fun σ' H' => ∃ F2 ι2 ρ2 mh2, Step F1 ι1 H1 F2 ι2 H' ∧ SR X.K X.mg F2 ι2 mh2 H' ∧ ER X.K X.mg F2 ι2 H' ρ2 σ' ∧ PostS X W F2 ι2 H' (forL g fg fb (g.1.drop (i + 1)) ρ2 mh2) T, fun σ' H' z => ⟨_, by omega, rfl, z⟩, fun x H3 y => ?_⟩
      obtain ⟨kp, dv⟩ := hy x H3 y
      obtain ⟨sr3, st3⟩ := sr2.same kp
      have er3 := er2.to sr2.sub st3
      have only := hg.only g.1[i] ρ2 mh2
      have body : ∀ (ρ3 : En) (mh3 : List O) (F3 : Addr → Prop) (ι3 : List Addr) (σ3 : L2.St) (H4 : Hp), Step F1 ι1 H1 F3 ι3 H4 → SR X.K X.mg F3 ι3 mh3 H4 → ER X.K X.mg F3 ι3 H4 ρ3 σ3 →
          PostS X W F3 ι3 H4 (match fb ρ3 mh3 with
            | .nx ρ' m' => forL g fg fb (g.1.drop (i + 1)) ρ' m'
            | .ct ρ' m' => forL g fg fb (g.1.drop (i + 1)) ρ' m'
            | .bk ρ' m' => .nx ρ' m'
            | o => o) T → tb { nx := fun σ' H' => ∃ F2 ι2 ρ2 mh2, Step F1 ι1 H1 F2 ι2 H' ∧ SR X.K X.mg F2 ι2 mh2 H' ∧ ER X.K X.mg F2 ι2 H' ρ2 σ' ∧ PostS X W F2 ι2 H' (forL g fg fb (g.1.drop (i + 1)) ρ2 mh2) T, rt := T.rt, bk := T.nx, ct := fun σ' H' => ∃ F2 ι2 ρ2 mh2, Step F1 ι1 H1 F2 ι2 H' ∧ SR X.K X.mg F2 ι2 mh2 H' ∧ ER X.K X.mg F2 ι2 H' ρ2 σ' ∧ PostS X W F2 ι2 H' (forL g fg fb (g.1.drop (i + 1)) ρ2 mh2) T } σ3 H4 := by
        intro ρ3 mh3 F3 ι3 σ3 H4 s x y z
        refine qb ρ3 mh3 F3 ι3 σ3 H4 _ x y ?_
        revert z
        generalize fb ρ3 mh3 = o
        intro z
        cases o with
        | nx ρ' m' => exact fun F' ι' H' σ' s' x' y' => ⟨F', ι', ρ', m', s.trans s', x', y', PostS.at (r := forL g fg fb (g.1.drop (i + 1)) ρ' m') z s'⟩
        | ct ρ' m' => exact fun F' ι' H' σ' s' x' y' => ⟨F', ι', ρ', m', s.trans s', x', y', PostS.at (r := forL g fg fb (g.1.drop (i + 1)) ρ' m') z s'⟩
        | bk ρ' m' => exact z
        | rt d mh => exact z
        | err x ds r mh => exact z
        | stuck => exact z
      rcases only with ⟨ρ', mh', e⟩ | e
      · rw [e] at h2
        refine qg g.1[i] x ρ2 mh2 F2 ι2 σ2 H3 (fun σ' H' => ∃ F' ι', Step F2 ι2 H3 F' ι' H' ∧ SR X.K X.mg F' ι' mh' H' ∧ ER X.K X.mg F' ι' H' ρ' σ') _ sr3 er3 dv (by rw [e]; exact fun F' ι' H' σ' s x y => ⟨F', ι', s, x, y⟩) fun σ' H' _ ⟨F', ι', s, x, y⟩ => ?_
        exact body ρ' mh' F' ι' σ' H' ((st2.trans st3).trans s) x y (PostS.at h2 (st3.trans s))
      · rw [e] at h2
        exact h2.elim
    · exact h2.elim
  · have ed : g.1.drop i = [] := List.drop_eq_nil_of_le (by omega)
    rw [ed] at h2
    unfold forL at h2
    split at h2
    · rename_i hgd
      exact .inl ⟨(r1 F2 ι2 H2 mh2 st2 sr2 hgd i).2 (by omega), h2 F2 ι2 H2 σ2 Step.refl sr2 er2⟩
    · exact h2.elim
/-! what is walked: a value that is a list, a tuple; a range -/
def oIts (d : D) (mh : List O) : Res Its := match d with
  | .lst ds => .ok (ds, none) mh
  | .ref n => match mh[n]? with
    | some (.lst ds) => .ok (ds, some (n, ds)) mh
    | _ => .stuck
  | _ => .stuck
def oItsT (d : D) (mh : List O) : Res Its := match d with
  | .tup ds => .ok (ds, none) mh
  | _ => .stuck
def iL (f : CE) : CI := fun ρ mh => (f ρ mh).bind oIts
def iT (f : CE) : CI := fun ρ mh => (f ρ mh).bind oItsT
theorem SqL_of {K : PySem.W.Frag} {F : Addr → Prop} {H : Hp} {a : Addr} {vs : List V} (h : LstAt K F H a vs) : SqL K H a vs := by
  rcases h with ⟨h, _⟩ | h
  · exact .inl h
  · exact .inr h
theorem i_list {tg e : Expr} {f : CE} (h : JE X W e f) : JI X W tg e (iL f) := by
  obtain ⟨t, p, q⟩ := h.ex
  refine ⟨_, pi_list p, fun ρ mh F ι σ H R sr er h => ?_⟩
  refine q ρ mh F ι σ H _ sr er (h.bind.mono fun v H1 ⟨F1, ι1, d, m1, st1, sr1, r1, h1⟩ => ?_)
  have hl : ∀ {i : Nat} {d : D} {ds : List D} {vs : List V} {F' : Addr → Prop} {ι' : List Addr} {H' : Hp} {a : Addr}, SqL X.K H' a vs → DVs X.K X.mg F' ι' H' ds vs → ((∀ d, ds[i]? = some d → (Itl X.K a).go i H' ∧ ∀ x H'', (Itl X.K a).yld i H' x H'' → (∀ a o, H' a = some o → H'' a = some o) ∧ DV X.K X.mg F' ι' H'' d x) ∧ (ds.length ≤ i → (Itl X.K a).stop i H')) := by
    intro i d ds vs F' ι' H' a sq r
    refine ⟨fun d hd => ?_, fun hi => ⟨vs, sq, by rw [← r.length]; exact hi⟩⟩
    obtain ⟨v, hv, rv⟩ := r.get hd
    refine ⟨⟨vs, v, sq, hv⟩, fun x H'' y => ?_⟩
    obtain ⟨e, y⟩ := y
    subst e
    have q := y vs sq
    rw [hv] at q; cases q
    exact ⟨fun _ _ z => z, rv⟩
  unfold oIts at h1
  split at h1
  · cases r1 with
    | lst hq r =>
      refine ⟨_, rfl, ⟨_, SqL_of hq⟩, h1 F1 ι1 H1 _ Step.refl sr1 fun F' ι' H' mh' s x gd i => ?_⟩
      exact hl (d := D.non) (SqL_of (hq.to sr1.sub s)) (DVs.to sr1.sub s _ _ r)
  · rename_i n
    split at h1
    · rename_i ds hn
      cases r1 with
      | ref e =>
        have ho := sr1.ob _ _ _ hn e
        cases ho with
        | lst hh r =>
          refine ⟨_, rfl, ⟨_, .inl (.inl hh)⟩, h1 F1 ι1 H1 _ Step.refl sr1 fun F' ι' H' mh' s x gd i => ?_⟩
          rename_i a0 _ _ 
          have e' : ι'[n]? = some a0 := by
            obtain ⟨t, q⟩ := s.pre
            rw [← q, List.getElem?_append_left (List.getElem?_eq_some_iff.mp e).1]; exact e
          have ho' := x.ob _ _ _ gd e'
          cases ho' with
          | lst hh' r' => exact hl (d := D.non) (.inl (.inl hh')) r'
    · exact h1.elim
  · exact h1.elim
theorem i_tup {tg e : Expr} {f : CE} (h : JE X W e f) : JI X W tg e (iT f) := by
  obtain ⟨t, p, q⟩ := h.ex
  refine ⟨_, pi_tup p, fun ρ mh F ι σ H R sr er h => ?_⟩
  refine q ρ mh F ι σ H _ sr er (h.bind.mono fun v H1 ⟨F1, ι1, d, m1, st1, sr1, r1, h1⟩ => ?_)
  unfold oItsT at h1
  split at h1
  · cases r1 with
    | tup hq r =>
      refine ⟨_, rfl, ⟨_, .inl hq⟩, h1 F1 ι1 H1 _ Step.refl sr1 fun F' ι' H' mh' s x gd i => ?_⟩
      have sq : SqT X.K H' _ _ := .inl (s.tups _ _ hq)
      have r' := DVs.to sr1.sub s _ _ r
      refine ⟨fun d hd => ?_, fun hi => ⟨_, sq, by rw [← r'.length]; exact hi⟩⟩
      obtain ⟨v, hv, rv⟩ := r'.get hd
      refine ⟨⟨_, v, sq, hv⟩, fun x H'' y => ?_⟩
      obtain ⟨e, y⟩ := y
      subst e
      have q := y _ sq
      rw [hv] at q; cases q
      exact ⟨fun _ _ z => z, rv⟩
  · exact h1.elim
def rngL (lo : Int) (n : Nat) : List D := (List.range n).map fun i => .int (lo + (i : Nat))
def oRng1 (ds : List D) (mh : List O) : Res Its := match ds with
  | [.int j] => if -(2 ^ 62) ≤ j ∧ j < 2 ^ 62 then .ok (rngL 0 j.toNat, none) mh else .stuck
  | _ => .stuck
def oRng2 (ds : List D) (mh : List O) : Res Its := match ds with
  | [.int i, .int j] => if -(2 ^ 62) ≤ i ∧ i < 2 ^ 62 ∧ -(2 ^ 62) ≤ j ∧ j < 2 ^ 62 then .ok (rngL i (j - i).toNat, none) mh else .stuck
  | _ => .stuck
def iR1 (f : CA) : CI := fun ρ mh => (f ρ mh).bind oRng1
def iR2 (f : CA) : CI := fun ρ mh => (f ρ mh).bind oRng2
theorem ri_rng {F : Addr → Prop} {ι : List Addr} {H : Hp} (lo : Int) (n : Nat) : RI X F ι H (rngL lo n, none) (Itr lo n) := by
  intro F' ι' H' mh' s x gd i
  refine ⟨fun d hd => ?_, fun hi => ?_⟩
  · unfold rngL at hd
    rw [List.getElem?_map] at hd
    have hi : i < n := by
      rcases Nat.lt_or_ge i n with h | h
      · exact h
      · rw [List.getElem?_eq_none (by simpa using h)] at hd; cases hd
    rw [List.getElem?_range hi] at hd
    cases hd
    refine ⟨hi, fun x H'' y => ?_⟩
    obtain ⟨e, e2⟩ := y
    subst e e2
    exact ⟨fun _ _ z => z, .int _⟩
  · unfold rngL at hi
    rw [List.length_map, List.length_range] at hi
    exact hi
theorem i_rng1 {tg a : Expr} {f : CA} {p : Pos} (hm : X.mg "range" = none) (h : JA X W [a] f) (hg : Gl X "range" := by rfl) (hs : starEach [a] X.env = [(false, eval a X.env)] := by rfl) : JI X W tg (.Call (.Name "range" p) [a] [] pos) (iR1 f) := by
  obtain ⟨t, pa, q⟩ := h.ex
  refine ⟨_, pi_range1 hg hm pa hs, fun ρ mh F ι σ H R sr er h => ?_⟩
  refine q ρ mh F ι σ H _ sr er (h.bind.mono fun vs H1 ⟨F1, ι1, ds, m1, st1, sr1, r1, h1⟩ => ?_)
  unfold oRng1 at h1
  split at h1
  · split at h1
    · rename_i hb
      cases r1 with
      | cons r1 r2 =>
        cases r2
        cases r1
        exact ⟨_, rfl, hb.1, hb.2, h1 F1 ι1 H1 _ Step.refl sr1 (ri_rng 0 _)⟩
    · exact h1.elim
  · exact h1.elim
theorem i_rng2 {tg a b : Expr} {f : CA} {p : Pos} (hm : X.mg "range" = none) (h : JA X W [a, b] f) (hg : Gl X "range" := by rfl) (hs : starEach [a, b] X.env = [(false, eval a X.env), (false, eval b X.env)] := by rfl) (hs2 : starEach [b] X.env = [(false, eval b X.env)] := by rfl) :
    JI X W tg (.Call (.Name "range" p) [a, b] [] pos) (iR2 f) := by
  obtain ⟨t, pa, q⟩ := h.ex
  refine ⟨_, pi_range2 hg hm pa hs hs2, fun ρ mh F ι σ H R sr er h => ?_⟩
  refine q ρ mh F ι σ H _ sr er (h.bind.mono fun vs H1 ⟨F1, ι1, ds, m1, st1, sr1, r1, h1⟩ => ?_)
  unfold oRng2 at h1
  split at h1
  · split at h1
    · rename_i hb
      cases r1 with
      | cons r1 r2 =>
        cases r2 with
        | cons r2 r3 =>
          cases r3
          cases r1
          cases r2
          exact ⟨_, _, rfl, hb, h1 F1 ι1 H1 _ Step.refl sr1 (ri_rng _ _)⟩
    · exact h1.elim
  · exact h1.elim
end
end G

/-! Part D: defs, their promises, calls, the law's end. -/
namespace G
open PySem PySem.Spec PyProof.Rows L2

/-! ### what a call hands back, as a value of the caller's -/
def fzl (g : D → Option D) : List D → Option (List D)
  | [] => some []
  | d :: ds => match g d, fzl g ds with
    | some x, some xs => some (x :: xs)
    | _, _ => none
def fz (mh : List O) : Nat → D → Option D
  | 0, _ => none
  | n + 1, d => match d with
    | .tup ds => (fzl (fz mh n) ds).map .tup
    | .lst ds => (fzl (fz mh n) ds).map .lst
    | .dic ks ds => (fzl (fz mh n) ds).map (.dic ks)
    | .obj x ns ds => (fzl (fz mh n) ds).map (.obj x ns)
    | .ref m => match mh[m]? with
      | some (.lst ds) => (fzl (fz mh n) ds).map .lst
      | some (.dic ks ds) => (fzl (fz mh n) ds).map (.dic ks)
      | some (.ins x ns ds) => (fzl (fz mh n) ds).map (.obj x ns)
      | none => none
    | d => some d
def oFz (mh : List O) (d : D) : Option D := match mh with
  | [] => some d
  | _ => fz mh 12 d
section
variable {K : PySem.W.Frag} {mg : Str → Option Value} {F F' : Addr → Prop} {ι ι' : List Addr} {H' : Hp} {mh' : List O}
theorem fz_ok (sr : SR K mg F' ι' mh' H') (nf : ∀ a, a ∈ ι' → ¬ F a) (up : ∀ a, F a → F' a) : ∀ (n : Nat) (d d' : D) (v : V), DV K mg F' ι' H' d v → fz mh' n d = some d' → DV K mg F ι H' d' v := by
  intro n
  induction n with
  | zero => intro d d' v _ e; cases e
  | succ n ih =>
    have all : ∀ (ds ds' : List D) (vs : List V), DVs K mg F' ι' H' ds vs → fzl (fz mh' n) ds = some ds' → DVs K mg F ι H' ds' vs := by
      intro ds
      induction ds with
      | nil => intro ds' vs h e; cases h; cases e; exact .nil
      | cons d ds ihl =>
        intro ds' vs h e
        cases h with
        | cons h t =>
          unfold fzl at e
          split at e
          · rename_i x xs e1 e2
            cases e
            exact .cons (ih _ _ _ h e1) (ihl _ _ t e2)
          · cases e
    intro d d' v h e
    cases h with
    | non => cases e; exact .non
    | bl b => cases e; exact .bl b
    | int i => cases e; exact .int i
    | str x => cases e; exact .str x
    | ty n => cases e; exact .ty n
    | glb m r => cases e; exact .glb m r
    | tup h r =>
      obtain ⟨ds', e1, rfl⟩ := Option.map_eq_some_iff.mp e
      exact .tup h (all _ _ _ r e1)
    | lst h r =>
      obtain ⟨ds', e1, rfl⟩ := Option.map_eq_some_iff.mp e
      refine .lst ?_ (all _ _ _ r e1)
      rcases h with ⟨h, n⟩ | h
      · exact .inl ⟨h, fun z => n (up _ z)⟩
      · exact .inr h
    | dic h n e0 r =>
      obtain ⟨ds', e1, rfl⟩ := Option.map_eq_some_iff.mp e
      exact .dic h (fun z => n (up _ z)) e0 (all _ _ _ r e1)
    | obj h n m e0 r =>
      obtain ⟨ds', e1, rfl⟩ := Option.map_eq_some_iff.mp e
      exact .obj h (fun z => n (up _ z)) m e0 (all _ _ _ r e1)
    | @ref m a ea =>
      have e : (match mh'[m]? with
        | some (.lst ds) => (fzl (fz mh' n) ds).map .lst
        | some (.dic ks ds) => (fzl (fz mh' n) ds).map (.dic ks)
        | some (.ins x ns ds) => (fzl (fz mh' n) ds).map (.obj x ns)
        | none => none) = some d' := e
      have na := nf a (List.mem_of_getElem? ea)
      split at e
      · rename_i ds q
        obtain ⟨ds', e1, rfl⟩ := Option.map_eq_some_iff.mp e
        cases sr.ob _ _ _ q ea with
        | lst h r => exact .lst (.inl ⟨.inl h, na⟩) (all _ _ _ r e1)
      · rename_i ks ds q
        obtain ⟨ds', e1, rfl⟩ := Option.map_eq_some_iff.mp e
        cases sr.ob _ _ _ q ea with
        | dic h e0 r => exact .dic (.inl h) na e0 (all _ _ _ r e1)
      · rename_i x ns ds q
        obtain ⟨ds', e1, rfl⟩ := Option.map_eq_some_iff.mp e
        cases sr.ob _ _ _ q ea with
        | ins h m e0 r => exact .obj h na m e0 (all _ _ _ r e1)
      · cases e
mutual
/-- nothing live within: it is the same whatever is live -/
theorem DV.bare (up : ∀ a, F a → F' a) : ∀ (d : D) (v : V), DV K mg F' [] H' d v → DV K mg F ι H' d v
  | .non, _, h => by cases h; exact .non
  | .bl b, _, h => by cases h; exact .bl b
  | .int i, _, h => by cases h; exact .int i
  | .str x, _, h => by cases h; exact .str x
  | .ty n, _, h => by cases h; exact .ty n
  | .glb x, _, h => by
    cases h with
    | glb m r => exact .glb m r
  | .ref n, _, h => by
    cases h with
    | ref e => simp at e
  | .tup ds, _, h => by
    cases h with
    | tup h r => exact .tup h (DVs.bare up ds _ r)
  | .lst ds, _, h => by
    cases h with
    | lst h r =>
      refine .lst ?_ (DVs.bare up ds _ r)
      rcases h with ⟨h, n⟩ | h
      · exact .inl ⟨h, fun z => n (up _ z)⟩
      · exact .inr h
  | .dic ks ds, _, h => by
    cases h with
    | dic h n e r => exact .dic h (fun z => n (up _ z)) e (DVs.bare up ds _ r)
  | .obj x ns ds, _, h => by
    cases h with
    | obj h n m e r => exact .obj h (fun z => n (up _ z)) m e (DVs.bare up ds _ r)
theorem DVs.bare (up : ∀ a, F a → F' a) : ∀ (ds : List D) (vs : List V), DVs K mg F' [] H' ds vs → DVs K mg F ι H' ds vs
  | [], _, h => by cases h; exact .nil
  | d :: ds, _, h => by
    cases h with
    | cons h t => exact .cons (DV.bare up d _ h) (DVs.bare up ds _ t)
end
theorem oFz_ok {d d' : D} {v : V} (sr : SR K mg F' ι' mh' H') (nf : ∀ a, a ∈ ι' → ¬ F a) (up : ∀ a, F a → F' a) (h : DV K mg F' ι' H' d v) (e : oFz mh' d = some d') : DV K mg F ι H' d' v := by
  unfold oFz at e
  split at e
  · cases e
    have : ι' = [] := List.length_eq_zero_iff.mp sr.len
    subst this
    exact DV.bare up d v h
  · exact fz_ok sr nf up 12 d d' v h e
end
mutual
def noRef : D → Bool
  | .ref _ => false
  | .tup ds => noRefs ds
  | .lst ds => noRefs ds
  | .dic _ ds => noRefs ds
  | .obj _ _ ds => noRefs ds
  | _ => true
def noRefs : List D → Bool
  | [] => true
  | d :: ds => noRef d && noRefs ds
end
section
variable {K : PySem.W.Frag} {mg : Str → Option Value} {F : Addr → Prop} {ι : List Addr} {H : Hp}
mutual
theorem DV.own : ∀ (d : D) (v : V), noRef d = true → DV K mg F ι H d v → DV K mg F [] H d v
  | .non, _, _, h => by cases h; exact .non
  | .bl b, _, _, h => by cases h; exact .bl b
  | .int i, _, _, h => by cases h; exact .int i
  | .str x, _, _, h => by cases h; exact .str x
  | .ty n, _, _, h => by cases h; exact .ty n
  | .glb x, _, _, h => by
    cases h with
    | glb m r => exact .glb m r
  | .ref n, _, q, _ => by
    unfold noRef at q; cases q
  | .tup ds, _, q, h => by
    unfold noRef at q
    cases h with
    | tup h r => exact .tup h (DVs.own ds _ q r)
  | .lst ds, _, q, h => by
    unfold noRef at q
    cases h with
    | lst h r => exact .lst h (DVs.own ds _ q r)
  | .dic ks ds, _, q, h => by
    unfold noRef at q
    cases h with
    | dic h n e r => exact .dic h n e (DVs.own ds _ q r)
  | .obj x ns ds, _, q, h => by
    unfold noRef at q
    cases h with
    | obj h n m e r => exact .obj h n m e (DVs.own ds _ q r)
theorem DVs.own : ∀ (ds : List D) (vs : List V), noRefs ds = true → DVs K mg F ι H ds vs → DVs K mg F [] H ds vs
  | [], _, _, h => by cases h; exact .nil
  | d :: ds, _, q, h => by
    unfold noRefs at q
    rw [Bool.and_eq_true] at q
    cases h with
    | cons h t => exact .cons (DV.own d _ q.1 h) (DVs.own ds _ q.2 t)
end
end

/-! ### promises -/
abbrev Fn := List D → List O → Res D
abbrev WD (E : XK) : WX := fun c d _ H => E c d H
def spG (K : PySem.W.Frag) (mg : Str → Option Value) (n : Nat) (f : Fn) : Sp := fun vs H Q E => vs.length = n ∧ ∃ ds F ι mh, SR K mg F ι mh H ∧ DVs K mg F ι H ds vs ∧ Post K mg (fun F ι H d v => DV K mg F ι H d v) (WD E) [] F ι H (f ds mh) Q
def defn (N n : Nat) (b : CS) : Fn := fun ds mh => match b (ds.map some ++ List.replicate (N - n) none) mh with
  | .nx _ m => .ok .non m
  | .rt d m => .ok d m
  | .err c es _ m => .err c es m
  | _ => .stuck
theorem er_start {K : PySem.W.Frag} {mg : Str → Option Value} {F : Addr → Prop} {ι : List Addr} {H : Hp} {ds : List D} {vs : List V} {N : List Str} {n : Nat} (r : DVs K mg F ι H ds vs) (hn : vs.length = n) : ER K mg F ι H (ds.map some ++ List.replicate (N.length - n) none) (L2.start N vs) := by
  have hl := r.length
  unfold L2.start
  refine ⟨by simp [hl, hn], fun i d e => ?_⟩
  by_cases hi : i < ds.length
  · rw [List.getElem?_append_left (by simpa using hi), List.getElem?_map] at e
    cases q : ds[i]? with
    | none => rw [q] at e; cases e
    | some d0 =>
      rw [q] at e
      cases e
      obtain ⟨v, hv, rv⟩ := r.get q
      exact ⟨v, by rw [List.getElem?_append_left (by rw [List.length_map, ← hl]; exact hi), List.getElem?_map, hv]; rfl, rv⟩
  · rw [List.getElem?_append_right (by simpa using hi), List.getElem?_replicate] at e
    split at e <;> cases e
section
variable {P : Program} {w : World} {K : PySem.W.Frag} {mg : Str → Option Value} {base : Heap}
abbrev cxG (P : Program) (w : World) (K : PySem.W.Frag) (mg : Str → Option Value) (base : Heap) (N : List Str) (qual : Str) (st : Stmt) (f : Addr) (cdv : Value) (A : Around) (outer : List Env) (s : Shared) (H : Hp) (E : XK) : Cx :=
  cxOf (L2.CX P w) P w K mg base N qual (defScope st) f cdv A outer s H E
theorem fn_ok {x qual : Str} {st : Stmt} {f : Addr} {fd : FuncData} {N ps : List Str} {k : Nat} (Fu : Fun K x qual st f fd) (S : FnScope N ps (defScope st)) {b : CS}
    (hb : ∀ (cdv : Value) (A : Around) (outer : List Env) (s : Shared) (H : Hp) (E : XK), Cc k (cxG P w K mg base N qual st f cdv A outer s H E) (WD E) → JSs (cxG P w K mg base N qual st f cdv A outer s H E) (WD E) (defBody st) b) :
    FnOk P w K mg base (L2.CX P w) (k + 1) f fd ps (spG K mg ps.length (defn N.length ps.length b)) := by
  refine Fu.okX S (fun vs H Q E h => h.1) (fun cdv A outer s H vs Q E hr h => ?_)
  obtain ⟨hl, ds, F, ι, mh, sr, r, h⟩ := h
  have c : Cc k (cxG P w K mg base N qual st f cdv A outer s H E) (WD E) := ⟨rfl, S.nd, takes_of rfl rfl rfl rfl, hr, passes_of rfl⟩
  obtain ⟨t, p, q⟩ := (hb cdv A outer s H E c).ex
  refine ⟨t, p, q _ mh F ι _ H _ sr (er_start r hl) ?_⟩
  unfold defn at h
  revert h
  generalize b (ds.map some ++ List.replicate (N.length - ps.length) none) mh = o
  intro h
  cases o with
  | nx ρ m => exact fun F' ι' H' σ' s x _ => h F' ι' H' .non s x .non
  | rt d m => exact h
  | err c es ρ m => exact fun F' ι' H' cls dx σ' s x _ z => h F' ι' H' cls dx s x z
  | bk ρ m => exact h.elim
  | ct ρ m => exact h.elim
  | stuck => exact h.elim
/-- a def of the module, with what it is worth -/
structure Def (P : Program) (w : World) (K : PySem.W.Frag) (mg : Str → Option Value) (base : Heap) (k : Nat) (x : Str) (n : Nat) (f : Fn) : Prop where
  ex : ∃ (a : Addr) (fd : FuncData) (ps : List Str), mg x = some (.ref a) ∧ PySem.W.keepIn K (.ref a) = true ∧ Binds K fd ps [] ∧ ps.length = n ∧ FnOk P w K mg base (L2.CX P w) k a fd ps (spG K mg n f)
theorem def_mk {x qual : Str} {st : Stmt} {f : Addr} {fd : FuncData} {ps : List Str} {k n : Nat} {fn : Fn} (Fu : Fun K x qual st f fd) (bi : Binds K fd ps []) (m : mg x = some (.ref f))
    (h : FnOk P w K mg base (L2.CX P w) k f fd ps (spG K mg n fn)) (hn : ps.length = n := by rfl) : Def P w K mg base k x n fn :=
  ⟨f, fd, ps, m, Fu.kp, bi, hn, h⟩
end

/-! ### calls -/
/-- a call in a heap of its own; what it hands back is taken as a value -/
def oP (f : Fn) : Fn := fun ds mh => if noRefs ds = true then (match f ds [] with
  | .ok d m => (match oFz m d with
    | some d' => .ok d' mh
    | none => .stuck)
  | .err c es m => (match fzl (oFz m) es with
    | some es' => .err c es' mh
    | none => .stuck)
  | .stuck => .stuck) else .stuck
section
variable {X : Cx} {W : WX} {k j : Nat} {pos p : Pos} {x : Str} {n : Nat} {f : Fn} {e : Expr} {es : List Expr}
theorem fzls_ok {K : PySem.W.Frag} {mg : Str → Option Value} {F F' : Addr → Prop} {ι ι' : List Addr} {H' : Hp} {mh' : List O} (sr : SR K mg F' ι' mh' H') (nf : ∀ a, a ∈ ι' → ¬ F a) (up : ∀ a, F a → F' a) :
    ∀ (ds ds' : List D) (vs : List V), DVs K mg F' ι' H' ds vs → fzl (oFz mh') ds = some ds' → DVs K mg F ι H' ds' vs := by
  intro ds
  induction ds with
  | nil => intro ds' vs h e; cases h; cases e; exact .nil
  | cons d ds ihl =>
    intro ds' vs h e
    cases h with
    | cons h t =>
      unfold fzl at e
      split at e
      · rename_i x xs e1 e2
        cases e
        exact .cons (oFz_ok sr nf up h e1) (ihl _ _ t e2)
      · cases e
/-- the promise as the caller's worth -/
theorem sp_call {K : PySem.W.Frag} {mg : Str → Option Value} {F : Addr → Prop} {ι : List Addr} {mh : List O} {σ : L2.St} {H : Hp} {ds : List D} {vs : List V} {Q : VK} (hn : vs.length = n) (sr : SR K mg F ι mh H) (r : DVs K mg F ι H ds vs)
    (h : Post K mg (fun F ι H d v => DV K mg F ι H d v) W σ F ι H (f ds mh) Q) : spG K mg n f vs H Q (WE W σ) := by
  refine ⟨hn, ds, F, ι, mh, sr, r, ?_⟩
  revert h
  generalize f ds mh = o
  intro h
  cases o with
  | ok d m => exact h
  | err c es m => exact h
  | stuck => exact h
theorem sp_callP {K : PySem.W.Frag} {mg : Str → Option Value} {F : Addr → Prop} {ι : List Addr} {mh : List O} {σ : L2.St} {H : Hp} {ds : List D} {vs : List V} {Q : VK} (hn : vs.length = n) (sr : SR K mg F ι mh H) (r : DVs K mg F ι H ds vs)
    (h : Post K mg (fun F ι H d v => DV K mg F ι H d v) W σ F ι H (oP f ds mh) Q) : spG K mg n f vs H Q (WE W σ) := by
  unfold oP at h
  split at h
  · rename_i hr
    have sr0 : SR K mg F [] [] H := ⟨rfl, List.nodup_nil, fun n o a e => by simp at e, fun a z => by simp at z, sr.old⟩
    have back : ∀ {F' : Addr → Prop} {ι' : List Addr} {H' : Hp}, Step F [] H F' ι' H' → (SR K mg F ι mh H' ∧ Step F ι H F ι H') ∧ (∀ a, a ∈ ι' → ¬ F a) := fun {F' ι' H'} st => by
      refine ⟨sr.same fun a o e => st.keep a o e (by simp), fun a ha z => ?_⟩
      rcases st.inew a ha with q | q
      · simp at q
      · exact sr.old a z q
    refine ⟨hn, ds, F, [], [], sr0, DVs.own ds _ hr r, ?_⟩
    revert h
    generalize f ds [] = o
    intro h
    cases o with
    | ok d m =>
      intro F' ι' H' b st sr' rb
      obtain ⟨⟨sr2, st2⟩, nf⟩ := back st
      dsimp only at h
      split at h
      · rename_i d' e
        exact h F ι H' b st2 sr2 (oFz_ok sr' nf st.up rb e)
      · exact h.elim
    | err c es m =>
      intro F' ι' H' cls dx st sr' ev
      obtain ⟨⟨sr2, st2⟩, nf⟩ := back st
      dsimp only at h
      split at h
      · rename_i es' e
        refine h F ι H' cls dx st2 sr2 ?_
        obtain ⟨C, e1, e2, e3⟩ := ev
        refine ⟨C, e1, e2, ?_⟩
        rcases e3 with ⟨rfl, rfl⟩ | ⟨d, fs, rfl, e4, r4⟩
        · cases e
          exact .inl ⟨rfl, rfl⟩
        · exact .inr ⟨d, fs, rfl, e4, fzls_ok sr' nf st.up _ _ _ r4 e⟩
      · exact h.elim
    | stuck => exact h.elim
  · exact h.elim
theorem j_callAny {g : CA} {f' : Fn} (d : Def X.prog X.w X.K X.mg X.base j x n f) (c : Cc k X W) (hk : j ≤ k) (ha : JA X W (e :: es) g)
    (hsp : ∀ (F : Addr → Prop) (ι : List Addr) (mh : List O) (σ : L2.St) (H : Hp) (ds : List D) (vs : List V) (Q : VK), vs.length = n → SR X.K X.mg F ι mh H → DVs X.K X.mg F ι H ds vs → Post X.K X.mg (DR X) W σ F ι H (f' ds mh) Q → spG X.K X.mg n f vs H Q (WE W σ))
    (hn : ∀ ds mh, ds.length ≠ n → f' ds mh = .stuck) (hg : Gl X x := by rfl)
    (hdb : (x == ("__debug__" : Str)) = false := by decide) (he : starEach (e :: es) X.env = (false, eval e X.env) :: starEach es X.env := by rfl) (hpl : (backTo pos (starEach es X.env)).any (·.1) = false := by rfl) :
    JE X W (.Call (.Name x p) (e :: es) [] pos) (cL f' g) := by
  obtain ⟨a, fd, ps, m, kp, b, hl, F⟩ := d.ex
  obtain ⟨t, pa, q⟩ := ha.ex
  refine ⟨_, pe_callS F (c.hr.mono hk) hg m kp b (fun σ => passAt c.tk σ) pa hdb he hpl, fun ρ mh F ι σ H Q sr er h => ?_⟩
  refine q ρ mh F ι σ H _ sr er (h.bind.mono fun xs H1 ⟨F1, ι1, d1, m1, st1, sr1, r1, h1⟩ => ?_)
  by_cases hx : xs.length = n
  · exact hsp F1 ι1 m1 σ H1 d1 xs Q hx sr1 r1 h1
  · rw [hn d1 m1 (by rw [DVs.length r1]; exact hx)] at h1
    exact h1.elim
/-- the arguments' number is checked -/
def ar (n : Nat) (f : Fn) : Fn := fun ds mh => if ds.length = n then f ds mh else .stuck
theorem j_call {g : CA} (d : Def X.prog X.w X.K X.mg X.base j x n f) (c : Cc k X W) (ha : JA X W (e :: es) g) (hk : j ≤ k := by omega) (hg : Gl X x := by rfl)
    (hdb : (x == ("__debug__" : Str)) = false := by decide) (he : starEach (e :: es) X.env = (false, eval e X.env) :: starEach es X.env := by rfl) (hpl : (backTo pos (starEach es X.env)).any (·.1) = false := by rfl) :
    JE X W (.Call (.Name x p) (e :: es) [] pos) (cL (ar n f) g) :=
  j_callAny d c hk ha (fun F ι mh σ H ds vs Q hn sr r h => sp_call hn sr r (by unfold ar at h; rw [if_pos (by rw [DVs.length r]; exact hn)] at h; exact h)) (fun ds mh hx => if_neg hx) hg hdb he hpl
theorem j_callP {g : CA} (d : Def X.prog X.w X.K X.mg X.base j x n f) (c : Cc k X W) (ha : JA X W (e :: es) g) (hk : j ≤ k := by omega) (hg : Gl X x := by rfl)
    (hdb : (x == ("__debug__" : Str)) = false := by decide) (he : starEach (e :: es) X.env = (false, eval e X.env) :: starEach es X.env := by rfl) (hpl : (backTo pos (starEach es X.env)).any (·.1) = false := by rfl) :
    JE X W (.Call (.Name x p) (e :: es) [] pos) (cL (ar n (oP f)) g) :=
  j_callAny d c hk ha (fun F ι mh σ H ds vs Q hn sr r h => sp_callP hn sr r (by unfold ar at h; rw [if_pos (by rw [DVs.length r]; exact hn)] at h; exact h)) (fun ds mh hx => if_neg hx) hg hdb he hpl
end

/-! ### the law's end -/
theorem dvs_ints {K : PySem.W.Frag} {mg : Str → Option Value} {F : Addr → Prop} {ι : List Addr} {H : Hp} : ∀ ns : List Int, DVs K mg F ι H (ns.map D.int) (ns.map V.int)
  | [] => .nil
  | n :: ns => .cons (.int n) (dvs_ints ns)
theorem sp_law {K : PySem.W.Frag} {mg : Str → Option Value} {f : Fn} {H : Hp} {a : Addr} {ns : List Int} (hs : SqL K H a (ns.map V.int)) (h : ∃ mh, f [.lst (ns.map D.int)] [] = .ok (.bl true) mh) :
    spG K mg 1 f [.ref a] H (fun v _ => v = .bl true) (fun _ _ _ => False) := by
  obtain ⟨mh, e⟩ := h
  refine ⟨rfl, [.lst (ns.map D.int)], fun _ => False, [], [], ⟨rfl, List.nodup_nil, fun n o a e => by simp at e, fun a z => by simp at z, fun a z => z.elim⟩, .cons (.lst ?_ (dvs_ints ns)) .nil, ?_⟩
  · rcases hs with hs | hs
    · exact .inl ⟨hs, fun z => z⟩
    · exact .inr hs
  · rw [e]
    intro F' ι' H' b st sr r
    cases r
    rfl
theorem walk {l : PySem.W.OpenLaw} {q : Program} {loose : List Str} {XP : (Str → Option Value) → Heap → Prop} {YP : World → Heap → Prop} {d : DefRec} {K : Params → PySem.W.Frag} {k : Nat} {x : Str} {f : Fn} (hn : l.most = some 63) (hdf : d.params.defaults = []) (hr : Room k callerA)
    (hY : ∀ (w : World) (h : Heap), YP w h → (K w.params).In h)
    (hf : ∀ ns : List Int, ns.length ≤ 63 → ∃ mh, f [.lst (ns.map D.int)] [] = .ok (.bl true) mh)
    (F : ∀ (w : World) (mg : Str → Option Value) (fa : Addr) (h : Heap), (K w.params).In h → h.Ns mainGlobals mg → mg d.name = some (.ref fa) →
      ∃ fd : FuncData, (∀ (s : Shared) (u : Value), BindsTo s fd ⟨[u], []⟩ [(x, u)]) ∧ ∃ mg', ∀ base : Heap, (K w.params).In base → base.Ns mainGlobals mg → FnOk l.prog w (K w.params) mg base (L2.CX l.prog w) k fa fd [x] (spG (K w.params) mg' 1 f)) :
    PySem.W.WalkO q loose XP YP l.row.toRowW d [] (fun f vs => PySem.call f vs) :=
  L2.walk_of (n := 63) (k := k) (x := x) (CX := fun w => L2.CX l.prog w) (K := K) (sp := fun w vs H Q E => ∀ mg', spG (K w.params) mg' 1 f vs H Q E) hn (by decide) hdf hr hY
    (fun w mg fa h h1 h2 h3 => by
      obtain ⟨fd, b, mg', hF⟩ := F w mg fa h h1 h2 h3
      exact ⟨fd, b, fun base i1 i2 => (hF base i1 i2).imp fun vs H Q E z => z mg'⟩)
    (fun w H a ns hl _ hs mg' => sp_law hs (hf ns hl)) (fun w H s e s' z => by
      obtain ⟨_, _, _, _, _, _, _, _, _, _, _, _, z⟩ := z
      exact z.elim)
end G

/-! Part E: what operators and built-ins are worth. -/
namespace G
open PySem PySem.Spec PyProof.Rows L2

/-! ### list + list, whatever lists -/
def rCatS (K : PySem.W.Frag) : R2 := fun x y H Q => ∃ l b xs zs, x = .ref l ∧ y = .ref b ∧ SqL K H l xs ∧ SqL K H b zs ∧ xs.length + zs.length ≤ sizeLine ∧ ∀ p, H p = none → Q (.ref p) (upd H p (.lst (xs ++ zs)))
theorem op_catS {X : Cx} : OpR X (binaryOp .Add) (rCatS X.K) := by
  intro pins s σ H x y v u Q I rx ry h
  obtain ⟨l, b, xs, zs, rfl, rfl, hH, hB, hz, q⟩ := h
  cases rx
  cases ry
  obtain ⟨its, r, p, _⟩ := I.list hH
  obtain ⟨its2, r2, p2, _⟩ := I.list hB
  obtain ⟨⟨cls, dd, data, sl⟩, n, ho, hc, hdn, hd⟩ := p
  obtain ⟨⟨cls2, dd2, data2, sl2⟩, n2, ho2, hc2, hdn2, hd2⟩ := p2
  simp only at hc hd hc2 hd2
  subst hc hd hc2 hd2
  have e : its.toArray ++ its2.toArray = (its ++ its2).toArray := by simp
  have hl := r.length
  have hl2 := r2.length
  refine concat_meets ⟨_, ho, rfl⟩ ⟨_, ho2, rfl⟩ noFill_list_add seq_list_add PySem.F.slot_list_add PySem.F.entry_list_add (PySem.F.args_list_add_2 _ _) (list_addW l b its.toArray its2.toArray n n2 dd dd2 sl sl2 (by simp; omega)) ⟨ho, ho2, ?_⟩
  rw [e]
  exact ⟨.ref _, _, I.lnew (t' := s.toks) (r.append r2) (by rw [List.length_append]; omega), rfl, q _ I.fresh⟩

/-! ### reading a data value -/
/-- the items of a list, live or not -/
def lstOf (mh : List O) (d : D) : Option (List D) := match d with
  | .lst ds => some ds
  | .ref n => match mh[n]? with
    | some (.lst ds) => some ds
    | _ => none
  | _ => none
section
variable {X : Cx} {F : Addr → Prop} {ι : List Addr} {mh : List O} {H : Hp}
theorem lstOf_ok {d : D} {v : V} {ds : List D} (sr : SR X.K X.mg F ι mh H) (r : DV X.K X.mg F ι H d v) (e : lstOf mh d = some ds) : ∃ a vs, v = .ref a ∧ SqL X.K H a vs ∧ DVs X.K X.mg F ι H ds vs := by
  unfold lstOf at e
  split at e
  · cases e
    cases r with
    | lst h r => exact ⟨_, _, rfl, SqL_of h, r⟩
  · rename_i n
    split at e
    · rename_i ds' hn
      cases e
      cases r with
      | ref ea =>
        cases sr.ob _ _ _ hn ea with
        | lst h r => exact ⟨_, _, rfl, .inl (.inl h), r⟩
    · cases e
  · cases e
def toPl (g : D → Option PyData) : List D → Option (List PyData)
  | [] => some []
  | d :: ds => match g d, toPl g ds with
    | some x, some xs => some (x :: xs)
    | _, _ => none
/-- a data value at any depth, as the layer's == has it -/
def toP (mh : List O) : Nat → D → Option PyData
  | 0, _ => none
  | n + 1, d => match d with
    | .non => some .none
    | .bl b => some (.bool b)
    | .int i => some (.int i)
    | .str x => if PyData.strOk x = true then some (.str x) else none
    | .tup ds => (toPl (toP mh n) ds).map .tuple
    | .lst ds => (toPl (toP mh n) ds).map .list
    | .ref m => match mh[m]? with
      | some (.lst ds) => (toPl (toP mh n) ds).map .list
      | _ => none
    | _ => none
theorem toP_ok (sr : SR X.K X.mg F ι mh H) : ∀ (n : Nat) (d : D) (v : V) (p : PyData), DV X.K X.mg F ι H d v → toP mh n d = some p → Dp X.K H v p ∧ PyData.canLay0 p = true ∧ p.depth ≤ n := by
  intro n
  induction n with
  | zero => intro d v p _ e; cases e
  | succ n ih =>
    have all : ∀ (ds : List D) (vs : List V) (ps : List PyData), DVs X.K X.mg F ι H ds vs → toPl (toP mh n) ds = some ps → DpAll X.K H vs ps ∧ PyData.canLayAll0 ps = true ∧ PyData.depthAll ps ≤ n := by
      intro ds
      induction ds with
      | nil => intro vs ps h e; cases h; cases e; exact ⟨.nil, by simp [PyData.canLayAll0], by simp [PyData.depthAll]⟩
      | cons d ds ihl =>
        intro vs ps h e
        cases h with
        | cons h t =>
          unfold toPl at e
          split at e
          · rename_i x xs e1 e2
            cases e
            obtain ⟨a1, a2, a3⟩ := ih _ _ _ h e1
            obtain ⟨b1, b2, b3⟩ := ihl _ _ t e2
            exact ⟨.cons a1 b1, by simp [PyData.canLayAll0, a2, b2], by simp only [PyData.depthAll]; omega⟩
          · cases e
    intro d v p h e
    cases h with
    | non => cases e; exact ⟨.non, by simp [PyData.canLay0], by simp [PyData.depth]⟩
    | bl b => cases e; exact ⟨.bl b, by simp [PyData.canLay0], by simp [PyData.depth]⟩
    | int i => cases e; exact ⟨.int i, by simp [PyData.canLay0], by simp [PyData.depth]⟩
    | str x =>
      have e : (if PyData.strOk x = true then some (PyData.str x) else none) = some p := e
      split at e
      · rename_i hx
        cases e
        exact ⟨.str x, by simp [PyData.canLay0, hx], by simp [PyData.depth]⟩
      · cases e
    | tup h r =>
      obtain ⟨ps, e1, rfl⟩ := Option.map_eq_some_iff.mp e
      obtain ⟨b1, b2, b3⟩ := all _ _ _ r e1
      exact ⟨.tup (.inl h) b1, by simpa [PyData.canLay0] using b2, by simp only [PyData.depth]; omega⟩
    | lst h r =>
      obtain ⟨ps, e1, rfl⟩ := Option.map_eq_some_iff.mp e
      obtain ⟨b1, b2, b3⟩ := all _ _ _ r e1
      exact ⟨.lst (SqL_of h) b1, by simpa [PyData.canLay0] using b2, by simp only [PyData.depth]; omega⟩
    | @ref m a ea =>
      have e : (match mh[m]? with
        | some (.lst ds) => (toPl (toP mh n) ds).map .list
        | _ => none) = some p := e
      split at e
      · rename_i ds q
        obtain ⟨ps, e1, rfl⟩ := Option.map_eq_some_iff.mp e
        cases sr.ob _ _ _ q ea with
        | lst h r =>
          obtain ⟨b1, b2, b3⟩ := all _ _ _ r e1
          exact ⟨.lst (.inl (.inl h)) b1, by simpa [PyData.canLay0] using b2, by simp only [PyData.depth]; omega⟩
      · cases e
    | ty n => cases e
    | glb m r => cases e
    | dic h n e0 r => cases e
    | obj h n m e0 r => cases e
theorem shaped_of {p : PyData} (h : PyData.canLay0 p = true) (h2 : p.depth ≤ 16) : SeqAt.shaped p = true := by
  unfold SeqAt.shaped
  rw [h, Bool.true_and]
  exact decide_eq_true (by omega)
end

/-! ### ints -/
def oAdd (d e : D) (mh : List O) : Res D := match d, e with
  | .int i, .int j => .ok (.int (i + j)) mh
  | .str x, .str y => if x.length + y.length ≤ sizeLine then .ok (.str (x ++ y)) mh else .stuck
  | .tup xs, .tup ys => if xs.length + ys.length ≤ sizeLine then .ok (.tup (xs ++ ys)) mh else .stuck
  | d, e => match lstOf mh d, lstOf mh e with
    | some xs, some ys => if xs.length + ys.length ≤ sizeLine then .ok (.lst (xs ++ ys)) mh else .stuck
    | _, _ => .stuck
def oSub (d e : D) (mh : List O) : Res D := match d, e with
  | .int i, .int j => .ok (.int (i - j)) mh
  | _, _ => .stuck
def mulOk (i j : Int) : Prop := ((-(2 ^ 64) < i ∧ i < 2 ^ 64) ∨ (-(2 ^ 64) < j ∧ j < 2 ^ 64)) ∨ i.natAbs.log2 + j.natAbs.log2 < 1000000
instance (i j : Int) : Decidable (mulOk i j) := by unfold mulOk; infer_instance
def oMul (d e : D) (mh : List O) : Res D := match d, e with
  | .int i, .int j => if mulOk i j then .ok (.int (i * j)) mh else .stuck
  | _, _ => .stuck
def divOk (j : Int) : Prop := 0 < j ∧ j.natAbs.log2 < 9000
instance (j : Int) : Decidable (divOk j) := by unfold divOk; infer_instance
def oFdiv (d e : D) (mh : List O) : Res D := match d, e with
  | .int i, .int j => if divOk j then .ok (.int (i / j)) mh else .stuck
  | _, _ => .stuck
def oMod (d e : D) (mh : List O) : Res D := match d, e with
  | .int i, .int j => if 0 < j then .ok (.int (i % j)) mh else .stuck
  | _, _ => .stuck
def powOk (i j : Int) : Prop := 0 ≤ j ∧ j ≤ 1000000 ∧ i.natAbs < 2 ^ 64
instance (i j : Int) : Decidable (powOk i j) := by unfold powOk; infer_instance
def oPow (d e : D) (mh : List O) : Res D := match d, e with
  | .int i, .int j => if powOk i j then .ok (.int (i ^ j.toNat)) mh else .stuck
  | _, _ => .stuck
def oShr (d e : D) (mh : List O) : Res D := match d, e with
  | .int i, .int j => if 0 ≤ j then .ok (.int (i / 2 ^ j.toNat)) mh else .stuck
  | _, _ => .stuck
def oNeg (d : D) (mh : List O) : Res D := match d with
  | .int i => .ok (.int (-i)) mh
  | _ => .stuck
def rAddG (K : PySem.W.Frag) : R2 := fun x y H Q => rI0 (fun i j => .int (i + j)) x y H Q ∨ (∃ i j, x = .str i ∧ y = .str j ∧ i.length + j.length ≤ sizeLine ∧ Q (.str (i ++ j)) H) ∨ rCatA K x y H Q ∨ rCatS K x y H Q
section
variable {X : Cx}
theorem op_addG : OpR X (binaryOp .Add) (rAddG X.K) := op_add.or (op_add_str.or (op_catA.or op_catS))
theorem vo_add : VO2 X (rAddG X.K) oAdd := by
  intro W σ F ι mh H d e v u Q sr r1 r2 h
  unfold oAdd at h
  split at h
  · cases r1; cases r2
    exact .inl ⟨_, _, rfl, rfl, h.ok sr (.int _)⟩
  · split at h
    · rename_i hl
      cases r1; cases r2
      exact .inr (.inl ⟨_, _, rfl, rfl, hl, h.ok sr (.str _)⟩)
    · exact h.elim
  · split at h
    · rename_i xs ys hl
      cases r1 with
      | tup h1 q1 =>
        cases r2 with
        | tup h2 q2 =>
          refine .inr (.inr (.inl ⟨_, _, _, _, rfl, rfl, .inl h1, .inl h2, by rw [← q1.length, ← q2.length]; exact hl, fun e => ?_, fun _ e => ?_, fun _ _ p hp => ?_⟩))
          · subst e
            cases q1
            exact h F ι H _ Step.refl sr (.tup h2 q2)
          · subst e
            cases q2
            rw [List.append_nil] at h
            exact h F ι H _ Step.refl sr (.tup h1 q1)
          · rename_i a1 vs1 a2 vs2 _ _
            have st := step_new (F := F) (ι := ι) (u := .tup (vs1 ++ vs2)) hp
            exact h F ι _ _ st (sr.fresh hp) (.tup (.inl upd_same) ((DVs.to sr.sub st _ _ q1).append (DVs.to sr.sub st _ _ q2)))
    · exact h.elim
  · split at h
    · rename_i xs ys e1 e2
      split at h
      · rename_i hl
        obtain ⟨a, vs, rfl, s1, q1⟩ := lstOf_ok sr r1 e1
        obtain ⟨b, ws, rfl, s2, q2⟩ := lstOf_ok sr r2 e2
        refine .inr (.inr (.inr ⟨_, _, _, _, rfl, rfl, s1, s2, by rw [← q1.length, ← q2.length]; exact hl, fun p hp => ?_⟩))
        have st := step_new (F := F) (ι := ι) (u := .lst (vs ++ ws)) hp
        exact h F ι _ _ st (sr.fresh hp) (.lst (.inl ⟨.inl upd_same, sr.notNew hp⟩) ((DVs.to sr.sub st _ _ q1).append (DVs.to sr.sub st _ _ q2)))
      · exact h.elim
    · exact h.elim
theorem vo_sub : VO2 X (rI0 fun i j => .int (i - j)) oSub := by
  intro W σ F ι mh H d e v u Q sr r1 r2 h
  unfold oSub at h
  split at h
  · cases r1; cases r2
    exact ⟨_, _, rfl, rfl, h.ok sr (.int _)⟩
  · exact h.elim
def rMulG : R2 := fun x y H Q => rI CMul (fun i j => .int (i * j)) x y H Q ∨ rI CMulW (fun i j => .int (i * j)) x y H Q
theorem op_mulG : OpR X (binaryOp .Mult) rMulG := op_mul.or op_mulW
theorem vo_mul : VO2 X rMulG oMul := by
  intro W σ F ι mh H d e v u Q sr r1 r2 h
  unfold oMul at h
  split at h
  · split at h
    · rename_i hm
      cases r1; cases r2
      rcases hm with hm | hm
      · exact .inl ⟨_, _, rfl, rfl, hm, h.ok sr (.int _)⟩
      · exact .inr ⟨_, _, rfl, rfl, hm, h.ok sr (.int _)⟩
    · exact h.elim
  · exact h.elim
theorem vo_fdiv : VO2 X (rI CDivW fun i j => .int (i / j)) oFdiv := by
  intro W σ F ι mh H d e v u Q sr r1 r2 h
  unfold oFdiv at h
  split at h
  · split at h
    · rename_i hm
      cases r1; cases r2
      exact ⟨_, _, rfl, rfl, hm, h.ok sr (.int _)⟩
    · exact h.elim
  · exact h.elim
theorem vo_mod : VO2 X (rI (fun _ j => 0 < j) fun i j => .int (i % j)) oMod := by
  intro W σ F ι mh H d e v u Q sr r1 r2 h
  unfold oMod at h
  split at h
  · split at h
    · rename_i hm
      cases r1; cases r2
      exact ⟨_, _, rfl, rfl, hm, h.ok sr (.int _)⟩
    · exact h.elim
  · exact h.elim
theorem vo_pow : VO2 X (rI CPow fun i j => .int (i ^ j.toNat)) oPow := by
  intro W σ F ι mh H d e v u Q sr r1 r2 h
  unfold oPow at h
  split at h
  · split at h
    · rename_i hm
      cases r1; cases r2
      exact ⟨_, _, rfl, rfl, hm, h.ok sr (.int _)⟩
    · exact h.elim
  · exact h.elim
theorem vo_shr : VO2 X (rI (fun _ j => 0 ≤ j) fun i j => .int (i / 2 ^ j.toNat)) oShr := by
  intro W σ F ι mh H d e v u Q sr r1 r2 h
  unfold oShr at h
  split at h
  · split at h
    · rename_i hm
      cases r1; cases r2
      exact ⟨_, _, rfl, rfl, hm, h.ok sr (.int _)⟩
    · exact h.elim
  · exact h.elim
theorem vo_neg : VO1 X (rU fun i => .int (-i)) oNeg := by
  intro W σ F ι mh H d v Q sr r1 h
  unfold oNeg at h
  split at h
  · cases r1
    exact ⟨_, rfl, h.ok sr (.int _)⟩
  · exact h.elim
end

/-! ### comparisons -/
def intsOf : List D → Option (List Int)
  | [] => some []
  | .int i :: ds => (intsOf ds).map (i :: ·)
  | _ => none
theorem intsOf_ok {K : PySem.W.Frag} {mg : Str → Option Value} {F : Addr → Prop} {ι : List Addr} {H : Hp} : ∀ {ds : List D} {vs : List V} {ns : List Int}, DVs K mg F ι H ds vs → intsOf ds = some ns → vs = ns.map V.int ∧ ds = ns.map D.int
  | [], _, _, h, e => by cases h; cases e; exact ⟨rfl, rfl⟩
  | .int i :: ds, _, _, h, e => by
    obtain ⟨ns, e1, rfl⟩ := Option.map_eq_some_iff.mp e
    cases h with
    | cons h t =>
      cases h
      obtain ⟨a, b⟩ := intsOf_ok t e1
      exact ⟨by rw [a]; rfl, by rw [b]; rfl⟩
  | .non :: _, _, _, _, e => by cases e
  | .bl _ :: _, _, _, _, e => by cases e
  | .str _ :: _, _, _, _, e => by cases e
  | .ty _ :: _, _, _, _, e => by cases e
  | .glb _ :: _, _, _, _, e => by cases e
  | .ref _ :: _, _, _, _, e => by cases e
  | .tup _ :: _, _, _, _, e => by cases e
  | .lst _ :: _, _, _, _, e => by cases e
  | .dic _ _ :: _, _, _, _, e => by cases e
  | .obj _ _ _ :: _, _, _, _, e => by cases e
theorem intsOf_map : ∀ ns : List Int, intsOf (ns.map D.int) = some ns
  | [] => rfl
  | n :: ns => by show (intsOf (ns.map D.int)).map (n :: ·) = _; rw [intsOf_map ns]; rfl
def oLt (d e : D) (mh : List O) : Res D := match d, e with
  | .int i, .int j => .ok (.bl (decide (i < j))) mh
  | .str x, .str y => .ok (.bl (decide (x.cps.toList < y.cps.toList))) mh
  | .tup xs, .tup ys => match intsOf xs, intsOf ys with
    | some ns, some ms => .ok (.bl (HT.lexLt ns ms)) mh
    | _, _ => .stuck
  | _, _ => .stuck
def oLe (d e : D) (mh : List O) : Res D := match d, e with
  | .int i, .int j => .ok (.bl (decide (i ≤ j))) mh
  | .str x, .str y => .ok (.bl (!decide (y.cps.toList < x.cps.toList))) mh
  | _, _ => .stuck
def oGt (d e : D) (mh : List O) : Res D := match d, e with
  | .int i, .int j => .ok (.bl (decide (j < i))) mh
  | _, _ => .stuck
def oGe (d e : D) (mh : List O) : Res D := match d, e with
  | .int i, .int j => .ok (.bl (decide (j ≤ i))) mh
  | _, _ => .stuck
def oEq (d e : D) (mh : List O) : Res D := match toP mh 12 d, toP mh 12 e with
  | some p, some q => .ok (.bl (PyData.eqv p q)) mh
  | _, _ => .stuck
def oNe (d e : D) (mh : List O) : Res D := match toP mh 12 d, toP mh 12 e with
  | some p, some q => .ok (.bl (!PyData.eqv p q)) mh
  | _, _ => .stuck
def isNon : D → Bool
  | .non => true
  | _ => false
def oIs (d e : D) (mh : List O) : Res D := match d, e with
  | d, .non => .ok (.bl (isNon d)) mh
  | .bl a, .bl b => .ok (.bl (decide (a = b))) mh
  | _, _ => .stuck
def oIsNot (d e : D) (mh : List O) : Res D := match d, e with
  | d, .non => .ok (.bl (!isNon d)) mh
  | .bl a, .bl b => .ok (.bl (!decide (a = b))) mh
  | _, _ => .stuck
def rLtG (K : PySem.W.Frag) : R2 := fun x y H Q => rI0 (fun i j => .bl (decide (i < j))) x y H Q ∨ (∃ i j, x = .str i ∧ y = .str j ∧ Q (.bl (decide (i.cps.toList < j.cps.toList))) H) ∨ rLtT K x y H Q
def rLeG : R2 := fun x y H Q => rI0 (fun i j => .bl (decide (i ≤ j))) x y H Q ∨ (∃ i j, x = .str i ∧ y = .str j ∧ Q (.bl (!decide (j.cps.toList < i.cps.toList))) H)
def rIsG : R2 := fun x y H Q => (y = .non ∧ Q (.bl (decide (x = .non))) H) ∨ rIsB x y H Q
def rNotG : R2 := fun x y H Q => (y = .non ∧ Q (.bl (!decide (x = .non))) H) ∨ rNotB x y H Q
section
variable {X : Cx}
theorem op_ltG (hu : X.A.units + 64 < cLine) : OpR X (compareOp .Lt) (rLtG X.K) := op_lt.or (op_lt_str.or (op_ltT (by omega)))
theorem op_leG : OpR X (compareOp .LtE) rLeG := op_le.or op_le_str
theorem op_isG : OpR X (compareOp .Is) rIsG := op_isN.or op_isBl
theorem op_notG : OpR X (compareOp .IsNot) rNotG := op_notN.or op_notBl
theorem vo_lt : VO2 X (rLtG X.K) oLt := by
  intro W σ F ι mh H d e v u Q sr r1 r2 h
  unfold oLt at h
  split at h
  · cases r1; cases r2
    exact .inl ⟨_, _, rfl, rfl, h.ok sr (.bl _)⟩
  · cases r1; cases r2
    exact .inr (.inl ⟨_, _, rfl, rfl, h.ok sr (.bl _)⟩)
  · split at h
    · rename_i ns ms e1 e2
      cases r1 with
      | tup h1 q1 =>
        cases r2 with
        | tup h2 q2 =>
          obtain ⟨a, _⟩ := intsOf_ok q1 e1
          obtain ⟨b, _⟩ := intsOf_ok q2 e2
          subst a b
          exact .inr (.inr ⟨_, _, _, _, rfl, rfl, .inl h1, .inl h2, h.ok sr (.bl _)⟩)
    · exact h.elim
  · exact h.elim
theorem vo_le : VO2 X rLeG oLe := by
  intro W σ F ι mh H d e v u Q sr r1 r2 h
  unfold oLe at h
  split at h
  · cases r1; cases r2
    exact .inl ⟨_, _, rfl, rfl, h.ok sr (.bl _)⟩
  · cases r1; cases r2
    exact .inr ⟨_, _, rfl, rfl, h.ok sr (.bl _)⟩
  · exact h.elim
theorem vo_gt : VO2 X (rI0 fun i j => .bl (decide (j < i))) oGt := by
  intro W σ F ι mh H d e v u Q sr r1 r2 h
  unfold oGt at h
  split at h
  · cases r1; cases r2
    exact ⟨_, _, rfl, rfl, h.ok sr (.bl _)⟩
  · exact h.elim
theorem vo_ge : VO2 X (rI0 fun i j => .bl (decide (j ≤ i))) oGe := by
  intro W σ F ι mh H d e v u Q sr r1 r2 h
  unfold oGe at h
  split at h
  · cases r1; cases r2
    exact ⟨_, _, rfl, rfl, h.ok sr (.bl _)⟩
  · exact h.elim
theorem vo_eq : VO2 X (rEqD X.K) oEq := by
  intro W σ F ι mh H d e v u Q sr r1 r2 h
  unfold oEq at h
  split at h
  · rename_i p q e1 e2
    obtain ⟨a1, a2, a3⟩ := toP_ok sr _ _ _ _ r1 e1
    obtain ⟨b1, b2, b3⟩ := toP_ok sr _ _ _ _ r2 e2
    exact ⟨p, q, a1, b1, shaped_of a2 (by omega), shaped_of b2 (by omega), h.ok sr (.bl _)⟩
  · exact h.elim
theorem vo_ne : VO2 X (rNeD X.K) oNe := by
  intro W σ F ι mh H d e v u Q sr r1 r2 h
  unfold oNe at h
  split at h
  · rename_i p q e1 e2
    obtain ⟨a1, a2, a3⟩ := toP_ok sr _ _ _ _ r1 e1
    obtain ⟨b1, b2, b3⟩ := toP_ok sr _ _ _ _ r2 e2
    exact ⟨p, q, a1, b1, shaped_of a2 (by omega), shaped_of b2 (by omega), h.ok sr (.bl _)⟩
  · exact h.elim
theorem isNon_ok {F : Addr → Prop} {ι : List Addr} {H : Hp} {d : D} {v : V} (r : DV X.K X.mg F ι H d v) (hg : ∀ x, d ≠ .glb x) : decide (v = .non) = isNon d := by
  cases r <;> first | rfl | (simp [isNon]; done) | exact absurd rfl (hg _)
end
/-- not a name of the module -/
def notG : D → Bool
  | .glb _ => false
  | _ => true
theorem notG_ne {d : D} (h : notG d = true) : ∀ x, d ≠ .glb x := fun x e => by rw [e] at h; cases h
def oIsX (d e : D) (mh : List O) : Res D := if notG d = true then oIs d e mh else .stuck
def oIsNotX (d e : D) (mh : List O) : Res D := if notG d = true then oIsNot d e mh else .stuck
section
variable {X : Cx}
theorem vo_is : VO2 X rIsG oIsX := by
  intro W σ F ι mh H d e v u Q sr r1 r2 h
  unfold oIsX at h
  split at h
  · rename_i hg
    unfold oIs at h
    split at h
    · cases r2
      refine .inl ⟨rfl, ?_⟩
      rw [isNon_ok r1 (notG_ne hg)]
      exact h.ok sr (.bl _)
    · cases r1; cases r2
      exact .inr ⟨_, _, rfl, rfl, h.ok sr (.bl _)⟩
    · exact h.elim
  · exact h.elim
theorem vo_isNot : VO2 X rNotG oIsNotX := by
  intro W σ F ι mh H d e v u Q sr r1 r2 h
  unfold oIsNotX at h
  split at h
  · rename_i hg
    unfold oIsNot at h
    split at h
    · cases r2
      refine .inl ⟨rfl, ?_⟩
      rw [isNon_ok r1 (notG_ne hg)]
      exact h.ok sr (.bl _)
    · cases r1; cases r2
      exact .inr ⟨_, _, rfl, rfl, h.ok sr (.bl _)⟩
    · exact h.elim
  · exact h.elim
end

/-! ### an item at a place -/
def oIx (d e : D) (mh : List O) : Res D := match d, e with
  | .tup xs, .int i => match atI xs i with
    | some x => .ok x mh
    | none => .stuck
  | .str z, .int i => if z.length ≤ sizeLine then (match atI z.cps.toList i with
    | some c => .ok (.str ⟨#[c]⟩) mh
    | none => .stuck) else .stuck
  | d, .int i => match lstOf mh d with
    | some xs => match atI xs i with
      | some x => .ok x mh
      | none => .stuck
    | none => .stuck
  | _, _ => .stuck
section
variable {X : Cx} {F : Addr → Prop} {ι : List Addr} {H : Hp}
theorem atI_V {ds : List D} {vs : List V} {i : Int} {d : D} (r : DVs X.K X.mg F ι H ds vs) (e : atI ds i = some d) : ∃ v, atI vs i = some v ∧ DV X.K X.mg F ι H d v := by
  unfold atI at e ⊢
  rw [← r.length]
  cases q : ixN ds.length i with
  | none => rw [q] at e; cases e
  | some j =>
    rw [q] at e
    exact r.get e
theorem vo_ix : VO2 X (rIx X.K) oIx := by
  intro W σ F ι mh H d e v u Q sr r1 r2 h
  unfold oIx at h
  split at h
  · split at h
    · rename_i x hx
      cases r1 with
      | tup h1 q1 =>
        cases r2
        obtain ⟨v, e1, rv⟩ := atI_V q1 hx
        exact .inr (.inl ⟨_, _, _, _, rfl, rfl, .inl h1, e1, h.ok sr rv⟩)
    · exact h.elim
  · split at h
    · rename_i hz
      split at h
      · rename_i c hc
        cases r1; cases r2
        exact .inr (.inr ⟨_, _, _, rfl, rfl, hz, hc, h.ok sr (.str _)⟩)
      · exact h.elim
    · exact h.elim
  · split at h
    · rename_i xs e1
      split at h
      · rename_i x hx
        cases r2
        obtain ⟨a, vs, rfl, s1, q1⟩ := lstOf_ok sr r1 e1
        obtain ⟨v, e1, rv⟩ := atI_V q1 hx
        exact .inl ⟨_, _, _, _, rfl, rfl, s1, e1, h.ok sr rv⟩
      · exact h.elim
    · exact h.elim
  · exact h.elim
end

/-! ### built-ins -/
def oAbs (ds : List D) (mh : List O) : Res D := match ds with
  | [.int i] => .ok (.int (if i < 0 then -i else i)) mh
  | _ => .stuck
def oMax2 (ds : List D) (mh : List O) : Res D := match ds with
  | [.int i, .int j] => .ok (.int (if j > i then j else i)) mh
  | _ => .stuck
def oMin2 (ds : List D) (mh : List O) : Res D := match ds with
  | [.int i, .int j] => .ok (.int (if j < i then j else i)) mh
  | _ => .stuck
def oInt (ds : List D) (mh : List O) : Res D := match ds with
  | [.int i] => .ok (.int i) mh
  | [.bl b] => .ok (.int (if b then 1 else 0)) mh
  | _ => .stuck
def oLen (ds : List D) (mh : List O) : Res D := match ds with
  | [.str x] => if x.length ≤ sizeLine then .ok (.int x.length) mh else .stuck
  | [.tup xs] => .ok (.int xs.length) mh
  | [d] => match lstOf mh d with
    | some xs => .ok (.int xs.length) mh
    | none => .stuck
  | _ => .stuck
def tyN (mh : List O) : D → Option String
  | .non => some "NoneType"
  | .bl _ => some "bool"
  | .int _ => some "int"
  | .str _ => some "str"
  | .tup _ => some "tuple"
  | .lst _ => some "list"
  | .dic _ _ => some "dict"
  | .ref n => match mh[n]? with
    | some (.lst _) => some "list"
    | some (.dic _ _) => some "dict"
    | _ => none
  | _ => none
def isiT (t n : String) : Bool := t == n || (t == "bool" && n == "int")
def tys : List String := ["NoneType", "bool", "int", "str", "tuple", "list", "dict"]
theorem isi_ok : ∀ t ∈ tys, ∀ n ∈ ["int", "bool", "str", "tuple", "list", "dict"], kitB t n = some (isiT t n) := by decide +kernel
def oIsi (ds : List D) (mh : List O) : Res D := match ds with
  | [d, .ty n] => match tyN mh d with
    | some t => if n ∈ ["int", "bool", "str", "tuple", "list", "dict"] then .ok (.bl (isiT t n)) mh else .stuck
    | none => .stuck
  | _ => .stuck
section
variable {X : Cx}
theorem vo_abs : VOL X (fun xs H Q => ∃ i, xs = [.int i] ∧ Q (.int (if i < 0 then -i else i)) H) oAbs := by
  intro W σ F ι mh H ds vs Q sr r h
  unfold oAbs at h
  split at h
  · cases r with
    | cons r1 r2 => cases r2; cases r1; exact ⟨_, rfl, h.ok sr (.int _)⟩
  · exact h.elim
theorem vo_max2 : VOL X (fun xs H Q => ∃ i j, xs = [.int i, .int j] ∧ Q (.int (if j > i then j else i)) H) oMax2 := by
  intro W σ F ι mh H ds vs Q sr r h
  unfold oMax2 at h
  split at h
  · cases r with
    | cons r1 r2 => cases r2 with | cons r2 r3 => cases r3; cases r1; cases r2; exact ⟨_, _, rfl, h.ok sr (.int _)⟩
  · exact h.elim
theorem vo_min2 : VOL X (fun xs H Q => ∃ i j, xs = [.int i, .int j] ∧ Q (.int (if j < i then j else i)) H) oMin2 := by
  intro W σ F ι mh H ds vs Q sr r h
  unfold oMin2 at h
  split at h
  · cases r with
    | cons r1 r2 => cases r2 with | cons r2 r3 => cases r3; cases r1; cases r2; exact ⟨_, _, rfl, h.ok sr (.int _)⟩
  · exact h.elim
theorem vo_int : VOL X (fun xs H Q => (∃ i, xs = [.int i] ∧ Q (.int i) H) ∨ ∃ k, xs = [.bl k] ∧ Q (.int (if k then 1 else 0)) H) oInt := by
  intro W σ F ι mh H ds vs Q sr r h
  unfold oInt at h
  split at h
  · cases r with
    | cons r1 r2 => cases r2; cases r1; exact .inl ⟨_, rfl, h.ok sr (.int _)⟩
  · cases r with
    | cons r1 r2 => cases r2; cases r1; exact .inr ⟨_, rfl, h.ok sr (.int _)⟩
  · exact h.elim
theorem vo_len : VOL X (fun xs H Q => ∃ x n, xs = [x] ∧ LenV X.K x H n ∧ Q (.int n) H) oLen := by
  intro W σ F ι mh H ds vs Q sr r h
  unfold oLen at h
  split at h
  · split at h
    · rename_i hl
      cases r with
      | cons r1 r2 => cases r2; cases r1; exact ⟨_, _, rfl, ⟨hl, rfl⟩, h.ok sr (.int _)⟩
    · exact h.elim
  · cases r with
    | cons r1 r2 =>
      cases r2
      cases r1 with
      | tup h1 q1 => exact ⟨_, _, rfl, .inr ⟨_, .inl h1, rfl⟩, by rw [← q1.length]; exact h.ok sr (.int _)⟩
  · split at h
    · rename_i xs e1
      cases r with
      | cons r1 r2 =>
        cases r2
        obtain ⟨a, vs, rfl, s1, q1⟩ := lstOf_ok sr r1 e1
        exact ⟨_, _, rfl, .inl ⟨_, s1, rfl⟩, by rw [← q1.length]; exact h.ok sr (.int _)⟩
    · exact h.elim
  · exact h.elim
theorem tyN_ok {F : Addr → Prop} {ι : List Addr} {H : Hp} {mh : List O} {d : D} {v : V} {t : String} (sr : SR X.K X.mg F ι mh H) (r : DV X.K X.mg F ι H d v) (e : tyN mh d = some t) : TyX X.K H v (.type t) ∧ t ∈ tys := by
  have rdL : ∀ {a : Addr} {vs : List V}, Rd H a (.lst vs) → TyX X.K H (.ref a) (.type "list") := fun h => by
    rcases h with h | ⟨o, h⟩
    · exact .base (.lst h)
    · exact .base (.frz h)
  cases r with
  | non => cases e; exact ⟨.base .non, by decide⟩
  | bl b => cases e; exact ⟨.base (.bl b), by decide⟩
  | int i => cases e; exact ⟨.base (.int i), by decide⟩
  | str x => cases e; exact ⟨.base (.str x), by decide⟩
  | tup h r =>
    cases e
    refine ⟨?_, by decide⟩
    rcases h with h | ⟨o, h⟩
    · exact .base (.tup h)
    · exact .fTuple h
  | lst h r =>
    cases e
    refine ⟨?_, by decide⟩
    rcases h with ⟨h, _⟩ | ⟨o, its, n, h1, h2, _⟩
    · exact rdL h
    · exact .kList h1 h2
  | dic h n e0 r =>
    cases e
    refine ⟨?_, by decide⟩
    rcases h with h | ⟨o, h⟩
    · exact .base (.dK h)
    · exact .fDict h
  | @ref m a ea =>
    have e : (match mh[m]? with
      | some (.lst _) => some "list"
      | some (.dic _ _) => some "dict"
      | _ => none) = some t := e
    split at e
    · rename_i ds q
      cases e
      cases sr.ob _ _ _ q ea with
      | lst h r => exact ⟨rdL (.inl h), by decide⟩
    · rename_i ks ds q
      cases e
      cases sr.ob _ _ _ q ea with
      | dic h e0 r => exact ⟨.base (.dK h), by decide⟩
    · cases e
  | ty n => cases e
  | glb m r => cases e
  | obj h n m e0 r => cases e
theorem vo_isi : VOL X (rIsi X.K) oIsi := by
  intro W σ F ι mh H ds vs Q sr r h
  unfold oIsi at h
  split at h
  · split at h
    · rename_i t e
      split at h
      · rename_i hn
        cases r with
        | cons r1 r2 =>
          cases r2 with
          | cons r2 r3 =>
            cases r3
            cases r2
            obtain ⟨ty, ht⟩ := tyN_ok sr r1 e
            exact ⟨_, _, _, _, _, rfl, .ty _, ty, kit_ty (isi_ok _ ht _ hn), h.ok sr (.bl _)⟩
      · exact h.elim
    · exact h.elim
  · exact h.elim
end
theorem bt_abs : bootBuiltins "abs" = some (.builtin "abs") := by decide +kernel
theorem bt_len : bootBuiltins "len" = some (.builtin "len") := by decide +kernel
theorem bt_max : bootBuiltins "max" = some (.builtin "max") := by decide +kernel
theorem bt_min : bootBuiltins "min" = some (.builtin "min") := by decide +kernel
theorem bt_isinstance : bootBuiltins "isinstance" = some (.builtin "isinstance") := by decide +kernel
theorem bt_sorted : bootBuiltins "sorted" = some (.builtin "sorted") := by decide +kernel
theorem bt_sum : bootBuiltins "sum" = some (.builtin "sum") := by decide +kernel
theorem bt_any : bootBuiltins "any" = some (.builtin "any") := by decide +kernel
theorem bt_all : bootBuiltins "all" = some (.builtin "all") := by decide +kernel
theorem bt_divmod : bootBuiltins "divmod" = some (.builtin "divmod") := by decide +kernel
theorem bt_repr : bootBuiltins "repr" = some (.builtin "repr") := by decide +kernel
theorem bt_int : bootBuiltins "int" = some (.type "int") := by decide +kernel
theorem bt_str : bootBuiltins "str" = some (.type "str") := by decide +kernel
theorem bt_list : bootBuiltins "list" = some (.type "list") := by decide +kernel
theorem bt_tuple : bootBuiltins "tuple" = some (.type "tuple") := by decide +kernel
theorem bt_dict : bootBuiltins "dict" = some (.type "dict") := by decide +kernel
theorem bt_bool : bootBuiltins "bool" = some (.type "bool") := by decide +kernel
theorem bt_enumerate : bootBuiltins "enumerate" = some (.type "enumerate") := by decide +kernel
theorem bt_range : bootBuiltins "range" = some (.type "range") := by decide +kernel
theorem bt_zip : bootBuiltins "zip" = some (.type "zip") := by decide +kernel
theorem bt_reversed : bootBuiltins "reversed" = some (.type "reversed") := by decide +kernel
end G

/-! Part F: reckoning with the small machine, in plain Lean. -/
namespace G
open PySem PySem.Spec PyProof.Rows L2

section
variable {ρ : En} {mh : List O} {i j n : Nat} {f g h : CE} {t u : CT} {d e x y : D} {ds es : List D} {a b : CS}
@[simp] theorem cK_eq : cK d ρ mh = .ok d mh := rfl
theorem cVar_eq : cVar i ρ mh = (match ρ[i]? with | some (some d) => .ok d mh | _ => .stuck) := rfl
theorem cVar_at (hh : ρ[i]? = some (some d)) : cVar i ρ mh = .ok d mh := by rw [cVar_eq, hh]
@[simp] theorem c1_eq {o : D → List O → Res D} : c1 o f ρ mh = (f ρ mh).bind o := rfl
@[simp] theorem c2_eq {o : D → D → List O → Res D} : c2 o f g ρ mh = (f ρ mh).bind fun x m => (g ρ m).bind fun y m' => o x y m' := rfl
@[simp] theorem cL_eq {o : List D → List O → Res D} {fa : CA} : cL o fa ρ mh = (fa ρ mh).bind o := rfl
@[simp] theorem cNil_eq : cNil ρ mh = .ok [] mh := rfl
@[simp] theorem cCons_eq {fa : CA} : cCons f fa ρ mh = (f ρ mh).bind fun x m => (fa ρ m).bind fun xs m' => .ok (x :: xs) m' := rfl
@[simp] theorem isB_bl {c : Bool} : isB (.bl c) mh = .ok c mh := rfl
@[simp] theorem cB_eq : cB f ρ mh = (f ρ mh).bind isB := rfl
@[simp] theorem cChain_eq {o o' : D → D → List O → Res D} : cChain o o' f g h ρ mh = (f ρ mh).bind fun x m => (g ρ m).bind fun y m1 => (o x y m1).bind fun z m2 => (isB z m2).bind fun b m3 =>
  if b = true then (h ρ m3).bind fun w m4 => o' y w m4 else .ok (.bl false) m3 := rfl
@[simp] theorem tAnd2_eq : tAnd2 t u ρ mh = (t ρ mh).bind fun b m => if b = true then u ρ m else .ok false m := rfl
@[simp] theorem tOr2_eq : tOr2 t u ρ mh = (t ρ mh).bind fun b m => if b = true then .ok true m else u ρ m := rfl
@[simp] theorem tNot1_eq : tNot1 t ρ mh = (t ρ mh).bind fun b m => .ok (!b) m := rfl
@[simp] theorem cIf_eq : cIf t f g ρ mh = (t ρ mh).bind fun b m => if b = true then f ρ m else g ρ m := rfl
@[simp] theorem cAnd2_eq : cAnd2 f g ρ mh = (f ρ mh).bind fun x m => (isB x m).bind fun b m => if b = true then g ρ m else .ok (.bl false) m := rfl
@[simp] theorem cOr2_eq : cOr2 f g ρ mh = (f ρ mh).bind fun x m => (isB x m).bind fun b m => if b = true then .ok (.bl true) m else g ρ m := rfl
@[simp] theorem cNot1_eq : cNot1 f ρ mh = (f ρ mh).bind fun x m => (isB x m).bind fun b m => .ok (.bl (!b)) m := rfl
@[simp] theorem sNext_eq : sNext ρ mh = .nx ρ mh := rfl
@[simp] theorem sSeq_eq : sSeq a b ρ mh = (a ρ mh).seq b := rfl
@[simp] theorem sIf_eq : sIf t a b ρ mh = (t ρ mh).toS ρ fun c m => if c = true then a ρ m else b ρ m := rfl
@[simp] theorem sRet_eq : sRet f ρ mh = (f ρ mh).toS ρ fun d m => .rt d m := rfl
@[simp] theorem sRetN_eq : sRetN ρ mh = .rt .non mh := rfl
@[simp] theorem sBrk_eq : sBrk ρ mh = .bk ρ mh := rfl
@[simp] theorem sCnt_eq : sCnt ρ mh = .ct ρ mh := rfl
@[simp] theorem sDrop_eq : sDrop f ρ mh = (f ρ mh).toS ρ fun _ m => .nx ρ m := rfl
@[simp] theorem sSet_eq : sSet i f ρ mh = (f ρ mh).toS ρ fun d m => .nx (ρ.set i (some d)) m := rfl
@[simp] theorem sAsg_eq {gg : CG} : sAsg f gg ρ mh = (f ρ mh).toS ρ fun d m => gg d ρ m := rfl
@[simp] theorem gNm_eq : gNm i d ρ mh = .nx (ρ.set i (some d)) mh := rfl
@[simp] theorem gsNil_eq : gsNil [] ρ mh = .nx ρ mh := rfl
@[simp] theorem gsCons_eq {gg : CG} {gs : CGs} : gsCons gg gs (d :: ds) ρ mh = (gg d ρ mh).seq fun ρ' m => gs ds ρ' m := rfl
@[simp] theorem gUnp_eq {gs : CGs} : gUnp n gs (.tup ds) ρ mh = if ds.length = n then gs ds ρ mh else .stuck := rfl
@[simp] theorem sPar_eq {fa : CA} : sPar i j fa ρ mh = (fa ρ mh).toS ρ fun ds m => match ds with
  | [d, e] => .nx ((ρ.set i (some d)).set j (some e)) m
  | _ => .stuck := rfl
@[simp] theorem sFor_eq {it : CI} {tg : CG} : sFor it tg b ρ mh = (it ρ mh).toS ρ fun g m => forL g tg b g.1 ρ m := rfl
@[simp] theorem iL_eq : iL f ρ mh = (f ρ mh).bind oIts := rfl
@[simp] theorem iT_eq : iT f ρ mh = (f ρ mh).bind oItsT := rfl
@[simp] theorem iR1_eq {fa : CA} : iR1 fa ρ mh = (fa ρ mh).bind oRng1 := rfl
@[simp] theorem iR2_eq {fa : CA} : iR2 fa ρ mh = (fa ρ mh).bind oRng2 := rfl
@[simp] theorem oIts_lst : oIts (.lst ds) mh = .ok (ds, none) mh := rfl
@[simp] theorem oItsT_tup : oItsT (.tup ds) mh = .ok (ds, none) mh := rfl
theorem oRng1_ok {k : Int} (h1 : -(2 ^ 62) ≤ k) (h2 : k < 2 ^ 62) : oRng1 [.int k] mh = .ok (rngL 0 k.toNat, none) mh := if_pos ⟨h1, h2⟩
theorem oRng2_ok {k l : Int} (h1 : -(2 ^ 62) ≤ k) (h2 : k < 2 ^ 62) (h3 : -(2 ^ 62) ≤ l) (h4 : l < 2 ^ 62) : oRng2 [.int k, .int l] mh = .ok (rngL k (l - k).toNat, none) mh := if_pos ⟨h1, h2, h3, h4⟩
theorem ar_eq {fn : Fn} : ar n fn ds mh = if ds.length = n then fn ds mh else .stuck := rfl
theorem oP_eq {fn : Fn} (hr : noRefs ds = true) (hf : fn ds [] = .ok d []) : oP fn ds mh = .ok d mh := by
  unfold oP
  rw [if_pos hr, hf]
  rfl
@[simp] theorem noRefs_nil : noRefs [] = true := by simp [noRefs]
@[simp] theorem noRefs_cons : noRefs (d :: ds) = (noRef d && noRefs ds) := by simp [noRefs]
@[simp] theorem noRef_int {k : Int} : noRef (.int k) = true := by simp [noRef]
@[simp] theorem noRef_non : noRef .non = true := by simp [noRef]
@[simp] theorem noRef_bl {c : Bool} : noRef (.bl c) = true := by simp [noRef]
@[simp] theorem noRef_str {z : Str} : noRef (.str z) = true := by simp [noRef]
@[simp] theorem noRef_ty {z : String} : noRef (.ty z) = true := by simp [noRef]
@[simp] theorem noRef_glb {z : Str} : noRef (.glb z) = true := by simp [noRef]
@[simp] theorem noRef_tup : noRef (.tup ds) = noRefs ds := by simp [noRef]
@[simp] theorem noRef_lst : noRef (.lst ds) = noRefs ds := by simp [noRef]
@[simp] theorem noRef_dic {ks : List Key} : noRef (.dic ks ds) = noRefs ds := by simp [noRef]
@[simp] theorem noRef_obj {z : Str} {ns : List Str} : noRef (.obj z ns ds) = noRefs ds := by simp [noRef]
theorem noRefs_all : ∀ {ds : List D}, (∀ d ∈ ds, noRef d = true) → noRefs ds = true
  | [], _ => noRefs_nil
  | d :: ds, h => by rw [noRefs_cons, h d List.mem_cons_self, noRefs_all fun x hx => h x (List.mem_cons_of_mem _ hx)]; rfl
theorem noRefs_map {α : Type} {l : List α} {fn : α → D} (h : ∀ a, a ∈ l → noRef (fn a) = true) : noRefs (l.map fn) = true :=
  noRefs_all fun d hd => by obtain ⟨a, ha, rfl⟩ := List.mem_map.mp hd; exact h a ha
@[simp] theorem noRefs_ints {l : List Int} : noRefs (l.map D.int) = true := noRefs_map fun _ _ => noRef_int
end
section
variable {mh : List O} {i j : Int} {ds es : List D}
@[simp] theorem oAdd_int : oAdd (.int i) (.int j) mh = .ok (.int (i + j)) mh := rfl
@[simp] theorem oSub_int : oSub (.int i) (.int j) mh = .ok (.int (i - j)) mh := rfl
theorem oMul_ok (h : mulOk i j) : oMul (.int i) (.int j) mh = .ok (.int (i * j)) mh := if_pos h
@[simp] theorem oMul_l (h1 : -(2 ^ 64) < i) (h2 : i < 2 ^ 64) : oMul (.int i) (.int j) mh = .ok (.int (i * j)) mh := if_pos (.inl (.inl ⟨h1, h2⟩))
@[simp] theorem oMul_r (h1 : -(2 ^ 64) < j) (h2 : j < 2 ^ 64) : oMul (.int i) (.int j) mh = .ok (.int (i * j)) mh := if_pos (.inl (.inr ⟨h1, h2⟩))
theorem log2_of {a : Nat} (h : a < 2 ^ 8000) : a.log2 < 8000 := by
  by_cases h0 : a = 0
  · subst h0; decide
  · exact (Nat.log2_lt h0).mpr h
theorem mulOk_b (h1 : i.natAbs < 2 ^ 8000) (h2 : j.natAbs < 2 ^ 8000) : mulOk i j := .inr (by have := log2_of h1; have := log2_of h2; omega)
theorem oMul_b (h1 : i.natAbs < 2 ^ 8000) (h2 : j.natAbs < 2 ^ 8000) : oMul (.int i) (.int j) mh = .ok (.int (i * j)) mh := if_pos (mulOk_b h1 h2)
theorem divOk_b (h : 0 < j) (h2 : j.natAbs < 2 ^ 8000) : divOk j := ⟨h, by have := log2_of h2; omega⟩
theorem oFdiv_b (h : 0 < j) (h2 : j.natAbs < 2 ^ 8000) : oFdiv (.int i) (.int j) mh = .ok (.int (i / j)) mh := if_pos (divOk_b h h2)
@[simp] theorem oMod_ok (h : 0 < j) : oMod (.int i) (.int j) mh = .ok (.int (i % j)) mh := if_pos h
theorem oPow_ok (h : powOk i j) : oPow (.int i) (.int j) mh = .ok (.int (i ^ j.toNat)) mh := if_pos h
@[simp] theorem oShr_ok (h : 0 ≤ j) : oShr (.int i) (.int j) mh = .ok (.int (i / 2 ^ j.toNat)) mh := if_pos h
@[simp] theorem oNeg_int : oNeg (.int i) mh = .ok (.int (-i)) mh := rfl
@[simp] theorem oLt_int : oLt (.int i) (.int j) mh = .ok (.bl (decide (i < j))) mh := rfl
@[simp] theorem oLe_int : oLe (.int i) (.int j) mh = .ok (.bl (decide (i ≤ j))) mh := rfl
@[simp] theorem oGt_int : oGt (.int i) (.int j) mh = .ok (.bl (decide (j < i))) mh := rfl
@[simp] theorem oGe_int : oGe (.int i) (.int j) mh = .ok (.bl (decide (j ≤ i))) mh := rfl
@[simp] theorem oEq_int : oEq (.int i) (.int j) mh = .ok (.bl (decide (i = j))) mh := by
  show Res.ok (D.bl (i == j)) mh = _
  rw [Bool.beq_eq_decide_eq]
@[simp] theorem oNe_int : oNe (.int i) (.int j) mh = .ok (.bl (!decide (i = j))) mh := by
  show Res.ok (D.bl (!(i == j))) mh = _
  rw [Bool.beq_eq_decide_eq]
@[simp] theorem oAbs_int : oAbs [.int i] mh = .ok (.int (if i < 0 then -i else i)) mh := rfl
@[simp] theorem oMax2_int : oMax2 [.int i, .int j] mh = .ok (.int (if j > i then j else i)) mh := rfl
@[simp] theorem oMin2_int : oMin2 [.int i, .int j] mh = .ok (.int (if j < i then j else i)) mh := rfl
@[simp] theorem oInt_int : oInt [.int i] mh = .ok (.int i) mh := rfl
@[simp] theorem oInt_bl {b : Bool} : oInt [.bl b] mh = .ok (.int (if b then 1 else 0)) mh := rfl
@[simp] theorem oLen_tup : oLen [.tup ds] mh = .ok (.int ds.length) mh := rfl
@[simp] theorem oLen_lst : oLen [.lst ds] mh = .ok (.int ds.length) mh := rfl
theorem oTup_ok (h : ds.length ≤ sizeLine) : oTup ds mh = .ok (.tup ds) mh := if_pos h
theorem oLst_ok (h : ds.length ≤ sizeLine) : oLst ds mh = .ok (.lst ds) mh := if_pos h
theorem oNew_ok (h : ds.length ≤ sizeLine) : oNew ds mh = .ok (.ref mh.length) (mh ++ [.lst ds]) := if_pos h
theorem sl_le {n : Nat} (h : n ≤ 1000 := by decide) : n ≤ sizeLine := by rw [sizeLine_eq]; omega
@[simp] theorem oTup_0 : oTup [] mh = .ok (.tup []) mh := oTup_ok sl_le
@[simp] theorem oTup_1 {a : D} : oTup [a] mh = .ok (.tup [a]) mh := oTup_ok (sl_le (n := 1))
@[simp] theorem oTup_2 {a b : D} : oTup [a, b] mh = .ok (.tup [a, b]) mh := oTup_ok (sl_le (n := 2))
@[simp] theorem oTup_3 {a b c : D} : oTup [a, b, c] mh = .ok (.tup [a, b, c]) mh := oTup_ok (sl_le (n := 3))
@[simp] theorem oTup_4 {a b c d : D} : oTup [a, b, c, d] mh = .ok (.tup [a, b, c, d]) mh := oTup_ok (sl_le (n := 4))
@[simp] theorem oTup_5 {a b c d e : D} : oTup [a, b, c, d, e] mh = .ok (.tup [a, b, c, d, e]) mh := oTup_ok (sl_le (n := 5))
@[simp] theorem oLst_0 : oLst [] mh = .ok (.lst []) mh := oLst_ok sl_le
@[simp] theorem oLst_1 {a : D} : oLst [a] mh = .ok (.lst [a]) mh := oLst_ok (sl_le (n := 1))
@[simp] theorem oLst_2 {a b : D} : oLst [a, b] mh = .ok (.lst [a, b]) mh := oLst_ok (sl_le (n := 2))
@[simp] theorem oLst_3 {a b c : D} : oLst [a, b, c] mh = .ok (.lst [a, b, c]) mh := oLst_ok (sl_le (n := 3))
@[simp] theorem oLst_4 {a b c d : D} : oLst [a, b, c, d] mh = .ok (.lst [a, b, c, d]) mh := oLst_ok (sl_le (n := 4))
@[simp] theorem oLst_5 {a b c d e : D} : oLst [a, b, c, d, e] mh = .ok (.lst [a, b, c, d, e]) mh := oLst_ok (sl_le (n := 5))
theorem oIx_tup (x : D) (h : atI ds i = some x) : oIx (.tup ds) (.int i) mh = .ok x mh := by
  show (match atI ds i with | some x => Res.ok x mh | none => .stuck) = _
  rw [h]
theorem oIx_lst (x : D) (h : atI ds i = some x) : oIx (.lst ds) (.int i) mh = .ok x mh := by
  show (match atI ds i with | some x => Res.ok x mh | none => .stuck) = _
  rw [h]
@[simp] theorem oIx_tup0 {x : D} : oIx (.tup (x :: ds)) (.int 0) mh = .ok x mh := oIx_tup x (atI_nat (j := 0) rfl)
@[simp] theorem oIx_tup1 {x y : D} : oIx (.tup (x :: y :: ds)) (.int 1) mh = .ok y mh := oIx_tup y (atI_nat (j := 1) rfl)
@[simp] theorem oIx_tup2 {x y z : D} : oIx (.tup (x :: y :: z :: ds)) (.int 2) mh = .ok z mh := oIx_tup z (atI_nat (j := 2) rfl)
@[simp] theorem oIx_tup3 {x y z w : D} : oIx (.tup (x :: y :: z :: w :: ds)) (.int 3) mh = .ok w mh := oIx_tup w (atI_nat (j := 3) rfl)
@[simp] theorem oIx_tup4 {x y z w v : D} : oIx (.tup (x :: y :: z :: w :: v :: ds)) (.int 4) mh = .ok v mh := oIx_tup v (atI_nat (j := 4) rfl)
@[simp] theorem oIx_lst0 {x : D} : oIx (.lst (x :: ds)) (.int 0) mh = .ok x mh := oIx_lst x (atI_nat (j := 0) rfl)
@[simp] theorem oIx_lst1 {x y : D} : oIx (.lst (x :: y :: ds)) (.int 1) mh = .ok y mh := oIx_lst y (atI_nat (j := 1) rfl)
@[simp] theorem oIx_lst2 {x y z : D} : oIx (.lst (x :: y :: z :: ds)) (.int 2) mh = .ok z mh := oIx_lst z (atI_nat (j := 2) rfl)
@[simp] theorem oIx_lst3 {x y z w : D} : oIx (.lst (x :: y :: z :: w :: ds)) (.int 3) mh = .ok w mh := oIx_lst w (atI_nat (j := 3) rfl)
/-- an item of a written list of ints, at a place that lies within -/
theorem oIx_ints {ns : List Int} (h0 : 0 ≤ i) (h1 : i < ns.length) : oIx (.lst (ns.map D.int)) (.int i) mh = .ok (.int (ns.getD i.toNat 0)) mh := by
  have hl : i.toNat < ns.length := by omega
  refine oIx_lst _ ?_
  have e : i = ((i.toNat : Nat) : Int) := by omega
  rw [e]
  refine atI_nat ?_
  rw [List.getElem?_map, List.getD_eq_getElem?_getD, show ((i.toNat : Int)).toNat = i.toNat by omega, List.getElem?_eq_getElem hl]
  rfl
/-- isinstance, by the kind of the thing -/
@[simp] theorem oIsi_int {n : String} : oIsi [.int i, .ty n] mh = if n ∈ ["int", "bool", "str", "tuple", "list", "dict"] then .ok (.bl (isiT "int" n)) mh else .stuck := rfl
@[simp] theorem oIsi_bl {b : Bool} {n : String} : oIsi [.bl b, .ty n] mh = if n ∈ ["int", "bool", "str", "tuple", "list", "dict"] then .ok (.bl (isiT "bool" n)) mh else .stuck := rfl
@[simp] theorem oIsi_non {n : String} : oIsi [.non, .ty n] mh = if n ∈ ["int", "bool", "str", "tuple", "list", "dict"] then .ok (.bl (isiT "NoneType" n)) mh else .stuck := rfl
@[simp] theorem oIsi_str {x : Str} {n : String} : oIsi [.str x, .ty n] mh = if n ∈ ["int", "bool", "str", "tuple", "list", "dict"] then .ok (.bl (isiT "str" n)) mh else .stuck := rfl
@[simp] theorem oIsi_tup {n : String} : oIsi [.tup ds, .ty n] mh = if n ∈ ["int", "bool", "str", "tuple", "list", "dict"] then .ok (.bl (isiT "tuple" n)) mh else .stuck := rfl
@[simp] theorem oIsi_lst {n : String} : oIsi [.lst ds, .ty n] mh = if n ∈ ["int", "bool", "str", "tuple", "list", "dict"] then .ok (.bl (isiT "list" n)) mh else .stuck := rfl
@[simp] theorem oIsi_dic {ks : List Key} {n : String} : oIsi [.dic ks ds, .ty n] mh = if n ∈ ["int", "bool", "str", "tuple", "list", "dict"] then .ok (.bl (isiT "dict" n)) mh else .stuck := rfl
/-- two pairs of ints -/
@[simp] theorem oEq_pair {a b c d : Int} : oEq (.tup [.int a, .int b]) (.tup [.int c, .int d]) mh = .ok (.bl (decide (a = c ∧ b = d))) mh := by
  show Res.ok (D.bl ((a == c) && ((b == d) && true))) mh = _
  congr 2
  by_cases h1 : a = c <;> by_cases h2 : b = d <;> simp [h1, h2]
@[simp] theorem oNe_pair {a b c d : Int} : oNe (.tup [.int a, .int b]) (.tup [.int c, .int d]) mh = .ok (.bl (!decide (a = c ∧ b = d))) mh := by
  show Res.ok (D.bl (!((a == c) && ((b == d) && true)))) mh = _
  congr 2
  by_cases h1 : a = c <;> by_cases h2 : b = d <;> simp [h1, h2]
end

/-! ### loops -/
theorem rngL_get {lo : Int} {n i : Nat} {d : D} (h : (rngL lo n)[i]? = some d) : i < n ∧ d = .int (lo + (i : Nat)) := by
  unfold rngL at h
  rw [List.getElem?_map] at h
  have hi : i < n := by
    rcases Nat.lt_or_ge i n with z | z
    · exact z
    · rw [List.getElem?_eq_none (by simpa using z)] at h; cases h
  rw [List.getElem?_range hi] at h
  cases h
  exact ⟨hi, rfl⟩
/-- a loop that goes through, by what holds behind the i-th turn -/
theorem forL_inv {g : Its} {tg : CG} {b : CS} : ∀ (ds : List D) (P : Nat → En → List O → Prop) (ρ : En) (mh : List O), P 0 ρ mh → (∀ i ρ mh, i ≤ ds.length → P i ρ mh → guard g mh) →
    (∀ i d ρ mh, ds[i]? = some d → P i ρ mh → ∃ ρ' mh', ((tg d ρ mh).seq b = .nx ρ' mh' ∨ (tg d ρ mh).seq b = .ct ρ' mh') ∧ P (i + 1) ρ' mh') → ∃ ρ' mh', forL g tg b ds ρ mh = .nx ρ' mh' ∧ P ds.length ρ' mh'
  | [], P, ρ, mh, h0, hg, _ => ⟨ρ, mh, by unfold forL; rw [if_pos (hg 0 ρ mh (Nat.le_refl _) h0)], h0⟩
  | d :: ds, P, ρ, mh, h0, hg, hs => by
    obtain ⟨ρ1, mh1, e, h1⟩ := hs 0 d ρ mh rfl h0
    obtain ⟨ρ2, mh2, e2, h2⟩ := forL_inv (g := g) (tg := tg) (b := b) ds (fun i => P (i + 1)) ρ1 mh1 h1 (fun i ρ mh hi h => hg (i + 1) ρ mh (by simpa using hi) h) (fun i d ρ mh hd h => hs (i + 1) d ρ mh (by simpa using hd) h)
    refine ⟨ρ2, mh2, ?_, h2⟩
    unfold forL
    rw [if_pos (hg 0 ρ mh (Nat.zero_le _) h0)]
    rcases e with e | e <;> rw [e] <;> exact e2
@[simp] theorem guard_none {ds : List D} {mh : List O} : guard (ds, none) mh = True := rfl
/-- over values: no guard -/
theorem forL_all {l : List D} {tg : CG} {b : CS} (ds : List D) (P : Nat → En → List O → Prop) {ρ : En} {mh : List O} (h0 : P 0 ρ mh)
    (hs : ∀ i d ρ mh, ds[i]? = some d → P i ρ mh → ∃ ρ' mh', ((tg d ρ mh).seq b = .nx ρ' mh' ∨ (tg d ρ mh).seq b = .ct ρ' mh') ∧ P (i + 1) ρ' mh') : ∃ ρ' mh', forL (l, none) tg b ds ρ mh = .nx ρ' mh' ∧ P ds.length ρ' mh' :=
  forL_inv ds P ρ mh h0 (fun _ _ _ _ _ => trivial) hs
/-- a while that ends, by a measure -/
theorem sWhile_inv {c : CT} {b : CS} (P : En → List O → Prop) (μ : En → List O → Nat)
    (hs : ∀ ρ mh, P ρ mh → ∃ t m, c ρ mh = .ok t m ∧ (t = true → ∃ ρ' mh', (b ρ m = .nx ρ' mh' ∨ b ρ m = .ct ρ' mh') ∧ P ρ' mh' ∧ μ ρ' mh' < μ ρ mh)) :
    ∀ (n : Nat) (ρ : En) (mh : List O), μ ρ mh < n → P ρ mh → ∃ ρ' mh' m, sWhile c b ρ mh = .nx ρ' m ∧ P ρ' mh' ∧ c ρ' mh' = .ok false m
  | 0, _, _, h, _ => absurd h (Nat.not_lt_zero _)
  | n + 1, ρ, mh, h, p => by
    obtain ⟨t, m, e, k⟩ := hs ρ mh p
    cases t with
    | false => exact ⟨ρ, mh, m, by rw [sWhile_eq, e]; rfl, p, e⟩
    | true =>
      obtain ⟨ρ1, mh1, e1, p1, l1⟩ := k rfl
      obtain ⟨ρ2, mh2, m2, e2, p2, e3⟩ := sWhile_inv P μ hs n ρ1 mh1 (by omega) p1
      refine ⟨ρ2, mh2, m2, ?_, p2, e3⟩
      rw [sWhile_eq, e]
      rcases e1 with e1 | e1 <;> simp [e1, e2]

/-! ### forms for simp with omega as its hand -/
section
variable {mh : List O} {i j : Int} {ds : List D} {d : D}
@[simp] theorem oPow_s (h1 : 0 ≤ j) (h2 : j ≤ 1000000) (h3 : i.natAbs < 2 ^ 64) : oPow (.int i) (.int j) mh = .ok (.int (i ^ j.toNat)) mh := if_pos ⟨h1, h2, h3⟩
@[simp] theorem oFdiv_s (h1 : 0 < j) (h2 : j < 2 ^ 64) : oFdiv (.int i) (.int j) mh = .ok (.int (i / j)) mh :=
  oFdiv_b h1 (Nat.lt_of_lt_of_le (m := 2 ^ 64) (by omega) (Nat.pow_le_pow_right (by decide) (by decide)))
theorem call_eq {n : Nat} {fn : Fn} (hl : ds.length = n) (hr : noRefs ds = true) (hf : ∀ mh, fn ds mh = .ok d mh) : ar n (oP fn) ds mh = .ok d mh := by
  rw [ar_eq, if_pos hl, oP_eq hr (hf [])]
end
@[simp] theorem cVar_0 {ρ : En} {d : D} {mh : List O} : cVar 0 (some d :: ρ) mh = .ok d mh := rfl
@[simp] theorem cVar_1 {a0 : Option D} {ρ : En} {d : D} {mh : List O} : cVar 1 (a0 :: some d :: ρ) mh = .ok d mh := rfl
@[simp] theorem cVar_2 {a0 a1 : Option D} {ρ : En} {d : D} {mh : List O} : cVar 2 (a0 :: a1 :: some d :: ρ) mh = .ok d mh := rfl
@[simp] theorem cVar_3 {a0 a1 a2 : Option D} {ρ : En} {d : D} {mh : List O} : cVar 3 (a0 :: a1 :: a2 :: some d :: ρ) mh = .ok d mh := rfl
@[simp] theorem cVar_4 {a0 a1 a2 a3 : Option D} {ρ : En} {d : D} {mh : List O} : cVar 4 (a0 :: a1 :: a2 :: a3 :: some d :: ρ) mh = .ok d mh := rfl
@[simp] theorem cVar_5 {a0 a1 a2 a3 a4 : Option D} {ρ : En} {d : D} {mh : List O} : cVar 5 (a0 :: a1 :: a2 :: a3 :: a4 :: some d :: ρ) mh = .ok d mh := rfl
@[simp] theorem cVar_6 {a0 a1 a2 a3 a4 a5 : Option D} {ρ : En} {d : D} {mh : List O} : cVar 6 (a0 :: a1 :: a2 :: a3 :: a4 :: a5 :: some d :: ρ) mh = .ok d mh := rfl
@[simp] theorem cVar_7 {a0 a1 a2 a3 a4 a5 a6 : Option D} {ρ : En} {d : D} {mh : List O} : cVar 7 (a0 :: a1 :: a2 :: a3 :: a4 :: a5 :: a6 :: some d :: ρ) mh = .ok d mh := rfl
@[simp] theorem cVar_8 {a0 a1 a2 a3 a4 a5 a6 a7 : Option D} {ρ : En} {d : D} {mh : List O} : cVar 8 (a0 :: a1 :: a2 :: a3 :: a4 :: a5 :: a6 :: a7 :: some d :: ρ) mh = .ok d mh := rfl
@[simp] theorem cVar_9 {a0 a1 a2 a3 a4 a5 a6 a7 a8 : Option D} {ρ : En} {d : D} {mh : List O} : cVar 9 (a0 :: a1 :: a2 :: a3 :: a4 :: a5 :: a6 :: a7 :: a8 :: some d :: ρ) mh = .ok d mh := rfl
@[simp] theorem cVar_10 {a0 a1 a2 a3 a4 a5 a6 a7 a8 a9 : Option D} {ρ : En} {d : D} {mh : List O} : cVar 10 (a0 :: a1 :: a2 :: a3 :: a4 :: a5 :: a6 :: a7 :: a8 :: a9 :: some d :: ρ) mh = .ok d mh := rfl
@[simp] theorem cVar_11 {a0 a1 a2 a3 a4 a5 a6 a7 a8 a9 a10 : Option D} {ρ : En} {d : D} {mh : List O} : cVar 11 (a0 :: a1 :: a2 :: a3 :: a4 :: a5 :: a6 :: a7 :: a8 :: a9 :: a10 :: some d :: ρ) mh = .ok d mh := rfl
@[simp] theorem cVar_12 {a0 a1 a2 a3 a4 a5 a6 a7 a8 a9 a10 a11 : Option D} {ρ : En} {d : D} {mh : List O} : cVar 12 (a0 :: a1 :: a2 :: a3 :: a4 :: a5 :: a6 :: a7 :: a8 :: a9 :: a10 :: a11 :: some d :: ρ) mh = .ok d mh := rfl
@[simp] theorem cVar_13 {a0 a1 a2 a3 a4 a5 a6 a7 a8 a9 a10 a11 a12 : Option D} {ρ : En} {d : D} {mh : List O} : cVar 13 (a0 :: a1 :: a2 :: a3 :: a4 :: a5 :: a6 :: a7 :: a8 :: a9 :: a10 :: a11 :: a12 :: some d :: ρ) mh = .ok d mh := rfl
@[simp] theorem cVar_14 {a0 a1 a2 a3 a4 a5 a6 a7 a8 a9 a10 a11 a12 a13 : Option D} {ρ : En} {d : D} {mh : List O} : cVar 14 (a0 :: a1 :: a2 :: a3 :: a4 :: a5 :: a6 :: a7 :: a8 :: a9 :: a10 :: a11 :: a12 :: a13 :: some d :: ρ) mh = .ok d mh := rfl
@[simp] theorem cVar_15 {a0 a1 a2 a3 a4 a5 a6 a7 a8 a9 a10 a11 a12 a13 a14 : Option D} {ρ : En} {d : D} {mh : List O} : cVar 15 (a0 :: a1 :: a2 :: a3 :: a4 :: a5 :: a6 :: a7 :: a8 :: a9 :: a10 :: a11 :: a12 :: a13 :: a14 :: some d :: ρ) mh = .ok d mh := rfl
@[simp] theorem cVar_16 {a0 a1 a2 a3 a4 a5 a6 a7 a8 a9 a10 a11 a12 a13 a14 a15 : Option D} {ρ : En} {d : D} {mh : List O} : cVar 16 (a0 :: a1 :: a2 :: a3 :: a4 :: a5 :: a6 :: a7 :: a8 :: a9 :: a10 :: a11 :: a12 :: a13 :: a14 :: a15 :: some d :: ρ) mh = .ok d mh := rfl
@[simp] theorem cVar_17 {a0 a1 a2 a3 a4 a5 a6 a7 a8 a9 a10 a11 a12 a13 a14 a15 a16 : Option D} {ρ : En} {d : D} {mh : List O} : cVar 17 (a0 :: a1 :: a2 :: a3 :: a4 :: a5 :: a6 :: a7 :: a8 :: a9 :: a10 :: a11 :: a12 :: a13 :: a14 :: a15 :: a16 :: some d :: ρ) mh = .ok d mh := rfl
@[simp] theorem cVar_18 {a0 a1 a2 a3 a4 a5 a6 a7 a8 a9 a10 a11 a12 a13 a14 a15 a16 a17 : Option D} {ρ : En} {d : D} {mh : List O} : cVar 18 (a0 :: a1 :: a2 :: a3 :: a4 :: a5 :: a6 :: a7 :: a8 :: a9 :: a10 :: a11 :: a12 :: a13 :: a14 :: a15 :: a16 :: a17 :: some d :: ρ) mh = .ok d mh := rfl
@[simp] theorem cVar_19 {a0 a1 a2 a3 a4 a5 a6 a7 a8 a9 a10 a11 a12 a13 a14 a15 a16 a17 a18 : Option D} {ρ : En} {d : D} {mh : List O} : cVar 19 (a0 :: a1 :: a2 :: a3 :: a4 :: a5 :: a6 :: a7 :: a8 :: a9 :: a10 :: a11 :: a12 :: a13 :: a14 :: a15 :: a16 :: a17 :: a18 :: some d :: ρ) mh = .ok d mh := rfl
@[simp] theorem cVar_20 {a0 a1 a2 a3 a4 a5 a6 a7 a8 a9 a10 a11 a12 a13 a14 a15 a16 a17 a18 a19 : Option D} {ρ : En} {d : D} {mh : List O} : cVar 20 (a0 :: a1 :: a2 :: a3 :: a4 :: a5 :: a6 :: a7 :: a8 :: a9 :: a10 :: a11 :: a12 :: a13 :: a14 :: a15 :: a16 :: a17 :: a18 :: a19 :: some d :: ρ) mh = .ok d mh := rfl
@[simp] theorem cVar_21 {a0 a1 a2 a3 a4 a5 a6 a7 a8 a9 a10 a11 a12 a13 a14 a15 a16 a17 a18 a19 a20 : Option D} {ρ : En} {d : D} {mh : List O} : cVar 21 (a0 :: a1 :: a2 :: a3 :: a4 :: a5 :: a6 :: a7 :: a8 :: a9 :: a10 :: a11 :: a12 :: a13 :: a14 :: a15 :: a16 :: a17 :: a18 :: a19 :: a20 :: some d :: ρ) mh = .ok d mh := rfl
@[simp] theorem cVar_22 {a0 a1 a2 a3 a4 a5 a6 a7 a8 a9 a10 a11 a12 a13 a14 a15 a16 a17 a18 a19 a20 a21 : Option D} {ρ : En} {d : D} {mh : List O} : cVar 22 (a0 :: a1 :: a2 :: a3 :: a4 :: a5 :: a6 :: a7 :: a8 :: a9 :: a10 :: a11 :: a12 :: a13 :: a14 :: a15 :: a16 :: a17 :: a18 :: a19 :: a20 :: a21 :: some d :: ρ) mh = .ok d mh := rfl
@[simp] theorem cVar_23 {a0 a1 a2 a3 a4 a5 a6 a7 a8 a9 a10 a11 a12 a13 a14 a15 a16 a17 a18 a19 a20 a21 a22 : Option D} {ρ : En} {d : D} {mh : List O} : cVar 23 (a0 :: a1 :: a2 :: a3 :: a4 :: a5 :: a6 :: a7 :: a8 :: a9 :: a10 :: a11 :: a12 :: a13 :: a14 :: a15 :: a16 :: a17 :: a18 :: a19 :: a20 :: a21 :: a22 :: some d :: ρ) mh = .ok d mh := rfl
/-- range(max(1, min(N, n))) -/
theorem outer_rng (N : Nat) (h1 : 1 ≤ N) (h2 : N ≤ 1000) (n : Nat) : ∃ m : Nat, m ≤ N ∧ ∀ mh, oRng1 [.int (if (1 : Int) < if (n : Int) < N then (n : Int) else N then if (n : Int) < N then (n : Int) else N else 1)] mh = .ok (rngL 0 m, none) mh := by
  by_cases a : (n : Int) < N
  · by_cases b : (1 : Int) < n
    · refine ⟨n, by omega, fun mh => ?_⟩
      rw [if_pos a, if_pos b, oRng1_ok (by omega) (by omega), Int.toNat_natCast]
    · refine ⟨1, by omega, fun mh => ?_⟩
      rw [if_pos a, if_neg b, oRng1_ok (by omega) (by omega)]
      rfl
  · by_cases b : (1 : Int) < N
    · refine ⟨N, by omega, fun mh => ?_⟩
      rw [if_neg a, if_pos b, oRng1_ok (by omega) (by omega), Int.toNat_natCast]
    · refine ⟨1, by omega, fun mh => ?_⟩
      rw [if_neg a, if_neg b, oRng1_ok (by omega) (by omega)]
      rfl
theorem sl_1000 {n : Nat} (h : n ≤ 100000) : n ≤ sizeLine := by rw [sizeLine_eq]; omega
section
variable {mh : List O} {ds es : List D}
theorem oLst_s (h : ds.length ≤ 100000) : oLst ds mh = .ok (.lst ds) mh := oLst_ok (sl_1000 h)
theorem oTup_s (h : ds.length ≤ 100000) : oTup ds mh = .ok (.tup ds) mh := oTup_ok (sl_1000 h)
theorem oNew_s (h : ds.length ≤ 100000) : oNew ds mh = .ok (.ref mh.length) (mh ++ [.lst ds]) := if_pos (sl_1000 h)
theorem oAdd_ll (h : ds.length + es.length ≤ 100000) : oAdd (.lst ds) (.lst es) mh = .ok (.lst (ds ++ es)) mh := by
  show (if _ then _ else _) = _
  exact if_pos (sl_1000 h)
end
end G

/-! Part H: comprehensions, slices, enumerate, what lists do. -/
namespace G
open PySem PySem.Spec PyProof.Rows L2

/-! ### list comprehensions -/
abbrev W0 : WX := fun _ _ _ _ => False
theorem Cc.blk {k : Nat} {X : Cx} {W : WX} (c : Cc k X W) {s : Shared} {H : Hp} {scope : Scope} {cenv : Env} {fp : List Addr} : Cc k (X.blk s H scope cenv fp) W0 :=
  ⟨c.calm, c.nd, takes0, c.hr, PassesOwn.never⟩
def Res.ne {α : Type} (r : Res α) : Res α := match r with
  | .err _ _ _ => .stuck
  | r => r
@[simp] theorem Res.ne_ok {α : Type} (a : α) (mh : List O) : (Res.ok a mh).ne = .ok a mh := rfl
@[simp] theorem Res.ne_stuck {α : Type} : (Res.stuck : Res α).ne = .stuck := rfl
theorem Post.ne {α β : Type} {K : PySem.W.Frag} {mg : Str → Option Value} {R : Rel α β} {W W' : WX} {σ σ' : L2.St} {F : Addr → Prop} {ι : List Addr} {H : Hp} {Q : β → Hp → Prop} {r : Res α} (h : Post K mg R W σ F ι H r.ne Q) : Post K mg R W' σ' F ι H r Q := by
  cases r with
  | ok a mh => exact h
  | err c ds mh => exact h.elim
  | stuck => exact h
def wipeE (ρ : En) : List Nat → En
  | [] => ρ
  | v :: vs => (wipeE ρ vs).set v none
open Classical in
noncomputable def lcL (g : Its) (tg : CG) (t : CT) (f : CE) (ρ : En) : List D → List O → Res (List D)
  | [], mh => if guard g mh then .ok [] mh else .stuck
  | d :: ds, mh => if guard g mh then (match tg d ρ mh with
    | .nx ρ' m => (t ρ' m).ne.bind fun b m1 => if b = true then (f ρ' m1).ne.bind fun y m2 => (lcL g tg t f ρ ds m2).bind fun ys m3 => .ok (y :: ys) m3 else lcL g tg t f ρ ds m1
    | _ => .stuck) else .stuck
noncomputable def cLcR (it : CI) (tg : CG) (t : CT) (f : CE) (own : List Nat) : CA := fun ρ mh => (it ρ mh).bind fun g m => if g.1.length ≤ sizeLine then lcL g tg t f (wipeE ρ own) g.1 m else .stuck
/-- the list as a value -/
noncomputable def cLc (it : CI) (tg : CG) (t : CT) (f : CE) (own : List Nat) : CE := fun ρ mh => (cLcR it tg t f own ρ mh).bind fun ys m => .ok (.lst ys) m
/-- the list as an object that may be written -/
noncomputable def cLcN (it : CI) (tg : CG) (t : CT) (f : CE) (own : List Nat) : CE := fun ρ mh => (cLcR it tg t f own ρ mh).bind fun ys m => .ok (.ref m.length) (m ++ [.lst ys])
def tYesG : CT := fun _ mh => .ok true mh
@[simp] theorem tYesG_eq (ρ : En) (mh : List O) : tYesG ρ mh = .ok true mh := rfl
section
variable {K : PySem.W.Frag} {mg : Str → Option Value} {F F' : Addr → Prop} {ι ι' : List Addr} {H H' : Hp}
mutual
/-- an address that is set apart is written -/
theorem DV.apart {D0 : Addr} {o o' : HO} (hD : H D0 = some o) (hT : ∀ vs, o ≠ .tup vs ∧ ∀ ob, o ≠ .frz ob (.tup vs)) (hF : F D0) : ∀ (d : D) (v : V), DV K mg F ι H d v → DV K mg F ι (upd H D0 o') d v
  | .non, _, h => by cases h; exact .non
  | .bl b, _, h => by cases h; exact .bl b
  | .int i, _, h => by cases h; exact .int i
  | .str x, _, h => by cases h; exact .str x
  | .ty n, _, h => by cases h; exact .ty n
  | .glb x, _, h => by
    cases h with
    | glb m r => exact .glb m r
  | .ref n, _, h => by
    cases h with
    | ref e => exact .ref e
  | .tup ds, _, h => by
    cases h with
    | @tup a _ vs h r =>
      have ne : a ≠ D0 := fun z => by
        subst z
        rcases h with h | ⟨ob, h⟩
        · rw [hD] at h; cases h; exact (hT vs).1 rfl
        · rw [hD] at h; cases h; exact (hT vs).2 ob rfl
      exact .tup (rd_upto h fun o q => by rw [upd_ne ne]; exact q) (DVs.apart hD hT hF ds _ r)
  | .lst ds, _, h => by
    cases h with
    | @lst a _ vs h r =>
      refine .lst ?_ (DVs.apart hD hT hF ds _ r)
      rcases h with ⟨h, n⟩ | h
      · have ne : a ≠ D0 := fun z => n (z ▸ hF)
        exact .inl ⟨rd_upto h fun o q => by rw [upd_ne ne]; exact q, n⟩
      · exact .inr h
  | .dic ks ds, _, h => by
    cases h with
    | @dic a _ _ _ h n e r =>
      have ne : a ≠ D0 := fun z => n (z ▸ hF)
      exact .dic (rd_upto h fun o q => by rw [upd_ne ne]; exact q) n e (DVs.apart hD hT hF ds _ r)
  | .obj x ns ds, _, h => by
    cases h with
    | @obj a _ _ _ _ _ _ h n m e r =>
      have ne : a ≠ D0 := fun z => n (z ▸ hF)
      exact .obj (by rw [upd_ne ne]; exact h) n m e (DVs.apart hD hT hF ds _ r)
theorem DVs.apart {D0 : Addr} {o o' : HO} (hD : H D0 = some o) (hT : ∀ vs, o ≠ .tup vs ∧ ∀ ob, o ≠ .frz ob (.tup vs)) (hF : F D0) : ∀ (ds : List D) (vs : List V), DVs K mg F ι H ds vs → DVs K mg F ι (upd H D0 o') ds vs
  | [], _, h => by cases h; exact .nil
  | d :: ds, _, h => by
    cases h with
    | cons h t => exact .cons (DV.apart hD hT hF d _ h) (DVs.apart hD hT hF ds _ t)
end
mutual
/-- fewer are set apart -/
theorem DV.less (up : ∀ a, F' a → F a) : ∀ (d : D) (v : V), DV K mg F ι H d v → DV K mg F' ι H d v
  | .non, _, h => by cases h; exact .non
  | .bl b, _, h => by cases h; exact .bl b
  | .int i, _, h => by cases h; exact .int i
  | .str x, _, h => by cases h; exact .str x
  | .ty n, _, h => by cases h; exact .ty n
  | .glb x, _, h => by
    cases h with
    | glb m r => exact .glb m r
  | .ref n, _, h => by
    cases h with
    | ref e => exact .ref e
  | .tup ds, _, h => by
    cases h with
    | tup h r => exact .tup h (DVs.less up ds _ r)
  | .lst ds, _, h => by
    cases h with
    | lst h r =>
      refine .lst ?_ (DVs.less up ds _ r)
      rcases h with ⟨h, n⟩ | h
      · exact .inl ⟨h, fun z => n (up _ z)⟩
      · exact .inr h
  | .dic ks ds, _, h => by
    cases h with
    | dic h n e r => exact .dic h (fun z => n (up _ z)) e (DVs.less up ds _ r)
  | .obj x ns ds, _, h => by
    cases h with
    | obj h n m e r => exact .obj h (fun z => n (up _ z)) m e (DVs.less up ds _ r)
theorem DVs.less (up : ∀ a, F' a → F a) : ∀ (ds : List D) (vs : List V), DVs K mg F ι H ds vs → DVs K mg F' ι H ds vs
  | [], _, h => by cases h; exact .nil
  | d :: ds, _, h => by
    cases h with
    | cons h t => exact .cons (DV.less up d _ h) (DVs.less up ds _ t)
end
mutual
/-- more are live -/
theorem DV.more (pre : ι <+: ι') : ∀ (d : D) (v : V), DV K mg F ι H d v → DV K mg F ι' H d v
  | .non, _, h => by cases h; exact .non
  | .bl b, _, h => by cases h; exact .bl b
  | .int i, _, h => by cases h; exact .int i
  | .str x, _, h => by cases h; exact .str x
  | .ty n, _, h => by cases h; exact .ty n
  | .glb x, _, h => by
    cases h with
    | glb m r => exact .glb m r
  | .ref n, _, h => by
    cases h with
    | ref e =>
      refine .ref ?_
      obtain ⟨t, q⟩ := pre
      rw [← q, List.getElem?_append_left (List.getElem?_eq_some_iff.mp e).1]
      exact e
  | .tup ds, _, h => by
    cases h with
    | tup h r => exact .tup h (DVs.more pre ds _ r)
  | .lst ds, _, h => by
    cases h with
    | lst h r => exact .lst h (DVs.more pre ds _ r)
  | .dic ks ds, _, h => by
    cases h with
    | dic h n e r => exact .dic h n e (DVs.more pre ds _ r)
  | .obj x ns ds, _, h => by
    cases h with
    | obj h n m e r => exact .obj h n m e (DVs.more pre ds _ r)
theorem DVs.more (pre : ι <+: ι') : ∀ (ds : List D) (vs : List V), DVs K mg F ι H ds vs → DVs K mg F ι' H ds vs
  | [], _, h => by cases h; exact .nil
  | d :: ds, _, h => by
    cases h with
    | cons h t => exact .cons (DV.more pre d _ h) (DVs.more pre ds _ t)
end
theorem SR.apart {mh : List O} {D0 : Addr} {o o' : HO} (sr : SR K mg F ι mh H) (hD : H D0 = some o) (hT : ∀ vs, o ≠ .tup vs ∧ ∀ ob, o ≠ .frz ob (.tup vs)) (hF : F D0) (hn : D0 ∉ ι) : SR K mg F ι mh (upd H D0 o') := by
  refine ⟨sr.len, sr.nd, fun n u a e1 e2 => ?_, sr.sub, fun a h => ?_⟩
  · have na : a ≠ D0 := fun z => hn (z ▸ List.mem_of_getElem? e2)
    have q := upd_ne (H := H) (o := o') na
    cases sr.ob n u a e1 e2 with
    | lst h r => exact .lst (q.trans h) (DVs.apart hD hT hF _ _ r)
    | dic h e r => exact .dic (q.trans h) e (DVs.apart hD hT hF _ _ r)
    | ins h m e r => exact .ins (q.trans h) m e (DVs.apart hD hT hF _ _ r)
  · by_cases ha : a = D0
    · rw [ha, upd_same]; exact fun z => nomatch z
    · rw [upd_ne ha]; exact sr.old a h
theorem SR.less {mh : List O} (sr : SR K mg F ι mh H) (up : ∀ a, F' a → F a) (sub : ∀ a, a ∈ ι → F' a) : SR K mg F' ι mh H := by
  refine ⟨sr.len, sr.nd, fun n u a e1 e2 => ?_, sub, fun a h => sr.old a (up a h)⟩
  cases sr.ob n u a e1 e2 with
  | lst h r => exact .lst h (DVs.less up _ _ r)
  | dic h e r => exact .dic h e (DVs.less up _ _ r)
  | ins h m e r => exact .ins h m e (DVs.less up _ _ r)
end
theorem wipe_get {σ : L2.St} {j : Nat} : ∀ {vs : List Nat}, (wipe σ vs)[j]? = if j ∈ vs then (if j < σ.length then some none else none) else σ[j]?
  | [] => by simp [wipe]
  | v :: vs => by
    have ih := wipe_get (σ := σ) (j := j) (vs := vs)
    unfold wipe
    by_cases hv : v = j
    · subst hv
      by_cases hl : v < σ.length
      · rw [List.getElem?_set_self (by rw [wipe_length]; exact hl)]; simp [hl]
      · rw [List.getElem?_eq_none (by rw [List.length_set, wipe_length]; omega)]; simp [hl]
    · rw [List.getElem?_set_ne hv, ih]
      by_cases hm : j ∈ vs
      · simp [hm]
      · have : ¬ j = v := fun z => hv z.symm
        simp [hm, this]
theorem wipe_fs {σ σ' : L2.St} {ix vs : List Nat} (f : Fs ix σ σ') (h : ∀ i ∈ ix, i ∈ vs) : wipe σ' vs = wipe σ vs := by
  apply List.ext_getElem?
  intro j
  rw [wipe_get, wipe_get, f.1]
  by_cases hm : j ∈ vs
  · simp [hm]
  · simp only [hm, if_false]
    exact f.2 j fun z => hm (h j z)
theorem wipeE_er {K : PySem.W.Frag} {mg : Str → Option Value} {F : Addr → Prop} {ι : List Addr} {H : Hp} {ρ : En} {σ : L2.St} (er : ER K mg F ι H ρ σ) : ∀ vs : List Nat, ER K mg F ι H (wipeE ρ vs) (wipe σ vs)
  | [] => er
  | v :: vs => (wipeE_er er vs).clear
section
variable {X : Cx} {W : WX} {k : Nat} {pos : Pos}
structure JTs (X : Cx) (W : WX) (es : List Expr) (f : CT) : Prop where
  ex : ∃ t, PTs X es t ∧ ∀ (ρ : En) (mh : List O) (F : Addr → Prop) (ι : List Addr) (σ : L2.St) (H : Hp) (Q : Bool → Hp → Prop), SR X.K X.mg F ι mh H → ER X.K X.mg F ι H ρ σ → Post X.K X.mg BR W σ F ι H (f ρ mh) Q → t σ H Q
theorem ts_nil : JTs X W [] tYesG := ⟨_, pts_nil, fun _ _ _ _ _ _ _ sr _ h => h.ok sr rfl⟩
theorem ts_one {e : Expr} {f : CT} (h : JT X W e f) : JTs X W [e] f := by
  obtain ⟨t, p, q⟩ := h.ex
  exact ⟨_, pts_one p, q⟩
theorem lc_step {r : Res (List D)} {ad : List D} {y : D} : ((r.bind fun ys m3 => Res.ok (y :: ys) m3).bind fun ys m => Res.ok (ad ++ ys) m) = r.bind fun ys m => .ok ((ad ++ [y]) ++ ys) m := by
  cases r with
  | ok a mh => simp
  | err c ds mh => rfl
  | stuck => rfl
theorem Post.bindB {α β γ δ : Type} {K : PySem.W.Frag} {mg : Str → Option Value} {R : Rel α β} {R' : Rel γ δ} {W : WX} {σ : L2.St} {F0 F : Addr → Prop} {ι0 ι : List Addr} {H0 H : Hp} {r : Res α} {f : α → List O → Res γ} {Q : δ → Hp → Prop}
    (h : Post K mg R' W σ F0 ι0 H0 (r.bind f) Q) (st0 : Step F0 ι0 H0 F ι H) :
    Post K mg R W σ F ι H r (fun b H1 => ∃ F1 ι1 a mh1, Step F ι H F1 ι1 H1 ∧ SR K mg F1 ι1 mh1 H1 ∧ R F1 ι1 H1 a b ∧ Post K mg R' W σ F0 ι0 H0 (f a mh1) Q) := by
  cases r with
  | ok a mh => exact fun F' ι' H' b s x y => ⟨F', ι', a, mh, s, x, y, h⟩
  | err c ds mh => exact fun F' ι' H' cls dx s x y => h F' ι' H' cls dx (st0.trans s) x y
  | stuck => exact h
/-- the new list, set apart, behind a comprehension's loop -/
def LcR (X : Cx) (H : Hp) : Rel (List D) V := fun F' ι' H' ys b => ∃ D0 vs, b = .ref D0 ∧ H' D0 = some (.lst vs) ∧ F' D0 ∧ D0 ∉ ι' ∧ H D0 = none ∧ DVs X.K X.mg F' ι' H' ys vs
structure LcI (X : Cx) (W : WX) (σ : L2.St) (D0 : Addr) (Hs : Hp) (F1 : Addr → Prop) (ι1 : List Addr) (H1 : Hp) (gi : Its) (L : List D → List O → Res (List D)) (Q : VK) (i : Nat) (H2 : Hp) : Prop where
  ex : ∃ (F2 : Addr → Prop) (ι2 : List Addr) (mh2 : List O) (acc : List V) (ad : List D), Step F1 ι1 H1 F2 ι2 H2 ∧ SR X.K X.mg F2 ι2 mh2 H2 ∧ H2 D0 = some (.lst acc) ∧ F2 D0 ∧ D0 ∉ ι2 ∧ DVs X.K X.mg F2 ι2 H2 ad acc ∧ acc.length ≤ i ∧ i ≤ gi.1.length ∧
    Post X.K X.mg (LcR X Hs) W σ F1 ι1 H1 ((L (gi.1.drop i) mh2).bind fun ys m => .ok (ad ++ ys) m) Q
/-- what the loop of a comprehension is worth -/
theorem lc_ok {wi : TI} {g : TG} {tt : TT} {te : TE} {own ix : List Nat} {fi : CI} {fg : CG} {ft : CT} {fe : CE}
    (qi : ∀ (ρ : En) (mh : List O) (F : Addr → Prop) (ι : List Addr) (σ : L2.St) (H : Hp) (R : It → Hp → Prop), SR X.K X.mg F ι mh H → ER X.K X.mg F ι H ρ σ → Post X.K X.mg (RI X) W σ F ι H (fi ρ mh) R → wi σ H R)
    (qg : ∀ (d : D) (v : V) (ρ : En) (mh : List O) (F : Addr → Prop) (ι : List Addr) (σ : L2.St) (H : Hp) (Q Q' : L2.St → Hp → Prop), SR X.K X.mg F ι mh H → ER X.K X.mg F ι H ρ σ → DV X.K X.mg F ι H d v → PostG X F ι H (fg d ρ mh) Q → (∀ σ' H', Fs ix σ σ' → Q σ' H' → Q' σ' H') → g v σ H Q')
    (og : ∀ d ρ mh, (∃ ρ' mh', fg d ρ mh = .nx ρ' mh') ∨ fg d ρ mh = .stuck)
    (qt : ∀ (ρ : En) (mh : List O) (F : Addr → Prop) (ι : List Addr) (σ : L2.St) (H : Hp) (Q : Bool → Hp → Prop), SR X.K X.mg F ι mh H → ER X.K X.mg F ι H ρ σ → Post X.K X.mg BR W0 σ F ι H (ft ρ mh) Q → tt σ H Q)
    (qe : ∀ (ρ : En) (mh : List O) (F : Addr → Prop) (ι : List Addr) (σ : L2.St) (H : Hp) (Q : VK), SR X.K X.mg F ι mh H → ER X.K X.mg F ι H ρ σ → Post X.K X.mg (DR X) W0 σ F ι H (fe ρ mh) Q → te σ H Q)
    (hix : ∀ i ∈ ix, i ∈ own) {ρ : En} {mh : List O} {F : Addr → Prop} {ι : List Addr} {σ : L2.St} {H : Hp} {Q : VK} (sr : SR X.K X.mg F ι mh H) (er : ER X.K X.mg F ι H ρ σ)
    (h : Post X.K X.mg (LcR X H) W σ F ι H (cLcR fi fg ft fe own ρ mh) Q) : tLc wi g tt te own σ H Q := by
  unfold cLcR at h
  refine qi ρ mh F ι σ H _ sr er ((Post.bind (R := RI X) h).mono fun J H1 ⟨F1, ι1, gi, m1, st1, sr1, r1, h1⟩ => ?_)
  intro D0 hD0
  have hD : H D0 = none := by
    cases q : H D0 with
    | none => rfl
    | some o => obtain ⟨o', e⟩ := st1.live D0 o q; rw [hD0] at e; cases e
  split at h1
  · rename_i hlen
    have h1 : Post X.K X.mg (LcR X H) W σ F1 ι1 H1 (lcL gi fg ft fe (wipeE ρ own) (gi.1.drop 0) m1) Q := h1
    have nF : ¬ F1 D0 := sr1.notNew hD0
    have nι : D0 ∉ ι1 := fun z => nF (sr1.sub D0 z)
    have er1 := er.to sr.sub st1
    have tupL : ∀ acc : List V, ∀ vs, (HO.lst acc) ≠ .tup vs ∧ ∀ ob, (HO.lst acc) ≠ .frz ob (.tup vs) := fun acc vs => ⟨(by intro z; cases z), (by intro ob z; cases z)⟩
    refine ⟨fun i m H2 => m = gi.1.length - i ∧ LcI X W σ D0 H F1 ι1 H1 gi (lcL gi fg ft fe (wipeE ρ own)) Q i H2, ⟨_, rfl, ?_⟩, ?_⟩
    · have st0 : Step F1 ι1 H1 F1 ι1 (upd H1 D0 (.lst [])) := step_new hD0
      have sr0 := sr1.fresh (u := .lst []) hD0
      have st : Step F1 ι1 H1 (fun a => F1 a ∨ a = D0) ι1 (upd H1 D0 (.lst [])) := ⟨st0.pre, fun a z => .inl z, fun a z => z.elim .inl fun e => .inr (e ▸ hD0), st0.inew, st0.keep, st0.tups, st0.live⟩
      have sr2 : SR X.K X.mg (fun a => F1 a ∨ a = D0) ι1 m1 (upd H1 D0 (.lst [])) := by
        refine ⟨sr1.len, sr1.nd, fun n o a e1 e2 => ?_, fun a z => .inl (sr1.sub a z), fun a z => ?_⟩
        · have na : a ≠ D0 := fun z => nι (z ▸ List.mem_of_getElem? e2)
          exact (sr1.ob n o a e1 e2).to sr1.sub st (upd_ne na)
        · rcases z with z | z
          · exact sr0.old a z
          · rw [z, upd_same]; exact fun q => nomatch q
      refine ⟨_, ι1, m1, [], [], st, sr2, upd_same, .inr rfl, nι, .nil, Nat.zero_le _, Nat.zero_le _, ?_⟩
      have e : ((lcL gi fg ft fe (wipeE ρ own) (gi.1.drop 0) m1).bind fun ys m => Res.ok ([] ++ ys) m) = lcL gi fg ft fe (wipeE ρ own) (gi.1.drop 0) m1 := by
        cases lcL gi fg ft fe (wipeE ρ own) (gi.1.drop 0) m1 <;> rfl
      rw [e]
      exact h1
    · rintro i m H2 ⟨rfl, F2, ι2, mh2, acc, ad, st2, sr2, hacc, hF, hn, rad, hle, hi, h2⟩
      by_cases hl : i < gi.1.length
      · have ed : gi.1.drop i = gi.1[i] :: gi.1.drop (i + 1) := List.drop_eq_getElem_cons hl
        rw [ed] at h2
        unfold lcL at h2
        split at h2
        · rename_i hgd
          obtain ⟨hgo, hy⟩ := (r1 F2 ι2 H2 mh2 st2 sr2 hgd i).1 _ (List.getElem?_eq_getElem hl)
          refine .inr ⟨hgo, fun H' => LcI X W σ D0 H F1 ι1 H1 gi (lcL gi fg ft fe (wipeE ρ own)) Q (i + 1) H', fun H' z => ⟨_, by omega, rfl, z⟩, fun x H3 y => ?_⟩
          obtain ⟨kp, dv⟩ := hy x H3 y
          obtain ⟨sr3, st3⟩ := sr2.same kp
          have erw : ER X.K X.mg F2 ι2 H3 (wipeE ρ own) (wipe σ own) := wipeE_er ((er1.to sr1.sub st2).to sr2.sub st3) own
          rcases og gi.1[i] (wipeE ρ own) mh2 with ⟨ρ', mh', e⟩ | e
          · rw [e] at h2
            refine qg gi.1[i] x (wipeE ρ own) mh2 F2 ι2 (wipe σ own) H3 (fun σ' H' => ∃ F' ι', Step F2 ι2 H3 F' ι' H' ∧ SR X.K X.mg F' ι' mh' H' ∧ ER X.K X.mg F' ι' H' ρ' σ') _ sr3 erw dv (by rw [e]; exact fun F' ι' H' σ' s x y => ⟨F', ι', s, x, y⟩) fun σ4 H4 fs q4 => ?_
            obtain ⟨F4, ι4, st4, sr4, er4⟩ := q4
            have st24 := st3.trans st4
            have hacc4 : H4 D0 = some (.lst acc) := st24.keep D0 _ hacc hn
            refine ⟨?_, ?_⟩
            · have := wipe_fs (vs := own) fs hix
              rw [this]
              apply List.ext_getElem?
              intro j
              rw [wipe_get, wipe_length]
              by_cases hj : j ∈ own
              · rw [if_pos hj, wipe_get, if_pos hj]
              · rw [if_neg hj]
            · have h3 : Post X.K X.mg (LcR X H) W σ F1 ι1 H1 ((ft ρ' mh').ne.bind fun b m1 => ((if b = true then (fe ρ' m1).ne.bind fun y m2 => (lcL gi fg ft fe (wipeE ρ own) (gi.1.drop (i + 1)) m2).bind fun ys m3 => .ok (y :: ys) m3 else lcL gi fg ft fe (wipeE ρ own) (gi.1.drop (i + 1)) m1).bind fun ys m => .ok (ad ++ ys) m)) Q := by
                have e3 : ∀ (r : Res Bool) (f : Bool → List O → Res (List D)), (r.bind f).bind (fun ys m => Res.ok (ad ++ ys) m) = r.bind fun b m => (f b m).bind fun ys m => Res.ok (ad ++ ys) m := fun r f => by cases r <;> rfl
                rw [← e3]
                exact h2
              refine qt ρ' mh' F4 ι4 σ4 H4 _ sr4 er4 ((Post.bindB (R := BR) h3 (st2.trans st24)).ne.mono fun b H5 ⟨F5, ι5, b', m5, st5, sr5, rb, h5⟩ => ?_)
              have eb : b' = b := rb
              subst eb
              have hn5 : D0 ∉ ι5 := fun z => by
                rcases (st24.trans st5).inew D0 z with q | q
                · exact hn q
                · rw [q] at hacc; cases hacc
              have hacc5 : H5 D0 = some (.lst acc) := (st24.trans st5).keep D0 _ hacc hn
              have hF5 : F5 D0 := (st24.trans st5).up _ hF
              have rad5 := DVs.to sr2.sub (st24.trans st5) _ _ rad
              cases b' with
              | false =>
                rw [if_neg Bool.false_ne_true] at h5 ⊢
                exact ⟨F5, ι5, m5, acc, ad, st2.trans (st24.trans st5), sr5, hacc5, hF5, hn5, rad5, by omega, hl, h5⟩
              | true =>
                rw [if_pos rfl] at h5 ⊢
                have e3 : ∀ (r : Res D) (f : D → List O → Res (List D)), (r.bind f).bind (fun ys m => Res.ok (ad ++ ys) m) = r.bind fun b m => (f b m).bind fun ys m => Res.ok (ad ++ ys) m := fun r f => by cases r <;> rfl
                rw [e3] at h5
                refine qe ρ' m5 F5 ι5 σ4 H5 _ sr5 (er4.to sr4.sub st5) ((Post.bindB (R := DR X) h5 (st2.trans (st24.trans st5))).ne.mono fun yv H6 ⟨F6, ι6, yd, m6, st6, sr6, ry, h7⟩ => ?_)
                have st26 := (st24.trans st5).trans st6
                have hn6 : D0 ∉ ι6 := fun z => by
                  rcases st26.inew D0 z with q | q
                  · exact hn q
                  · rw [q] at hacc; cases hacc
                have hacc6 : H6 D0 = some (.lst acc) := st26.keep D0 _ hacc hn
                have hF6 : F6 D0 := st26.up _ hF
                have rad6 := DVs.to sr2.sub st26 _ _ rad
                refine ⟨acc, hacc6, by omega, ?_⟩
                rw [lc_step] at h7
                have ne1 : H1 D0 = none := hD0
                have stF : Step F1 ι1 H1 F6 ι6 (upd H6 D0 (.lst (acc ++ [yv]))) := by
                  have s := st2.trans st26
                  refine ⟨s.pre, s.up, s.new, s.inew, fun a o e n => ?_, fun a vs r => ?_, fun a o e => ?_⟩
                  · rw [upd_ne (ne_of_none e ne1)]; exact s.keep a o e n
                  · obtain ⟨o, e⟩ := rd_some r
                    exact rd_upto (s.tups a vs r) fun o q => by rw [upd_ne (ne_of_none e ne1)]; exact q
                  · rw [upd_ne (ne_of_none e ne1)]; exact s.live a o e
                have sr7 := sr6.apart (o' := .lst (acc ++ [yv])) hacc6 (tupL acc) hF6 hn6
                exact ⟨F6, ι6, m6, acc ++ [yv], ad ++ [yd], stF, sr7, upd_same, hF6, hn6, DVs.apart hacc6 (tupL acc) hF6 _ _ (rad6.append (.cons ry .nil)), by rw [List.length_append]; exact Nat.succ_le_succ hle, hl, h7⟩
          · rw [e] at h2
            exact h2.elim
        · exact h2.elim
      · have ed : gi.1.drop i = [] := List.drop_eq_nil_of_le (by omega)
        rw [ed] at h2
        unfold lcL at h2
        split at h2
        · rename_i hgd
          refine .inl ⟨(r1 F2 ι2 H2 mh2 st2 sr2 hgd i).2 (by omega), ?_⟩
          rw [Res.bind_ok, List.append_nil] at h2
          exact h2 F2 ι2 H2 _ st2 sr2 ⟨D0, acc, rfl, hacc, hF, hn, hD, rad⟩
        · exact h2.elim
  · exact h1.elim
end
end G

/-! Part J: str of an int, a display of one pair, constants. -/
namespace G
open PySem PySem.Spec PyProof.Rows L2
def oStr (ds : List D) (mh : List O) : Res D := match ds with
  | [.int i] => if i.natAbs.log2 < 1920 then .ok (.str (toString i)) mh else .stuck
  | _ => .stuck
theorem vo_str {X : Cx} : VOL X (fun xs H Q => ∃ i, xs = [.int i] ∧ i.natAbs.log2 < 1920 ∧ Q (.str (toString i)) H) oStr := by
  intro W σ F ι mh H ds vs Q sr r h
  unfold oStr at h
  split at h
  · split at h
    · rename_i hl
      cases r with
      | cons r1 r2 => cases r2; cases r1; exact ⟨_, rfl, hl, h.ok sr (.str _)⟩
    · exact h.elim
  · exact h.elim
def keyD : D → Option Key
  | .int i => some (.inl i)
  | .str x => some (.inr x)
  | _ => none
theorem keyD_ok {K : PySem.W.Frag} {mg : Str → Option Value} {F : Addr → Prop} {ι : List Addr} {H : Hp} {d : D} {v : V} {k : Key} (r : DV K mg F ι H d v) (e : keyD d = some k) : v = kV k := by
  cases r <;> cases e <;> rfl
def oDisp (d e : D) (mh : List O) : Res D := match keyD d with
  | some k => .ok (.dic [k] [e]) mh
  | none => .stuck
section
variable {X : Cx} {W : WX} {k : Nat} {pos : Pos} {a b : Expr} {fa fb : CE}
theorem j_disp1 (ha : JE X W a fa) (hb : JE X W b fb) : JE X W (.Dict [some a] [b] pos) (c2 oDisp fa fb) := by
  obtain ⟨ta, pa, qa⟩ := ha.ex
  obtain ⟨tb, pb, qb⟩ := hb.ex
  refine ⟨_, pe_disp (pps_cons pa pb pps_nil) rfl rfl (by simp) (by show 1 ≤ 15; omega), fun ρ mh F ι σ H Q sr er h => ?_⟩
  intro D0 hD0
  have nF : ¬ F D0 := sr.notNew hD0
  have nι : D0 ∉ ι := fun z => nF (sr.sub D0 z)
  have st0 : Step F ι H F ι (upd H D0 (.dK [])) := step_new hD0
  have sr0 := sr.fresh (u := .dK []) hD0
  have st : Step F ι H (fun a => F a ∨ a = D0) ι (upd H D0 (.dK [])) := ⟨st0.pre, fun a z => .inl z, fun a z => z.elim .inl fun e => .inr (e ▸ hD0), st0.inew, st0.keep, st0.tups, st0.live⟩
  have sr1 : SR X.K X.mg (fun a => F a ∨ a = D0) ι mh (upd H D0 (.dK [])) := by
    refine ⟨sr.len, sr.nd, fun n o a e1 e2 => ?_, fun a z => .inl (sr.sub a z), fun a z => ?_⟩
    · have na : a ≠ D0 := fun z => nι (z ▸ List.mem_of_getElem? e2)
      exact (sr.ob n o a e1 e2).to sr.sub st (upd_ne na)
    · rcases z with z | z
      · exact sr0.old a z
      · rw [z, upd_same]; exact fun q => nomatch q
  have er1 := er.to sr.sub st
  refine qa ρ mh _ ι σ _ _ sr1 er1 ((Post.bindB (R := DR X) h st).mono fun x H1 ⟨F1, ι1, d1, m1, st1, srA, r1, h1⟩ => ?_)
  refine qb ρ m1 F1 ι1 σ H1 _ srA (er1.to sr1.sub st1) ((Post.bindB (R := DR X) h1 (st.trans st1)).mono fun y H2 ⟨F2, ι2, d2, m2, st2, srB, r2, h2⟩ => ?_)
  have st12 := st1.trans st2
  have hacc : H2 D0 = some (.dK []) := st12.keep D0 _ upd_same nι
  have hn : D0 ∉ ι2 := fun z => by
    rcases st12.inew D0 z with q | q
    · exact nι q
    · rw [upd_same] at q; cases q
  have hF : F2 D0 := st12.up _ (.inr rfl)
  have r1' := DV.to srA.sub st2 _ _ r1
  show H2 D0 = some (.dK []) ∧ _
  refine ⟨hacc, ?_⟩
  unfold oDisp at h2
  split at h2
  · rename_i kk e
    have ek := keyD_ok r1' e
    subst ek
    refine ⟨[(kk, y)], rfl, by show 1 ≤ 15; omega, ?_⟩
    have nt : ∀ vs, (HO.dK []) ≠ .tup vs ∧ ∀ ob, (HO.dK []) ≠ .frz ob (.tup vs) := fun vs => ⟨(by intro z; cases z), (by intro ob z; cases z)⟩
    have srC := srB.apart (o' := .dK [(kk, y)]) hacc nt hF hn
    have dv := DV.apart (o' := .dK [(kk, y)]) hacc nt hF _ _ r2
    have s := st.trans st12
    have up : ∀ a, (F2 a ∧ a ≠ D0) → F2 a := fun a z => z.1
    have stF : Step F ι H (fun a => F2 a ∧ a ≠ D0) ι2 (upd H2 D0 (.dK [(kk, y)])) := by
      refine ⟨s.pre, fun a z => ⟨s.up a z, fun e => nF (e ▸ z)⟩, fun a z => s.new a z.1, s.inew, fun a o e n => ?_, fun a vs r => ?_, fun a o e => ?_⟩
      · rw [upd_ne (ne_of_none e hD0)]; exact s.keep a o e n
      · obtain ⟨o, e⟩ := rd_some r
        exact rd_upto (s.tups a vs r) fun o q => by rw [upd_ne (ne_of_none e hD0)]; exact q
      · rw [upd_ne (ne_of_none e hD0)]; exact s.live a o e
    have dv' : DVs X.K X.mg F2 ι2 (upd H2 D0 (.dK [(kk, y)])) [d2] [y] := .cons dv .nil
    exact h2 _ ι2 _ _ stF (srC.less up fun a z => ⟨srC.sub a z, fun e => hn (e ▸ z)⟩) (.dic (.inl upd_same) (fun z => z.2 rfl) rfl (DVs.less up _ _ dv'))
  · exact h2.elim
end
section
variable {mh : List O} {i : Int} {d e : D}
@[simp] theorem oStr_s (h1 : i.natAbs < 2 ^ 64) : oStr [.int i] mh = .ok (.str (toString i)) mh := if_pos (by
  by_cases h0 : i.natAbs = 0
  · rw [h0]; decide
  · have := (Nat.log2_lt (k := 64) h0).mpr h1
    omega)
@[simp] theorem oDisp_int : oDisp (.int i) e mh = .ok (.dic [.inl i] [e]) mh := rfl
end
end G

/-! Part I: comprehensions as rules, slices, enumerate, what lists do. -/
namespace G
open PySem PySem.Spec PyProof.Rows L2

section
variable {X : Cx} {W : WX} {k : Nat} {pos : Pos}
theorem post_lc {ys : List D} {v : V} {σ : L2.St} {F F1 : Addr → Prop} {ι ι1 : List Addr} {mh m1 : List O} {H H1 : Hp} {Q : VK} (sr : SR X.K X.mg F ι mh H) (st1 : Step F ι H F1 ι1 H1) (sr1 : SR X.K X.mg F1 ι1 m1 H1) (r : LcR X H F1 ι1 H1 ys v)
    (h : Post X.K X.mg (DR X) W σ F ι H (.ok (.lst ys) m1) Q) : Q v H1 := by
  obtain ⟨D0, vs, rfl, hD, hF, hn, h0, r⟩ := r
  have up : ∀ a, (F1 a ∧ a ≠ D0) → F1 a := fun a z => z.1
  have st : Step F ι H (fun a => F1 a ∧ a ≠ D0) ι1 H1 := ⟨st1.pre, fun a z => ⟨st1.up a z, fun e => sr.old a z (e ▸ h0)⟩, fun a z => st1.new a z.1, st1.inew, st1.keep, st1.tups, st1.live⟩
  exact h _ ι1 H1 _ st (sr1.less up fun a z => ⟨sr1.sub a z, fun e => hn (e ▸ z)⟩) (.lst (.inl ⟨.inl hD, fun z => z.2 rfl⟩) (DVs.less up _ _ r))
theorem post_lcN {ys : List D} {v : V} {σ : L2.St} {F F1 : Addr → Prop} {ι ι1 : List Addr} {mh m1 : List O} {H H1 : Hp} {Q : VK} (sr : SR X.K X.mg F ι mh H) (st1 : Step F ι H F1 ι1 H1) (sr1 : SR X.K X.mg F1 ι1 m1 H1) (r : LcR X H F1 ι1 H1 ys v)
    (h : Post X.K X.mg (DR X) W σ F ι H (.ok (.ref m1.length) (m1 ++ [.lst ys])) Q) : Q v H1 := by
  obtain ⟨D0, vs, rfl, hD, hF, hn, h0, r⟩ := r
  have pre : ι1 <+: ι1 ++ [D0] := List.prefix_append _ _
  have st : Step F ι H F1 (ι1 ++ [D0]) H1 := ⟨st1.pre.trans pre, st1.up, st1.new, fun a z => by
    rcases List.mem_append.mp z with z | z
    · exact st1.inew a z
    · rw [List.mem_singleton.mp z]; exact .inr h0, st1.keep, st1.tups, st1.live⟩
  refine h F1 (ι1 ++ [D0]) H1 _ st ⟨by simp [sr1.len], ?_, fun n o a e1 e2 => ?_, fun a z => ?_, sr1.old⟩ (.ref (by rw [← sr1.len]; simp))
  · rw [List.nodup_append]
    exact ⟨sr1.nd, by simp, fun a z b z' e => by rw [List.mem_singleton.mp z'] at e; exact hn (e ▸ z)⟩
  · by_cases hl : n < m1.length
    · rw [List.getElem?_append_left hl] at e1
      rw [List.getElem?_append_left (by rw [sr1.len]; exact hl)] at e2
      cases sr1.ob n o a e1 e2 with
      | lst h r => exact .lst h (DVs.more pre _ _ r)
      | dic h e r => exact .dic h e (DVs.more pre _ _ r)
      | ins h m e r => exact .ins h m e (DVs.more pre _ _ r)
    · rw [List.getElem?_append_right (by omega)] at e1
      rw [List.getElem?_append_right (by rw [sr1.len]; omega)] at e2
      have hn1 : n - m1.length = 0 := by
        have := (List.getElem?_eq_some_iff.mp e1).1
        simpa using this
      rw [hn1] at e1
      rw [sr1.len, hn1] at e2
      simp at e1 e2
      subst e1 e2
      exact .lst hD (DVs.more pre _ _ r)
  · rcases List.mem_append.mp z with z | z
    · exact sr1.sub a z
    · rw [List.mem_singleton.mp z]; exact hF
section
variable {elt tg iter : Expr} {ifs : List Expr} {scope : Scope} {own : List (Str × Nat)} {ix : List Nat} {fi : CI} {fg : CG} {ft : CT} {fe : CE}
theorem bindR {α β γ δ : Type} {K : PySem.W.Frag} {mg : Str → Option Value} {R : Rel α β} {R' : Rel γ δ} {σ : L2.St} {F : Addr → Prop} {ι : List Addr} {H : Hp} {r : Res α} {f : α → List O → Res γ} {Q : δ → Hp → Prop} {Q1 : β → Hp → Prop}
    (h : Post K mg R' W σ F ι H (r.bind f) Q) (k : ∀ (F1 : Addr → Prop) (ι1 : List Addr) (H1 : Hp) (a : α) (m1 : List O) (b : β), Step F ι H F1 ι1 H1 → SR K mg F1 ι1 m1 H1 → R F1 ι1 H1 a b → Post K mg R' W σ F ι H (f a m1) Q → Q1 b H1) : Post K mg R W σ F ι H r Q1 := by
  cases r with
  | ok a mh => exact fun F' ι' H' b s x y => k F' ι' H' a mh b s x y h
  | err c ds mh => exact fun F' ι' H' cls dx s x y => h F' ι' H' cls dx s x y
  | stuck => exact h
def canE (X : Cx) (W : WX) (f : CE) : TE := fun σ H Q => ∃ (ρ : En) (mh : List O) (F : Addr → Prop) (ι : List Addr), SR X.K X.mg F ι mh H ∧ ER X.K X.mg F ι H ρ σ ∧ Post X.K X.mg (DR X) W σ F ι H (f ρ mh) Q
def canT (X : Cx) (W : WX) (f : CT) : TT := fun σ H Q => ∃ (ρ : En) (mh : List O) (F : Addr → Prop) (ι : List Addr), SR X.K X.mg F ι mh H ∧ ER X.K X.mg F ι H ρ σ ∧ Post X.K X.mg BR W σ F ι H (f ρ mh) Q
def canG (X : Cx) (ix : List Nat) (g : CG) : TG := fun v σ H Q' => ∃ (d : D) (ρ : En) (mh : List O) (F : Addr → Prop) (ι : List Addr) (Q : L2.St → Hp → Prop), SR X.K X.mg F ι mh H ∧ ER X.K X.mg F ι H ρ σ ∧ DV X.K X.mg F ι H d v ∧ PostG X F ι H (g d ρ mh) Q ∧ ∀ σ' H', Fs ix σ σ' → Q σ' H' → Q' σ' H'
theorem JE.can {e : Expr} {f : CE} (h : JE X W e f) : PE X e (canE X W f) := by
  obtain ⟨t, p, q⟩ := h.ex
  exact ⟨fun pins s σ H Q I ⟨ρ, mh, F, ι, sr, er, hp⟩ => p.run pins s σ H Q I (q ρ mh F ι σ H Q sr er hp)⟩
theorem JTs.can {e : List Expr} {f : CT} (h : JTs X W e f) : PTs X e (canT X W f) := by
  obtain ⟨t, p, q⟩ := h.ex
  exact ⟨fun pins s σ H Q I ⟨ρ, mh, F, ι, sr, er, hp⟩ => p.run pins s σ H Q I (q ρ mh F ι σ H Q sr er hp)⟩
theorem JG.can {e : Expr} {g : CG} (h : JG X W e ix g) : PG X e (canG X ix g) := by
  obtain ⟨t, p, q⟩ := h.ex
  exact ⟨fun pins s σ H v u Q' I r ⟨d, ρ, mh, F, ι, Q, sr, er, dv, hp, k⟩ => p.run pins s σ H v u Q' I r (q d v ρ mh F ι σ H Q Q' sr er dv hp k)⟩
def fin (w : Bool) (ys : List D) (m : List O) : Res D := if w = true then .ok (.ref m.length) (m ++ [.lst ys]) else .ok (.lst ys) m
/-- a comprehension; w: the list is to be written -/
noncomputable def cLcX (w : Bool) (it : CI) (tg : CG) (t : CT) (f : CE) (own : List Nat) : CE := fun ρ mh => (cLcR it tg t f own ρ mh).bind (fin w)
theorem post_fin {w : Bool} {ys : List D} {v : V} {σ : L2.St} {F F1 : Addr → Prop} {ι ι1 : List Addr} {mh m1 : List O} {H H1 : Hp} {Q : VK} (sr : SR X.K X.mg F ι mh H) (st1 : Step F ι H F1 ι1 H1) (sr1 : SR X.K X.mg F1 ι1 m1 H1) (r : LcR X H F1 ι1 H1 ys v)
    (h : Post X.K X.mg (DR X) W σ F ι H (fin w ys m1) Q) : Q v H1 := by
  cases w with
  | true => exact post_lcN sr st1 sr1 r h
  | false => exact post_lc sr st1 sr1 r h
theorem lcx {w : Bool} {wi : TI} {vs : List Nat}
    (qi : ∀ (ρ : En) (mh : List O) (F : Addr → Prop) (ι : List Addr) (σ : L2.St) (H : Hp) (R : It → Hp → Prop), SR X.K X.mg F ι mh H → ER X.K X.mg F ι H ρ σ → Post X.K X.mg (RI X) W σ F ι H (fi ρ mh) R → wi σ H R)
    (og : ∀ d ρ mh, (∃ ρ' mh', fg d ρ mh = .nx ρ' mh') ∨ fg d ρ mh = .stuck) (hix : ∀ i ∈ ix, i ∈ vs) {ρ : En} {mh : List O} {F : Addr → Prop} {ι : List Addr} {σ : L2.St} {H : Hp} {Q : VK} (sr : SR X.K X.mg F ι mh H) (er : ER X.K X.mg F ι H ρ σ)
    (h : Post X.K X.mg (DR X) W σ F ι H (cLcX w fi fg ft fe vs ρ mh) Q) : tLc wi (canG X ix fg) (canT X W0 ft) (canE X W0 fe) vs σ H Q :=
  lc_ok qi (fun d v ρ mh F ι σ H Q Q' sr er r h k => ⟨d, ρ, mh, F, ι, Q, sr, er, r, h, k⟩) og (fun ρ mh F ι σ H Q sr er h => ⟨ρ, mh, F, ι, sr, er, h⟩) (fun ρ mh F ι σ H Q sr er h => ⟨ρ, mh, F, ι, sr, er, h⟩) hix sr er
    (bindR h fun F1 ι1 H1 a m1 b st1 sr1 r h1 => post_fin sr st1 sr1 r h1)
theorem j_lc (c : Cc k X W) {w : Bool} (hi : JI X W tg iter fi) (ok : BlkOk X.N X.env.scope scope own)
    (hg : ∀ (s : Shared) (H : Hp) (C : Addr) (cl : List (Str × Addr)) (fp : List Addr), Cc k (X.blk s H scope (compEnvC scope cl C X.env) fp) W0 → JG (X.blk s H scope (compEnvC scope cl C X.env) fp) W0 tg ix fg)
    (ht : ∀ (s : Shared) (H : Hp) (C : Addr) (cl : List (Str × Addr)) (fp : List Addr), Cc k (X.blk s H scope (compEnvC scope cl C X.env) fp) W0 → JTs (X.blk s H scope (compEnvC scope cl C X.env) fp) W0 ifs ft)
    (he : ∀ (s : Shared) (H : Hp) (C : Addr) (cl : List (Str × Addr)) (fp : List Addr), Cc k (X.blk s H scope (compEnvC scope cl C X.env) fp) W0 → JE (X.blk s H scope (compEnvC scope cl C X.env) fp) W0 elt fe)
    (hix : ∀ i ∈ ix, i ∈ own.map (·.2) := by decide) (hs : ∀ x, foldedSetIterable iter X.env x = pure x := by intro _; rfl) :
    JE X W (.ListComp elt [⟨tg, iter, ifs, 0⟩] scope pos) (cLcX w fi fg ft fe (own.map (·.2))) := by
  obtain ⟨wi, pi, qi⟩ := hi.ex
  have og := (hg {} (fun _ => none) 0 [] [] c.blk).only
  exact ⟨_, pe_lc (g := canG X ix fg) (tt := canT X W0 ft) (te := canE X W0 fe) c.calm c.nd pi ok (fun s H C cl fp => (hg s H C cl fp c.blk).can) (fun s H C cl fp => (ht s H C cl fp c.blk).can) (fun s H C cl fp => (he s H C cl fp c.blk).can) hs, fun ρ mh F ι σ H Q sr er h => lcx qi og hix sr er h⟩
theorem s_setLc (c : Cc k X W) {w : Bool} {i : Nat} {y : Str} {py spos : Pos} (hi : JI X W tg iter fi) (ok : BlkOk X.N X.env.scope scope own)
    (hg : ∀ (s : Shared) (H : Hp) (C : Addr) (cl : List (Str × Addr)) (fp : List Addr), Cc k (X.blk s H scope (compEnvC scope cl C X.env) fp) W0 → JG (X.blk s H scope (compEnvC scope cl C X.env) fp) W0 tg ix fg)
    (ht : ∀ (s : Shared) (H : Hp) (C : Addr) (cl : List (Str × Addr)) (fp : List Addr), Cc k (X.blk s H scope (compEnvC scope cl C X.env) fp) W0 → JTs (X.blk s H scope (compEnvC scope cl C X.env) fp) W0 ifs ft)
    (he : ∀ (s : Shared) (H : Hp) (C : Addr) (cl : List (Str × Addr)) (fp : List Addr), Cc k (X.blk s H scope (compEnvC scope cl C X.env) fp) W0 → JE (X.blk s H scope (compEnvC scope cl C X.env) fp) W0 elt fe)
    (hsw : swapsWith (.ListComp elt [⟨tg, iter, ifs, 0⟩] scope pos) (some (.Name y py)) spos.line X.env = pure true) (hy : X.N[i]? = some y := by rfl) (hyl : X.env.scope.names.lookup y = some .local := by rfl)
    (hix : ∀ i ∈ ix, i ∈ own.map (·.2) := by decide) (hs : ∀ x, foldedSetIterable iter X.env x = pure x := by intro _; rfl) :
    JS X W (.Assign [.Name y py] (.ListComp elt [⟨tg, iter, ifs, 0⟩] scope pos) spos) (sSet i (cLcX w fi fg ft fe (own.map (·.2)))) := by
  obtain ⟨wi, pi, qi⟩ := hi.ex
  have og := (hg {} (fun _ => none) 0 [] [] c.blk).only
  refine ⟨_, ps_setLc (g := canG X ix fg) (tt := canT X W0 ft) (te := canE X W0 fe) c.calm c.nd hy hyl hsw pi ok (fun s H C cl fp => (hg s H C cl fp c.blk).can) (fun s H C cl fp => (ht s H C cl fp c.blk).can) (fun s H C cl fp => (he s H C cl fp c.blk).can) hs, fun ρ mh F ι σ H T sr er h => ?_⟩
  exact lcx qi og hix sr er ((PostS.bindE (R := DR X) sr er h).mono fun v H1 ⟨F1, ι1, d, m1, st1, sr1, r1, er1, h1⟩ => h1 F1 ι1 H1 _ Step.refl sr1 (er1.set r1))
end
end
end G

/-! Part K: what is written; what lists do; slices; enumerate. -/
namespace G
open PySem PySem.Spec PyProof.Rows L2

theorem tupN (l : List V) : ∀ vs, (HO.lst l) ≠ .tup vs ∧ ∀ ob, (HO.lst l) ≠ .frz ob (.tup vs) := fun vs => ⟨(by intro z; cases z), (by intro ob z; cases z)⟩
theorem SR.write {K : PySem.W.Frag} {mg : Str → Option Value} {F : Addr → Prop} {ι : List Addr} {H : Hp} {mh : List O} {n : Nat} {a : Addr} {o : O} {u u0 : HO} (sr : SR K mg F ι mh H) (e : ι[n]? = some a) (h0 : H a = some u0) (hT : ∀ vs, u0 ≠ .tup vs ∧ ∀ ob, u0 ≠ .frz ob (.tup vs))
    (ho : Step F ι H F ι (upd H a u) → OV K mg F ι (upd H a u) a o) : Step F ι H F ι (upd H a u) ∧ SR K mg F ι (mh.set n o) (upd H a u) := by
  have ha : a ∈ ι := List.mem_of_getElem? e
  have st : Step F ι H F ι (upd H a u) := by
    refine ⟨List.prefix_refl _, fun _ z => z, fun _ z => .inl z, fun _ z => .inl z, fun b o' q n => ?_, fun b vs r => ?_, fun b o' q => ?_⟩
    · rw [upd_ne (fun z => n (by rw [z]; exact ha))]; exact q
    · have nb : b ≠ a := by
        rintro rfl
        rcases r with r | ⟨ob, r⟩
        · rw [h0] at r; cases r; exact (hT vs).1 rfl
        · rw [h0] at r; cases r; exact (hT vs).2 ob rfl
      exact rd_upto r fun o q => by rw [upd_ne nb]; exact q
    · by_cases hb : b = a
      · exact ⟨u, by rw [hb, upd_same]⟩
      · exact ⟨o', by rw [upd_ne hb]; exact q⟩
  have hn := (List.getElem?_eq_some_iff.mp e).1
  refine ⟨st, by rw [List.length_set]; exact sr.len, sr.nd, fun m o' b e1 e2 => ?_, sr.sub, fun b z => ?_⟩
  · by_cases hm : m = n
    · subst hm
      rw [e] at e2
      cases e2
      rw [List.getElem?_set_self (by rw [← sr.len]; exact hn)] at e1
      cases e1
      exact ho st
    · rw [List.getElem?_set_ne (fun z => hm z.symm)] at e1
      have nb : b ≠ a := fun z => by
        subst z
        exact hm ((List.getElem?_inj (List.getElem?_eq_some_iff.mp e2).1 sr.nd).mp (e2.trans e.symm))
      exact (sr.ob m o' b e1 e2).to sr.sub st (upd_ne nb)
  · by_cases hb : b = a
    · rw [hb, upd_same]; exact fun q => nomatch q
    · rw [upd_ne hb]; exact sr.old b z
/-- a list that may be written -/
def liveL (mh : List O) (d : D) : Option (Nat × List D) := match d with
  | .ref n => match mh[n]? with
    | some (.lst ds) => some (n, ds)
    | _ => none
  | _ => none
def VOM (X : Cx) (r : V → List V → Hp → VK → Prop) (o : D → List D → List O → Res D) : Prop :=
  ∀ (W : WX) (σ : L2.St) (F : Addr → Prop) (ι : List Addr) (mh : List O) (H : Hp) (d : D) (ds : List D) (v : V) (vs : List V) (Q : VK), SR X.K X.mg F ι mh H → DV X.K X.mg F ι H d v → DVs X.K X.mg F ι H ds vs → Post X.K X.mg (DR X) W σ F ι H (o d ds mh) Q → r v vs H Q
/-- o.m(..) of a list -/
def cM (o : D → List D → List O → Res D) (f : CE) (g : CA) : CE := fun ρ mh => (f ρ mh).bind fun x m => if (lstOf m x).isSome = true then (g ρ m).bind fun xs m' => o x xs m' else .stuck
section
variable {X : Cx} {W : WX} {k : Nat} {pos : Pos} {F : Addr → Prop} {ι : List Addr} {mh : List O} {σ : L2.St} {H : Hp}
theorem liveL_ok {d : D} {v : V} {n : Nat} {ds : List D} (sr : SR X.K X.mg F ι mh H) (r : DV X.K X.mg F ι H d v) (e : liveL mh d = some (n, ds)) : ∃ a vs, v = .ref a ∧ ι[n]? = some a ∧ H a = some (.lst vs) ∧ DVs X.K X.mg F ι H ds vs := by
  unfold liveL at e
  split at e
  · split at e
    · rename_i hm
      cases e
      cases r with
      | ref ea =>
        cases sr.ob _ _ _ hm ea with
        | lst h r => exact ⟨_, _, rfl, ea, h, r⟩
    · cases e
  · cases e
/-- what is worth writing -/
theorem wr {n : Nat} {a : Addr} {ws ws' : List V} {ds' : List D} {d : D} {v : V} {Q : VK} (sr : SR X.K X.mg F ι mh H) (ea : ι[n]? = some a) (hH : H a = some (.lst ws)) (r : DVs X.K X.mg F ι H ds' ws') (rd : DV X.K X.mg F ι H d v)
    (h : Post X.K X.mg (DR X) W σ F ι H (.ok d (mh.set n (.lst ds'))) Q) : Q v (upd H a (.lst ws')) := by
  obtain ⟨st, sr'⟩ := sr.write (o := .lst ds') (u := .lst ws') ea hH (tupN _) fun st => .lst upd_same (DVs.to sr.sub st _ _ r)
  exact h F ι _ _ st sr' (DV.to sr.sub st _ _ rd)
section
variable {a e : Expr} {es : List Expr} {name : Str} {apos cpos : Pos} {id : String} {r : V → List V → Hp → VK → Prop} {o : D → List D → List O → Res D} {fa : CE} {g : CA}
theorem j_m (slot : Slot "list" name id) (hty : typeOf (.builtin id) = pure (.type "method_descriptor")) (hm : MtR X id r) (vo : VOM X r o) (ho : JE X W a fa) (ha : JA X W (e :: es) g)
    (hbase : attributeBase a name X.env (eval a X.env) = eval a X.env := by rfl)
    (hfew : ((backTo cpos (starEach (e :: es) X.env)).all (fun x => !x.1) && (backToKw cpos (keywordEach [] X.env)).all (fun x => x.1.isSome)
      && decide ((e :: es).length + ([] : List Keyword).length + (if ([] : List Keyword).isEmpty then 0 else 1) < 30)) = true := by rfl)
    (hline : (apos.endLine == cpos.line) = true := by rfl) (hs : starEach (e :: es) X.env = (false, eval e X.env) :: starEach es X.env := by rfl) (hplain : (backTo cpos (starEach es X.env)).any (·.1) = false := by rfl) :
    JE X W (.Call (.Attribute a name apos) (e :: es) [] cpos) (cM o fa g) := by
  obtain ⟨ta, pa, qa⟩ := ho.ex
  obtain ⟨tb, pb, qb⟩ := ha.ex
  refine ⟨_, pe_bm PySem.F.plainAttrs_list slot hty hm pa pb hbase hfew hline hs hplain, fun ρ mh F ι σ H Q sr er h => ?_⟩
  refine qa ρ mh F ι σ H _ sr er (h.bind.mono fun x H1 ⟨F1, ι1, d1, m1, st1, sr1, r1, h1⟩ => ?_)
  split at h1
  · rename_i hl
    obtain ⟨ds, hds⟩ := Option.isSome_iff_exists.mp hl
    obtain ⟨a', vs, rfl, sq, _⟩ := lstOf_ok sr1 r1 hds
    refine ⟨.inl ⟨rfl, _, sq⟩, ?_⟩
    refine qb ρ m1 F1 ι1 σ H1 _ sr1 (er.to sr.sub st1) (h1.bind.mono fun xs H2 ⟨F2, ι2, ds2, m2, st2, sr2, r2, h2⟩ => ?_)
    exact vo W σ F2 ι2 m2 H2 d1 ds2 _ xs Q sr2 (DV.to sr1.sub st2 _ _ r1) r2 h2
  · exact h1.elim
theorem j_m0 (slot : Slot "list" name id) (hty : typeOf (.builtin id) = pure (.type "method_descriptor")) (hm : MtR X id r) (vo : VOM X r o) (ho : JE X W a fa)
    (hbase : attributeBase a name X.env (eval a X.env) = eval a X.env := by rfl) (hline : (apos.endLine == cpos.line) = true := by rfl) :
    JE X W (.Call (.Attribute a name apos) [] [] cpos) (cM o fa cNil) := by
  obtain ⟨ta, pa, qa⟩ := ho.ex
  refine ⟨_, pe_bm0 PySem.F.plainAttrs_list slot hty hm pa hbase hline, fun ρ mh F ι σ H Q sr er h => ?_⟩
  refine qa ρ mh F ι σ H _ sr er (h.bind.mono fun x H1 ⟨F1, ι1, d1, m1, st1, sr1, r1, h1⟩ => ?_)
  split at h1
  · rename_i hl
    obtain ⟨ds, hds⟩ := Option.isSome_iff_exists.mp hl
    obtain ⟨a', vs, rfl, sq, _⟩ := lstOf_ok sr1 r1 hds
    refine ⟨.inl ⟨rfl, _, sq⟩, ?_⟩
    exact vo W σ F1 ι1 m1 H1 d1 [] _ [] Q sr1 r1 .nil h1
  · exact h1.elim
end
def oAppend (d : D) (ds : List D) (mh : List O) : Res D := match liveL mh d, ds with
  | some (n, xs), [y] => if xs.length < sizeLine then .ok .non (mh.set n (.lst (xs ++ [y]))) else .stuck
  | _, _ => .stuck
theorem vo_append : VOM X rAppend oAppend := by
  intro W σ F ι mh H d ds v vs Q sr r rs h
  unfold oAppend at h
  split at h
  · rename_i e
    split at h
    · rename_i hl
      obtain ⟨a, ws, rfl, ea, hH, rx⟩ := liveL_ok sr r e
      cases rs with
      | cons r1 r2 =>
        cases r2
        exact ⟨a, ws, _, rfl, rfl, hH, by rw [← rx.length]; exact hl, wr sr ea hH (rx.append (.cons r1 .nil)) .non h⟩
    · exact h.elim
  · exact h.elim
def oReverse (d : D) (ds : List D) (mh : List O) : Res D := match liveL mh d, ds with
  | some (n, xs), [] => .ok .non (mh.set n (.lst xs.reverse))
  | _, _ => .stuck
theorem vo_reverse : VOM X rReverse oReverse := by
  intro W σ F ι mh H d ds v vs Q sr r rs h
  unfold oReverse at h
  split at h
  · rename_i e
    obtain ⟨a, ws, rfl, ea, hH, rx⟩ := liveL_ok sr r e
    cases rs
    exact ⟨a, ws, rfl, rfl, hH, wr sr ea hH rx.reverse .non h⟩
  · exact h.elim
def oClear (d : D) (ds : List D) (mh : List O) : Res D := match liveL mh d, ds with
  | some (n, xs), [] => .ok .non (mh.set n (.lst []))
  | _, _ => .stuck
theorem vo_clear : VOM X rClear oClear := by
  intro W σ F ι mh H d ds v vs Q sr r rs h
  unfold oClear at h
  split at h
  · rename_i e
    obtain ⟨a, ws, rfl, ea, hH, rx⟩ := liveL_ok sr r e
    cases rs
    exact ⟨a, ws, rfl, rfl, hH, wr sr ea hH .nil .non h⟩
  · exact h.elim
def oInsert (d : D) (ds : List D) (mh : List O) : Res D := match liveL mh d, ds with
  | some (n, xs), [.int i, y] => if xs.length < sizeLine ∧ 0 ≤ i ∧ i < 2 ^ 63 then .ok .non (mh.set n (.lst (xs.take i.toNat ++ [y] ++ xs.drop i.toNat))) else .stuck
  | _, _ => .stuck
theorem vo_insert : VOM X (fun x vs H Q => ∃ (l : Addr) (xs : List V) (i : Int) (y : V), x = .ref l ∧ vs = [.int i, y] ∧ H l = some (.lst xs) ∧ xs.length < sizeLine ∧ 0 ≤ i ∧ i < 2 ^ 63 ∧
    Q .non (upd H l (.lst (xs.take i.toNat ++ [y] ++ xs.drop i.toNat)))) oInsert := by
  intro W σ F ι mh H d ds v vs Q sr r rs h
  unfold oInsert at h
  split at h
  · rename_i e
    split at h
    · rename_i hl
      obtain ⟨a, ws, rfl, ea, hH, rx⟩ := liveL_ok sr r e
      cases rs with
      | cons r1 r2 =>
        cases r2 with
        | cons r2 r3 =>
          cases r3
          cases r1
          exact ⟨a, ws, _, _, rfl, rfl, hH, by rw [← rx.length]; exact hl.1, hl.2.1, hl.2.2, wr sr ea hH (((rx.take _).append (.cons r2 .nil)).append (rx.drop _)) .non h⟩
    · exact h.elim
  · exact h.elim
def oPopAt (d : D) (ds : List D) (mh : List O) : Res D := match liveL mh d, ds with
  | some (n, xs), [.int i] => if 0 ≤ i ∧ i < 2 ^ 63 then (match xs[i.toNat]? with
    | some y => .ok y (mh.set n (.lst (xs.eraseIdx i.toNat)))
    | none => .stuck) else .stuck
  | _, _ => .stuck
theorem seqIx {n : Nat} {i : Int} (h0 : 0 ≤ i) (h1 : i.toNat < n) : seqIndex? i n = some i.toNat := (ixN_seq (i := i) (n := n) (by unfold ixN; rw [if_pos h0, if_pos (by omega)])).1
theorem vo_popAt : VOM X rPopAt oPopAt := by
  intro W σ F ι mh H d ds v vs Q sr r rs h
  unfold oPopAt at h
  split at h
  · rename_i e
    split at h
    · rename_i hl
      split at h
      · rename_i y hy
        obtain ⟨a, ws, rfl, ea, hH, rx⟩ := liveL_ok sr r e
        cases rs with
        | cons r1 r2 =>
          cases r2
          cases r1
          obtain ⟨w, ew, rw'⟩ := rx.get hy
          exact ⟨a, ws, _, _, _, rfl, rfl, hH, by omega, hl.2, seqIx hl.1 (List.getElem?_eq_some_iff.mp ew).1, ew, wr sr ea hH (rx.eraseIdx _) rw' h⟩
      · exact h.elim
    · exact h.elim
  · exact h.elim
/-! ### x[i] = v -/
def oSetL (d e y : D) (mh : List O) : Option (List O) := match liveL mh d, e with
  | some (n, xs), .int k => match ixN xs.length k with
    | some j => some (mh.set n (.lst (xs.set j y)))
    | none => none
  | _, _ => none
def gIx (f g : CE) : CG := fun d ρ mh => match f ρ mh with
  | .ok x m => match g ρ m with
    | .ok i m' => match oSetL x i d m' with
      | some m2 => .nx ρ m2
      | none => .stuck
    | _ => .stuck
  | _ => .stuck
theorem g_ix {a b : Expr} {fa fb : CE} (ha : JE X W a fa) (hb : JE X W b fb) (hx : ∀ v, assign (.Subscript a b pos) X.env v = (do
      let ov ← holding [v] (eval a X.env)
      let iv ← holding [v, ov] (eval b X.env)
      standAt pos
      holding [v, ov, iv] (setItem ov iv v)
      release [v, ov, iv] []) := by intro _; rfl) : JG X W (.Subscript a b pos) [] (gIx fa fb) := by
  obtain ⟨ta, pa, qa⟩ := ha.ex
  obtain ⟨tb, pb, qb⟩ := hb.ex
  refine ⟨⟨_, pg_sub pa pb set_list hx, fun d v ρ mh F ι σ H Q Q' sr er r h k => ?_⟩, fun d ρ mh => ?_⟩
  · unfold gIx at h
    split at h
    · rename_i x m ea
      split at h
      · rename_i i m' eb
        split at h
        · rename_i m2 es
          refine qa ρ mh F ι σ H _ sr er ?_
          rw [ea]
          intro F1 ι1 H1 xv st1 sr1 r1
          refine qb ρ m F1 ι1 σ H1 _ sr1 (er.to sr.sub st1) ?_
          rw [eb]
          intro F2 ι2 H2 iv st2 sr2 r2
          unfold oSetL at es
          split at es
          · rename_i el
            split at es
            · rename_i j ej
              cases es
              obtain ⟨p, ws, rfl, ep, hH, rx⟩ := liveL_ok sr2 (DV.to sr1.sub st2 _ _ r1) el
              cases r2
              have dv := DV.to sr.sub (st1.trans st2) _ _ r
              obtain ⟨st3, sr3⟩ := sr2.write (u := .lst (ws.set j v)) ep hH (tupN _) fun st => .lst upd_same (DVs.to sr2.sub st _ _ (rx.set dv j))
              have st := (st1.trans st2).trans st3
              exact ⟨p, ws, _, j, rfl, rfl, hH, by rw [← rx.length]; exact ej, k _ _ ⟨rfl, fun _ _ => rfl⟩ (h F2 ι2 _ σ st sr3 (er.to sr.sub st))⟩
            · cases es
          · cases es
        · exact h.elim
      · exact h.elim
    · exact h.elim
  · unfold gIx
    split
    · split
      · split
        · exact .inl ⟨_, _, rfl⟩
        · exact .inr rfl
      · exact .inr rfl
    · exact .inr rfl
/-! ### list(..), tuple(..) -/
def seqOf (mh : List O) (d : D) : Option (List D) := match d with
  | .tup ds => some ds
  | d => lstOf mh d
def oListOf (ds : List D) (mh : List O) : Res D := match ds with
  | [d] => match seqOf mh d with
    | some xs => oLst xs mh
    | none => .stuck
  | _ => .stuck
def oListN (ds : List D) (mh : List O) : Res D := match ds with
  | [d] => match seqOf mh d with
    | some xs => oNew xs mh
    | none => .stuck
  | _ => .stuck
theorem seqOf_ok {d : D} {v : V} {ds : List D} (sr : SR X.K X.mg F ι mh H) (r : DV X.K X.mg F ι H d v) (e : seqOf mh d = some ds) : ∃ a vs, v = .ref a ∧ (SqL X.K H a vs ∨ SqT X.K H a vs) ∧ DVs X.K X.mg F ι H ds vs := by
  unfold seqOf at e
  split at e
  · cases e
    cases r with
    | tup h r => exact ⟨_, _, rfl, .inr (.inl h), r⟩
  · obtain ⟨a, vs, e1, e2, e3⟩ := lstOf_ok sr r e
    exact ⟨a, vs, e1, .inl e2, e3⟩
theorem vo_listOf : VOL X (fun xs H Q => ∃ p ys, xs = [.ref p] ∧ (SqL X.K H p ys ∨ SqT X.K H p ys) ∧ ∀ l, H l = none → Q (.ref l) (upd H l (.lst ys))) oListOf := by
  intro W σ F ι mh H ds vs Q sr r h
  unfold oListOf at h
  split at h
  · split at h
    · rename_i e
      cases r with
      | cons r1 r2 =>
        cases r2
        obtain ⟨a, ws, rfl, sq, rx⟩ := seqOf_ok sr r1 e
        exact ⟨a, ws, rfl, sq, (post_lst sr rx h).2⟩
    · exact h.elim
  · exact h.elim
theorem vo_listN : VOL X (fun xs H Q => ∃ p ys, xs = [.ref p] ∧ (SqL X.K H p ys ∨ SqT X.K H p ys) ∧ ∀ l, H l = none → Q (.ref l) (upd H l (.lst ys))) oListN := by
  intro W σ F ι mh H ds vs Q sr r h
  unfold oListN at h
  split at h
  · split at h
    · rename_i e
      cases r with
      | cons r1 r2 =>
        cases r2
        obtain ⟨a, ws, rfl, sq, rx⟩ := seqOf_ok sr r1 e
        exact ⟨a, ws, rfl, sq, (post_new sr rx h).2⟩
    · exact h.elim
  · exact h.elim
def oTupleOf (ds : List D) (mh : List O) : Res D := match ds with
  | [.tup xs] => .ok (.tup xs) mh
  | [d] => match lstOf mh d with
    | some xs => oTup xs mh
    | none => .stuck
  | _ => .stuck
theorem vo_tupleOf : VOL X (fun xs H Q => ∃ p ys, xs = [.ref p] ∧ ((SqL X.K H p ys ∧ ∀ l, H l = none → Q (.ref l) (upd H l (.tup ys))) ∨ (SqT X.K H p ys ∧ Q (.ref p) H))) oTupleOf := by
  intro W σ F ι mh H ds vs Q sr r h
  unfold oTupleOf at h
  split at h
  · cases r with
    | cons r1 r2 =>
      cases r2
      cases r1 with
      | tup hr rr => exact ⟨_, _, rfl, .inr ⟨.inl hr, h.ok sr (.tup hr rr)⟩⟩
  · split at h
    · rename_i e
      cases r with
      | cons r1 r2 =>
        cases r2
        obtain ⟨a, ws, rfl, sq, rx⟩ := lstOf_ok sr r1 e
        exact ⟨a, ws, rfl, .inl ⟨sq, (post_tup sr rx h).2⟩⟩
    · exact h.elim
  · exact h.elim
/-! ### any, all -/
def blsOf : List D → Option (List Bool)
  | [] => some []
  | .bl b :: ds => match blsOf ds with
    | some bs => some (b :: bs)
    | none => none
  | _ => none
theorem blsOf_ok : ∀ {ds : List D} {vs : List V} {bs : List Bool}, DVs X.K X.mg F ι H ds vs → blsOf ds = some bs → vs = bs.map V.bl
  | [], _, bs, r, e => by
    cases e; cases r; rfl
  | .bl b :: ds, _, bs, r, e => by
    unfold blsOf at e
    split at e
    · rename_i hb
      cases e
      cases r with
      | cons r1 r2 =>
        cases r1
        rw [blsOf_ok r2 hb]; rfl
    · cases e
  | .non :: _, _, _, _, e => by cases e
  | .int _ :: _, _, _, _, e => by cases e
  | .str _ :: _, _, _, _, e => by cases e
  | .ty _ :: _, _, _, _, e => by cases e
  | .glb _ :: _, _, _, _, e => by cases e
  | .ref _ :: _, _, _, _, e => by cases e
  | .tup _ :: _, _, _, _, e => by cases e
  | .lst _ :: _, _, _, _, e => by cases e
  | .dic _ _ :: _, _, _, _, e => by cases e
  | .obj _ _ _ :: _, _, _, _, e => by cases e
def oAny (ds : List D) (mh : List O) : Res D := match ds with
  | [d] => match (lstOf mh d).bind blsOf with
    | some bs => .ok (.bl (bs.any id)) mh
    | none => .stuck
  | _ => .stuck
def oAll (ds : List D) (mh : List O) : Res D := match ds with
  | [d] => match (lstOf mh d).bind blsOf with
    | some bs => .ok (.bl (bs.all id)) mh
    | none => .stuck
  | _ => .stuck
theorem bls_lst {d : D} {v : V} {bs : List Bool} (sr : SR X.K X.mg F ι mh H) (r : DV X.K X.mg F ι H d v) (e : (lstOf mh d).bind blsOf = some bs) : ∃ a, v = .ref a ∧ SqL X.K H a (bs.map V.bl) := by
  cases q : lstOf mh d with
  | none => rw [q] at e; cases e
  | some ds =>
    rw [q] at e
    obtain ⟨a, vs, e1, e2, e3⟩ := lstOf_ok sr r q
    exact ⟨a, e1, blsOf_ok e3 e ▸ e2⟩
theorem vo_any : VOL X (rAny X.K) oAny := by
  intro W σ F ι mh H ds vs Q sr r h
  unfold oAny at h
  split at h
  · split at h
    · rename_i e
      cases r with
      | cons r1 r2 =>
        cases r2
        obtain ⟨a, rfl, sq⟩ := bls_lst sr r1 e
        exact ⟨a, _, rfl, sq, h.ok sr (.bl _)⟩
    · exact h.elim
  · exact h.elim
theorem vo_all : VOL X (rAll X.K) oAll := by
  intro W σ F ι mh H ds vs Q sr r h
  unfold oAll at h
  split at h
  · split at h
    · rename_i e
      cases r with
      | cons r1 r2 =>
        cases r2
        obtain ⟨a, rfl, sq⟩ := bls_lst sr r1 e
        exact ⟨a, _, rfl, sq, h.ok sr (.bl _)⟩
    · exact h.elim
  · exact h.elim
/-! ### slices of lists -/
abbrev CO := En → List O → Res (Option Int)
abbrev OR : Rel (Option Int) (Option Int) := fun _ _ _ a b => a = b
structure JO (X : Cx) (W : WX) (e : Option Expr) (f : CO) : Prop where
  ex : ∃ t, PO X e t ∧ ∀ (ρ : En) (mh : List O) (F : Addr → Prop) (ι : List Addr) (σ : L2.St) (H : Hp) (Q : Option Int → Hp → Prop), SR X.K X.mg F ι mh H → ER X.K X.mg F ι H ρ σ → Post X.K X.mg OR W σ F ι H (f ρ mh) Q → t σ H Q
def coN : CO := fun _ mh => .ok none mh
def isI (d : D) (mh : List O) : Res (Option Int) := match d with
  | .int i => .ok (some i) mh
  | _ => .stuck
def coS (f : CE) : CO := fun ρ mh => (f ρ mh).bind isI
theorem o_none : JO X W none coN := ⟨_, po_none, fun _ _ _ _ _ _ _ sr _ h => h.ok sr rfl⟩
theorem o_some {e : Expr} {f : CE} (h : JE X W e f) : JO X W (some e) (coS f) := by
  obtain ⟨t, p, q⟩ := h.ex
  refine ⟨_, po_some p, fun ρ mh F ι σ H Q sr er h => ?_⟩
  refine q ρ mh F ι σ H _ sr er (h.bind.mono fun x H1 ⟨F1, ι1, d1, m1, st1, sr1, r1, h1⟩ => ?_)
  unfold isI at h1
  split at h1
  · cases r1
    exact ⟨_, rfl, h1.ok sr1 rfl⟩
  · exact h1.elim
def cutD (xs : List D) (lo hi : Option Int) : List D := (xs.drop (HT.sIx xs.length 0 lo)).take (HT.sIx xs.length xs.length hi - HT.sIx xs.length 0 lo)
def oSlL (d : D) (lo hi : Option Int) (mh : List O) : Res D := match lstOf mh d with
  | some xs => oLst (cutD xs lo hi) mh
  | none => .stuck
def cSl (o : D → Option Int → Option Int → List O → Res D) (f : CE) (l u : CO) : CE := fun ρ mh => (f ρ mh).bind fun x m => (l ρ m).bind fun lo m1 => (u ρ m1).bind fun hi m2 => o x lo hi m2
theorem j_slL {e : Expr} {lo hi : Option Expr} {p2 : Pos} {f : CE} {l u : CO} (he : JE X W e f) (hl : JO X W lo l) (hu : JO X W hi u) : JE X W (.Subscript e (.Slice lo hi none p2) pos) (cSl oSlL f l u) := by
  obtain ⟨te, pe, qe⟩ := he.ex
  obtain ⟨tl, pl, ql⟩ := hl.ex
  obtain ⟨tu, pu, qu⟩ := hu.ex
  refine ⟨_, pe_slice sl_list pe pl pu, fun ρ mh F ι σ H Q sr er h => ?_⟩
  refine qe ρ mh F ι σ H _ sr er (h.bind.mono fun x H1 ⟨F1, ι1, d1, m1, st1, sr1, r1, h1⟩ => ?_)
  refine ql ρ m1 F1 ι1 σ H1 _ sr1 (er.to sr.sub st1) (h1.bind.mono fun lo' H2 ⟨F2, ι2, d2, m2, st2, sr2, r2, h2⟩ => ?_)
  refine qu ρ m2 F2 ι2 σ H2 _ sr2 (er.to sr.sub (st1.trans st2)) (h2.bind.mono fun hi' H3 ⟨F3, ι3, d3, m3, st3, sr3, r3, h3⟩ => ?_)
  have e2 : d2 = lo' := r2
  have e3 : d3 = hi' := r3
  subst e2 e3
  unfold oSlL at h3
  split at h3
  · rename_i xs ex
    obtain ⟨a, vs, rfl, sq, rx⟩ := lstOf_ok sr3 (DV.to sr1.sub (st2.trans st3) _ _ r1) ex
    refine ⟨a, vs, rfl, sq, (post_lst sr3 (vs := cutV vs d2 d3) ?_ h3).2⟩
    unfold cutD cutV
    rw [rx.length]
    exact (rx.drop _).take _
  · exact h3.elim
/-! ### enumerate -/
def enumL (ds : List D) : List D := ds.zipIdx.map fun p => .tup [.int (p.2 : Nat), p.1]
theorem enumL_get {ds : List D} {i : Nat} : (enumL ds)[i]? = (ds[i]?).map fun d => .tup [.int (i : Nat), d] := by
  unfold enumL
  rw [List.getElem?_map, List.getElem?_zipIdx]
  cases ds[i]? <;> simp
@[simp] theorem enumL_length {ds : List D} : (enumL ds).length = ds.length := by
  unfold enumL; simp
def oEn (ds : List D) (mh : List O) : Res Its := match ds with
  | [.lst xs] => .ok (enumL xs, none) mh
  | [d] => match liveL mh d with
    | some (n, xs) => .ok (enumL xs, some (n, xs)) mh
    | none => .stuck
  | _ => .stuck
def iEn (f : CA) : CI := fun ρ mh => (f ρ mh).bind oEn
theorem ri_en {ds : List D} {vs : List V} {F' : Addr → Prop} {ι' : List Addr} {H' : Hp} {a : Addr} {mh' : List O} (sr' : SR X.K X.mg F' ι' mh' H') (sq : SqL X.K H' a vs) (r : DVs X.K X.mg F' ι' H' ds vs) (i : Nat) :
    (∀ d, (enumL ds)[i]? = some d → (Ite X.K a).go i H' ∧ ∀ x H'', (Ite X.K a).yld i H' x H'' → (∀ a o, H' a = some o → H'' a = some o) ∧ DV X.K X.mg F' ι' H'' d x) ∧ ((enumL ds).length ≤ i → (Ite X.K a).stop i H') := by
  refine ⟨fun d hd => ?_, fun hi => ⟨vs, sq, by rw [← r.length]; simpa using hi⟩⟩
  rw [enumL_get] at hd
  cases q : ds[i]? with
  | none => rw [q] at hd; cases hd
  | some d0 =>
    rw [q] at hd
    cases hd
    obtain ⟨v, hv, rv⟩ := r.get q
    refine ⟨⟨vs, v, sq, hv⟩, fun x H'' y => ?_⟩
    obtain ⟨T, x', rfl, hT, rfl, y⟩ := y
    have e := y vs sq
    rw [hv] at e; cases e
    have st : Step F' ι' H' F' ι' (upd H' T (.tup [.int (i : Nat), v])) := step_new hT
    exact ⟨fun b o z => by rw [upd_ne (ne_of_none z hT)]; exact z, .tup (.inl upd_same) (.cons (.int _) (.cons (DV.to sr'.sub st _ _ rv) .nil))⟩
theorem i_enum {e : Expr} {f : CA} {p tpos : Pos} {elts : List Expr} {kk : Nat} (hm : X.mg "enumerate" = none) (h : JA X W [e] f) (hg : Gl X "enumerate" := by rfl) (hs : starEach [e] X.env = [(false, eval e X.env)] := by rfl) :
    JI X W (.Tuple elts kk tpos) (.Call (.Name "enumerate" p) [e] [] pos) (iEn f) := by
  obtain ⟨t, pa, q⟩ := h.ex
  refine ⟨_, pi_enum hg hm pa hs, fun ρ mh F ι σ H R sr er h => ?_⟩
  refine q ρ mh F ι σ H _ sr er (h.bind.mono fun vs H1 ⟨F1, ι1, ds, m1, st1, sr1, r1, h1⟩ => ?_)
  unfold oEn at h1
  split at h1
  · cases r1 with
    | cons r1 r2 =>
      cases r2
      cases r1 with
      | lst hq r =>
        refine ⟨_, _, rfl, SqL_of hq, h1 F1 ι1 H1 _ Step.refl sr1 fun F' ι' H' mh' s x gd i => ?_⟩
        exact ri_en x (SqL_of (hq.to sr1.sub s)) (DVs.to sr1.sub s _ _ r) i
  · split at h1
    · rename_i n xs el
      cases r1 with
      | cons r1 r2 =>
        cases r2
        obtain ⟨a, ws, rfl, ea, hH, rx⟩ := liveL_ok sr1 r1 el
        refine ⟨_, _, rfl, .inl (.inl hH), h1 F1 ι1 H1 _ Step.refl sr1 fun F' ι' H' mh' s x gd i => ?_⟩
        have e' : ι'[n]? = some a := by
          obtain ⟨t, q⟩ := s.pre
          rw [← q, List.getElem?_append_left (List.getElem?_eq_some_iff.mp ea).1]; exact ea
        have gd' : mh'[n]? = some (.lst xs) := gd
        cases x.ob _ _ _ gd' e' with
        | lst hh' r' => exact ri_en x (.inl (.inl hh')) r' i
    · exact h1.elim
  · exact h1.elim
end
end G

/-! Part L: list(range(..)), max and min of a list, sum, in. -/
namespace G
open PySem PySem.Spec PyProof.Rows L2

def oLw (w : Bool) (ds : List D) (mh : List O) : Res D := if w = true then oNew ds mh else oLst ds mh
theorem rgV_dvs {K : PySem.W.Frag} {mg : Str → Option Value} {F : Addr → Prop} {ι : List Addr} {H : Hp} (a b : Int) : DVs K mg F ι H (rngL a (b - a).toNat) (rgV a b) := by
  unfold rngL rgV
  generalize List.range (b - a).toNat = l
  induction l with
  | nil => exact .nil
  | cons x l ih => exact .cons (.int _) ih
section
variable {X : Cx} {W : WX} {k : Nat} {pos : Pos} {F : Addr → Prop} {ι : List Addr} {mh : List O} {σ : L2.St} {H : Hp}
theorem post_lw {w : Bool} {ds : List D} {vs : List V} {Q : VK} (sr : SR X.K X.mg F ι mh H) (r : DVs X.K X.mg F ι H ds vs) (h : Post X.K X.mg (DR X) W σ F ι H (oLw w ds mh) Q) : vs.length ≤ sizeLine ∧ ∀ p, H p = none → Q (.ref p) (upd H p (.lst vs)) := by
  cases w with
  | true => exact post_new sr r h
  | false => exact post_lst sr r h
def oLR1 (w : Bool) (d : D) (mh : List O) : Res D := match d with
  | .int j => if -(2 ^ 62) ≤ j ∧ j ≤ 2 ^ 24 then oLw w (rngL 0 (j - 0).toNat) mh else .stuck
  | _ => .stuck
def oLR2 (w : Bool) (d e : D) (mh : List O) : Res D := match d, e with
  | .int i, .int j => if -(2 ^ 62) ≤ i ∧ i < 2 ^ 62 ∧ -(2 ^ 62) ≤ j ∧ j < 2 ^ 62 ∧ (j - i).toNat ≤ 2 ^ 24 then oLw w (rngL i (j - i).toNat) mh else .stuck
  | _, _ => .stuck
theorem j_listR1 (c : Cc k X W) {w : Bool} {a : Expr} {f : CE} {p p' pos' : Pos} (hm : X.mg "list" = none) (hm' : X.mg "range" = none) (ha : JE X W a f) (hg : Gl X "list" := by rfl) (hg' : Gl X "range" := by rfl) (na : starEach [a] X.env = (false, eval a X.env) :: starEach [] X.env := by rfl)
    (na' : starEach [.Call (.Name "range" p') [a] [] pos'] X.env = (false, eval (.Call (.Name "range" p') [a] [] pos') X.env) :: starEach [] X.env := by rfl) :
    JE X W (.Call (.Name "list" p) [.Call (.Name "range" p') [a] [] pos'] [] pos) (c1 (oLR1 w) f) := by
  obtain ⟨t, pa, q⟩ := ha.ex
  refine ⟨_, pe_listRg c.calm hg hm (prg_1 hg' hm' pa na) na', fun ρ mh F ι σ H Q sr er h => ?_⟩
  refine q ρ mh F ι σ H _ sr er (h.bind.mono fun x H1 ⟨F1, ι1, d1, m1, st1, sr1, r1, h1⟩ => ?_)
  unfold oLR1 at h1
  split at h1
  · split at h1
    · rename_i j hb
      cases r1
      exact ⟨j, rfl, ⟨by omega, by omega, by omega, by omega, by omega⟩, (post_lw sr1 (rgV_dvs 0 j) h1).2⟩
    · exact h1.elim
  · exact h1.elim
theorem j_listR2 (c : Cc k X W) {w : Bool} {a b : Expr} {fa fb : CE} {p p' pos' : Pos} (hm : X.mg "list" = none) (hm' : X.mg "range" = none) (ha : JE X W a fa) (hb : JE X W b fb) (hg : Gl X "list" := by rfl) (hg' : Gl X "range" := by rfl)
    (na : starEach [a, b] X.env = (false, eval a X.env) :: starEach [b] X.env := by rfl) (nb : starEach [b] X.env = (false, eval b X.env) :: starEach [] X.env := by rfl) (hp : (backTo pos' (starEach [b] X.env)).any (·.1) = false := by rfl)
    (na' : starEach [.Call (.Name "range" p') [a, b] [] pos'] X.env = (false, eval (.Call (.Name "range" p') [a, b] [] pos') X.env) :: starEach [] X.env := by rfl) :
    JE X W (.Call (.Name "list" p) [.Call (.Name "range" p') [a, b] [] pos'] [] pos) (c2 (oLR2 w) fa fb) := by
  obtain ⟨ta, pa, qa⟩ := ha.ex
  obtain ⟨tb, pb, qb⟩ := hb.ex
  refine ⟨_, pe_listRg c.calm hg hm (prg_2 hg' hm' pa pb na nb hp) na', fun ρ mh F ι σ H Q sr er h => ?_⟩
  refine qa ρ mh F ι σ H _ sr er (h.bind.mono fun x H1 ⟨F1, ι1, d1, m1, st1, sr1, r1, h1⟩ => ?_)
  refine qb ρ m1 F1 ι1 σ H1 _ sr1 (er.to sr.sub st1) (h1.bind.mono fun y H2 ⟨F2, ι2, d2, m2, st2, sr2, r2, h2⟩ => ?_)
  have r1' := DV.to sr1.sub st2 _ _ r1
  clear r1 h1
  unfold oLR2 at h2
  split at h2
  · split at h2
    · rename_i hb
      cases r1'
      cases r2
      exact ⟨_, _, rfl, rfl, hb, (post_lw sr2 (rgV_dvs _ _) h2).2⟩
    · exact h2.elim
  · exact h2.elim
/-! max, min, sum -/
def maxI : List Int → Int
  | [] => 0
  | [x] => x
  | x :: xs => if maxI xs < x then x else maxI xs
def minI : List Int → Int
  | [] => 0
  | [x] => x
  | x :: xs => if x < minI xs then x else minI xs
theorem maxI_mem : ∀ {l : List Int}, 0 < l.length → maxI l ∈ l
  | [], h => absurd h (Nat.lt_irrefl _)
  | [x], _ => List.mem_singleton.mpr rfl
  | x :: y :: l, _ => by
    have ih := maxI_mem (l := y :: l) (Nat.succ_pos _)
    show (if maxI (y :: l) < x then x else maxI (y :: l)) ∈ x :: y :: l
    split
    · exact List.mem_cons_self
    · exact List.mem_cons_of_mem _ ih
theorem maxI_le : ∀ {l : List Int}, ∀ y ∈ l, y ≤ maxI l
  | [], _, h => by cases h
  | [x], y, h => by rw [List.mem_singleton.mp h]; exact Int.le_refl _
  | x :: z :: l, y, h => by
    have ih := maxI_le (l := z :: l)
    show y ≤ if maxI (z :: l) < x then x else maxI (z :: l)
    rcases List.mem_cons.mp h with e | h
    · subst e; split <;> omega
    · have := ih y h; split <;> omega
theorem minI_mem : ∀ {l : List Int}, 0 < l.length → minI l ∈ l
  | [], h => absurd h (Nat.lt_irrefl _)
  | [x], _ => List.mem_singleton.mpr rfl
  | x :: y :: l, _ => by
    have ih := minI_mem (l := y :: l) (Nat.succ_pos _)
    show (if x < minI (y :: l) then x else minI (y :: l)) ∈ x :: y :: l
    split
    · exact List.mem_cons_self
    · exact List.mem_cons_of_mem _ ih
theorem minI_le : ∀ {l : List Int}, ∀ y ∈ l, minI l ≤ y
  | [], _, h => by cases h
  | [x], y, h => by rw [List.mem_singleton.mp h]; exact Int.le_refl _
  | x :: z :: l, y, h => by
    have ih := minI_le (l := z :: l)
    show (if x < minI (z :: l) then x else minI (z :: l)) ≤ y
    rcases List.mem_cons.mp h with e | h
    · subst e; split <;> omega
    · have := ih y h; split <;> omega
def intsL (mh : List O) (d : D) : Option (List Int) := (lstOf mh d).bind intsOf
theorem intsL_ok {d : D} {v : V} {ns : List Int} (sr : SR X.K X.mg F ι mh H) (r : DV X.K X.mg F ι H d v) (e : intsL mh d = some ns) : ∃ a, v = .ref a ∧ SqL X.K H a (ns.map V.int) := by
  unfold intsL at e
  cases q : lstOf mh d with
  | none => rw [q] at e; cases e
  | some ds =>
    rw [q] at e
    obtain ⟨a, vs, e1, e2, e3⟩ := lstOf_ok sr r q
    exact ⟨a, e1, (intsOf_ok e3 e).1 ▸ e2⟩
def oMaxL (ds : List D) (mh : List O) : Res D := match ds with
  | [d] => match intsL mh d with
    | some ns => if 0 < ns.length then .ok (.int (maxI ns)) mh else .stuck
    | none => .stuck
  | _ => .stuck
def oMinL (ds : List D) (mh : List O) : Res D := match ds with
  | [d] => match intsL mh d with
    | some ns => if 0 < ns.length then .ok (.int (minI ns)) mh else .stuck
    | none => .stuck
  | _ => .stuck
def oSumL (ds : List D) (mh : List O) : Res D := match ds with
  | [d] => match intsL mh d with
    | some ns => .ok (.int ns.sum) mh
    | none => .stuck
  | _ => .stuck
theorem vo_maxL : VOL X (rMax X.K) oMaxL := by
  intro W σ F ι mh H ds vs Q sr r h
  unfold oMaxL at h
  split at h
  · split at h
    · rename_i ns e
      split at h
      · rename_i hp
        cases r with
        | cons r1 r2 =>
          cases r2
          obtain ⟨a, rfl, sq⟩ := intsL_ok sr r1 e
          refine ⟨a, ns, rfl, sq, hp, fun m hm hle => ?_⟩
          have e1 : m = maxI ns := Int.le_antisymm (maxI_le m hm) (hle _ (maxI_mem hp))
          rw [e1]
          exact h.ok sr (.int _)
      · exact h.elim
    · exact h.elim
  · exact h.elim
theorem vo_minL : VOL X (rMin X.K) oMinL := by
  intro W σ F ι mh H ds vs Q sr r h
  unfold oMinL at h
  split at h
  · split at h
    · rename_i ns e
      split at h
      · rename_i hp
        cases r with
        | cons r1 r2 =>
          cases r2
          obtain ⟨a, rfl, sq⟩ := intsL_ok sr r1 e
          refine ⟨a, ns, rfl, sq, hp, fun m hm hle => ?_⟩
          have e1 : m = minI ns := Int.le_antisymm (hle _ (minI_mem hp)) (minI_le m hm)
          rw [e1]
          exact h.ok sr (.int _)
      · exact h.elim
    · exact h.elim
  · exact h.elim
theorem vo_sumL : VOL X (rSum X.K) oSumL := by
  intro W σ F ι mh H ds vs Q sr r h
  unfold oSumL at h
  split at h
  · split at h
    · rename_i ns e
      cases r with
      | cons r1 r2 =>
        cases r2
        obtain ⟨a, rfl, sq⟩ := intsL_ok sr r1 e
        exact ⟨a, ns, rfl, sq, h.ok sr (.int _)⟩
    · exact h.elim
  · exact h.elim
/-! in -/
def flatD : D → Option V
  | .non => some .non
  | .bl b => some (.bl b)
  | .int i => some (.int i)
  | .str x => some (.str x)
  | _ => none
theorem flatD_ok {d : D} {v u : V} (r : DV X.K X.mg F ι H d v) (e : flatD d = some u) : v = u ∧ flatV u = true := by
  cases r <;> cases e <;> exact ⟨rfl, rfl⟩
def flatsD : List D → Option (List V)
  | [] => some []
  | d :: ds => match flatD d, flatsD ds with
    | some v, some vs => some (v :: vs)
    | _, _ => none
theorem flatsD_ok : ∀ {ds : List D} {vs us : List V}, DVs X.K X.mg F ι H ds vs → flatsD ds = some us → vs = us ∧ us.all flatV = true
  | [], _, _, r, e => by cases r; cases e; exact ⟨rfl, rfl⟩
  | d :: ds, _, _, r, e => by
    cases r with
    | cons r1 r2 =>
      unfold flatsD at e
      split at e
      · rename_i e1 e2
        cases e
        obtain ⟨rfl, f1⟩ := flatD_ok r1 e1
        obtain ⟨rfl, f2⟩ := flatsD_ok r2 e2
        exact ⟨rfl, by rw [List.all_cons, f1, f2]; rfl⟩
      · cases e
def oInB (neg : Bool) (d e : D) (mh : List O) : Res D := match flatD d, (seqOf mh e).bind flatsD with
  | some x, some xs => .ok (.bl (if neg then !inV x xs else inV x xs)) mh
  | _, _ => .stuck
theorem vo_in (neg : Bool) : VO2 X (rIn X.K neg) (oInB neg) := by
  intro W σ F ι mh H d e v u Q sr r1 r2 h
  unfold oInB at h
  split at h
  · rename_i x xs e1 e2
    obtain ⟨rfl, f1⟩ := flatD_ok r1 e1
    cases q : seqOf mh e with
    | none => rw [q] at e2; cases e2
    | some ds =>
      rw [q] at e2
      obtain ⟨a, ws, rfl, sq, rx⟩ := seqOf_ok sr r2 q
      obtain ⟨rfl, f2⟩ := flatsD_ok rx e2
      exact ⟨a, _, rfl, sq, f1, f2, h.ok sr (.bl _)⟩
  · exact h.elim
/-! AugAssign x += .. of ints -/
end
end G

/-! Part M: plain lemmas to reckon with the heap, comprehensions, loops that end early, equality. -/
namespace G
open PySem L2

section
variable {mh : List O} {ds es : List D} {d e : D} {i : Int} {n m : Nat}
/-! ### live lists -/
theorem lstOf_ref : lstOf mh (.ref n) = match mh[n]? with
    | some (.lst ds) => some ds
    | _ => none := rfl
theorem liveL_ref : liveL mh (.ref n) = match mh[n]? with
    | some (.lst ds) => some (n, ds)
    | _ => none := rfl
theorem lstOf_at (h : mh[n]? = some (.lst ds)) : lstOf mh (.ref n) = some ds := by rw [lstOf_ref, h]
theorem liveL_at (h : mh[n]? = some (.lst ds)) : liveL mh (.ref n) = some (n, ds) := by rw [liveL_ref, h]
@[simp] theorem lstOf_lst : lstOf mh (.lst ds) = some ds := rfl
theorem oIx_ref (x : D) (h : mh[n]? = some (.lst ds)) (hx : atI ds i = some x) : oIx (.ref n) (.int i) mh = .ok x mh := by
  show (match lstOf mh (.ref n) with | some xs => (match atI xs i with | some x => Res.ok x mh | none => .stuck) | none => .stuck) = _
  rw [lstOf_at h]
  show (match atI ds i with | some x => Res.ok x mh | none => .stuck) = _
  rw [hx]
theorem oLen_ref (h : mh[n]? = some (.lst ds)) : oLen [.ref n] mh = .ok (.int ds.length) mh := by
  show (match lstOf mh (.ref n) with | some xs => Res.ok (D.int xs.length) mh | none => .stuck) = _
  rw [lstOf_at h]
theorem oIts_ref (h : mh[n]? = some (.lst ds)) : oIts (.ref n) mh = .ok (ds, some (n, ds)) mh := by
  show (match mh[n]? with | some (.lst ds) => Res.ok (ds, some (n, ds)) mh | _ => .stuck) = _
  rw [h]
theorem oAdd_of {xs ys : List D} (hd : ∀ z, d ≠ .int z) (hs : ∀ z, d ≠ .str z) (ht : ∀ z, d ≠ .tup z) (h1 : lstOf mh d = some xs) (h2 : lstOf mh e = some ys) (h : xs.length + ys.length ≤ 100000) : oAdd d e mh = .ok (.lst (xs ++ ys)) mh := by
  unfold oAdd
  split
  · exact absurd rfl (hd _)
  · exact absurd rfl (hs _)
  · exact absurd rfl (ht _)
  · rw [h1, h2]; exact if_pos (sl_1000 h)
theorem oAdd_rl (h : mh[n]? = some (.lst ds)) (hl : ds.length + es.length ≤ 100000) : oAdd (.ref n) (.lst es) mh = .ok (.lst (ds ++ es)) mh :=
  oAdd_of (fun _ z => nomatch z) (fun _ z => nomatch z) (fun _ z => nomatch z) (lstOf_at h) rfl hl
theorem gIx_at {f g : CE} {ρ : En} {m1 m2 : List O} {k : Nat} (hf : f ρ mh = .ok (.ref n) m1) (hg : g ρ m1 = .ok (.int i) m2) (h : m2[n]? = some (.lst ds)) (hk : ixN ds.length i = some k) : gIx f g d ρ mh = .nx ρ (m2.set n (.lst (ds.set k d))) := by
  unfold gIx
  rw [hf]
  show (match g ρ m1 with | .ok i m' => (match oSetL (.ref n) i d m' with | some m2 => Out.nx ρ m2 | none => .stuck) | _ => .stuck) = _
  rw [hg]
  show (match oSetL (.ref n) (.int i) d m2 with | some m2 => Out.nx ρ m2 | none => .stuck) = _
  unfold oSetL
  rw [liveL_at h]
  show (match (match ixN ds.length i with | some j => some (m2.set n (.lst (ds.set j d))) | none => none) with | some m2 => Out.nx ρ m2 | none => .stuck) = _
  rw [hk]
theorem cM_at {o : D → List D → List O → Res D} {f : CE} {g : CA} {ρ : En} {m1 : List O} (hf : f ρ mh = .ok (.ref n) m1) (h : m1[n]? = some (.lst ds)) : cM o f g ρ mh = (g ρ m1).bind fun xs m' => o (.ref n) xs m' := by
  unfold cM
  rw [hf]
  show (if (lstOf m1 (.ref n)).isSome = true then _ else _) = _
  rw [lstOf_at h]
  rfl
theorem oAppend_at (h : mh[n]? = some (.lst ds)) (hl : ds.length ≤ 10000) : oAppend (.ref n) [d] mh = .ok .non (mh.set n (.lst (ds ++ [d]))) := by
  unfold oAppend
  rw [liveL_at h]
  exact if_pos (Nat.lt_of_lt_of_le (Nat.lt_succ_of_le hl) (sl_1000 (by omega)))
theorem oReverse_at (h : mh[n]? = some (.lst ds)) : oReverse (.ref n) [] mh = .ok .non (mh.set n (.lst ds.reverse)) := by
  unfold oReverse
  rw [liveL_at h]
theorem oPopAt_at (h : mh[n]? = some (.lst ds)) (h0 : 0 ≤ i) (h1 : i < 2 ^ 63) (hx : ds[i.toNat]? = some d) : oPopAt (.ref n) [.int i] mh = .ok d (mh.set n (.lst (ds.eraseIdx i.toNat))) := by
  unfold oPopAt
  rw [liveL_at h]
  show (if 0 ≤ i ∧ i < 2 ^ 63 then _ else _) = _
  rw [if_pos ⟨h0, h1⟩, hx]
theorem oInsert_at (h : mh[n]? = some (.lst ds)) (hl : ds.length ≤ 10000) (h0 : 0 ≤ i) (h1 : i < 2 ^ 63) : oInsert (.ref n) [.int i, d] mh = .ok .non (mh.set n (.lst (ds.take i.toNat ++ [d] ++ ds.drop i.toNat))) := by
  unfold oInsert
  rw [liveL_at h]
  exact if_pos ⟨Nat.lt_of_lt_of_le (Nat.lt_succ_of_le hl) (sl_1000 (by omega)), h0, h1⟩
theorem ar_at {f : Fn} (h : ds.length = n) : ar n f ds mh = f ds mh := by rw [ar_eq, if_pos h]
theorem ar_n {f : Fn} {r : Res D} (h : f ds mh = r) (hl : ds.length = n := by rfl) : ar n f ds mh = r := by rw [ar_eq, if_pos hl, h]
theorem call_bl {f : Fn} {b : Bool} {m' : List O} (h : f ds [] = .ok (.bl b) m') (hr : noRefs ds = true) (hl : ds.length = n := by rfl) : ar n (oP f) ds mh = .ok (.bl b) mh := by
  rw [ar_eq, if_pos hl]
  unfold oP
  rw [if_pos hr, h]
  cases m' <;> rfl
theorem fzl_self {f : D → Option D} : ∀ xs : List D, (∀ x ∈ xs, f x = some x) → fzl f xs = some xs
  | [], _ => rfl
  | x :: xs, h => by
    unfold fzl
    rw [h x List.mem_cons_self, fzl_self xs fun y hy => h y (List.mem_cons_of_mem _ hy)]
/-- a call whose list is taken as a value -/
theorem call_fz {f : Fn} {xs : List D} {m' : List O} {j : Nat} (h : f ds [] = .ok (.ref j) m') (hj : m'[j]? = some (.lst xs)) (hx : ∀ x ∈ xs, fz m' 11 x = some x) (hr : noRefs ds = true) (hl : ds.length = n := by rfl) : ar n (oP f) ds mh = .ok (.lst xs) mh := by
  rw [ar_eq, if_pos hl]
  unfold oP
  rw [if_pos hr, h]
  have e : oFz m' (.ref j) = some (.lst xs) := by
    cases m' with
    | nil => simp at hj
    | cons o m =>
      show (match (o :: m)[j]? with
        | some (.lst ds) => (fzl (fz (o :: m) 11) ds).map D.lst
        | some (.dic ks ds) => (fzl (fz (o :: m) 11) ds).map (D.dic ks)
        | some (.ins x ns ds) => (fzl (fz (o :: m) 11) ds).map (D.obj x ns)
        | none => none) = _
      rw [hj]
      show (fzl (fz (o :: m) 11) xs).map D.lst = _
      rw [fzl_self xs hx]; rfl
  show (match oFz m' (.ref j) with | some d' => Res.ok d' mh | none => .stuck) = _
  rw [e]
/-! ### list(range(..)), copies -/
theorem oLR1_v {j : Int} (h : 0 ≤ j) (h2 : j ≤ 100000) : oLR1 false (.int j) mh = .ok (.lst (rngL 0 j.toNat)) mh := by
  show (if -(2 ^ 62) ≤ j ∧ j ≤ 2 ^ 24 then _ else _) = _
  rw [if_pos (by omega), Int.sub_zero]
  exact oLst_s (by unfold rngL; simp; omega)
theorem oLR1_w {j : Int} (h : 0 ≤ j) (h2 : j ≤ 100000) : oLR1 true (.int j) mh = .ok (.ref mh.length) (mh ++ [.lst (rngL 0 j.toNat)]) := by
  show (if -(2 ^ 62) ≤ j ∧ j ≤ 2 ^ 24 then _ else _) = _
  rw [if_pos (by omega), Int.sub_zero]
  exact oNew_s (by unfold rngL; simp; omega)
theorem oLR2_v {j : Int} (h : -(2 ^ 62) ≤ i) (h1 : j < 2 ^ 62) (h2 : j - i ≤ 100000) (h3 : i < 2 ^ 62) (h4 : -(2 ^ 62) ≤ j) : oLR2 false (.int i) (.int j) mh = .ok (.lst (rngL i (j - i).toNat)) mh := by
  show (if -(2 ^ 62) ≤ i ∧ i < 2 ^ 62 ∧ -(2 ^ 62) ≤ j ∧ j < 2 ^ 62 ∧ (j - i).toNat ≤ 2 ^ 24 then _ else _) = _
  rw [if_pos (by omega)]
  exact oLst_s (by unfold rngL; simp; omega)
theorem oListOf_v (h : seqOf mh d = some ds) (hl : ds.length ≤ 100000) : oListOf [d] mh = .ok (.lst ds) mh := by
  show (match seqOf mh d with | some xs => oLst xs mh | none => .stuck) = _
  rw [h]; exact oLst_s hl
theorem seqOf_ref (h : mh[n]? = some (.lst ds)) : seqOf mh (.ref n) = some ds := lstOf_at h
@[simp] theorem seqOf_lst : seqOf mh (.lst ds) = some ds := rfl
@[simp] theorem seqOf_tup : seqOf mh (.tup ds) = some ds := rfl
theorem oMaxL_ints {ns : List Int} (hd : lstOf mh d = some (ns.map D.int)) (h : 0 < ns.length) : oMaxL [d] mh = .ok (.int (maxI ns)) mh := by
  have e : intsL mh d = some ns := by unfold intsL; rw [hd]; exact intsOf_map ns
  show (match intsL mh d with | some ns => if 0 < ns.length then Res.ok (D.int (maxI ns)) mh else .stuck | none => .stuck) = _
  rw [e]; exact if_pos h
theorem oAny_bls {bs : List Bool} (hd : lstOf mh d = some (bs.map D.bl)) : oAny [d] mh = .ok (.bl (bs.any id)) mh := by
  have hb : ∀ bs : List Bool, blsOf (bs.map D.bl) = some bs := by
    intro bs
    induction bs with
    | nil => rfl
    | cons b bs ih => show (match blsOf (bs.map D.bl) with | some bs => some (b :: bs) | none => none) = _; rw [ih]
  have e : (lstOf mh d).bind blsOf = some bs := by rw [hd]; exact hb bs
  show (match (lstOf mh d).bind blsOf with | some bs => Res.ok (D.bl (bs.any id)) mh | none => .stuck) = _
  rw [e]
theorem oAll_bls {bs : List Bool} (hd : lstOf mh d = some (bs.map D.bl)) : oAll [d] mh = .ok (.bl (bs.all id)) mh := by
  have hb : ∀ bs : List Bool, blsOf (bs.map D.bl) = some bs := by
    intro bs
    induction bs with
    | nil => rfl
    | cons b bs ih => show (match blsOf (bs.map D.bl) with | some bs => some (b :: bs) | none => none) = _; rw [ih]
  have e : (lstOf mh d).bind blsOf = some bs := by rw [hd]; exact hb bs
  show (match (lstOf mh d).bind blsOf with | some bs => Res.ok (D.bl (bs.all id)) mh | none => .stuck) = _
  rw [e]
/-! ### loops that may end early; comprehensions -/
theorem forL_any {g : Its} {tg : CG} {b : CS} {p : D → Bool} {r : D} (I : En → Prop) (hg : guard g mh) : ∀ (ds : List D) (ρ : En), I ρ → (∀ x ∈ ds, ∀ ρ, I ρ → if p x = true then (tg x ρ mh).seq b = .rt r mh else ∃ ρ', (tg x ρ mh).seq b = .nx ρ' mh ∧ I ρ') →
    (ds.any p = true → forL g tg b ds ρ mh = .rt r mh) ∧ (ds.any p = false → ∃ ρ', forL g tg b ds ρ mh = .nx ρ' mh ∧ I ρ')
  | [], ρ, h0, _ => ⟨fun z => by simp at z, fun _ => ⟨ρ, by unfold forL; rw [if_pos hg], h0⟩⟩
  | x :: ds, ρ, h0, hs => by
    have h1 := hs x List.mem_cons_self ρ h0
    by_cases hp : p x = true
    · rw [if_pos hp] at h1
      refine ⟨fun _ => ?_, fun z => ?_⟩
      · unfold forL; rw [if_pos hg, h1]
      · rw [List.any_cons, hp] at z; cases z
    · rw [if_neg hp] at h1
      obtain ⟨ρ1, e1, i1⟩ := h1
      obtain ⟨a1, a2⟩ := forL_any I hg ds ρ1 i1 (fun x hx => hs x (List.mem_cons_of_mem _ hx))
      have hp' : p x = false := by simpa using hp
      refine ⟨fun z => ?_, fun z => ?_⟩
      · rw [List.any_cons, hp', Bool.false_or] at z
        unfold forL; rw [if_pos hg, e1]; exact a1 z
      · rw [List.any_cons, hp', Bool.false_or] at z
        obtain ⟨ρ2, e2, i2⟩ := a2 z
        exact ⟨ρ2, by unfold forL; rw [if_pos hg, e1]; exact e2, i2⟩
theorem lcL_pure {g : Its} {tg : CG} {t : CT} {f : CE} {ρ : En} {p : D → Bool} {e : D → D} (hg : guard g mh) : ∀ ds : List D, (∀ x ∈ ds, ∃ ρ', tg x ρ mh = .nx ρ' mh ∧ t ρ' mh = .ok (p x) mh ∧ (p x = true → f ρ' mh = .ok (e x) mh)) → lcL g tg t f ρ ds mh = .ok ((ds.filter p).map e) mh
  | [], _ => by unfold lcL; rw [if_pos hg]; rfl
  | x :: ds, h => by
    obtain ⟨ρ', h1, h2, h3⟩ := h x List.mem_cons_self
    have ih := lcL_pure hg ds fun x hx => h x (List.mem_cons_of_mem _ hx)
    unfold lcL
    rw [if_pos hg, h1]
    show (t ρ' mh).ne.bind _ = _
    rw [h2]
    show (if p x = true then _ else _) = _
    by_cases hp : p x = true
    · rw [if_pos hp, h3 hp, List.filter_cons_of_pos hp]
      show (lcL g tg t f ρ ds mh).bind _ = _
      rw [ih]; rfl
    · rw [if_neg hp, List.filter_cons_of_neg hp]
      exact ih
theorem lcL_map {α : Type} {h : α → D} {g : Its} {tg : CG} {t : CT} {f : CE} {ρ : En} {p : α → Bool} {e : α → D} (hg : guard g mh) : ∀ xs : List α, (∀ x ∈ xs, ∃ ρ', tg (h x) ρ mh = .nx ρ' mh ∧ t ρ' mh = .ok (p x) mh ∧ (p x = true → f ρ' mh = .ok (e x) mh)) → lcL g tg t f ρ (xs.map h) mh = .ok ((xs.filter p).map e) mh
  | [], _ => by unfold lcL; exact if_pos hg
  | x :: xs, hh => by
    obtain ⟨ρ', h1, h2, h3⟩ := hh x List.mem_cons_self
    have ih := lcL_map hg xs fun x hx => hh x (List.mem_cons_of_mem _ hx)
    rw [List.map_cons]
    unfold lcL
    rw [if_pos hg, h1]
    show (t ρ' mh).ne.bind _ = _
    rw [h2]
    show (if p x = true then _ else _) = _
    by_cases hp : p x = true
    · rw [if_pos hp, h3 hp, List.filter_cons_of_pos hp]
      show (lcL g tg t f ρ (xs.map h) mh).bind _ = _
      rw [ih]; rfl
    · rw [if_neg hp, List.filter_cons_of_neg hp]
      exact ih
theorem forL_anyM {α : Type} {h : α → D} {g : Its} {tg : CG} {b : CS} {p : α → Bool} {r : D} (I : En → Prop) (hg : guard g mh) : ∀ (xs : List α) (ρ : En), I ρ → (∀ x ∈ xs, ∀ ρ, I ρ → if p x = true then (tg (h x) ρ mh).seq b = .rt r mh else ∃ ρ', (tg (h x) ρ mh).seq b = .nx ρ' mh ∧ I ρ') →
    (xs.any p = true → forL g tg b (xs.map h) ρ mh = .rt r mh) ∧ (xs.any p = false → ∃ ρ', forL g tg b (xs.map h) ρ mh = .nx ρ' mh ∧ I ρ')
  | [], ρ, h0, _ => ⟨fun z => by simp at z, fun _ => ⟨ρ, by unfold forL; exact if_pos hg, h0⟩⟩
  | x :: xs, ρ, h0, hs => by
    have h1 := hs x List.mem_cons_self ρ h0
    rw [List.map_cons]
    by_cases hp : p x = true
    · rw [if_pos hp] at h1
      refine ⟨fun _ => ?_, fun z => ?_⟩
      · unfold forL; rw [if_pos hg, h1]
      · rw [List.any_cons, hp] at z; cases z
    · rw [if_neg hp] at h1
      obtain ⟨ρ1, e1, i1⟩ := h1
      obtain ⟨a1, a2⟩ := forL_anyM I hg xs ρ1 i1 (fun x hx => hs x (List.mem_cons_of_mem _ hx))
      have hp' : p x = false := by simpa using hp
      refine ⟨fun z => ?_, fun z => ?_⟩
      · rw [List.any_cons, hp', Bool.false_or] at z
        unfold forL; rw [if_pos hg, e1]; exact a1 z
      · rw [List.any_cons, hp', Bool.false_or] at z
        obtain ⟨ρ2, e2, i2⟩ := a2 z
        exact ⟨ρ2, by unfold forL; rw [if_pos hg, e1]; exact e2, i2⟩
/-- a comprehension whose items draw on -/
theorem lcL_inv {l : List D} {tg : CG} {t : CT} {f : CE} {ρ : En} (I : List O → Prop) (P : D → Prop) : ∀ (ds : List D) (mh : List O), I mh → (∀ x ∈ ds, ∀ mh, I mh → ∃ ρ' y mh', tg x ρ mh = .nx ρ' mh ∧ t ρ' mh = .ok true mh ∧ f ρ' mh = .ok y mh' ∧ P y ∧ I mh') →
    ∃ ys mh', lcL (l, none) tg t f ρ ds mh = .ok ys mh' ∧ I mh' ∧ (∀ y ∈ ys, P y) ∧ ys.length = ds.length
  | [], mh, h, _ => ⟨[], mh, by unfold lcL; exact if_pos (show guard (l, none) mh from trivial), h, fun y hy => by simp at hy, rfl⟩
  | x :: ds, mh, h, hs => by
    obtain ⟨ρ', y, m1, e1, e2, e3, py, i1⟩ := hs x List.mem_cons_self mh h
    obtain ⟨ys, m2, e4, i2, pys, hl⟩ := lcL_inv I P ds m1 i1 fun x hx => hs x (List.mem_cons_of_mem _ hx)
    refine ⟨y :: ys, m2, ?_, i2, fun z hz => ?_, by simp [hl]⟩
    · unfold lcL
      rw [if_pos (show guard (l, none) mh from trivial), e1]
      show (t ρ' mh).ne.bind _ = _
      rw [e2]
      show ((f ρ' mh).ne.bind fun y m2 => (lcL (l, none) tg t f ρ ds m2).bind fun ys m3 => Res.ok (y :: ys) m3) = _
      rw [e3]
      show (lcL (l, none) tg t f ρ ds m1).bind _ = _
      rw [e4]; rfl
    · rcases List.mem_cons.mp hz with rfl | hz
      · exact py
      · exact pys z hz
theorem cLc_at {w : Bool} {it : CI} {tg : CG} {t : CT} {f : CE} {own : List Nat} {ρ : En} {g : Its} {ys : List D} {m1 m2 : List O} (hi : it ρ mh = .ok g m1) (hl : g.1.length ≤ 100000) (h : lcL g tg t f (wipeE ρ own) g.1 m1 = .ok ys m2) : cLcX w it tg t f own ρ mh = fin w ys m2 := by
  unfold cLcX cLcR
  rw [hi]
  show Res.bind (if g.1.length ≤ sizeLine then _ else _) _ = _
  rw [if_pos (sl_1000 hl), h]
  rfl
@[simp] theorem fin_f {ys : List D} : fin false ys mh = .ok (.lst ys) mh := rfl
@[simp] theorem fin_t {ys : List D} : fin true ys mh = .ok (.ref mh.length) (mh ++ [.lst ys]) := rfl
@[simp] theorem wipeE_nil {ρ : En} : wipeE ρ [] = ρ := rfl
@[simp] theorem wipeE_cons {ρ : En} {v : Nat} {vs : List Nat} : wipeE ρ (v :: vs) = (wipeE ρ vs).set v none := rfl
theorem rngL_len {lo : Int} : (rngL lo n).length = n := by unfold rngL; simp
theorem rngL_succ {lo : Int} : rngL lo (n + 1) = rngL lo n ++ [.int (lo + (n : Nat))] := by
  unfold rngL; rw [List.range_succ, List.map_append]; rfl
/-- those up to f -/
theorem rngL_filter {lo f : Int} {p : D → Bool} : ∀ n : Nat, (∀ j : Nat, j < n → p (.int (lo + j)) = decide (lo + j ≤ f)) → (rngL lo n).filter p = rngL lo (min n (f + 1 - lo).toNat)
  | 0, _ => by simp [rngL]
  | n + 1, h => by
    have ih := rngL_filter n fun j hj => h j (by omega)
    rw [rngL_succ, List.filter_append, ih]
    have hp := h n (by omega)
    by_cases hf : lo + (n : Int) ≤ f
    · rw [List.filter_cons_of_pos (by rw [hp, decide_eq_true hf]), List.filter_nil]
      have e1 : min n (f + 1 - lo).toNat = n := by omega
      have e2 : min (n + 1) (f + 1 - lo).toNat = n + 1 := by omega
      rw [e1, e2, rngL_succ]
    · rw [List.filter_cons_of_neg (by rw [hp, decide_eq_false hf]; decide), List.filter_nil, List.append_nil]
      have e2 : min (n + 1) (f + 1 - lo).toNat = min n (f + 1 - lo).toNat := by omega
      rw [e2]
theorem rngL_mem {lo : Int} (h : d ∈ rngL lo n) : ∃ j : Nat, j < n ∧ d = .int (lo + j) := by
  unfold rngL at h
  obtain ⟨j, hj, e⟩ := List.mem_map.mp h
  exact ⟨j, List.mem_range.mp hj, e.symm⟩
/-! ### equality -/
theorem toPl_can {f : D → Option PyData} (h : ∀ d p, f d = some p → p.canLay0 = true) : ∀ (ds : List D) (ps : List PyData), toPl f ds = some ps → PyData.canLayAll0 ps = true
  | [], _, e => by cases e; rfl
  | d :: ds, _, e => by
    unfold toPl at e
    split at e
    · rename_i e1 e2
      cases e
      have := toPl_can h ds _ e2
      simp [PyData.canLayAll0, h _ _ e1, this]
    · cases e
theorem toP_can : ∀ (n : Nat) (d : D) (p : PyData), toP mh n d = some p → p.canLay0 = true
  | 0, _, _, e => by cases e
  | n + 1, d, p, e => by
    have ih := toPl_can (toP_can n)
    cases d with
    | non => cases e; rfl
    | bl b => cases e; rfl
    | int i => cases e; rfl
    | str x =>
      have e : (if PyData.strOk x = true then some (PyData.str x) else none) = some p := e
      split at e
      · rename_i hx; cases e; simp [PyData.canLay0, hx]
      · cases e
    | tup ds =>
      obtain ⟨ps, e1, rfl⟩ := Option.map_eq_some_iff.mp (show (toPl (toP mh n) ds).map PyData.tuple = some p from e)
      simpa [PyData.canLay0] using ih _ _ e1
    | lst ds =>
      obtain ⟨ps, e1, rfl⟩ := Option.map_eq_some_iff.mp (show (toPl (toP mh n) ds).map PyData.list = some p from e)
      simpa [PyData.canLay0] using ih _ _ e1
    | ref m =>
      have e : (match mh[m]? with | some (.lst ds) => (toPl (toP mh n) ds).map PyData.list | _ => none) = some p := e
      split at e
      · obtain ⟨ps, e1, rfl⟩ := Option.map_eq_some_iff.mp e
        simpa [PyData.canLay0] using ih _ _ e1
      · cases e
    | ty => cases e
    | glb => cases e
    | dic => cases e
    | obj => cases e
theorem oEq_same {p : PyData} (h1 : toP mh 12 d = some p) (h2 : toP mh 12 e = some p) : oEq d e mh = .ok (.bl true) mh := by
  unfold oEq; rw [h1, h2]
  show Res.ok (D.bl (PyData.eqv p p)) mh = _
  rw [PySem.SeqAt.eqv_refl p (toP_can _ _ _ h1)]
theorem oNe_same {p : PyData} (h1 : toP mh 12 d = some p) (h2 : toP mh 12 e = some p) : oNe d e mh = .ok (.bl false) mh := by
  unfold oNe; rw [h1, h2]
  show Res.ok (D.bl (!PyData.eqv p p)) mh = _
  rw [PySem.SeqAt.eqv_refl p (toP_can _ _ _ h1)]; rfl
/-- ints, tuples and lists of such, at most so deep -/
def okP : Nat → D → Prop
  | 0, _ => False
  | n + 1, d => match d with
    | .int _ => True
    | .bl _ => True
    | .non => True
    | .tup ds => ∀ x ∈ ds, okP n x
    | .lst ds => ∀ x ∈ ds, okP n x
    | .str x => PyData.strOk x = true
    | _ => False
theorem toPl_some {f : D → Option PyData} : ∀ ds : List D, (∀ x ∈ ds, ∃ p, f x = some p) → ∃ ps, toPl f ds = some ps
  | [], _ => ⟨[], rfl⟩
  | d :: ds, h => by
    obtain ⟨p, e⟩ := h d List.mem_cons_self
    obtain ⟨ps, e2⟩ := toPl_some ds fun x hx => h x (List.mem_cons_of_mem _ hx)
    exact ⟨p :: ps, by unfold toPl; rw [e, e2]⟩
theorem okP_toP : ∀ (n : Nat) (d : D), okP n d → ∃ p, toP mh n d = some p
  | 0, _, h => h.elim
  | n + 1, d, h => by
    cases d with
    | non => exact ⟨_, rfl⟩
    | bl b => exact ⟨_, rfl⟩
    | int i => exact ⟨_, rfl⟩
    | tup ds =>
      obtain ⟨ps, e⟩ := toPl_some ds fun x hx => okP_toP n x (h x hx)
      exact ⟨.tuple ps, by show (toPl (toP mh n) ds).map PyData.tuple = _; rw [e]; rfl⟩
    | lst ds =>
      obtain ⟨ps, e⟩ := toPl_some ds fun x hx => okP_toP n x (h x hx)
      exact ⟨.list ps, by show (toPl (toP mh n) ds).map PyData.list = _; rw [e]; rfl⟩
    | str x => exact ⟨.str x, by show (if PyData.strOk x = true then some (PyData.str x) else none) = _; exact if_pos h⟩
    | ty => exact h.elim
    | glb => exact h.elim
    | ref => exact h.elim
    | dic => exact h.elim
    | obj => exact h.elim
theorem okP_up : ∀ (n : Nat) (d : D), okP n d → okP (n + 1) d
  | 0, _, h => h.elim
  | n + 1, d, h => by
    cases d with
    | non => trivial
    | bl b => trivial
    | int i => trivial
    | tup ds => exact fun x hx => okP_up n x (h x hx)
    | lst ds => exact fun x hx => okP_up n x (h x hx)
    | str => exact h
    | ty => exact h.elim
    | glb => exact h.elim
    | ref => exact h.elim
    | dic => exact h.elim
    | obj => exact h.elim
theorem oEq_self (h : okP 12 d) : oEq d d mh = .ok (.bl true) mh := by
  obtain ⟨p, e⟩ := okP_toP (mh := mh) 12 d h
  exact oEq_same e e
theorem oNe_self (h : okP 12 d) : oNe d d mh = .ok (.bl false) mh := by
  obtain ⟨p, e⟩ := okP_toP (mh := mh) 12 d h
  exact oNe_same e e
/-- a live list beside its content -/
theorem toP_ref (h : mh[n]? = some (.lst ds)) : toP mh 12 (.ref n) = toP mh 12 (.lst ds) := by
  show (match mh[n]? with | some (.lst ds) => (toPl (toP mh 11) ds).map PyData.list | _ => none) = _
  rw [h]; rfl
theorem oEq_nil (h : okP 12 (.lst ds)) : oEq (.lst ds) (.lst []) mh = .ok (.bl ds.isEmpty) mh := by
  cases ds with
  | nil => exact oEq_self h
  | cons x ds =>
    obtain ⟨p, e⟩ := okP_toP (mh := mh) 12 _ h
    obtain ⟨ps, e1, rfl⟩ := Option.map_eq_some_iff.mp (show (toPl (toP mh 11) (x :: ds)).map PyData.list = some p from e)
    have hq : toP mh 12 (.lst []) = some (.list []) := rfl
    unfold oEq
    rw [e, hq]
    have hps : ∃ y ys, ps = y :: ys := by
      unfold toPl at e1
      split at e1
      · cases e1; exact ⟨_, _, rfl⟩
      · cases e1
    obtain ⟨y, ys, rfl⟩ := hps
    rfl
theorem oNe_nil (h : okP 12 (.lst ds)) : oNe (.lst ds) (.lst []) mh = .ok (.bl (!ds.isEmpty)) mh := by
  have := oEq_nil (mh := mh) h
  unfold oEq at this
  unfold oNe
  split at this
  · rename_i p q e1 e2
    injection this with h1
    injection h1 with h1
    show Res.ok (D.bl (!PyData.eqv p q)) mh = _
    rw [h1]
  · cases this
theorem oNe_nil_ref (hm : mh[n]? = some (.lst ds)) (h : okP 12 (.lst ds)) : oNe (.ref n) (.lst []) mh = .ok (.bl (!ds.isEmpty)) mh := by
  have := oNe_nil (mh := mh) h
  unfold oNe at this ⊢
  rw [toP_ref hm]; exact this
theorem oNe_ref_l (hm : mh[n]? = some (.lst ds)) (h : okP 12 (.lst ds)) : oNe (.ref n) (.lst ds) mh = .ok (.bl false) mh := by
  obtain ⟨p, e⟩ := okP_toP (mh := mh) 12 _ h
  exact oNe_same ((toP_ref hm).trans e) e
theorem oNe_l_ref (hm : mh[n]? = some (.lst ds)) (h : okP 12 (.lst ds)) : oNe (.lst ds) (.ref n) mh = .ok (.bl false) mh := by
  obtain ⟨p, e⟩ := okP_toP (mh := mh) 12 _ h
  exact oNe_same e ((toP_ref hm).trans e)
theorem okP_ints {ns : List Int} : okP 12 (.lst (ns.map D.int)) := fun x hx => by
  obtain ⟨i, _, rfl⟩ := List.mem_map.mp hx
  trivial
theorem rngL_ints {lo : Int} : rngL lo n = ((List.range n).map fun (i : Nat) => lo + (i : Int)).map D.int := by
  unfold rngL; rw [List.map_map]; rfl
end
end G

/-! Part T: texts. -/
namespace G
open PySem PySem.Spec PyProof.Rows L2

section
variable {X : Cx} {W : WX} {k : Nat} {pos : Pos} {F : Addr → Prop} {ι : List Addr} {mh : List O} {σ : L2.St} {H : Hp}
/-! ### rules -/
/-- one sign in a text -/
def oInS (d e : D) (mh : List O) : Res D := match d, e with
  | .str x, .str z => match x.cps.toList with
    | [c] => .ok (.bl (decide (c ∈ z.cps.toList))) mh
    | _ => .stuck
  | _, _ => .stuck
theorem vo_inS : VO2 X (fun x y H Q => ∃ (c : Nat) (z : Str), x = .str ⟨#[c]⟩ ∧ y = .str z ∧ Q (.bl (decide (c ∈ z.cps.toList))) H) oInS := by
  intro W σ F ι mh H d e v u Q sr r1 r2 h
  unfold oInS at h
  split at h
  · rename_i x z
    split at h
    · rename_i c ec
      cases r1; cases r2
      have ex : x = ⟨#[c]⟩ := by
        cases x with
        | mk cps =>
          have : cps.toList = [c] := ec
          congr
          exact Array.ext' this
      exact ⟨c, z, by rw [ex], rfl, h.ok sr (.bl _)⟩
    · exact h.elim
  · exact h.elim
def oSlS (d : D) (lo hi : Option Int) (mh : List O) : Res D := match d with
  | .str z => if z.length ≤ sizeLine then .ok (.str (cutS z lo hi)) mh else .stuck
  | _ => .stuck
theorem j_slS {e : Expr} {lo hi : Option Expr} {p2 : Pos} {f : CE} {l u : CO} (he : JE X W e f) (hl : JO X W lo l) (hu : JO X W hi u) : JE X W (.Subscript e (.Slice lo hi none p2) pos) (cSl oSlS f l u) := by
  obtain ⟨te, pe, qe⟩ := he.ex
  obtain ⟨tl, pl, ql⟩ := hl.ex
  obtain ⟨tu, pu, qu⟩ := hu.ex
  refine ⟨_, pe_slice sl_str pe pl pu, fun ρ mh F ι σ H Q sr er h => ?_⟩
  refine qe ρ mh F ι σ H _ sr er (h.bind.mono fun x H1 ⟨F1, ι1, d1, m1, st1, sr1, r1, h1⟩ => ?_)
  refine ql ρ m1 F1 ι1 σ H1 _ sr1 (er.to sr.sub st1) (h1.bind.mono fun lo' H2 ⟨F2, ι2, d2, m2, st2, sr2, r2, h2⟩ => ?_)
  refine qu ρ m2 F2 ι2 σ H2 _ sr2 (er.to sr.sub (st1.trans st2)) (h2.bind.mono fun hi' H3 ⟨F3, ι3, d3, m3, st3, sr3, r3, h3⟩ => ?_)
  have e2 : d2 = lo' := r2
  have e3 : d3 = hi' := r3
  subst e2 e3
  have r1' := DV.to sr1.sub (st2.trans st3) _ _ r1
  clear r1 h1
  unfold oSlS at h3
  split at h3
  · split at h3
    · rename_i hz
      cases r1'
      exact ⟨_, rfl, hz, h3.ok sr3 (.str _)⟩
    · exact h3.elim
  · exact h3.elim
/-- the signs of a text, one after another -/
def sgns (z : Str) : List D := z.cps.toList.map fun c => .str ⟨#[c]⟩
def oItsS (d : D) (mh : List O) : Res Its := match d with
  | .str z => .ok (sgns z, none) mh
  | _ => .stuck
def iS (f : CE) : CI := fun ρ mh => (f ρ mh).bind oItsS
theorem i_str {tg e : Expr} {f : CE} (h : JE X W e f) : JI X W tg e (iS f) := by
  obtain ⟨t, p, q⟩ := h.ex
  refine ⟨_, pi_str p, fun ρ mh F ι σ H R sr er h => ?_⟩
  refine q ρ mh F ι σ H _ sr er (h.bind.mono fun v H1 ⟨F1, ι1, d, m1, st1, sr1, r1, h1⟩ => ?_)
  unfold oItsS at h1
  split at h1
  · rename_i z
    cases r1
    refine ⟨z, rfl, h1 F1 ι1 H1 _ Step.refl sr1 fun F' ι' H' mh' s x gd i => ⟨fun d hd => ?_, fun hi => ?_⟩⟩
    · unfold sgns at hd
      rw [List.getElem?_map] at hd
      cases hc : z.cps.toList[i]? with
      | none => rw [hc] at hd; cases hd
      | some c =>
        rw [hc] at hd
        cases hd
        refine ⟨?_, fun x H'' y => ?_⟩
        · have := (List.getElem?_eq_some_iff.mp hc).1
          rw [Array.length_toList] at this
          exact this
        · obtain ⟨eh, c', ec, ev⟩ := y
          subst eh ev
          rw [← Array.getElem?_toList] at ec
          rw [hc] at ec
          cases ec
          exact ⟨fun _ _ z => z, .str _⟩
    · show z.cps.size ≤ i
      unfold sgns at hi
      rw [List.length_map, Array.length_toList] at hi
      exact hi
  · exact h1.elim
def oIntS (ds : List D) (mh : List O) : Res D := match ds with
  | [.str z] => match intText? z with
    | some n => if z.length ≤ 640 then .ok (.int n) mh else .stuck
    | none => .stuck
  | _ => .stuck
theorem vo_intS : VOL X (fun xs H Q => ∃ a n, xs = [.str a] ∧ PySem.intText? a = some n ∧ a.length ≤ 640 ∧ Q (.int n) H) oIntS := by
  intro W σ F ι mh H ds vs Q sr r h
  unfold oIntS at h
  split at h
  · split at h
    · rename_i n en
      split at h
      · rename_i hl
        cases r with
        | cons r1 r2 =>
          cases r2; cases r1
          exact ⟨_, n, rfl, en, hl, h.ok sr (.int n)⟩
      · exact h.elim
    · exact h.elim
  · exact h.elim
/-- a method of a text -/
def isStr : D → Bool
  | .str _ => true
  | _ => false
def cMS (o : D → List D → List O → Res D) (f : CE) (g : CA) : CE := fun ρ mh => (f ρ mh).bind fun x m => if isStr x = true then (g ρ m).bind fun xs m' => o x xs m' else .stuck
section
variable {a e : Expr} {es : List Expr} {name : Str} {apos cpos : Pos} {id : String} {r : V → List V → Hp → VK → Prop} {o : D → List D → List O → Res D} {fa : CE} {g : CA}
theorem j_ms (slot : Slot "str" name id) (hty : typeOf (.builtin id) = pure (.type "method_descriptor")) (hm : MtR X id r) (vo : VOM X r o) (ho : JE X W a fa) (ha : JA X W (e :: es) g)
    (hbase : attributeBase a name X.env (eval a X.env) = eval a X.env := by rfl)
    (hfew : ((backTo cpos (starEach (e :: es) X.env)).all (fun x => !x.1) && (backToKw cpos (keywordEach [] X.env)).all (fun x => x.1.isSome)
      && decide ((e :: es).length + ([] : List Keyword).length + (if ([] : List Keyword).isEmpty then 0 else 1) < 30)) = true := by rfl)
    (hline : (apos.endLine == cpos.line) = true := by rfl) (hs : starEach (e :: es) X.env = (false, eval e X.env) :: starEach es X.env := by rfl) (hplain : (backTo cpos (starEach es X.env)).any (·.1) = false := by rfl) :
    JE X W (.Call (.Attribute a name apos) (e :: es) [] cpos) (cMS o fa g) := by
  obtain ⟨ta, pa, qa⟩ := ho.ex
  obtain ⟨tb, pb, qb⟩ := ha.ex
  refine ⟨_, pe_bm PySem.F.plainAttrs_str slot hty hm pa pb hbase hfew hline hs hplain, fun ρ mh F ι σ H Q sr er h => ?_⟩
  refine qa ρ mh F ι σ H _ sr er (h.bind.mono fun x H1 ⟨F1, ι1, d1, m1, st1, sr1, r1, h1⟩ => ?_)
  split at h1
  · rename_i hl
    cases d1 with
    | str z =>
      have r1' := r1
      cases r1'
      refine ⟨rfl, ?_⟩
      refine qb ρ m1 F1 ι1 σ H1 _ sr1 (er.to sr.sub st1) (h1.bind.mono fun xs H2 ⟨F2, ι2, ds2, m2, st2, sr2, r2, h2⟩ => ?_)
      exact vo W σ F2 ι2 m2 H2 _ ds2 _ xs Q sr2 (DV.to sr1.sub st2 _ _ r1) r2 h2
    | _ => cases hl
  · exact h1.elim
end
def oSIndex (d : D) (ds : List D) (mh : List O) : Res D := match d, ds with
  | .str a, [.str b] => match Builtin.Str.occurrences a b 0 a.length 1 with
    | i :: _ => .ok (.int (i : Nat)) mh
    | [] => .stuck
  | _, _ => .stuck
theorem vo_sindex : VOM X (fun x xs H Q => ∃ a b i rest, x = .str a ∧ xs = [.str b] ∧ Builtin.Str.occurrences a b 0 a.length 1 = i :: rest ∧ Q (.int (i : Nat)) H) oSIndex := by
  intro W σ F ι mh H d ds v vs Q sr r rs h
  unfold oSIndex at h
  split at h
  · split at h
    · rename_i i rest eo
      cases r
      cases rs with
      | cons r1 r2 =>
        cases r2; cases r1
        exact ⟨_, _, i, rest, rfl, rfl, eo, h.ok sr (.int _)⟩
    · exact h.elim
  · exact h.elim
end
/-! ### reckoning -/
open SX
section
variable {mh : List O} {a b : List Nat} {i : Int}
theorem tS (x : Str) : x = S x.cps.toList := (S_tl x).symm
theorem oAdd_S (h : a.length + b.length ≤ 100000) : oAdd (.str (S a)) (.str (S b)) mh = .ok (.str (S (a ++ b))) mh := by
  show (if (S a).length + (S b).length ≤ sizeLine then Res.ok (D.str (S a ++ S b)) mh else .stuck) = _
  rw [S_len, S_len, if_pos (sl_1000 h), S_cat]
theorem oLen_S (h : a.length ≤ 100000) : oLen [.str (S a)] mh = .ok (.int (a.length : Nat)) mh := by
  show (if (S a).length ≤ sizeLine then Res.ok (D.int ((S a).length : Nat)) mh else .stuck) = _
  rw [S_len, if_pos (sl_1000 h)]
theorem oIx_S {c : Nat} (h : a.length ≤ 100000) (hc : atI a i = some c) : oIx (.str (S a)) (.int i) mh = .ok (.str (S [c])) mh := by
  show (if (S a).length ≤ sizeLine then (match atI (S a).cps.toList i with | some c => Res.ok (D.str ⟨#[c]⟩) mh | none => .stuck) else .stuck) = _
  rw [S_len, if_pos (sl_1000 h)]
  show (match atI a i with | some c => Res.ok (D.str ⟨#[c]⟩) mh | none => .stuck) = _
  rw [hc]
theorem atI_of {c : Nat} (h0 : 0 ≤ i) (hc : a[i.toNat]? = some c) : atI a i = some c := by
  have hl := (List.getElem?_eq_some_iff.mp hc).1
  unfold atI ixN
  rw [if_pos h0, if_pos (by omega)]
  exact hc
theorem oSlS_to (h : a.length ≤ 100000) (h0 : 0 ≤ i) : oSlS (.str (S a)) none (some i) mh = .ok (.str (S (a.take i.toNat))) mh := by
  show (if (S a).length ≤ sizeLine then Res.ok (D.str (cutS (S a) none (some i))) mh else .stuck) = _
  rw [S_len, if_pos (sl_1000 h)]
  have e : i = ((i.toNat : Nat) : Int) := by omega
  have e2 : cutS (S a) none (some i) = S (a.take i.toNat) := by
    unfold cutS
    rw [e, HT.sIx_nat, HT.sIx_none, S_len, Int.toNat_natCast]
    show S ((a.drop 0).take (min i.toNat a.length - 0)) = _
    rw [List.drop_zero, Nat.sub_zero]
    congr 1
    by_cases hm : i.toNat ≤ a.length
    · rw [Nat.min_eq_left hm]
    · rw [Nat.min_eq_right (by omega), List.take_of_length_le (Nat.le_refl _), List.take_of_length_le (by omega)]
  rw [e2]
theorem oSlS_from (h : a.length ≤ 100000) (h0 : 0 ≤ i) : oSlS (.str (S a)) (some i) none mh = .ok (.str (S (a.drop i.toNat))) mh := by
  show (if (S a).length ≤ sizeLine then Res.ok (D.str (cutS (S a) (some i) none)) mh else .stuck) = _
  rw [S_len, if_pos (sl_1000 h)]
  have e : i = ((i.toNat : Nat) : Int) := by omega
  have e2 : cutS (S a) (some i) none = S (a.drop i.toNat) := by
    unfold cutS
    rw [e, HT.sIx_nat, HT.sIx_none, S_len, Int.toNat_natCast]
    show S ((a.drop (min i.toNat a.length)).take (a.length - min i.toNat a.length)) = _
    congr 1
    by_cases hm : i.toNat ≤ a.length
    · rw [Nat.min_eq_left hm, List.take_of_length_le (by rw [List.length_drop]; omega)]
    · rw [Nat.min_eq_right (by omega), List.drop_eq_nil_of_le (by omega), List.drop_eq_nil_of_le (by omega), List.take_nil]
  rw [e2]
/-- signs that a text may hold -/
def Oks (a : List Nat) : Prop := ∀ c ∈ a, c < 0x110000
theorem Oks.app (h : Oks a) (h' : Oks b) : Oks (a ++ b) := fun c hc => (List.mem_append.mp hc).elim (h c) (h' c)
theorem Oks.take (h : Oks a) (n : Nat) : Oks (a.take n) := fun c hc => h c (List.mem_of_mem_take hc)
theorem Oks.drop (h : Oks a) (n : Nat) : Oks (a.drop n) := fun c hc => h c (List.mem_of_mem_drop hc)
theorem Oks.str (h : Oks a) : PyData.strOk (S a) = true := by
  unfold PyData.strOk
  rw [← Array.all_toList, List.all_eq_true]
  exact fun c hc => decide_eq_true (h c hc)
theorem toP_S (h : Oks a) (n : Nat) : toP mh (n + 1) (.str (S a)) = some (.str (S a)) := by
  show (if PyData.strOk (S a) = true then some (PyData.str (S a)) else none) = _
  rw [if_pos h.str]
theorem oEq_S (h : Oks a) (h' : Oks b) : oEq (.str (S a)) (.str (S b)) mh = .ok (.bl (decide (a = b))) mh := by
  unfold oEq
  rw [toP_S h, toP_S h']
  show Res.ok (D.bl (S a == S b)) mh = _
  rw [S_beq_eq]
theorem oNe_S (h : Oks a) (h' : Oks b) : oNe (.str (S a)) (.str (S b)) mh = .ok (.bl (!decide (a = b))) mh := by
  unfold oNe
  rw [toP_S h, toP_S h']
  show Res.ok (D.bl (!(S a == S b))) mh = _
  rw [S_beq_eq]
theorem oLe_S {c d : Nat} : oLe (.str (S [c])) (.str (S [d])) mh = .ok (.bl (decide (c ≤ d))) mh := by
  show Res.ok (D.bl (!decide (([d] : List Nat) < [c]))) mh = _
  congr 2
  by_cases h : c ≤ d
  · have : ¬ (([d] : List Nat) < [c]) := by
      rw [List.cons_lt_cons_iff]
      rintro (z | ⟨_, z⟩)
      · omega
      · exact absurd z (by simp)
    simp [h, this]
  · have : (([d] : List Nat) < [c]) := by
      rw [List.cons_lt_cons_iff]
      exact .inl (by omega)
    simp [h, this]
theorem oInS_S {c : Nat} : oInS (.str (S [c])) (.str (S a)) mh = .ok (.bl (decide (c ∈ a))) mh := rfl
theorem sgns_S : sgns (S a) = a.map fun c => .str (S [c]) := rfl
theorem oStr_b (h : i.natAbs < 2 ^ 200) : oStr [.int i] mh = .ok (.str (toString i)) mh := if_pos (by
  by_cases h0 : i.natAbs = 0
  · rw [h0]; decide
  · have := (Nat.log2_lt (k := 200) h0).mpr h
    omega)
end
end G

/-! Part U: partition, formatted texts. -/
namespace G
open PySem PySem.Spec PyProof.Rows L2

section
variable {X : Cx} {W : WX} {k : Nat} {pos : Pos} {F : Addr → Prop} {ι : List Addr} {mh : List O} {σ : L2.St} {H : Hp}
def oPart (d : D) (ds : List D) (mh : List O) : Res D := match d, ds with
  | .str a, [.str b] => if (b.length == 0) = false ∧ a.length ≤ sizeLine then oTup [.str (Txt.partition a b).1, .str (Txt.partition a b).2.1, .str (Txt.partition a b).2.2] mh else .stuck
  | _, _ => .stuck
theorem vo_part : VOM X (fun x xs H Q => ∃ a b, x = .str a ∧ xs = [.str b] ∧ (b.length == 0) = false ∧ a.length ≤ sizeLine ∧
    ∀ p, H p = none → Q (.ref p) (upd H p (.tup [.str (Txt.partition a b).1, .str (Txt.partition a b).2.1, .str (Txt.partition a b).2.2]))) oPart := by
  intro W σ F ι mh H d ds v vs Q sr r rs h
  unfold oPart at h
  split at h
  · split at h
    · rename_i hc
      cases r
      cases rs with
      | cons r1 r2 =>
        cases r2; cases r1
        exact ⟨_, _, rfl, rfl, hc.1, hc.2, (post_tup (vs := [.str _, .str _, .str _]) sr (.cons (.str _) (.cons (.str _) (.cons (.str _) .nil))) h).2⟩
    · exact h.elim
  · exact h.elim
def oFmt (d : D) (mh : List O) : Res D := match d with
  | .str y => if y.length ≤ sizeLine then .ok (.str y) mh else .stuck
  | .int i => if i.natAbs.log2 < 1920 then .ok (.str (toString i)) mh else .stuck
  | _ => .stuck
theorem j_fmt {e : Expr} {f : CE} (he : JE X W e f) : JE X W (.FormattedValue e (-1) none pos) (c1 oFmt f) := by
  obtain ⟨t, p, q⟩ := he.ex
  refine ⟨_, pe_fmt p, fun ρ mh F ι σ H Q sr er h => ?_⟩
  refine q ρ mh F ι σ H _ sr er (h.bind.mono fun x H1 ⟨F1, ι1, d1, m1, st1, sr1, r1, h1⟩ => ?_)
  unfold oFmt at h1
  split at h1
  · split at h1
    · rename_i hz
      cases r1
      exact .inl ⟨_, rfl, hz, h1.ok sr1 (.str _)⟩
    · exact h1.elim
  · split at h1
    · rename_i hz
      cases r1
      exact .inr ⟨_, rfl, hz, h1.ok sr1 (.str _)⟩
    · exact h1.elim
  · exact h1.elim
abbrev SRl : Rel Str Str := fun _ _ _ a b => a = b
abbrev CJ := Str → En → List O → Res Str
structure JJ (X : Cx) (W : WX) (es : List Expr) (f : CJ) : Prop where
  ex : ∃ ts, PJ X es ts ∧ ∀ (acc : Str) (ρ : En) (mh : List O) (F : Addr → Prop) (ι : List Addr) (σ : L2.St) (H : Hp) (Q : Str → Hp → Prop), SR X.K X.mg F ι mh H → ER X.K X.mg F ι H ρ σ → Post X.K X.mg SRl W σ F ι H (f acc ρ mh) Q → tJs ts acc σ H Q
def cjN : CJ := fun acc _ mh => .ok acc mh
def cjC (f : CE) (g : CJ) : CJ := fun acc ρ mh => (f ρ mh).bind fun x m => match x with
  | .str y => if (acc ++ y).length ≤ sizeLine then g (acc ++ y) ρ m else .stuck
  | _ => .stuck
def cJs (f : CJ) : CE := fun ρ mh => (f Str.empty ρ mh).bind fun z m => .ok (.str z) m
theorem jj_nil : JJ X W [] cjN := ⟨_, .nil, fun _ _ _ _ _ _ _ _ sr _ h => h.ok sr rfl⟩
theorem jj_cons {e : Expr} {es : List Expr} {f : CE} {g : CJ} (he : JE X W e f) (hs : JJ X W es g) : JJ X W (e :: es) (cjC f g) := by
  obtain ⟨t, p, q⟩ := he.ex
  obtain ⟨ts, ps, qs⟩ := hs.ex
  refine ⟨_, .cons p ps, fun acc ρ mh F ι σ H Q sr er h => ?_⟩
  refine q ρ mh F ι σ H _ sr er ((Post.bind (R := DR X) h).mono fun x H1 ⟨F1, ι1, d1, m1, st1, sr1, r1, h1⟩ => ?_)
  split at h1
  · split at h1
    · rename_i hz
      cases r1
      exact ⟨_, rfl, hz, qs _ ρ m1 F1 ι1 σ H1 Q sr1 (er.to sr.sub st1) h1⟩
    · exact h1.elim
  · exact h1.elim
theorem j_js {e1 e2 : Expr} {es : List Expr} {f : CJ} (h : JJ X W (e1 :: e2 :: es) f) : JE X W (.JoinedStr (e1 :: e2 :: es) pos) (cJs f) := by
  obtain ⟨ts, ps, qs⟩ := h.ex
  refine ⟨_, pe_joined ps, fun ρ mh F ι σ H Q sr er h => ?_⟩
  exact qs Str.empty ρ mh F ι σ H _ sr er ((Post.bind (R := SRl) h).mono fun x H1 ⟨F1, ι1, d1, m1, st1, sr1, r1, h1⟩ => by
    have e : d1 = x := r1
    subst e
    exact h1.ok sr1 (.str _))
end
/-- a loop that tells the first that is found -/
theorem forL_find {α : Type} {h : α → D} {g : Its} {tg : CG} {b : CS} {p : α → Bool} {r : α → D} {mh : List O} (I : En → Prop) (hg : guard g mh) : ∀ (xs : List α) (ρ : En), I ρ → (∀ x ∈ xs, ∀ ρ, I ρ → if p x = true then (tg (h x) ρ mh).seq b = .rt (r x) mh else ∃ ρ', (tg (h x) ρ mh).seq b = .nx ρ' mh ∧ I ρ') →
    match xs.find? p with
    | some x => forL g tg b (xs.map h) ρ mh = .rt (r x) mh
    | none => ∃ ρ', forL g tg b (xs.map h) ρ mh = .nx ρ' mh ∧ I ρ'
  | [], ρ, h0, _ => ⟨ρ, by unfold forL; exact if_pos hg, h0⟩
  | x :: xs, ρ, h0, hs => by
    have h1 := hs x List.mem_cons_self ρ h0
    rw [List.map_cons]
    by_cases hp : p x = true
    · rw [if_pos hp] at h1
      rw [List.find?_cons_of_pos hp]
      show forL g tg b (h x :: xs.map h) ρ mh = _
      unfold forL; rw [if_pos hg, h1]
    · rw [if_neg hp] at h1
      obtain ⟨ρ1, e1, i1⟩ := h1
      rw [List.find?_cons_of_neg hp]
      have ih := forL_find I hg xs ρ1 i1 (fun x hx => hs x (List.mem_cons_of_mem _ hx))
      have e : forL g tg b (h x :: xs.map h) ρ mh = forL g tg b (xs.map h) ρ1 mh := by
        conv => lhs; unfold forL
        rw [if_pos hg, e1]
      cases hf : xs.find? p with
      | some y =>
        rw [hf] at ih
        show forL g tg b (h x :: xs.map h) ρ mh = _
        rw [e]; exact ih
      | none =>
        rw [hf] at ih
        obtain ⟨ρ', e2, i2⟩ := ih
        exact ⟨ρ', e.trans e2, i2⟩
end G

namespace K04
open PySem L2 G
def top (i : Nat) : Stmt := PySem.Challenge.pw_greywait_k04_weights_as_texts.main.body.getD i (.Pass ⟨0, 0, 0, 0⟩)
abbrev s_is_plain : Stmt := top 3
noncomputable def ci_is_plain_1 : CI :=
  iS (cVar 0)
theorem ci_is_plain_1_eq (ρ : En) (mh : List O) : ci_is_plain_1 ρ mh = (iS (cVar 0)) ρ mh := rfl
noncomputable def ct_is_plain_1 : CT :=
  tYesG
theorem ct_is_plain_1_eq (ρ : En) (mh : List O) : ct_is_plain_1 ρ mh = (tYesG) ρ mh := rfl
noncomputable def ce_is_plain_1 : CE :=
  c2 oInS (cVar 1) (cK (.str "0123456789"))
theorem ce_is_plain_1_eq (ρ : En) (mh : List O) : ce_is_plain_1 ρ mh = (c2 oInS (cVar 1) (cK (.str "0123456789"))) ρ mh := rfl
noncomputable def b_is_plain : CS :=
  sSeq (sIf (tOr2 (tNot1 (cB (cChain oLe oLe (cK (.int 1)) (cL oLen (cCons (cVar 0) (cNil))) (cK (.int 16))))) (tAnd2 (cB (c2 oEq (c2 oIx (cVar 0) (cK (.int 0))) (cK (.str "0")))) (cB (c2 oNe (cVar 0) (cK (.str "0")))))) (sRet (cK (.bl false))) (sNext))
  (sRet (cL oAll (cCons (cLcX false ci_is_plain_1 (gNm 1) ct_is_plain_1 ce_is_plain_1 [1]) (cNil))))
noncomputable def f_is_plain : Fn := defn 2 1 b_is_plain
abbrev s_number_of : Stmt := top 4
noncomputable def b_number_of : CS :=
  sSeq (sSet 3 (cK .non))
  (sSeq (sIf (cB (cL (ar 1 (oP f_is_plain)) (cCons (cVar 0) (cNil)))) (sSet 3 (cL oIntS (cCons (cVar 0) (cNil)))) (sIf (tAnd2 (cB (c2 oEq (cSl oSlS (cVar 0) (coN) (coS (cK (.int 1)))) (cK (.str "-")))) (tAnd2 (cB (c2 oNe (cVar 0) (cK (.str "-0")))) (cB (cL (ar 1 (oP f_is_plain)) (cCons (cSl oSlS (cVar 0) (coS (cK (.int 1))) (coN)) (cNil)))))) (sSet 3 (c2 oSub (cK (.int 0)) (cL oIntS (cCons (cSl oSlS (cVar 0) (coS (cK (.int 1))) (coN)) (cNil))))) (sNext)))
  (sSeq (sIf (tOr2 (cB (c2 oIsX (cVar 3) (cK .non))) (tNot1 (cB (cChain oLe oLe (cVar 1) (cVar 3) (cVar 2))))) (sRet (cK .non)) (sNext))
  (sRet (cVar 3))))
noncomputable def f_number_of : Fn := defn 4 3 b_number_of
abbrev s_lowest : Stmt := top 8
noncomputable def w_lowest_1 : CT :=
  cB (c2 oNe (cVar 2) (cK (.int 0)))
theorem w_lowest_1_eq (ρ : En) (mh : List O) : w_lowest_1 ρ mh = (cB (c2 oNe (cVar 2) (cK (.int 0)))) ρ mh := rfl
noncomputable def bd_lowest_1 : CS :=
  sPar 2 3 (cCons (c2 oMod (cVar 3) (cVar 2)) (cCons (cVar 2) (cNil)))
theorem bd_lowest_1_eq (ρ : En) (mh : List O) : bd_lowest_1 ρ mh = (sPar 2 3 (cCons (c2 oMod (cVar 3) (cVar 2)) (cCons (cVar 2) (cNil)))) ρ mh := rfl
noncomputable def b_lowest : CS :=
  sSeq (sSet 2 (cL oAbs (cCons (cVar 0) (cNil))))
  (sSeq (sSet 3 (cVar 1))
  (sSeq (sWhile w_lowest_1 bd_lowest_1)
  (sRet (cL oTup (cCons (c2 oFdiv (cVar 0) (cVar 3)) (cCons (c2 oFdiv (cVar 1) (cVar 3)) (cNil)))))))
noncomputable def f_lowest : Fn := defn 4 2 b_lowest
abbrev s_weight_text : Stmt := top 9
noncomputable def b_weight_text : CS :=
  sSeq (sAsg (cL (ar 2 (oP f_lowest)) (cCons (c2 oIx (cVar 0) (cK (.int 0))) (cCons (c2 oIx (cVar 0) (cK (.int 1))) (cNil)))) (gUnp 2 (gsCons (gNm 1) (gsCons (gNm 2) (gsNil)))))
  (sSeq (sIf (cB (c2 oEq (cVar 2) (cK (.int 1)))) (sRet (cL oStr (cCons (cVar 1) (cNil)))) (sNext))
  (sRet (cJs (cjC (c1 oFmt (cVar 1)) (cjC (cK (.str "/")) (cjC (c1 oFmt (cVar 2)) (cjN)))))))
noncomputable def f_weight_text : Fn := defn 3 1 b_weight_text
abbrev s_weight_in : Stmt := top 10
noncomputable def b_weight_in : CS :=
  sSeq (sAsg (cMS oPart (cVar 0) (cCons (cK (.str "/")) (cNil))) (gUnp 3 (gsCons (gNm 1) (gsCons (gNm 2) (gsCons (gNm 3) (gsNil))))))
  (sSeq (sSet 4 (cL (ar 3 (oP f_number_of)) (cCons (cVar 1) (cCons (cK (.int 0)) (cCons (cK (.int 1000000)) (cNil))))))
  (sSeq (sSet 5 (cK (.int 1)))
  (sSeq (sIf (cB (c2 oNe (cVar 2) (cK (.str "")))) (sSet 5 (cL (ar 3 (oP f_number_of)) (cCons (cVar 3) (cCons (cK (.int 2)) (cCons (cK (.int 12)) (cNil)))))) (sNext))
  (sSeq (sIf (tOr2 (cB (c2 oIsX (cVar 4) (cK .non))) (tOr2 (cB (c2 oIsX (cVar 5) (cK .non))) (cB (c2 oNe (cL (ar 2 (oP f_lowest)) (cCons (cVar 4) (cCons (cVar 5) (cNil)))) (cL oTup (cCons (cVar 4) (cCons (cVar 5) (cNil)))))))) (sRet (cK .non)) (sNext))
  (sRet (cL oTup (cCons (cVar 4) (cCons (cVar 5) (cNil)))))))))
noncomputable def f_weight_in : Fn := defn 6 1 b_weight_in
abbrev s_l_cell : Stmt := top 12
noncomputable def b_l_cell : CS :=
  sSeq (sIf (cB (c2 oLt (cVar 1) (cL oLen (cCons (cVar 0) (cNil))))) (sRet (c2 oIx (cVar 0) (cVar 1))) (sNext))
  (sRet (c2 oAdd (c2 oMul (cK (.int 7919)) (cVar 1)) (cK (.int 14))))
noncomputable def f_l_cell : Fn := defn 2 2 b_l_cell
abbrev s_l_mixed : Stmt := top 13
noncomputable def b_l_mixed : CS :=
  sSeq (sIf (tAnd2 (cB (c2 oGe (cVar 0) (c2 oPow (cK (.int 10)) (cK (.int 18))))) (cB (c2 oGt (c2 oShr (cVar 0) (c2 oMul (cK (.int 40)) (cVar 1))) (cK (.int 0))))) (sRet (c2 oMod (c2 oShr (cVar 0) (c2 oMul (cK (.int 40)) (cVar 1))) (c2 oPow (cK (.int 2)) (cK (.int 40))))) (sNext))
  (sSeq (sSet 2 (c2 oMod (c2 oAdd (cVar 0) (c2 oMul (cK (.int 7919)) (cVar 1))) (cK (.int 2147483647))))
  (sSeq (sSet 2 (c2 oMod (c2 oAdd (c2 oMul (cVar 2) (cK (.int 48271))) (cVar 1)) (cK (.int 2147483647))))
  (sSeq (sSet 2 (c2 oMod (c2 oMul (cVar 2) (c2 oAdd (cVar 2) (cK (.int 7)))) (cK (.int 2147483629))))
  (sRet (c2 oMod (c2 oMul (cVar 2) (c2 oAdd (cVar 2) (cK (.int 3)))) (cK (.int 2147483587)))))))
noncomputable def f_l_mixed : Fn := defn 3 2 b_l_mixed
abbrev s_l_divisor : Stmt := top 14
noncomputable def w_l_divisor_1 : CT :=
  cB (c2 oNe (cVar 1) (cK (.int 0)))
theorem w_l_divisor_1_eq (ρ : En) (mh : List O) : w_l_divisor_1 ρ mh = (cB (c2 oNe (cVar 1) (cK (.int 0)))) ρ mh := rfl
noncomputable def bd_l_divisor_1 : CS :=
  sPar 0 1 (cCons (cVar 1) (cCons (c2 oMod (cVar 0) (cVar 1)) (cNil)))
theorem bd_l_divisor_1_eq (ρ : En) (mh : List O) : bd_l_divisor_1 ρ mh = (sPar 0 1 (cCons (cVar 1) (cCons (c2 oMod (cVar 0) (cVar 1)) (cNil)))) ρ mh := rfl
noncomputable def b_l_divisor : CS :=
  sSeq (sWhile w_l_divisor_1 bd_l_divisor_1)
  (sRet (cVar 0))
noncomputable def f_l_divisor : Fn := defn 2 2 b_l_divisor
abbrev s_l_weight : Stmt := top 15
noncomputable def b_l_weight : CS :=
  sSeq (sSet 2 (cL (ar 2 (oP f_l_mixed)) (cCons (cVar 0) (cCons (cVar 1) (cNil)))))
  (sSeq (sSet 3 (c2 oMod (c2 oFdiv (cVar 2) (cK (.int 16))) (c2 oIx (cL oLst (cCons (c2 oAdd (c2 oPow (cK (.int 10)) (cK (.int 6))) (cK (.int 1))) (cCons (cK (.int 13)) (cCons (cK (.int 3)) (cCons (c2 oAdd (c2 oPow (cK (.int 10)) (cK (.int 6))) (cK (.int 1))) (cNil)))))) (c2 oMod (cVar 2) (cK (.int 4))))))
  (sSeq (sIf (cB (c2 oEq (c2 oMod (c2 oFdiv (cVar 2) (cK (.int 4))) (cK (.int 4))) (cK (.int 0)))) (sSet 3 (c2 oSub (c2 oPow (cK (.int 10)) (cK (.int 6))) (c2 oMod (c2 oFdiv (cVar 2) (cK (.int 16))) (cK (.int 2))))) (sNext))
  (sRet (cL oTup (cCons (cVar 3) (cCons (c2 oAdd (cK (.int 1)) (c2 oMod (cL (ar 2 (oP f_l_mixed)) (cCons (cVar 0) (cCons (c2 oAdd (cVar 1) (cK (.int 1))) (cNil)))) (cK (.int 12)))) (cNil)))))))
noncomputable def f_l_weight : Fn := defn 4 2 b_l_weight
abbrev s_l_written : Stmt := top 16
noncomputable def b_l_written : CS :=
  sSeq (sSet 1 (cL (ar 2 (oP f_l_divisor)) (cCons (c2 oIx (cVar 0) (cK (.int 0))) (cCons (c2 oIx (cVar 0) (cK (.int 1))) (cNil)))))
  (sSeq (sSet 2 (cL oStr (cCons (c2 oFdiv (c2 oIx (cVar 0) (cK (.int 0))) (cVar 1)) (cNil))))
  (sSeq (sIf (cB (c2 oGt (c2 oFdiv (c2 oIx (cVar 0) (cK (.int 1))) (cVar 1)) (cK (.int 1)))) (sSet 2 (c2 oAdd (c2 oAdd (cVar 2) (cK (.str "/"))) (cL oStr (cCons (c2 oFdiv (c2 oIx (cVar 0) (cK (.int 1))) (cVar 1)) (cNil))))) (sNext))
  (sRet (cVar 2))))
noncomputable def f_l_written : Fn := defn 3 1 b_l_written
abbrev s_l_all_read : Stmt := top 17
noncomputable def ci_l_all_read_1 : CI :=
  iS (cVar 2)
theorem ci_l_all_read_1_eq (ρ : En) (mh : List O) : ci_l_all_read_1 ρ mh = (iS (cVar 2)) ρ mh := rfl
noncomputable def ct_l_all_read_1 : CT :=
  tNot1 (cB (cChain oLe oLe (cK (.str "0")) (cVar 6) (cK (.str "9"))))
theorem ct_l_all_read_1_eq (ρ : En) (mh : List O) : ct_l_all_read_1 ρ mh = (tNot1 (cB (cChain oLe oLe (cK (.str "0")) (cVar 6) (cK (.str "9"))))) ρ mh := rfl
noncomputable def ce_l_all_read_1 : CE :=
  cVar 6
theorem ce_l_all_read_1_eq (ρ : En) (mh : List O) : ce_l_all_read_1 ρ mh = (cVar 6) ρ mh := rfl
noncomputable def it_l_all_read_1 : CI :=
  iR2 (cCons (cK (.int 1)) (cCons (cK (.int 13)) (cNil)))
theorem it_l_all_read_1_eq (ρ : En) (mh : List O) : it_l_all_read_1 ρ mh = (iR2 (cCons (cK (.int 1)) (cCons (cK (.int 13)) (cNil)))) ρ mh := rfl
noncomputable def bd_l_all_read_1 : CS :=
  sSeq (sAsg (cMS oPart (cVar 0) (cCons (cK (.str "/")) (cNil))) (gUnp 3 (gsCons (gNm 2) (gsCons (gNm 3) (gsCons (gNm 4) (gsNil))))))
  (sIf (tAnd2 (cB (c2 oLt (cL oLen (cCons (cVar 2) (cNil))) (cK (.int 8)))) (tAnd2 (cB (c2 oNe (cVar 2) (cK (.str "")))) (cB (c2 oEq (cLcX false ci_l_all_read_1 (gNm 6) ct_l_all_read_1 ce_l_all_read_1 [6]) (cL oLst (cNil)))))) (sSeq (sSet 5 (cL oIntS (cCons (cVar 2) (cNil))))
  (sIf (tAnd2 (cB (c2 oLe (cVar 5) (c2 oPow (cK (.int 10)) (cK (.int 6))))) (tAnd2 (cB (c2 oEq (cL (ar 2 (oP f_l_divisor)) (cCons (cVar 5) (cCons (cVar 1) (cNil)))) (cK (.int 1)))) (cB (c2 oEq (cL (ar 1 (oP f_l_written)) (cCons (cL oTup (cCons (cVar 5) (cCons (cVar 1) (cNil)))) (cNil))) (cVar 0))))) (sRet (cL oTup (cCons (cVar 5) (cCons (cVar 1) (cNil))))) (sNext))) (sNext))
theorem bd_l_all_read_1_eq (ρ : En) (mh : List O) : bd_l_all_read_1 ρ mh = (sSeq (sAsg (cMS oPart (cVar 0) (cCons (cK (.str "/")) (cNil))) (gUnp 3 (gsCons (gNm 2) (gsCons (gNm 3) (gsCons (gNm 4) (gsNil))))))
  (sIf (tAnd2 (cB (c2 oLt (cL oLen (cCons (cVar 2) (cNil))) (cK (.int 8)))) (tAnd2 (cB (c2 oNe (cVar 2) (cK (.str "")))) (cB (c2 oEq (cLcX false ci_l_all_read_1 (gNm 6) ct_l_all_read_1 ce_l_all_read_1 [6]) (cL oLst (cNil)))))) (sSeq (sSet 5 (cL oIntS (cCons (cVar 2) (cNil))))
  (sIf (tAnd2 (cB (c2 oLe (cVar 5) (c2 oPow (cK (.int 10)) (cK (.int 6))))) (tAnd2 (cB (c2 oEq (cL (ar 2 (oP f_l_divisor)) (cCons (cVar 5) (cCons (cVar 1) (cNil)))) (cK (.int 1)))) (cB (c2 oEq (cL (ar 1 (oP f_l_written)) (cCons (cL oTup (cCons (cVar 5) (cCons (cVar 1) (cNil)))) (cNil))) (cVar 0))))) (sRet (cL oTup (cCons (cVar 5) (cCons (cVar 1) (cNil))))) (sNext))) (sNext))) ρ mh := rfl
noncomputable def b_l_all_read : CS :=
  sSeq (sFor it_l_all_read_1 (gNm 1) bd_l_all_read_1)
  (sRet (cK .non))
noncomputable def f_l_all_read : Fn := defn 7 1 b_l_all_read
abbrev s_l_spoiled : Stmt := top 18
noncomputable def b_l_spoiled : CS :=
  sSeq (sSet 2 (cL (ar 2 (oP f_l_mixed)) (cCons (cVar 0) (cCons (cK (.int 4)) (cNil)))))
  (sSeq (sSet 3 (c2 oMod (cVar 2) (c2 oAdd (cL oLen (cCons (cVar 1) (cNil))) (cK (.int 1)))))
  (sSeq (sSet 4 (c2 oIx (cK (.str "0123456789/ -+.a\n")) (c2 oMod (c2 oFdiv (cVar 2) (cK (.int 16))) (cK (.int 17)))))
  (sSeq (sSet 5 (c2 oMod (c2 oFdiv (cVar 2) (cK (.int 512))) (cK (.int 4))))
  (sSeq (sIf (cB (c2 oEq (cVar 5) (cK (.int 0)))) (sRet (c2 oAdd (c2 oAdd (cSl oSlS (cVar 1) (coN) (coS (cVar 3))) (cVar 4)) (cSl oSlS (cVar 1) (coS (cVar 3)) (coN)))) (sNext))
  (sSeq (sIf (cB (c2 oEq (cVar 5) (cK (.int 1)))) (sRet (c2 oAdd (cSl oSlS (cVar 1) (coN) (coS (cVar 3))) (cSl oSlS (cVar 1) (coS (c2 oAdd (cVar 3) (cK (.int 1)))) (coN)))) (sNext))
  (sRet (c2 oAdd (c2 oAdd (cSl oSlS (cVar 1) (coN) (coS (cVar 3))) (cVar 4)) (cSl oSlS (cVar 1) (coS (c2 oAdd (cVar 3) (cK (.int 1)))) (coN)))))))))
noncomputable def f_l_spoiled : Fn := defn 6 2 b_l_spoiled
abbrev s_l_two_numbers : Stmt := top 19
noncomputable def b_l_two_numbers : CS :=
  sSeq (sSet 1 (cL (ar 2 (oP f_l_mixed)) (cCons (cVar 0) (cCons (cK (.int 5)) (cNil)))))
  (sSeq (sSet 2 (c2 oMod (c2 oFdiv (cVar 1) (cK (.int 64))) (c2 oIx (cL oLst (cCons (cK (.int 13)) (cCons (cK (.int 1000)) (cCons (c2 oAdd (c2 oPow (cK (.int 10)) (cK (.int 6))) (cK (.int 3))) (cCons (cK (.int 3)) (cNil)))))) (c2 oMod (cVar 1) (cK (.int 4))))))
  (sSeq (sSet 3 (c2 oMod (c2 oFdiv (cVar 1) (c2 oPow (cK (.int 2)) (cK (.int 20)))) (c2 oIx (cL oLst (cCons (cK (.int 13)) (cCons (cK (.int 15)) (cCons (cK (.int 30)) (cNil))))) (c2 oMod (c2 oFdiv (cVar 1) (cK (.int 4))) (cK (.int 3))))))
  (sSeq (sSet 4 (cL oLst (cCons (cK (.str "")) (cCons (cK (.str "")) (cCons (cK (.str "")) (cCons (cK (.str "0")) (cCons (cK (.str " ")) (cCons (cK (.str "-")) (cCons (cK (.str "")) (cNil))))))))))
  (sRet (c2 oAdd (c2 oAdd (c2 oAdd (c2 oAdd (c2 oIx (cVar 4) (c2 oMod (c2 oFdiv (cVar 1) (cK (.int 12))) (cK (.int 7)))) (cL oStr (cCons (cVar 2) (cNil)))) (cK (.str "/"))) (cL oStr (cCons (cVar 3) (cNil)))) (c2 oIx (cL oLst (cCons (cK (.str "")) (cCons (cK (.str "")) (cCons (cK (.str "")) (cCons (cK (.str "/2")) (cCons (cK (.str "\n")) (cNil))))))) (c2 oMod (c2 oFdiv (cVar 1) (cK (.int 128))) (cK (.int 5)))))))))
noncomputable def f_l_two_numbers : Fn := defn 5 1 b_l_two_numbers
abbrev s_l_same : Stmt := top 20
noncomputable def b_l_same : CS :=
  sSeq (sIf (cB (c2 oIsX (cVar 1) (cK .non))) (sRet (c2 oIsX (cVar 0) (cK .non))) (sNext))
  (sSeq (sIf (tOr2 (tNot1 (cB (cL oIsi (cCons (cVar 0) (cCons (cK (.ty "tuple")) (cNil)))))) (tOr2 (cB (c2 oNe (cL oLen (cCons (cVar 0) (cNil))) (cK (.int 2)))) (tOr2 (cB (cL oIsi (cCons (c2 oIx (cVar 0) (cK (.int 0))) (cCons (cK (.ty "bool")) (cNil))))) (cB (cL oIsi (cCons (c2 oIx (cVar 0) (cK (.int 1))) (cCons (cK (.ty "bool")) (cNil)))))))) (sRet (cK (.bl false))) (sNext))
  (sRet (c2 oEq (cVar 0) (cVar 1))))
noncomputable def f_l_same : Fn := defn 2 2 b_l_same
abbrev s_law : Stmt := top 21
noncomputable def it_law_1 : CI :=
  iL (cL oLst (cCons (cL (ar 2 (oP f_l_spoiled)) (cCons (cVar 2) (cCons (cVar 4) (cNil)))) (cCons (cL (ar 1 (oP f_l_two_numbers)) (cCons (cVar 2) (cNil))) (cCons (c2 oAdd (cVar 4) (cK (.str "/1"))) (cCons (c2 oAdd (cK (.str "0")) (cVar 4)) (cCons (c2 oAdd (cVar 4) (cK (.str "\n"))) (cNil)))))))
theorem it_law_1_eq (ρ : En) (mh : List O) : it_law_1 ρ mh = (iL (cL oLst (cCons (cL (ar 2 (oP f_l_spoiled)) (cCons (cVar 2) (cCons (cVar 4) (cNil)))) (cCons (cL (ar 1 (oP f_l_two_numbers)) (cCons (cVar 2) (cNil))) (cCons (c2 oAdd (cVar 4) (cK (.str "/1"))) (cCons (c2 oAdd (cK (.str "0")) (cVar 4)) (cCons (c2 oAdd (cVar 4) (cK (.str "\n"))) (cNil)))))))) ρ mh := rfl
noncomputable def bd_law_1 : CS :=
  sIf (tNot1 (cB (cL (ar 2 (oP f_l_same)) (cCons (cL (ar 1 (oP f_weight_in)) (cCons (cVar 6) (cNil))) (cCons (cL (ar 1 (oP f_l_all_read)) (cCons (cVar 6) (cNil))) (cNil)))))) (sRet (cK (.bl false))) (sNext)
theorem bd_law_1_eq (ρ : En) (mh : List O) : bd_law_1 ρ mh = (sIf (tNot1 (cB (cL (ar 2 (oP f_l_same)) (cCons (cL (ar 1 (oP f_weight_in)) (cCons (cVar 6) (cNil))) (cCons (cL (ar 1 (oP f_l_all_read)) (cCons (cVar 6) (cNil))) (cNil)))))) (sRet (cK (.bl false))) (sNext)) ρ mh := rfl
noncomputable def it_law_2 : CI :=
  iR1 (cCons (cL oMax2 (cCons (cK (.int 1)) (cCons (cL oMin2 (cCons (cK (.int 30)) (cCons (cL oLen (cCons (cVar 0) (cNil))) (cNil)))) (cNil)))) (cNil))
theorem it_law_2_eq (ρ : En) (mh : List O) : it_law_2 ρ mh = (iR1 (cCons (cL oMax2 (cCons (cK (.int 1)) (cCons (cL oMin2 (cCons (cK (.int 30)) (cCons (cL oLen (cCons (cVar 0) (cNil))) (cNil)))) (cNil)))) (cNil))) ρ mh := rfl
noncomputable def bd_law_2 : CS :=
  sSeq (sSet 2 (cL (ar 2 (oP f_l_cell)) (cCons (cVar 0) (cCons (cVar 1) (cNil)))))
  (sSeq (sSet 3 (cL (ar 2 (oP f_l_weight)) (cCons (cVar 2) (cCons (cK (.int 0)) (cNil)))))
  (sSeq (sSet 4 (cL (ar 1 (oP f_weight_text)) (cCons (cVar 3) (cNil))))
  (sSeq (sIf (tOr2 (tNot1 (cB (cL oIsi (cCons (cVar 4) (cCons (cK (.ty "str")) (cNil)))))) (cB (c2 oNe (cVar 4) (cL (ar 1 (oP f_l_written)) (cCons (cVar 3) (cNil)))))) (sRet (cK (.bl false))) (sNext))
  (sSeq (sSet 5 (cL (ar 2 (oP f_l_divisor)) (cCons (c2 oIx (cVar 3) (cK (.int 0))) (cCons (c2 oIx (cVar 3) (cK (.int 1))) (cNil)))))
  (sSeq (sIf (tNot1 (cB (cL (ar 2 (oP f_l_same)) (cCons (cL (ar 1 (oP f_weight_in)) (cCons (cVar 4) (cNil))) (cCons (cL oTup (cCons (c2 oFdiv (c2 oIx (cVar 3) (cK (.int 0))) (cVar 5)) (cCons (c2 oFdiv (c2 oIx (cVar 3) (cK (.int 1))) (cVar 5)) (cNil)))) (cNil)))))) (sRet (cK (.bl false))) (sNext))
  (sFor it_law_1 (gNm 6) bd_law_1))))))
theorem bd_law_2_eq (ρ : En) (mh : List O) : bd_law_2 ρ mh = (sSeq (sSet 2 (cL (ar 2 (oP f_l_cell)) (cCons (cVar 0) (cCons (cVar 1) (cNil)))))
  (sSeq (sSet 3 (cL (ar 2 (oP f_l_weight)) (cCons (cVar 2) (cCons (cK (.int 0)) (cNil)))))
  (sSeq (sSet 4 (cL (ar 1 (oP f_weight_text)) (cCons (cVar 3) (cNil))))
  (sSeq (sIf (tOr2 (tNot1 (cB (cL oIsi (cCons (cVar 4) (cCons (cK (.ty "str")) (cNil)))))) (cB (c2 oNe (cVar 4) (cL (ar 1 (oP f_l_written)) (cCons (cVar 3) (cNil)))))) (sRet (cK (.bl false))) (sNext))
  (sSeq (sSet 5 (cL (ar 2 (oP f_l_divisor)) (cCons (c2 oIx (cVar 3) (cK (.int 0))) (cCons (c2 oIx (cVar 3) (cK (.int 1))) (cNil)))))
  (sSeq (sIf (tNot1 (cB (cL (ar 2 (oP f_l_same)) (cCons (cL (ar 1 (oP f_weight_in)) (cCons (cVar 4) (cNil))) (cCons (cL oTup (cCons (c2 oFdiv (c2 oIx (cVar 3) (cK (.int 0))) (cVar 5)) (cCons (c2 oFdiv (c2 oIx (cVar 3) (cK (.int 1))) (cVar 5)) (cNil)))) (cNil)))))) (sRet (cK (.bl false))) (sNext))
  (sFor it_law_1 (gNm 6) bd_law_1))))))) ρ mh := rfl
noncomputable def b_law : CS :=
  sSeq (sFor it_law_2 (gNm 1) bd_law_2)
  (sRet (cAnd2 (c2 oIsX (cL (ar 1 (oP f_weight_in)) (cCons (cK (.str "")) (cNil))) (cK .non)) (cAnd2 (c2 oIsX (cL (ar 1 (oP f_weight_in)) (cCons (cK (.str "/")) (cNil))) (cK .non)) (c2 oEq (cL (ar 1 (oP f_weight_in)) (cCons (cK (.str "0")) (cNil))) (cL oTup (cCons (cK (.int 0)) (cCons (cK (.int 1)) (cNil))))))))
noncomputable def f_law : Fn := defn 7 1 b_law
/-- the built-ins that the text names -/
structure Txt (mg : Str → Option Value) : Prop where
  abs : mg "abs" = none
  all : mg "all" = none
  bool : mg "bool" = none
  int : mg "int" = none
  isinstance : mg "isinstance" = none
  len : mg "len" = none
  max : mg "max" = none
  min : mg "min" = none
  range : mg "range" = none
  str : mg "str" = none
  tuple : mg "tuple" = none
  FIGURES : ∃ t, mg "FIGURES" = some (.str "0123456789" t)
  MOST_BOTTOM : ∃ t, mg "MOST_BOTTOM" = some (.int (12) t)
  MOST_FIGURES : ∃ t, mg "MOST_FIGURES" = some (.int (16) t)
  MOST_TOP : ∃ t, mg "MOST_TOP" = some (.int (1000000) t)
section
variable {P : Program} {w : World} {K : PySem.W.Frag} {mg : Str → Option Value} {base : Heap}
theorem sc_is_plain : FnScope ["text", "sign"] ["text"] (defScope s_is_plain) := ⟨rfl, rfl, rfl, by decide +kernel, rfl, by decide +kernel, by decide +kernel⟩
theorem ok_is_plain {f : Addr} {fd : FuncData} (Fu : Fun K "is_plain" "is_plain" s_is_plain f fd) (T : Txt mg)  : FnOk P w K mg base (L2.CX P w) 1 f fd ["text"] (spG K mg 1 f_is_plain) :=
  fn_ok Fu sc_is_plain fun cdv A outer s H E c =>
  ss_cons (s_if ((w_or (t_not (t_chain op_leG vo_le op_leG vo_le (j_int) (j_callB call_len vo_len T.len bt_len (a_cons (j_var 0) (a_nil))) (j_glbI T.MOST_FIGURES.choose_spec))) (w_or1 ((w_and (t_cmp (op_eqD c.hu) vo_eq (j_ix ix_seq vo_ix (j_var 0) (j_int)) (j_str)) (w_and1 (t_cmp (op_neD c.hu) vo_ne (j_var 0) (j_str)))).jt))).jt) (ss_one (s_ret (j_bl))) (ss_nil))
  (ss_one (s_ret (j_callB (cr_all c.calm) vo_all T.all bt_all (a_cons (j_lc c (w := false) (i_str (j_var 0)) (blkOk_by (own := [("sign", 1)]) (N := ["text", "sign"]) (sc := defScope s_is_plain) (by decide +kernel)) (fun _ _ _ _ _ c => g_name c (i := 1)) (fun _ _ _ _ _ c => ts_nil) (fun _ _ _ _ _ c => j_cmp op_in_sign vo_inS (j_var 1) (j_glbS T.FIGURES.choose_spec))) (a_nil)))))
theorem sc_number_of : FnScope ["text", "low", "high", "number"] ["text", "low", "high"] (defScope s_number_of) := ⟨rfl, rfl, rfl, by decide +kernel, rfl, by decide +kernel, by decide +kernel⟩
theorem ok_number_of {f : Addr} {fd : FuncData} (Fu : Fun K "number_of" "number_of" s_number_of f fd) (T : Txt mg) (D_is_plain : Def P w K mg base 1 "is_plain" 1 f_is_plain) : FnOk P w K mg base (L2.CX P w) 2 f fd ["text", "low", "high"] (spG K mg 3 f_number_of) :=
  fn_ok Fu sc_number_of fun cdv A outer s H E c =>
  ss_cons (s_set c (i := 3) (j_non))
  (ss_cons (s_if (j_tst (j_callP D_is_plain c (a_cons (j_var 0) (a_nil)))) (ss_one (s_set c (i := 3) (j_callTy call_int_str vo_intS T.int bt_int (a_cons (j_var 0) (a_nil))))) (ss_one (s_if ((w_and (t_cmp (op_eqD c.hu) vo_eq (j_slS (j_var 0) (o_none) (o_some (j_int))) (j_str)) (w_and (t_cmp (op_neD c.hu) vo_ne (j_var 0) (j_str)) (w_and1 (j_tst (j_callP D_is_plain c (a_cons (j_slS (j_var 0) (o_some (j_int)) (o_none)) (a_nil))))))).jt) (ss_one (s_set c (i := 3) (j_op op_sub vo_sub (j_int) (j_callTy call_int_str vo_intS T.int bt_int (a_cons (j_slS (j_var 0) (o_some (j_int)) (o_none)) (a_nil)))))) (ss_nil))))
  (ss_cons (s_if ((w_or (t_cmp op_isG vo_is (j_var 3) (j_non)) (w_or1 (t_not (t_chain op_leG vo_le op_leG vo_le (j_var 1) (j_var 3) (j_var 2))))).jt) (ss_one (s_ret (j_non))) (ss_nil))
  (ss_one (s_ret (j_var 3)))))
theorem sc_lowest : FnScope ["top", "bottom", "one", "other"] ["top", "bottom"] (defScope s_lowest) := ⟨rfl, rfl, rfl, by decide +kernel, rfl, by decide +kernel, by decide +kernel⟩
theorem ok_lowest {f : Addr} {fd : FuncData} (Fu : Fun K "lowest" "lowest" s_lowest f fd) (T : Txt mg)  : FnOk P w K mg base (L2.CX P w) 1 f fd ["top", "bottom"] (spG K mg 2 f_lowest) :=
  fn_ok Fu sc_lowest fun cdv A outer s H E c =>
  ss_cons (s_set c (i := 2) (j_callB call_abs vo_abs T.abs bt_abs (a_cons (j_var 0) (a_nil))))
  (ss_cons (s_set c (i := 3) (j_var 1))
  (ss_cons (s_while c (t_cmp (op_neD c.hu) vo_ne (j_var 2) (j_int)) (ss_one (s_par c (i := 2) (j := 3) (a_cons (j_op op_mod vo_mod (j_var 3) (j_var 2)) (a_cons (j_var 2) (a_nil))))))
  (ss_one (s_ret (j_tup (a_cons (j_op op_fdivW vo_fdiv (j_var 0) (j_var 3)) (a_cons (j_op op_fdivW vo_fdiv (j_var 1) (j_var 3)) (a_nil))))))))
theorem sc_weight_text : FnScope ["weight", "top", "bottom"] ["weight"] (defScope s_weight_text) := ⟨rfl, rfl, rfl, by decide +kernel, rfl, by decide +kernel, by decide +kernel⟩
theorem ok_weight_text {f : Addr} {fd : FuncData} (Fu : Fun K "weight_text" "weight_text" s_weight_text f fd) (T : Txt mg) (D_lowest : Def P w K mg base 1 "lowest" 2 f_lowest) : FnOk P w K mg base (L2.CX P w) 2 f fd ["weight"] (spG K mg 1 f_weight_text) :=
  fn_ok Fu sc_weight_text fun cdv A outer s H E c =>
  ss_cons (s_asg (j_callP D_lowest c (a_cons (j_ix ix_seq vo_ix (j_var 0) (j_int)) (a_cons (j_ix ix_seq vo_ix (j_var 0) (j_int)) (a_nil)))) (g_unp c (gs_cons (g_name c (i := 1)) (gs_cons (g_name c (i := 2)) (gs_nil)))))
  (ss_cons (s_if (t_cmp (op_eqD c.hu) vo_eq (j_var 2) (j_int)) (ss_one (s_ret (j_callTy call_str_int vo_str T.str bt_str (a_cons (j_var 1) (a_nil))))) (ss_nil))
  (ss_one (s_ret (j_js (jj_cons (j_fmt (j_var 1)) (jj_cons (j_str) (jj_cons (j_fmt (j_var 2)) (jj_nil))))))))
theorem sc_weight_in : FnScope ["text", "first", "stroke", "last", "top", "bottom"] ["text"] (defScope s_weight_in) := ⟨rfl, rfl, rfl, by decide +kernel, rfl, by decide +kernel, by decide +kernel⟩
theorem ok_weight_in {f : Addr} {fd : FuncData} (Fu : Fun K "weight_in" "weight_in" s_weight_in f fd) (T : Txt mg) (D_number_of : Def P w K mg base 2 "number_of" 3 f_number_of) (D_lowest : Def P w K mg base 1 "lowest" 2 f_lowest) : FnOk P w K mg base (L2.CX P w) 3 f fd ["text"] (spG K mg 1 f_weight_in) :=
  fn_ok Fu sc_weight_in fun cdv A outer s H E c =>
  ss_cons (s_asg (j_ms PySem.F.slot_str_partition PySem.F.type_str_partition mt_partition vo_part (j_var 0) (a_cons (j_str) (a_nil))) (g_unp c (gs_cons (g_name c (i := 1)) (gs_cons (g_name c (i := 2)) (gs_cons (g_name c (i := 3)) (gs_nil))))))
  (ss_cons (s_set c (i := 4) (j_callP D_number_of c (a_cons (j_var 1) (a_cons (j_int) (a_cons (j_glbI T.MOST_TOP.choose_spec) (a_nil))))))
  (ss_cons (s_set c (i := 5) (j_int))
  (ss_cons (s_if (t_cmp (op_neD c.hu) vo_ne (j_var 2) (j_str)) (ss_one (s_set c (i := 5) (j_callP D_number_of c (a_cons (j_var 3) (a_cons (j_int) (a_cons (j_glbI T.MOST_BOTTOM.choose_spec) (a_nil))))))) (ss_nil))
  (ss_cons (s_if ((w_or (t_cmp op_isG vo_is (j_var 4) (j_non)) (w_or (t_cmp op_isG vo_is (j_var 5) (j_non)) (w_or1 (t_cmp (op_neD c.hu) vo_ne (j_callP D_lowest c (a_cons (j_var 4) (a_cons (j_var 5) (a_nil)))) (j_tup (a_cons (j_var 4) (a_cons (j_var 5) (a_nil)))))))).jt) (ss_one (s_ret (j_non))) (ss_nil))
  (ss_one (s_ret (j_tup (a_cons (j_var 4) (a_cons (j_var 5) (a_nil))))))))))
theorem sc_l_cell : FnScope ["_law_script", "_law_k"] ["_law_script", "_law_k"] (defScope s_l_cell) := ⟨rfl, rfl, rfl, by decide +kernel, rfl, by decide +kernel, by decide +kernel⟩
theorem ok_l_cell {f : Addr} {fd : FuncData} (Fu : Fun K "_law_cell" "_law_cell" s_l_cell f fd) (T : Txt mg)  : FnOk P w K mg base (L2.CX P w) 1 f fd ["_law_script", "_law_k"] (spG K mg 2 f_l_cell) :=
  fn_ok Fu sc_l_cell fun cdv A outer s H E c =>
  ss_cons (s_if (t_cmp (op_ltG c.hu) vo_lt (j_var 1) (j_callB call_len vo_len T.len bt_len (a_cons (j_var 0) (a_nil)))) (ss_one (s_ret (j_ix ix_seq vo_ix (j_var 0) (j_var 1)))) (ss_nil))
  (ss_one (s_ret (j_op op_addG vo_add (j_op op_mulG vo_mul (j_int) (j_var 1)) (j_int))))
theorem sc_l_mixed : FnScope ["_law_cell_here", "_law_k", "_law_number"] ["_law_cell_here", "_law_k"] (defScope s_l_mixed) := ⟨rfl, rfl, rfl, by decide +kernel, rfl, by decide +kernel, by decide +kernel⟩
theorem ok_l_mixed {f : Addr} {fd : FuncData} (Fu : Fun K "_law_mixed" "_law_mixed" s_l_mixed f fd) (T : Txt mg)  : FnOk P w K mg base (L2.CX P w) 1 f fd ["_law_cell_here", "_law_k"] (spG K mg 2 f_l_mixed) :=
  fn_ok Fu sc_l_mixed fun cdv A outer s H E c =>
  ss_cons (s_if ((w_and (t_cmp op_ge vo_ge (j_var 0) (j_op op_pow vo_pow (j_int) (j_int))) (w_and1 (t_cmp op_gt vo_gt (j_op op_shr vo_shr (j_var 0) (j_op op_mulG vo_mul (j_int) (j_var 1))) (j_int)))).jt) (ss_one (s_ret (j_op op_mod vo_mod (j_op op_shr vo_shr (j_var 0) (j_op op_mulG vo_mul (j_int) (j_var 1))) (j_op op_pow vo_pow (j_int) (j_int))))) (ss_nil))
  (ss_cons (s_set c (i := 2) (j_op op_mod vo_mod (j_op op_addG vo_add (j_var 0) (j_op op_mulG vo_mul (j_int) (j_var 1))) (j_int)))
  (ss_cons (s_set c (i := 2) (j_op op_mod vo_mod (j_op op_addG vo_add (j_op op_mulG vo_mul (j_var 2) (j_int)) (j_var 1)) (j_int)))
  (ss_cons (s_set c (i := 2) (j_op op_mod vo_mod (j_op op_mulG vo_mul (j_var 2) (j_op op_addG vo_add (j_var 2) (j_int))) (j_int)))
  (ss_one (s_ret (j_op op_mod vo_mod (j_op op_mulG vo_mul (j_var 2) (j_op op_addG vo_add (j_var 2) (j_int))) (j_int)))))))
theorem sc_l_divisor : FnScope ["_law_one", "_law_other"] ["_law_one", "_law_other"] (defScope s_l_divisor) := ⟨rfl, rfl, rfl, by decide +kernel, rfl, by decide +kernel, by decide +kernel⟩
theorem ok_l_divisor {f : Addr} {fd : FuncData} (Fu : Fun K "_law_divisor" "_law_divisor" s_l_divisor f fd) (T : Txt mg)  : FnOk P w K mg base (L2.CX P w) 1 f fd ["_law_one", "_law_other"] (spG K mg 2 f_l_divisor) :=
  fn_ok Fu sc_l_divisor fun cdv A outer s H E c =>
  ss_cons (s_while c (t_cmp (op_neD c.hu) vo_ne (j_var 1) (j_int)) (ss_one (s_par c (i := 0) (j := 1) (a_cons (j_var 1) (a_cons (j_op op_mod vo_mod (j_var 0) (j_var 1)) (a_nil))))))
  (ss_one (s_ret (j_var 0)))
theorem sc_l_weight : FnScope ["_law_cell_here", "_law_k", "_law_number", "_law_top"] ["_law_cell_here", "_law_k"] (defScope s_l_weight) := ⟨rfl, rfl, rfl, by decide +kernel, rfl, by decide +kernel, by decide +kernel⟩
theorem ok_l_weight {f : Addr} {fd : FuncData} (Fu : Fun K "_law_weight" "_law_weight" s_l_weight f fd) (T : Txt mg) (D_l_mixed : Def P w K mg base 1 "_law_mixed" 2 f_l_mixed) : FnOk P w K mg base (L2.CX P w) 2 f fd ["_law_cell_here", "_law_k"] (spG K mg 2 f_l_weight) :=
  fn_ok Fu sc_l_weight fun cdv A outer s H E c =>
  ss_cons (s_set c (i := 2) (j_callP D_l_mixed c (a_cons (j_var 0) (a_cons (j_var 1) (a_nil)))))
  (ss_cons (s_set c (i := 3) (j_op op_mod vo_mod (j_op op_fdivW vo_fdiv (j_var 2) (j_int)) (j_ix ix_seq vo_ix (j_lst (a_cons (j_op op_addG vo_add (j_op op_pow vo_pow (j_int) (j_int)) (j_int)) (a_cons (j_int) (a_cons (j_int) (a_cons (j_op op_addG vo_add (j_op op_pow vo_pow (j_int) (j_int)) (j_int)) (a_nil)))))) (j_op op_mod vo_mod (j_var 2) (j_int)))))
  (ss_cons (s_if (t_cmp (op_eqD c.hu) vo_eq (j_op op_mod vo_mod (j_op op_fdivW vo_fdiv (j_var 2) (j_int)) (j_int)) (j_int)) (ss_one (s_set c (i := 3) (j_op op_sub vo_sub (j_op op_pow vo_pow (j_int) (j_int)) (j_op op_mod vo_mod (j_op op_fdivW vo_fdiv (j_var 2) (j_int)) (j_int))))) (ss_nil))
  (ss_one (s_ret (j_tup (a_cons (j_var 3) (a_cons (j_op op_addG vo_add (j_int) (j_op op_mod vo_mod (j_callP D_l_mixed c (a_cons (j_var 0) (a_cons (j_op op_addG vo_add (j_var 1) (j_int)) (a_nil)))) (j_int))) (a_nil))))))))
theorem sc_l_written : FnScope ["_law_weight_here", "_law_by", "_law_text"] ["_law_weight_here"] (defScope s_l_written) := ⟨rfl, rfl, rfl, by decide +kernel, rfl, by decide +kernel, by decide +kernel⟩
theorem ok_l_written {f : Addr} {fd : FuncData} (Fu : Fun K "_law_written" "_law_written" s_l_written f fd) (T : Txt mg) (D_l_divisor : Def P w K mg base 1 "_law_divisor" 2 f_l_divisor) : FnOk P w K mg base (L2.CX P w) 2 f fd ["_law_weight_here"] (spG K mg 1 f_l_written) :=
  fn_ok Fu sc_l_written fun cdv A outer s H E c =>
  ss_cons (s_set c (i := 1) (j_callP D_l_divisor c (a_cons (j_ix ix_seq vo_ix (j_var 0) (j_int)) (a_cons (j_ix ix_seq vo_ix (j_var 0) (j_int)) (a_nil)))))
  (ss_cons (s_set c (i := 2) (j_callTy call_str_int vo_str T.str bt_str (a_cons (j_op op_fdivW vo_fdiv (j_ix ix_seq vo_ix (j_var 0) (j_int)) (j_var 1)) (a_nil))))
  (ss_cons (s_if (t_cmp op_gt vo_gt (j_op op_fdivW vo_fdiv (j_ix ix_seq vo_ix (j_var 0) (j_int)) (j_var 1)) (j_int)) (ss_one (s_set c (i := 2) (j_op op_addG vo_add (j_op op_addG vo_add (j_var 2) (j_str)) (j_callTy call_str_int vo_str T.str bt_str (a_cons (j_op op_fdivW vo_fdiv (j_ix ix_seq vo_ix (j_var 0) (j_int)) (j_var 1)) (a_nil)))))) (ss_nil))
  (ss_one (s_ret (j_var 2)))))
theorem sc_l_all_read : FnScope ["_law_text", "_law_bottom", "_law_head", "_law_stroke", "_law_tail", "_law_top", "_law_sign"] ["_law_text"] (defScope s_l_all_read) := ⟨rfl, rfl, rfl, by decide +kernel, rfl, by decide +kernel, by decide +kernel⟩
theorem ok_l_all_read {f : Addr} {fd : FuncData} (Fu : Fun K "_law_all_read" "_law_all_read" s_l_all_read f fd) (T : Txt mg) (D_l_divisor : Def P w K mg base 1 "_law_divisor" 2 f_l_divisor) (D_l_written : Def P w K mg base 2 "_law_written" 1 f_l_written) : FnOk P w K mg base (L2.CX P w) 3 f fd ["_law_text"] (spG K mg 1 f_l_all_read) :=
  fn_ok Fu sc_l_all_read fun cdv A outer s H E c =>
  ss_cons (s_for c (i_rng2 T.range (a_cons (j_int) (a_cons (j_int) (a_nil)))) (g_name c (i := 1)) (ss_cons (s_asg (j_ms PySem.F.slot_str_partition PySem.F.type_str_partition mt_partition vo_part (j_var 0) (a_cons (j_str) (a_nil))) (g_unp c (gs_cons (g_name c (i := 2)) (gs_cons (g_name c (i := 3)) (gs_cons (g_name c (i := 4)) (gs_nil))))))
  (ss_one (s_if ((w_and (t_cmp (op_ltG c.hu) vo_lt (j_callB call_len vo_len T.len bt_len (a_cons (j_var 2) (a_nil))) (j_int)) (w_and (t_cmp (op_neD c.hu) vo_ne (j_var 2) (j_str)) (w_and1 (t_cmp (op_eqD c.hu) vo_eq (j_lc c (w := false) (i_str (j_var 2)) (blkOk_by (own := [("_law_sign", 6)]) (N := ["_law_text", "_law_bottom", "_law_head", "_law_stroke", "_law_tail", "_law_top", "_law_sign"]) (sc := defScope s_l_all_read) (by decide +kernel)) (fun _ _ _ _ _ c => g_name c (i := 6)) (fun _ _ _ _ _ c => ts_one (t_not (t_chain op_leG vo_le op_leG vo_le (j_str) (j_var 6) (j_str)))) (fun _ _ _ _ _ c => j_var 6)) (j_lst (a_nil)))))).jt) (ss_cons (s_set c (i := 5) (j_callTy call_int_str vo_intS T.int bt_int (a_cons (j_var 2) (a_nil))))
  (ss_one (s_if ((w_and (t_cmp op_leG vo_le (j_var 5) (j_op op_pow vo_pow (j_int) (j_int))) (w_and (t_cmp (op_eqD c.hu) vo_eq (j_callP D_l_divisor c (a_cons (j_var 5) (a_cons (j_var 1) (a_nil)))) (j_int)) (w_and1 (t_cmp (op_eqD c.hu) vo_eq (j_callP D_l_written c (a_cons (j_tup (a_cons (j_var 5) (a_cons (j_var 1) (a_nil)))) (a_nil))) (j_var 0))))).jt) (ss_one (s_ret (j_tup (a_cons (j_var 5) (a_cons (j_var 1) (a_nil)))))) (ss_nil)))) (ss_nil)))))
  (ss_one (s_ret (j_non)))
theorem sc_l_spoiled : FnScope ["_law_cell_here", "_law_text", "_law_number", "_law_at", "_law_sign", "_law_way"] ["_law_cell_here", "_law_text"] (defScope s_l_spoiled) := ⟨rfl, rfl, rfl, by decide +kernel, rfl, by decide +kernel, by decide +kernel⟩
theorem ok_l_spoiled {f : Addr} {fd : FuncData} (Fu : Fun K "_law_spoiled" "_law_spoiled" s_l_spoiled f fd) (T : Txt mg) (D_l_mixed : Def P w K mg base 1 "_law_mixed" 2 f_l_mixed) : FnOk P w K mg base (L2.CX P w) 2 f fd ["_law_cell_here", "_law_text"] (spG K mg 2 f_l_spoiled) :=
  fn_ok Fu sc_l_spoiled fun cdv A outer s H E c =>
  ss_cons (s_set c (i := 2) (j_callP D_l_mixed c (a_cons (j_var 0) (a_cons (j_int) (a_nil)))))
  (ss_cons (s_set c (i := 3) (j_op op_mod vo_mod (j_var 2) (j_op op_addG vo_add (j_callB call_len vo_len T.len bt_len (a_cons (j_var 1) (a_nil))) (j_int))))
  (ss_cons (s_set c (i := 4) (j_ix ix_seq vo_ix (j_str) (j_op op_mod vo_mod (j_op op_fdivW vo_fdiv (j_var 2) (j_int)) (j_int))))
  (ss_cons (s_set c (i := 5) (j_op op_mod vo_mod (j_op op_fdivW vo_fdiv (j_var 2) (j_int)) (j_int)))
  (ss_cons (s_if (t_cmp (op_eqD c.hu) vo_eq (j_var 5) (j_int)) (ss_one (s_ret (j_op op_addG vo_add (j_op op_addG vo_add (j_slS (j_var 1) (o_none) (o_some (j_var 3))) (j_var 4)) (j_slS (j_var 1) (o_some (j_var 3)) (o_none))))) (ss_nil))
  (ss_cons (s_if (t_cmp (op_eqD c.hu) vo_eq (j_var 5) (j_int)) (ss_one (s_ret (j_op op_addG vo_add (j_slS (j_var 1) (o_none) (o_some (j_var 3))) (j_slS (j_var 1) (o_some (j_op op_addG vo_add (j_var 3) (j_int))) (o_none))))) (ss_nil))
  (ss_one (s_ret (j_op op_addG vo_add (j_op op_addG vo_add (j_slS (j_var 1) (o_none) (o_some (j_var 3))) (j_var 4)) (j_slS (j_var 1) (o_some (j_op op_addG vo_add (j_var 3) (j_int))) (o_none))))))))))
theorem sc_l_two_numbers : FnScope ["_law_cell_here", "_law_number", "_law_top", "_law_bottom", "_law_heads"] ["_law_cell_here"] (defScope s_l_two_numbers) := ⟨rfl, rfl, rfl, by decide +kernel, rfl, by decide +kernel, by decide +kernel⟩
theorem ok_l_two_numbers {f : Addr} {fd : FuncData} (Fu : Fun K "_law_two_numbers" "_law_two_numbers" s_l_two_numbers f fd) (T : Txt mg) (D_l_mixed : Def P w K mg base 1 "_law_mixed" 2 f_l_mixed) : FnOk P w K mg base (L2.CX P w) 2 f fd ["_law_cell_here"] (spG K mg 1 f_l_two_numbers) :=
  fn_ok Fu sc_l_two_numbers fun cdv A outer s H E c =>
  ss_cons (s_set c (i := 1) (j_callP D_l_mixed c (a_cons (j_var 0) (a_cons (j_int) (a_nil)))))
  (ss_cons (s_set c (i := 2) (j_op op_mod vo_mod (j_op op_fdivW vo_fdiv (j_var 1) (j_int)) (j_ix ix_seq vo_ix (j_lst (a_cons (j_int) (a_cons (j_int) (a_cons (j_op op_addG vo_add (j_op op_pow vo_pow (j_int) (j_int)) (j_int)) (a_cons (j_int) (a_nil)))))) (j_op op_mod vo_mod (j_var 1) (j_int)))))
  (ss_cons (s_set c (i := 3) (j_op op_mod vo_mod (j_op op_fdivW vo_fdiv (j_var 1) (j_op op_pow vo_pow (j_int) (j_int))) (j_ix ix_seq vo_ix (j_lst (a_cons (j_int) (a_cons (j_int) (a_cons (j_int) (a_nil))))) (j_op op_mod vo_mod (j_op op_fdivW vo_fdiv (j_var 1) (j_int)) (j_int)))))
  (ss_cons (s_set c (i := 4) (j_lst (a_cons (j_str) (a_cons (j_str) (a_cons (j_str) (a_cons (j_str) (a_cons (j_str) (a_cons (j_str) (a_cons (j_str) (a_nil))))))))))
  (ss_one (s_ret (j_op op_addG vo_add (j_op op_addG vo_add (j_op op_addG vo_add (j_op op_addG vo_add (j_ix ix_seq vo_ix (j_var 4) (j_op op_mod vo_mod (j_op op_fdivW vo_fdiv (j_var 1) (j_int)) (j_int))) (j_callTy call_str_int vo_str T.str bt_str (a_cons (j_var 2) (a_nil)))) (j_str)) (j_callTy call_str_int vo_str T.str bt_str (a_cons (j_var 3) (a_nil)))) (j_ix ix_seq vo_ix (j_lst (a_cons (j_str) (a_cons (j_str) (a_cons (j_str) (a_cons (j_str) (a_cons (j_str) (a_nil))))))) (j_op op_mod vo_mod (j_op op_fdivW vo_fdiv (j_var 1) (j_int)) (j_int)))))))))
theorem sc_l_same : FnScope ["_law_found", "_law_due"] ["_law_found", "_law_due"] (defScope s_l_same) := ⟨rfl, rfl, rfl, by decide +kernel, rfl, by decide +kernel, by decide +kernel⟩
theorem ok_l_same {f : Addr} {fd : FuncData} (Fu : Fun K "_law_same" "_law_same" s_l_same f fd) (T : Txt mg)  : FnOk P w K mg base (L2.CX P w) 1 f fd ["_law_found", "_law_due"] (spG K mg 2 f_l_same) :=
  fn_ok Fu sc_l_same fun cdv A outer s H E c =>
  ss_cons (s_if (t_cmp op_isG vo_is (j_var 1) (j_non)) (ss_one (s_ret (j_cmp op_isG vo_is (j_var 0) (j_non)))) (ss_nil))
  (ss_cons (s_if ((w_or (t_not (j_tst (j_callB call_isi vo_isi T.isinstance bt_isinstance (a_cons (j_var 0) (a_cons (j_bltn T.tuple bt_tuple) (a_nil)))))) (w_or (t_cmp (op_neD c.hu) vo_ne (j_callB call_len vo_len T.len bt_len (a_cons (j_var 0) (a_nil))) (j_int)) (w_or (j_tst (j_callB call_isi vo_isi T.isinstance bt_isinstance (a_cons (j_ix ix_seq vo_ix (j_var 0) (j_int)) (a_cons (j_bltn T.bool bt_bool) (a_nil))))) (w_or1 (j_tst (j_callB call_isi vo_isi T.isinstance bt_isinstance (a_cons (j_ix ix_seq vo_ix (j_var 0) (j_int)) (a_cons (j_bltn T.bool bt_bool) (a_nil))))))))).jt) (ss_one (s_ret (j_bl))) (ss_nil))
  (ss_one (s_ret (j_cmp (op_eqD c.hu) vo_eq (j_var 0) (j_var 1)))))
theorem sc_law : FnScope ["_law_script", "_law_k", "_law_cell_here", "_law_weight_here", "_law_text", "_law_by", "_law_other"] ["_law_script"] (defScope s_law) := ⟨rfl, rfl, rfl, by decide +kernel, rfl, by decide +kernel, by decide +kernel⟩
theorem ok_law {f : Addr} {fd : FuncData} (Fu : Fun K "law" "law" s_law f fd) (T : Txt mg) (D_weight_text : Def P w K mg base 2 "weight_text" 1 f_weight_text) (D_weight_in : Def P w K mg base 3 "weight_in" 1 f_weight_in) (D_l_cell : Def P w K mg base 1 "_law_cell" 2 f_l_cell) (D_l_divisor : Def P w K mg base 1 "_law_divisor" 2 f_l_divisor) (D_l_weight : Def P w K mg base 2 "_law_weight" 2 f_l_weight) (D_l_written : Def P w K mg base 2 "_law_written" 1 f_l_written) (D_l_all_read : Def P w K mg base 3 "_law_all_read" 1 f_l_all_read) (D_l_spoiled : Def P w K mg base 2 "_law_spoiled" 2 f_l_spoiled) (D_l_two_numbers : Def P w K mg base 2 "_law_two_numbers" 1 f_l_two_numbers) (D_l_same : Def P w K mg base 1 "_law_same" 2 f_l_same) : FnOk P w K mg base (L2.CX P w) 4 f fd ["_law_script"] (spG K mg 1 f_law) :=
  fn_ok Fu sc_law fun cdv A outer s H E c =>
  ss_cons (s_for c (i_rng1 T.range (a_cons (j_callB (call_max2 c.calm) vo_max2 T.max bt_max (a_cons (j_int) (a_cons (j_callB (call_min2 c.calm) vo_min2 T.min bt_min (a_cons (j_int) (a_cons (j_callB call_len vo_len T.len bt_len (a_cons (j_var 0) (a_nil))) (a_nil)))) (a_nil)))) (a_nil))) (g_name c (i := 1)) (ss_cons (s_set c (i := 2) (j_callP D_l_cell c (a_cons (j_var 0) (a_cons (j_var 1) (a_nil)))))
  (ss_cons (s_set c (i := 3) (j_callP D_l_weight c (a_cons (j_var 2) (a_cons (j_int) (a_nil)))))
  (ss_cons (s_set c (i := 4) (j_callP D_weight_text c (a_cons (j_var 3) (a_nil))))
  (ss_cons (s_if ((w_or (t_not (j_tst (j_callB call_isi vo_isi T.isinstance bt_isinstance (a_cons (j_var 4) (a_cons (j_bltn T.str bt_str) (a_nil)))))) (w_or1 (t_cmp (op_neD c.hu) vo_ne (j_var 4) (j_callP D_l_written c (a_cons (j_var 3) (a_nil)))))).jt) (ss_one (s_ret (j_bl))) (ss_nil))
  (ss_cons (s_set c (i := 5) (j_callP D_l_divisor c (a_cons (j_ix ix_seq vo_ix (j_var 3) (j_int)) (a_cons (j_ix ix_seq vo_ix (j_var 3) (j_int)) (a_nil)))))
  (ss_cons (s_if (t_not (j_tst (j_callP D_l_same c (a_cons (j_callP D_weight_in c (a_cons (j_var 4) (a_nil))) (a_cons (j_tup (a_cons (j_op op_fdivW vo_fdiv (j_ix ix_seq vo_ix (j_var 3) (j_int)) (j_var 5)) (a_cons (j_op op_fdivW vo_fdiv (j_ix ix_seq vo_ix (j_var 3) (j_int)) (j_var 5)) (a_nil)))) (a_nil)))))) (ss_one (s_ret (j_bl))) (ss_nil))
  (ss_one (s_for c (i_list (j_lst (a_cons (j_callP D_l_spoiled c (a_cons (j_var 2) (a_cons (j_var 4) (a_nil)))) (a_cons (j_callP D_l_two_numbers c (a_cons (j_var 2) (a_nil))) (a_cons (j_op op_addG vo_add (j_var 4) (j_str)) (a_cons (j_op op_addG vo_add (j_str) (j_var 4)) (a_cons (j_op op_addG vo_add (j_var 4) (j_str)) (a_nil)))))))) (g_name c (i := 6)) (ss_one (s_if (t_not (j_tst (j_callP D_l_same c (a_cons (j_callP D_weight_in c (a_cons (j_var 6) (a_nil))) (a_cons (j_callP D_l_all_read c (a_cons (j_var 6) (a_nil))) (a_nil)))))) (ss_one (s_ret (j_bl))) (ss_nil))))))))))))
  (ss_one (s_ret (j_and (j_cmp op_isG vo_is (j_callP D_weight_in c (a_cons (j_str) (a_nil))) (j_non)) (j_and (j_cmp op_isG vo_is (j_callP D_weight_in c (a_cons (j_str) (a_nil))) (j_non)) (j_one (j_cmp (op_eqD c.hu) vo_eq (j_callP D_weight_in c (a_cons (j_str) (a_nil))) (j_tup (a_cons (j_int) (a_cons (j_int) (a_nil))))))))))
end
theorem all_mk {l : PySem.W.OpenLaw} {w : World} {K : PySem.W.Frag} {h : Heap} {mg : Str → Option Value} {fa : Addr} (X : K.In h) (G : h.Ns mainGlobals mg) (hfa : mg "law" = some (.ref fa))
    {f1 : Addr} {od1 an1 : Option Addr} {sl1 : Array (Option Value)} {oc1 kV1 dc1 pm1 cd1 ct1 : Value}
    {f2 : Addr} {od2 an2 : Option Addr} {sl2 : Array (Option Value)} {oc2 kV2 dc2 pm2 cd2 ct2 : Value}
    {f3 : Addr} {od3 an3 : Option Addr} {sl3 : Array (Option Value)} {oc3 kV3 dc3 pm3 cd3 ct3 : Value}
    {f4 : Addr} {od4 an4 : Option Addr} {sl4 : Array (Option Value)} {oc4 kV4 dc4 pm4 cd4 ct4 : Value}
    {f5 : Addr} {od5 an5 : Option Addr} {sl5 : Array (Option Value)} {oc5 kV5 dc5 pm5 cd5 ct5 : Value}
    {f6 : Addr} {od6 an6 : Option Addr} {sl6 : Array (Option Value)} {oc6 kV6 dc6 pm6 cd6 ct6 : Value}
    {f7 : Addr} {od7 an7 : Option Addr} {sl7 : Array (Option Value)} {oc7 kV7 dc7 pm7 cd7 ct7 : Value}
    {f8 : Addr} {od8 an8 : Option Addr} {sl8 : Array (Option Value)} {oc8 kV8 dc8 pm8 cd8 ct8 : Value}
    {f9 : Addr} {od9 an9 : Option Addr} {sl9 : Array (Option Value)} {oc9 kV9 dc9 pm9 cd9 ct9 : Value}
    {f10 : Addr} {od10 an10 : Option Addr} {sl10 : Array (Option Value)} {oc10 kV10 dc10 pm10 cd10 ct10 : Value}
    {f11 : Addr} {od11 an11 : Option Addr} {sl11 : Array (Option Value)} {oc11 kV11 dc11 pm11 cd11 ct11 : Value}
    {f12 : Addr} {od12 an12 : Option Addr} {sl12 : Array (Option Value)} {oc12 kV12 dc12 pm12 cd12 ct12 : Value}
    {f13 : Addr} {od13 an13 : Option Addr} {sl13 : Array (Option Value)} {oc13 kV13 dc13 pm13 cd13 ct13 : Value}
    {f14 : Addr} {od14 an14 : Option Addr} {sl14 : Array (Option Value)} {oc14 kV14 dc14 pm14 cd14 ct14 : Value}
    {f15 : Addr} {od15 an15 : Option Addr} {sl15 : Array (Option Value)} {oc15 kV15 dc15 pm15 cd15 ct15 : Value}
    (a1 : PySem.W.nsIn K mainGlobals "is_plain" = some (some (.ref f1))) (l1 : K.lookup f1 = some ⟨oc1, od1, .func (PySem.W.fnOf "is_plain" "is_plain" (defArgs s_is_plain) (defBody s_is_plain) (defScope s_is_plain) .none kV1 dc1 pm1 an1 cd1 ct1), sl1⟩) (c1 : PySem.W.codeIn K cd1 "is_plain" = true) (k1 : PySem.W.keepIn K (.ref f1) = true)
    (a2 : PySem.W.nsIn K mainGlobals "number_of" = some (some (.ref f2))) (l2 : K.lookup f2 = some ⟨oc2, od2, .func (PySem.W.fnOf "number_of" "number_of" (defArgs s_number_of) (defBody s_number_of) (defScope s_number_of) .none kV2 dc2 pm2 an2 cd2 ct2), sl2⟩) (c2 : PySem.W.codeIn K cd2 "number_of" = true) (k2 : PySem.W.keepIn K (.ref f2) = true)
    (a3 : PySem.W.nsIn K mainGlobals "lowest" = some (some (.ref f3))) (l3 : K.lookup f3 = some ⟨oc3, od3, .func (PySem.W.fnOf "lowest" "lowest" (defArgs s_lowest) (defBody s_lowest) (defScope s_lowest) .none kV3 dc3 pm3 an3 cd3 ct3), sl3⟩) (c3 : PySem.W.codeIn K cd3 "lowest" = true) (k3 : PySem.W.keepIn K (.ref f3) = true)
    (a4 : PySem.W.nsIn K mainGlobals "weight_text" = some (some (.ref f4))) (l4 : K.lookup f4 = some ⟨oc4, od4, .func (PySem.W.fnOf "weight_text" "weight_text" (defArgs s_weight_text) (defBody s_weight_text) (defScope s_weight_text) .none kV4 dc4 pm4 an4 cd4 ct4), sl4⟩) (c4 : PySem.W.codeIn K cd4 "weight_text" = true) (k4 : PySem.W.keepIn K (.ref f4) = true)
    (a5 : PySem.W.nsIn K mainGlobals "weight_in" = some (some (.ref f5))) (l5 : K.lookup f5 = some ⟨oc5, od5, .func (PySem.W.fnOf "weight_in" "weight_in" (defArgs s_weight_in) (defBody s_weight_in) (defScope s_weight_in) .none kV5 dc5 pm5 an5 cd5 ct5), sl5⟩) (c5 : PySem.W.codeIn K cd5 "weight_in" = true) (k5 : PySem.W.keepIn K (.ref f5) = true)
    (a6 : PySem.W.nsIn K mainGlobals "_law_cell" = some (some (.ref f6))) (l6 : K.lookup f6 = some ⟨oc6, od6, .func (PySem.W.fnOf "_law_cell" "_law_cell" (defArgs s_l_cell) (defBody s_l_cell) (defScope s_l_cell) .none kV6 dc6 pm6 an6 cd6 ct6), sl6⟩) (c6 : PySem.W.codeIn K cd6 "_law_cell" = true) (k6 : PySem.W.keepIn K (.ref f6) = true)
    (a7 : PySem.W.nsIn K mainGlobals "_law_mixed" = some (some (.ref f7))) (l7 : K.lookup f7 = some ⟨oc7, od7, .func (PySem.W.fnOf "_law_mixed" "_law_mixed" (defArgs s_l_mixed) (defBody s_l_mixed) (defScope s_l_mixed) .none kV7 dc7 pm7 an7 cd7 ct7), sl7⟩) (c7 : PySem.W.codeIn K cd7 "_law_mixed" = true) (k7 : PySem.W.keepIn K (.ref f7) = true)
    (a8 : PySem.W.nsIn K mainGlobals "_law_divisor" = some (some (.ref f8))) (l8 : K.lookup f8 = some ⟨oc8, od8, .func (PySem.W.fnOf "_law_divisor" "_law_divisor" (defArgs s_l_divisor) (defBody s_l_divisor) (defScope s_l_divisor) .none kV8 dc8 pm8 an8 cd8 ct8), sl8⟩) (c8 : PySem.W.codeIn K cd8 "_law_divisor" = true) (k8 : PySem.W.keepIn K (.ref f8) = true)
    (a9 : PySem.W.nsIn K mainGlobals "_law_weight" = some (some (.ref f9))) (l9 : K.lookup f9 = some ⟨oc9, od9, .func (PySem.W.fnOf "_law_weight" "_law_weight" (defArgs s_l_weight) (defBody s_l_weight) (defScope s_l_weight) .none kV9 dc9 pm9 an9 cd9 ct9), sl9⟩) (c9 : PySem.W.codeIn K cd9 "_law_weight" = true) (k9 : PySem.W.keepIn K (.ref f9) = true)
    (a10 : PySem.W.nsIn K mainGlobals "_law_written" = some (some (.ref f10))) (l10 : K.lookup f10 = some ⟨oc10, od10, .func (PySem.W.fnOf "_law_written" "_law_written" (defArgs s_l_written) (defBody s_l_written) (defScope s_l_written) .none kV10 dc10 pm10 an10 cd10 ct10), sl10⟩) (c10 : PySem.W.codeIn K cd10 "_law_written" = true) (k10 : PySem.W.keepIn K (.ref f10) = true)
    (a11 : PySem.W.nsIn K mainGlobals "_law_all_read" = some (some (.ref f11))) (l11 : K.lookup f11 = some ⟨oc11, od11, .func (PySem.W.fnOf "_law_all_read" "_law_all_read" (defArgs s_l_all_read) (defBody s_l_all_read) (defScope s_l_all_read) .none kV11 dc11 pm11 an11 cd11 ct11), sl11⟩) (c11 : PySem.W.codeIn K cd11 "_law_all_read" = true) (k11 : PySem.W.keepIn K (.ref f11) = true)
    (a12 : PySem.W.nsIn K mainGlobals "_law_spoiled" = some (some (.ref f12))) (l12 : K.lookup f12 = some ⟨oc12, od12, .func (PySem.W.fnOf "_law_spoiled" "_law_spoiled" (defArgs s_l_spoiled) (defBody s_l_spoiled) (defScope s_l_spoiled) .none kV12 dc12 pm12 an12 cd12 ct12), sl12⟩) (c12 : PySem.W.codeIn K cd12 "_law_spoiled" = true) (k12 : PySem.W.keepIn K (.ref f12) = true)
    (a13 : PySem.W.nsIn K mainGlobals "_law_two_numbers" = some (some (.ref f13))) (l13 : K.lookup f13 = some ⟨oc13, od13, .func (PySem.W.fnOf "_law_two_numbers" "_law_two_numbers" (defArgs s_l_two_numbers) (defBody s_l_two_numbers) (defScope s_l_two_numbers) .none kV13 dc13 pm13 an13 cd13 ct13), sl13⟩) (c13 : PySem.W.codeIn K cd13 "_law_two_numbers" = true) (k13 : PySem.W.keepIn K (.ref f13) = true)
    (a14 : PySem.W.nsIn K mainGlobals "_law_same" = some (some (.ref f14))) (l14 : K.lookup f14 = some ⟨oc14, od14, .func (PySem.W.fnOf "_law_same" "_law_same" (defArgs s_l_same) (defBody s_l_same) (defScope s_l_same) .none kV14 dc14 pm14 an14 cd14 ct14), sl14⟩) (c14 : PySem.W.codeIn K cd14 "_law_same" = true) (k14 : PySem.W.keepIn K (.ref f14) = true)
    (a15 : PySem.W.nsIn K mainGlobals "law" = some (some (.ref f15))) (l15 : K.lookup f15 = some ⟨oc15, od15, .func (PySem.W.fnOf "law" "law" (defArgs s_law) (defBody s_law) (defScope s_law) .none kV15 dc15 pm15 an15 cd15 ct15), sl15⟩) (c15 : PySem.W.codeIn K cd15 "law" = true) (k15 : PySem.W.keepIn K (.ref f15) = true)
    (z_abs : PySem.W.nsIn K mainGlobals "abs" = some none)
    (z_all : PySem.W.nsIn K mainGlobals "all" = some none)
    (z_bool : PySem.W.nsIn K mainGlobals "bool" = some none)
    (z_int : PySem.W.nsIn K mainGlobals "int" = some none)
    (z_isinstance : PySem.W.nsIn K mainGlobals "isinstance" = some none)
    (z_len : PySem.W.nsIn K mainGlobals "len" = some none)
    (z_max : PySem.W.nsIn K mainGlobals "max" = some none)
    (z_min : PySem.W.nsIn K mainGlobals "min" = some none)
    (z_range : PySem.W.nsIn K mainGlobals "range" = some none)
    (z_str : PySem.W.nsIn K mainGlobals "str" = some none)
    (z_tuple : PySem.W.nsIn K mainGlobals "tuple" = some none)
    {tk_FIGURES : Tok} (z_FIGURES : PySem.W.nsIn K mainGlobals "FIGURES" = some (some (.str "0123456789" tk_FIGURES)))
    {tk_MOST_BOTTOM : Tok} (z_MOST_BOTTOM : PySem.W.nsIn K mainGlobals "MOST_BOTTOM" = some (some (.int (12) tk_MOST_BOTTOM)))
    {tk_MOST_FIGURES : Tok} (z_MOST_FIGURES : PySem.W.nsIn K mainGlobals "MOST_FIGURES" = some (some (.int (16) tk_MOST_FIGURES)))
    {tk_MOST_TOP : Tok} (z_MOST_TOP : PySem.W.nsIn K mainGlobals "MOST_TOP" = some (some (.int (1000000) tk_MOST_TOP)))
    : ∃ fd : FuncData, (∀ (s : Shared) (v : Value), BindsTo s fd ⟨[v], []⟩ [("_law_script", v)]) ∧ ∃ mg', ∀ base : Heap, K.In base → base.Ns mainGlobals mg → FnOk l.prog w K mg base (L2.CX l.prog w) 4 fa fd ["_law_script"] (spG K mg' 1 f_law) := by
  have e := hfa.symm.trans (PySem.W.mg_of X G a15)
  cases e
  have T : Txt mg := ⟨PySem.W.mg_none_of X G z_abs, PySem.W.mg_none_of X G z_all, PySem.W.mg_none_of X G z_bool, PySem.W.mg_none_of X G z_int, PySem.W.mg_none_of X G z_isinstance, PySem.W.mg_none_of X G z_len, PySem.W.mg_none_of X G z_max, PySem.W.mg_none_of X G z_min, PySem.W.mg_none_of X G z_range, PySem.W.mg_none_of X G z_str, PySem.W.mg_none_of X G z_tuple, ⟨_, PySem.W.mg_of X G z_FIGURES⟩, ⟨_, PySem.W.mg_of X G z_MOST_BOTTOM⟩, ⟨_, PySem.W.mg_of X G z_MOST_FIGURES⟩, ⟨_, PySem.W.mg_of X G z_MOST_TOP⟩⟩
  have F1 := fun_mk (st := s_is_plain) l1 c1 k1
  have b1 := F1.binds (ps := ["text"]) fun _ _ _ _ _ _ us hl => match us, hl with | [_], _ => rfl
  have F2 := fun_mk (st := s_number_of) l2 c2 k2
  have b2 := F2.binds (ps := ["text", "low", "high"]) fun _ _ _ _ _ _ us hl => match us, hl with | [_, _, _], _ => rfl
  have F3 := fun_mk (st := s_lowest) l3 c3 k3
  have b3 := F3.binds (ps := ["top", "bottom"]) fun _ _ _ _ _ _ us hl => match us, hl with | [_, _], _ => rfl
  have F4 := fun_mk (st := s_weight_text) l4 c4 k4
  have b4 := F4.binds (ps := ["weight"]) fun _ _ _ _ _ _ us hl => match us, hl with | [_], _ => rfl
  have F5 := fun_mk (st := s_weight_in) l5 c5 k5
  have b5 := F5.binds (ps := ["text"]) fun _ _ _ _ _ _ us hl => match us, hl with | [_], _ => rfl
  have F6 := fun_mk (st := s_l_cell) l6 c6 k6
  have b6 := F6.binds (ps := ["_law_script", "_law_k"]) fun _ _ _ _ _ _ us hl => match us, hl with | [_, _], _ => rfl
  have F7 := fun_mk (st := s_l_mixed) l7 c7 k7
  have b7 := F7.binds (ps := ["_law_cell_here", "_law_k"]) fun _ _ _ _ _ _ us hl => match us, hl with | [_, _], _ => rfl
  have F8 := fun_mk (st := s_l_divisor) l8 c8 k8
  have b8 := F8.binds (ps := ["_law_one", "_law_other"]) fun _ _ _ _ _ _ us hl => match us, hl with | [_, _], _ => rfl
  have F9 := fun_mk (st := s_l_weight) l9 c9 k9
  have b9 := F9.binds (ps := ["_law_cell_here", "_law_k"]) fun _ _ _ _ _ _ us hl => match us, hl with | [_, _], _ => rfl
  have F10 := fun_mk (st := s_l_written) l10 c10 k10
  have b10 := F10.binds (ps := ["_law_weight_here"]) fun _ _ _ _ _ _ us hl => match us, hl with | [_], _ => rfl
  have F11 := fun_mk (st := s_l_all_read) l11 c11 k11
  have b11 := F11.binds (ps := ["_law_text"]) fun _ _ _ _ _ _ us hl => match us, hl with | [_], _ => rfl
  have F12 := fun_mk (st := s_l_spoiled) l12 c12 k12
  have b12 := F12.binds (ps := ["_law_cell_here", "_law_text"]) fun _ _ _ _ _ _ us hl => match us, hl with | [_, _], _ => rfl
  have F13 := fun_mk (st := s_l_two_numbers) l13 c13 k13
  have b13 := F13.binds (ps := ["_law_cell_here"]) fun _ _ _ _ _ _ us hl => match us, hl with | [_], _ => rfl
  have F14 := fun_mk (st := s_l_same) l14 c14 k14
  have b14 := F14.binds (ps := ["_law_found", "_law_due"]) fun _ _ _ _ _ _ us hl => match us, hl with | [_, _], _ => rfl
  have F15 := fun_mk (st := s_law) l15 c15 k15
  refine ⟨PySem.W.fnOf "law" "law" (defArgs s_law) (defBody s_law) (defScope s_law) .none kV15 dc15 pm15 an15 cd15 ct15, fun s v => .of_eq rfl, mg, fun base _ _ => ?_⟩
  have D1 : Def l.prog w K mg base 1 "is_plain" 1 f_is_plain := def_mk F1 b1 (PySem.W.mg_of X G a1) (ok_is_plain F1 T )
  have D2 : Def l.prog w K mg base 2 "number_of" 3 f_number_of := def_mk F2 b2 (PySem.W.mg_of X G a2) (ok_number_of F2 T D1)
  have D3 : Def l.prog w K mg base 1 "lowest" 2 f_lowest := def_mk F3 b3 (PySem.W.mg_of X G a3) (ok_lowest F3 T )
  have D4 : Def l.prog w K mg base 2 "weight_text" 1 f_weight_text := def_mk F4 b4 (PySem.W.mg_of X G a4) (ok_weight_text F4 T D3)
  have D5 : Def l.prog w K mg base 3 "weight_in" 1 f_weight_in := def_mk F5 b5 (PySem.W.mg_of X G a5) (ok_weight_in F5 T D2 D3)
  have D6 : Def l.prog w K mg base 1 "_law_cell" 2 f_l_cell := def_mk F6 b6 (PySem.W.mg_of X G a6) (ok_l_cell F6 T )
  have D7 : Def l.prog w K mg base 1 "_law_mixed" 2 f_l_mixed := def_mk F7 b7 (PySem.W.mg_of X G a7) (ok_l_mixed F7 T )
  have D8 : Def l.prog w K mg base 1 "_law_divisor" 2 f_l_divisor := def_mk F8 b8 (PySem.W.mg_of X G a8) (ok_l_divisor F8 T )
  have D9 : Def l.prog w K mg base 2 "_law_weight" 2 f_l_weight := def_mk F9 b9 (PySem.W.mg_of X G a9) (ok_l_weight F9 T D7)
  have D10 : Def l.prog w K mg base 2 "_law_written" 1 f_l_written := def_mk F10 b10 (PySem.W.mg_of X G a10) (ok_l_written F10 T D8)
  have D11 : Def l.prog w K mg base 3 "_law_all_read" 1 f_l_all_read := def_mk F11 b11 (PySem.W.mg_of X G a11) (ok_l_all_read F11 T D8 D10)
  have D12 : Def l.prog w K mg base 2 "_law_spoiled" 2 f_l_spoiled := def_mk F12 b12 (PySem.W.mg_of X G a12) (ok_l_spoiled F12 T D7)
  have D13 : Def l.prog w K mg base 2 "_law_two_numbers" 1 f_l_two_numbers := def_mk F13 b13 (PySem.W.mg_of X G a13) (ok_l_two_numbers F13 T D7)
  have D14 : Def l.prog w K mg base 1 "_law_same" 2 f_l_same := def_mk F14 b14 (PySem.W.mg_of X G a14) (ok_l_same F14 T )
  exact ok_law F15 T D4 D5 D6 D8 D9 D10 D11 D12 D13 D14
end K04

namespace K04
open PySem L2 G SX
def mixed (c k : Int) : Int := if 10 ^ 18 ≤ c ∧ 0 < c / 2 ^ (40 * k).toNat then (c / 2 ^ (40 * k).toNat) % 2 ^ 40 else
  let n1 := (c + 7919 * k) % 2147483647
  let n2 := (n1 * 48271 + k) % 2147483647
  let n3 := n2 * (n2 + 7) % 2147483629
  n3 * (n3 + 3) % 2147483587
theorem mixed_eq {c k : Int} (hk : 0 ≤ k) (hk2 : k ≤ 1000000) (mh : List O) : f_l_mixed [.int c, .int k] mh = .ok (.int (mixed c k)) mh := by
  unfold f_l_mixed defn b_l_mixed mixed
  by_cases h1 : (1000000000000000000 : Int) ≤ c
  · by_cases h2 : 0 < c / 2 ^ (40 * k).toNat
    · simp (disch := omega) [h1, h2]
    · simp (disch := omega) [h1, h2]
  · simp (disch := omega) [h1]
theorem mixed_range {c k : Int} : 0 ≤ mixed c k ∧ mixed c k < 1099511627776 := by
  unfold mixed
  split
  · omega
  · dsimp only
    omega
theorem cell_eq {ns : List Int} {k : Int} (hl : ns.length ≤ 63) (h0 : 0 ≤ k) (mh : List O) (hk : k ≤ 1000000) : f_l_cell [.lst (ns.map .int), .int k] mh = .ok (.int (if k < ns.length then ns.getD k.toNat 0 else 7919 * k + 14)) mh := by
  unfold f_l_cell defn b_l_cell
  by_cases h : k < ns.length
  · simp (disch := omega) [h, oIx_ints h0 h]
  · simp (disch := omega) [h]

/-! ### digits -/
def dig (c : Nat) : Bool := decide (48 ≤ c) && decide (c ≤ 57)
def val (a : List Nat) : Nat := NumText.digitsVal a
theorem val_snoc (a : List Nat) (c : Nat) : val (a ++ [c]) = val a * 10 + (c - 48) := by
  unfold val NumText.digitsVal
  rw [List.foldl_append]; rfl
theorem val_lt : ∀ (n : Nat) (a : List Nat), a.length = n → a.all dig = true → val a < 10 ^ n
  | 0, a, h, _ => by
    rw [List.length_eq_zero_iff.mp h]; decide
  | n + 1, a, h, hd => by
    have hne : a ≠ [] := fun z => by rw [z] at h; cases h
    obtain ⟨b, c, rfl⟩ : ∃ b c, a = b ++ [c] := ⟨a.dropLast, a.getLast hne, (List.dropLast_concat_getLast hne).symm⟩
    rw [List.all_append, Bool.and_eq_true] at hd
    have hl : b.length = n := by simpa using h
    have ih := val_lt n b hl hd.1
    have hc : dig c = true := by simpa using hd.2
    unfold dig at hc
    rw [Bool.and_eq_true, decide_eq_true_iff, decide_eq_true_iff] at hc
    rw [val_snoc, Nat.pow_succ]
    omega
theorem numL_head : ∀ (n : Nat), (TL.numL n).head? = some 48 → n = 0 := by
  intro n
  induction n using Nat.strongRecOn with
  | _ n ih =>
    intro h
    by_cases hn : n < 10
    · rw [TL.numL_lt hn] at h
      simp at h
      omega
    · rw [TL.numL_step (by omega)] at h
      have hne := TL.numL_ne (n / 10)
      have : (TL.numL (n / 10)).head? = some 48 := by
        cases q : TL.numL (n / 10) with
        | nil => exact absurd q hne
        | cons x xs => rw [q] at h; exact h
      have := ih (n / 10) (by omega) this
      omega
/-- written as a number is written -/
theorem canon : ∀ (n : Nat) (a : List Nat), a.length = n → a ≠ [] → a.all dig = true → (a.head? ≠ some 48 ∨ a = [48]) → TL.numL (val a) = a
  | 0, a, h, hne, _, _ => absurd (List.length_eq_zero_iff.mp h) hne
  | n + 1, a, h, hne, hd, hh => by
    obtain ⟨b, c, rfl⟩ : ∃ b c, a = b ++ [c] := ⟨a.dropLast, a.getLast hne, (List.dropLast_concat_getLast hne).symm⟩
    rw [List.all_append, Bool.and_eq_true] at hd
    have hl : b.length = n := by simpa using h
    have hc : dig c = true := by simpa using hd.2
    unfold dig at hc
    rw [Bool.and_eq_true, decide_eq_true_iff, decide_eq_true_iff] at hc
    by_cases hb : b = []
    · subst hb
      rw [val_snoc]
      have e0 : val [] = 0 := rfl
      rw [e0, Nat.zero_mul, Nat.zero_add, TL.numL_lt (by omega)]
      have : 48 + (c - 48) = c := by omega
      rw [this]; rfl
    · have hh' : b.head? ≠ some 48 := by
        rcases hh with z | z
        · intro q
          apply z
          cases b with
          | nil => exact absurd rfl hb
          | cons x xs => exact q
        · have := congrArg List.length z
          simp at this
          exact absurd this hb
      have ih := canon n b hl hb hd.1 (.inl hh')
      have hv : 0 < val b := by
        rcases Nat.eq_zero_or_pos (val b) with z | z
        · rw [z] at ih
          have : b = [48] := ih.symm
          rw [this] at hh'
          exact absurd rfl hh'
        · exact z
      rw [val_snoc, TL.numL_step (by omega)]
      have e1 : (val b * 10 + (c - 48)) / 10 = val b := by omega
      have e2 : 48 + (val b * 10 + (c - 48)) % 10 = c := by omega
      rw [e1, e2, ih]
/-- its text is the text -/
def plain (a : List Nat) : Bool := decide (1 ≤ a.length ∧ a.length ≤ 16) && !(decide (a.head? = some 48) && !decide (a = [48])) && a.all dig
theorem plain_iff (a : List Nat) : plain a = true ↔ (a ≠ [] ∧ a.length ≤ 16 ∧ a.all dig = true ∧ TL.numL (val a) = a) := by
  unfold plain
  rw [Bool.and_eq_true, Bool.and_eq_true, decide_eq_true_iff]
  have hne : a ≠ [] ↔ 1 ≤ a.length := by
    rw [← List.length_pos_iff]; exact Iff.rfl
  constructor
  · rintro ⟨⟨h1, h2⟩, h3⟩
    refine ⟨hne.mpr h1.1, h1.2, h3, canon _ a rfl (hne.mpr h1.1) h3 ?_⟩
    by_cases q : a.head? = some 48
    · by_cases z : a = [48]
      · exact .inr z
      · simp [q, z] at h2
    · exact .inl q
  · rintro ⟨h1, h2, h3, h4⟩
    refine ⟨⟨⟨hne.mp h1, h2⟩, ?_⟩, h3⟩
    by_cases q : a.head? = some 48
    · have := numL_head (val a) (by rw [h4]; exact q)
      rw [this] at h4
      have z : a = [48] := h4.symm
      simp [z]
    · simp [q]
/-- the text of a whole number -/
def txt (i : Int) : List Nat := if 0 ≤ i then TL.numL i.toNat else 45 :: TL.numL (-i).toNat
theorem str_txt (i : Int) : (toString i : Str) = S (txt i) := by
  unfold txt
  by_cases h : 0 ≤ i
  · rw [if_pos h]
    have e : i = ((i.toNat : Nat) : Int) := by omega
    rw [e, num_S, Int.toNat_natCast]
  · rw [if_neg h]
    obtain ⟨m, rfl⟩ : ∃ m, i = Int.negSucc m := by
      cases i with
      | ofNat n => exact absurd (Int.natCast_nonneg n) h
      | negSucc m => exact ⟨m, rfl⟩
    have e : (toString (Int.negSucc m)) = "-" ++ Nat.repr (m + 1) := rfl
    have e2 : (-(Int.negSucc m)).toNat = m + 1 := rfl
    rw [e2]
    apply TL.ext_tl
    show TL.tl (Str.ofString (toString (Int.negSucc m))) = _
    rw [e]
    have e3 : TL.tl (Str.ofString ("-" ++ Nat.repr (m + 1))) = TL.tl (Str.ofString "-") ++ TL.tl (Str.ofString (Nat.repr (m + 1))) := by
      have h1 : Str.ofString ("-" ++ Nat.repr (m + 1)) = Str.ofString "-" ++ Str.ofString (Nat.repr (m + 1)) := by
        apply TL.ext_tl
        rw [TL.tl_append, Str.ofString_eq_toList, Str.ofString_eq_toList, Str.ofString_eq_toList, String.toList_append, List.map_append]
      rw [h1, TL.tl_append]
    rw [e3]
    have e4 := TL.tl_num (m + 1)
    have e5 : Str.ofString (toString (((m + 1 : Nat) : Nat) : Int)) = Str.ofString (Nat.repr (m + 1)) := rfl
    rw [e5] at e4
    rw [e4]
    rfl
end K04

namespace K04
open PySem L2 G SX
def figs : List Nat := [48, 49, 50, 51, 52, 53, 54, 55, 56, 57]
def lets : List Nat := [97, 98, 99, 100, 101, 102, 103, 104, 105, 106, 107, 108, 109, 110, 111, 112, 113, 114, 115, 116, 117, 118, 119, 120, 121, 122]
theorem c_figs : ("0123456789" : Str) = S figs := by decide +kernel
theorem c_lets : ("abcdefghijklmnopqrstuvwxyz" : Str) = S lets := by decide +kernel
theorem c_0 : ("0" : Str) = S [48] := by decide +kernel
theorem c_9 : ("9" : Str) = S [57] := by decide +kernel
theorem c_a : ("a" : Str) = S [97] := by decide +kernel
theorem c_z : ("z" : Str) = S [122] := by decide +kernel
theorem c_m : ("-" : Str) = S [45] := by decide +kernel
theorem c_m0 : ("-0" : Str) = S [45, 48] := by decide +kernel
theorem c_e : ("" : Str) = S [] := by decide +kernel
theorem oks_lit {a : List Nat} (h : a.all (fun c => decide (c < 0x110000)) = true) : Oks a := fun c hc => of_decide_eq_true (List.all_eq_true.mp h c hc)
theorem mem_figs (c : Nat) : decide (c ∈ figs) = dig c := by
  unfold figs dig
  rw [Bool.eq_iff_iff, decide_eq_true_iff, Bool.and_eq_true, decide_eq_true_iff, decide_eq_true_iff]
  simp only [List.mem_cons, List.mem_nil_iff, or_false]
  omega
theorem all_map (a : List Nat) (f : Nat → Bool) : (a.map f).all id = a.all f := by rw [List.all_map]; rfl
/-- is_plain -/
theorem plain_eq {a : List Nat} (ho : Oks a) (hl : a.length ≤ 1000) (mh : List O) : ar 1 (oP f_is_plain) [.str (S a)] mh = .ok (.bl (plain a)) mh := by
  refine call_eq rfl (by simp) fun mh => ?_
  have ln : ∀ mh, oLen [.str (S a)] mh = .ok (.int (a.length : Nat)) mh := fun mh => oLen_S (by omega)
  have ne : ∀ mh, oNe (.str (S a)) (.str (S [48])) mh = .ok (.bl (!decide (a = [48]))) mh := fun mh => oNe_S ho (oks_lit (by decide))
  have lc : cLcX false ci_is_plain_1 (gNm 1) ct_is_plain_1 ce_is_plain_1 [1] [some (.str (S a)), none] mh = .ok (.lst ((a.map dig).map D.bl)) mh := by
    have l := lcL_map (mh := mh) (h := fun c => .str (S [c])) (g := (a.map fun c => .str (S [c]), none)) (tg := gNm 1) (t := ct_is_plain_1) (f := ce_is_plain_1) (ρ := [some (.str (S a)), none]) (p := fun _ => true) (e := fun c => .bl (dig c)) trivial a (fun c hc => by
      refine ⟨[some (.str (S a)), some (.str (S [c]))], by simp, by rw [ct_is_plain_1_eq]; simp, fun _ => ?_⟩
      rw [ce_is_plain_1_eq, c_figs]
      simp [oInS_S, mem_figs])
    rw [List.filter_eq_self.mpr (fun _ _ => rfl)] at l
    rw [cLc_at (m1 := mh) (m2 := mh) (g := (a.map fun c => .str (S [c]), none)) (by rw [ci_is_plain_1_eq]; rfl) (by simp; omega) (by simpa using l)]
    rw [fin_f, List.map_map]; rfl
  have al : oAll [.lst ((a.map dig).map D.bl)] mh = .ok (.bl (a.all dig)) mh := by rw [oAll_bls rfl, all_map]
  generalize (a.map dig).map D.bl = B at lc al
  unfold f_is_plain defn b_is_plain
  rw [c_0]
  by_cases h1 : 1 ≤ a.length ∧ a.length ≤ 16
  · obtain ⟨c, b, rfl⟩ : ∃ c b, a = c :: b := by
      cases a with
      | nil => exact absurd h1.1 (by simp)
      | cons c b => exact ⟨c, b, rfl⟩
    have ix : ∀ mh, oIx (.str (S (c :: b))) (.int 0) mh = .ok (.str (S [c])) mh := fun mh => oIx_S (by omega) (atI_of (by omega) rfl)
    have e0 : ∀ mh, oEq (.str (S [c])) (.str (S [48])) mh = .ok (.bl (decide (c = 48))) mh := fun mh => by
      rw [oEq_S (fun x hx => ho x (by rw [List.mem_singleton.mp hx]; exact List.mem_cons_self)) (oks_lit (by decide))]
      congr 2
      by_cases q : c = 48 <;> simp [q]
    have h2 : (1 : Int) ≤ ((c :: b).length : Nat) := by omega
    have h3 : ((c :: b).length : Int) ≤ 16 := by omega
    have hp : plain (c :: b) = (!(decide (c = 48) && !decide (c :: b = [48])) && (c :: b).all dig) := by
      unfold plain
      rw [decide_eq_true h1, Bool.true_and]
      congr 3
      simp
    rw [hp]
    generalize (c :: b).all dig = ad at *
    generalize decide (c :: b = [48]) = q at *
    generalize ((c :: b).length : Int) = n at *
    generalize S (c :: b) = A at *
    generalize decide (c = 48) = b1 at *
    generalize S [c] = C at *
    cases b1 <;> cases q <;> simp [ln, ne, lc, al, ix, e0, h2, h3]
  · have hp : plain a = false := by
      unfold plain
      rw [decide_eq_false h1]; rfl
    rw [hp]
    by_cases h2 : (1 : Int) ≤ (a.length : Nat)
    · have h3 : ¬ ((a.length : Int) ≤ 16) := by omega
      generalize ((a.length : Nat) : Int) = n at *
      generalize S a = A at *
      simp [ln, h2, h3]
    · generalize ((a.length : Nat) : Int) = n at *
      generalize S a = A at *
      simp [ln, h2]
def numb (a : List Nat) : Option Int :=
  if plain a = true then some (val a : Nat) else if a.take 1 = [45] ∧ a ≠ [45, 48] ∧ plain (a.drop 1) = true then some (0 - (val (a.drop 1) : Nat)) else none
def within (l h : Int) : Option Int → D
  | some n => if l ≤ n ∧ n ≤ h then .int n else .non
  | none => .non
theorem int_val {a : List Nat} (h : plain a = true) (mh : List O) : oIntS [.str (S a)] mh = .ok (.int (val a : Nat)) mh := by
  obtain ⟨h1, h2, h3, h4⟩ := (plain_iff a).mp h
  show (match intText? (S a) with | some n => if (S a).length ≤ 640 then Res.ok (D.int n) mh else .stuck | none => .stuck) = _
  rw [int_S h3 h1 (by omega), S_len]
  exact if_pos (by omega)
theorem number_eq {a : List Nat} (ho : Oks a) (hl : a.length ≤ 1000) (l h : Int) (mh : List O) : ar 3 (oP f_number_of) [.str (S a), .int l, .int h] mh = .ok (within l h (numb a)) mh := by
  refine call_eq rfl (by simp) fun mh => ?_
  have p1 := fun mh => plain_eq ho hl mh
  have p2 := fun mh => plain_eq (a := a.drop 1) (ho.drop 1) (by rw [List.length_drop]; omega) mh
  have t1 : ∀ mh, oSlS (.str (S a)) none (some 1) mh = .ok (.str (S (a.take 1))) mh := fun mh => oSlS_to (by omega) (by omega)
  have t2 : ∀ mh, oSlS (.str (S a)) (some 1) none mh = .ok (.str (S (a.drop 1))) mh := fun mh => oSlS_from (by omega) (by omega)
  have s1 : ∀ (ρ : En) mh, cSl oSlS (cVar 0) coN (coS (cK (.int 1))) (some (.str (S a)) :: ρ) mh = .ok (.str (S (a.take 1))) mh := fun ρ mh => t1 mh
  have s2 : ∀ (ρ : En) mh, cSl oSlS (cVar 0) (coS (cK (.int 1))) coN (some (.str (S a)) :: ρ) mh = .ok (.str (S (a.drop 1))) mh := fun ρ mh => t2 mh
  have q1 : ∀ mh, oEq (.str (S (a.take 1))) (.str (S [45])) mh = .ok (.bl (decide (a.take 1 = [45]))) mh := fun mh => oEq_S (ho.take 1) (oks_lit (by decide))
  have q2 : ∀ mh, oNe (.str (S a)) (.str (S [45, 48])) mh = .ok (.bl (!decide (a = [45, 48]))) mh := fun mh => oNe_S ho (oks_lit (by decide))
  have isn : ∀ mh, oIsX .non .non mh = .ok (.bl true) mh := fun mh => rfl
  have isi : ∀ (i : Int) mh, oIsX (.int i) .non mh = .ok (.bl false) mh := fun i mh => rfl
  have fin : ∀ (n : Int), within l h (some n) = if l ≤ n then (if n ≤ h then .int n else .non) else .non := fun n => by
    unfold within
    by_cases z1 : l ≤ n <;> by_cases z2 : n ≤ h <;> simp [z1, z2]
  have iv1 : plain a = true → ∀ mh, oIntS [.str (S a)] mh = .ok (.int (val a : Nat)) mh := fun h => int_val h
  have iv2 : plain (a.drop 1) = true → ∀ mh, oIntS [.str (S (a.drop 1))] mh = .ok (.int (val (a.drop 1) : Nat)) mh := fun h => int_val h
  have e : within l h (numb a) = if plain a = true then within l h (some (val a : Nat)) else if decide (a.take 1 = [45]) = true then (if decide (a = [45, 48]) = true then .non else if plain (a.drop 1) = true then within l h (some (0 - (val (a.drop 1) : Nat))) else .non) else .non := by
    unfold numb
    by_cases h1 : plain a = true
    · rw [if_pos h1, if_pos h1]
    · rw [if_neg h1, if_neg h1]
      split
      · rename_i h
        obtain ⟨h2, h3, h4⟩ := h
        rw [decide_eq_true h2, decide_eq_false h3, if_pos rfl, if_neg Bool.false_ne_true, if_pos h4]
      · rename_i h
        by_cases h2 : a.take 1 = [45]
        · rw [decide_eq_true h2, if_pos rfl]
          by_cases h3 : a = [45, 48]
          · rw [decide_eq_true h3, if_pos rfl]; rfl
          · rw [decide_eq_false h3, if_neg Bool.false_ne_true]
            have h4 : ¬ (plain (a.drop 1) = true) := fun z => h ⟨h2, h3, z⟩
            rw [if_neg h4]; rfl
        · rw [decide_eq_false h2, if_neg Bool.false_ne_true]; rfl
  rw [e, fin, fin]
  unfold f_number_of defn b_number_of
  rw [c_m, c_m0]
  clear e fin t1 t2
  generalize ((val a : Nat) : Int) = n1 at *
  generalize ((val (a.drop 1) : Nat) : Int) = n2 at *
  generalize plain a = pa at *
  generalize plain (a.drop 1) = pd at *
  generalize decide (a.take 1 = [45]) = b1 at *
  generalize decide (a = [45, 48]) = b2 at *
  generalize S (a.take 1) = T1 at *
  generalize S (a.drop 1) = T2 at *
  generalize S a = A at *
  cases pa with
  | true =>
    have iv := iv1 rfl
    by_cases z1 : l ≤ n1 <;> by_cases z2 : n1 ≤ h <;> simp [p1, iv, isi, z1, z2]
  | false =>
    cases b1 with
    | false => simp [p1, s1, q1, isn]
    | true =>
      cases b2 with
      | true => simp [p1, s1, q1, q2, isn]
      | false =>
        cases pd with
        | false => simp [p1, s1, q1, q2, s2, p2, isn]
        | true =>
          have iv := iv2 rfl
          by_cases z1 : l ≤ 0 - n2 <;> by_cases z2 : 0 - n2 ≤ h <;> (simp only [Int.zero_sub] at z1 z2; simp [p1, s1, q1, q2, s2, p2, iv, isi, z1, z2])
theorem txt_oks (i : Int) : Oks (txt i) := by
  intro c hc
  unfold txt at hc
  split at hc
  · have := TL.numL_digits _ c hc; omega
  · rcases List.mem_cons.mp hc with rfl | hc
    · omega
    · have := TL.numL_digits _ c hc; omega
theorem while_lowest {u v : Option D} (mh : List O) : ∀ (n : Nat) (x y : Nat), x < n → 0 < y → sWhile w_lowest_1 bd_lowest_1 [u, v, some (.int x), some (.int y)] mh =
    .nx [u, v, some (.int 0), some (.int (Nat.gcd x y))] mh
  | 0, _, _, h, _ => absurd h (Nat.not_lt_zero _)
  | n + 1, x, y, h, hy => by
    rw [sWhile_eq]
    by_cases hx : x = 0
    · subst hx
      simp [w_lowest_1_eq]
    · have hp : (0 : Int) < x := by omega
      have hx' : ¬ ((x : Int) = 0) := by omega
      have ih := while_lowest (u := u) (v := v) mh n (y % x) x (Nat.lt_of_lt_of_le (Nat.mod_lt _ (by omega)) (by omega)) (by omega)
      rw [Int.natCast_emod] at ih
      simp [w_lowest_1_eq, bd_lowest_1_eq, hx, hx', oMod_ok hp, ih]
      rw [← Nat.gcd_rec, Nat.gcd_comm]
theorem while_divisor (mh : List O) : ∀ (n : Nat) (x y : Nat), y < n → sWhile w_l_divisor_1 bd_l_divisor_1 [some (.int x), some (.int y)] mh =
    .nx [some (.int (Nat.gcd x y)), some (.int 0)] mh
  | 0, _, _, h => absurd h (Nat.not_lt_zero _)
  | n + 1, x, y, h => by
    rw [sWhile_eq]
    by_cases hx : y = 0
    · subst hx
      simp [w_l_divisor_1_eq]
    · have hp : (0 : Int) < y := by omega
      have hx' : ¬ ((y : Int) = 0) := by omega
      have ih := while_divisor mh n y (x % y) (Nat.lt_of_lt_of_le (Nat.mod_lt _ (by omega)) (by omega))
      rw [Int.natCast_emod] at ih
      simp [w_l_divisor_1_eq, bd_l_divisor_1_eq, hx, hx', oMod_ok hp, ih]
      rw [Nat.gcd_comm y, ← Nat.gcd_rec, Nat.gcd_comm]
/-- the greatest common divisor of a fraction's two numbers -/
def gd (a b : Int) : Int := (Nat.gcd a.natAbs b.natAbs : Nat)
theorem gd_pos {a b : Int} (h : 0 < b) : 0 < gd a b := by
  have := Nat.gcd_pos_of_pos_right a.natAbs (n := b.natAbs) (by omega)
  unfold gd; omega
theorem gd_le {a b : Int} (h : 0 < b) : gd a b ≤ b := by
  have := Nat.le_of_dvd (n := b.natAbs) (by omega) (Nat.gcd_dvd_right a.natAbs b.natAbs)
  unfold gd; omega
theorem gd_l {a b : Int} : gd a b ∣ a := Int.ofNat_dvd_left.mpr (Nat.gcd_dvd_left _ _)
theorem gd_r {a b : Int} : gd a b ∣ b := Int.ofNat_dvd_left.mpr (Nat.gcd_dvd_right _ _)
theorem lowest_eq {a b : Int} (h : 0 < b) (h2 : b < 2 ^ 70) (mh : List O) : f_lowest [.int a, .int b] mh = .ok (.tup [.int (a / gd a b), .int (b / gd a b)]) mh := by
  have e : (if a < 0 then -a else a) = ((a.natAbs : Nat) : Int) := by split <;> omega
  have e2 : b = ((b.natAbs : Nat) : Int) := by omega
  have w := while_lowest (u := some (.int a)) (v := some (.int b)) mh (a.natAbs + 1) a.natAbs b.natAbs (by omega) (by omega)
  rw [← e2] at w
  have g1 := gd_pos (a := a) h
  have g2 := gd_le (a := a) h
  have hb : (gd a b).natAbs < 2 ^ 8000 := Nat.lt_of_lt_of_le (m := 2 ^ 70) (by omega) (Nat.pow_le_pow_right (by decide) (by decide))
  have w' : sWhile w_lowest_1 bd_lowest_1 [some (.int a), some (.int b), some (.int ((a.natAbs : Nat) : Int)), some (.int b)] mh =
    .nx [some (.int a), some (.int b), some (.int 0), some (.int (gd a b))] mh := w
  unfold f_lowest defn b_lowest
  simp [e, w', oFdiv_b g1 hb]
theorem divisor_eq {a b : Int} (ha : 0 ≤ a) (hb : 0 ≤ b) (mh : List O) : f_l_divisor [.int a, .int b] mh = .ok (.int (gd a b)) mh := by
  have e1 : a = ((a.natAbs : Nat) : Int) := by omega
  have e2 : b = ((b.natAbs : Nat) : Int) := by omega
  have w := while_divisor mh (b.natAbs + 1) a.natAbs b.natAbs (by omega)
  rw [← e1, ← e2] at w
  unfold f_l_divisor defn b_l_divisor gd
  simp [w]
def pr (a b : Int) : D := .tup [.int a, .int b]
theorem gd_red {a b : Int} (hb : 0 < b) : gd (a / gd a b) (b / gd a b) = 1 := by
  have hg := gd_pos (a := a) hb
  have e1 : (a / gd a b).natAbs = a.natAbs / Nat.gcd a.natAbs b.natAbs := by
    obtain ⟨c, hc⟩ := gd_l (a := a) (b := b)
    have : (a.natAbs) = (gd a b).natAbs * c.natAbs := by rw [← Int.natAbs_mul, ← hc]
    rw [show Nat.gcd a.natAbs b.natAbs = (gd a b).natAbs by unfold gd; simp]
    rw [this, Nat.mul_div_cancel_left _ (by omega)]
    congr 1
    exact Int.ediv_eq_of_eq_mul_right (by omega) hc
  have e2 : (b / gd a b).natAbs = b.natAbs / Nat.gcd a.natAbs b.natAbs := by
    obtain ⟨c, hc⟩ := gd_r (a := a) (b := b)
    have : (b.natAbs) = (gd a b).natAbs * c.natAbs := by rw [← Int.natAbs_mul, ← hc]
    rw [show Nat.gcd a.natAbs b.natAbs = (gd a b).natAbs by unfold gd; simp]
    rw [this, Nat.mul_div_cancel_left _ (by omega)]
    congr 1
    exact Int.ediv_eq_of_eq_mul_right (by omega) hc
  unfold gd at *
  rw [e1, e2, Nat.gcd_div (Nat.gcd_dvd_left _ _) (Nat.gcd_dvd_right _ _), Nat.div_self (by omega)]
  rfl
theorem div_pos' {a b : Int} (hb : 0 < b) : 0 < b / gd a b := by
  have := Int.ediv_pos_of_pos_of_dvd hb (Int.le_of_lt (gd_pos (a := a) hb)) gd_r
  exact this
theorem div_le' {a b : Int} (hb : 0 < b) : b / gd a b ≤ b := Int.ediv_le_self _ (Int.le_of_lt hb)
theorem cross (a b : Int) : a / gd a b * b = a * (b / gd a b) := by
  obtain ⟨c, hc⟩ := gd_l (a := a) (b := b)
  obtain ⟨d, hd⟩ := gd_r (a := a) (b := b)
  by_cases h : gd a b = 0
  · rw [h] at hc hd
    simp at hc hd
    subst hc hd
    simp
  · have e1 : a / gd a b = c := Int.ediv_eq_of_eq_mul_right h hc
    have e2 : b / gd a b = d := Int.ediv_eq_of_eq_mul_right h hd
    rw [e1, e2]
    rw [hd, Int.mul_comm c, Int.mul_right_comm, ← hc]

theorem natgcd_one {a b : Int} (hb : 0 < b) : Nat.gcd (a / gd a b).natAbs (b / gd a b).natAbs = 1 := by
  have h := gd_red (a := a) hb
  unfold gd at h
  unfold gd
  omega
theorem low_uniq {a b c d : Int} (hb : 0 < b) (hd : 0 < d) (h : a * d = c * b) : a / gd a b = c / gd c d ∧ b / gd a b = d / gd c d := by
  have p1 := div_pos' (a := a) hb
  have p2 := div_pos' (a := c) hd
  have c1 := cross a b
  have c2 := cross c d
  have g1 := natgcd_one (a := a) hb
  have g2 := natgcd_one (a := c) hd
  generalize a / gd a b = p at *
  generalize b / gd a b = q at *
  generalize c / gd c d = r at *
  generalize d / gd c d = s at *
  -- p b = a q, r d = c s, a d = c b
  have e : p * s = r * q := by
    have hbd : b * d ≠ 0 := Int.mul_ne_zero (by omega) (by omega)
    have : (p * s) * (b * d) = (r * q) * (b * d) := by
      calc (p * s) * (b * d) = (p * b) * (s * d) := by ac_rfl
        _ = (a * q) * (s * d) := by rw [c1]
        _ = (a * d) * (q * s) := by ac_rfl
        _ = (c * b) * (q * s) := by rw [h]
        _ = (c * s) * (b * q) := by ac_rfl
        _ = (r * d) * (b * q) := by rw [c2]
        _ = (r * q) * (b * d) := by ac_rfl
    exact Int.eq_of_mul_eq_mul_right hbd this
  have en : p.natAbs * s.natAbs = r.natAbs * q.natAbs := by rw [← Int.natAbs_mul, ← Int.natAbs_mul, e]
  have d1 : q.natAbs ∣ s.natAbs := Nat.Coprime.dvd_of_dvd_mul_left (k := q.natAbs) (m := p.natAbs) (by rw [Nat.Coprime, Nat.gcd_comm]; exact g1) ⟨r.natAbs, by rw [en, Nat.mul_comm]⟩
  have d2 : s.natAbs ∣ q.natAbs := Nat.Coprime.dvd_of_dvd_mul_left (k := s.natAbs) (m := r.natAbs) (by rw [Nat.Coprime, Nat.gcd_comm]; exact g2) ⟨p.natAbs, by rw [← en, Nat.mul_comm]⟩
  have eq : q.natAbs = s.natAbs := Nat.dvd_antisymm d1 d2
  have eq' : q = s := by omega
  subst eq'
  exact ⟨Int.eq_of_mul_eq_mul_right (by omega) e, rfl⟩
/-- a fraction in lowest terms -/
def low (a b : Int) : D := pr (a / gd a b) (b / gd a b)
theorem low_same {a b c d : Int} (hb : 0 < b) (hd : 0 < d) (h : a * d = c * b) : low a b = low c d := by
  obtain ⟨e1, e2⟩ := low_uniq hb hd h
  unfold low; rw [e1, e2]
/-- a weight -/
def Wt (t b : Int) : Prop := 0 ≤ t ∧ t ≤ 1000000 ∧ 1 ≤ b ∧ b ≤ 12
theorem weight_eq {c k : Int} (hk : 0 ≤ k) (hk2 : k ≤ 1000) : ∃ t b, Wt t b ∧ ∀ mh, f_l_weight [.int c, .int k] mh = .ok (pr t b) mh := by
  have m0 := mixed_range (c := c) (k := k)
  have m1 := mixed_range (c := c) (k := k + 1)
  have e0 := fun mh => call_eq (n := 2) (mh := mh) (fn := f_l_mixed) (ds := [.int c, .int k]) rfl (by simp) (mixed_eq hk (by omega))
  have e1 := fun mh => call_eq (n := 2) (mh := mh) (fn := f_l_mixed) (ds := [.int c, .int (k + 1)]) rfl (by simp) (mixed_eq (by omega) (by omega))
  generalize mixed c k = a at *
  generalize mixed c (k + 1) = z at *
  have p1 : ∀ mh, oIx (.lst [.int 1000001, .int 13, .int 3, .int 1000001]) (.int (a % 4)) mh = .ok (.int ([1000001, 13, 3, 1000001].getD (a % 4).toNat 0)) mh := fun mh => oIx_ints (ns := [1000001, 13, 3, 1000001]) (by omega) (by simp; omega)
  have q1 : 0 < ([1000001, 13, 3, 1000001] : List Int).getD (a % 4).toNat 0 ∧ ([1000001, 13, 3, 1000001] : List Int).getD (a % 4).toNat 0 ≤ 1000001 := by
    have h : (a % 4).toNat = 0 ∨ (a % 4).toNat = 1 ∨ (a % 4).toNat = 2 ∨ (a % 4).toNat = 3 := by omega
    rcases h with h | h | h | h <;> rw [h] <;> decide
  generalize ([1000001, 13, 3, 1000001] : List Int).getD (a % 4).toNat 0 = u at *
  have r1 : 0 ≤ a / 16 % u ∧ a / 16 % u < 1000001 := ⟨Int.emod_nonneg _ (by omega), Int.lt_of_lt_of_le (Int.emod_lt_of_pos _ q1.1) q1.2⟩
  unfold f_l_weight defn b_l_weight pr
  by_cases h1 : a / 4 % 4 = 0
  · refine ⟨1000000 - a / 16 % 2, 1 + z % 12, ⟨by omega, by omega, by omega, by omega⟩, fun mh => ?_⟩
    simp (disch := omega) [e0, e1, p1, h1]
  · refine ⟨a / 16 % u, 1 + z % 12, ⟨by omega, by omega, by omega, by omega⟩, fun mh => ?_⟩
    simp (disch := omega) [e0, e1, p1, h1]
end K04

namespace K04
open PySem L2 G SX
theorem c_sl : ("/" : Str) = S [47] := by decide +kernel
theorem gdN (t b : Nat) : gd (t : Int) (b : Int) = ((Nat.gcd t b : Nat) : Int) := by
  unfold gd; rw [Int.natAbs_natCast, Int.natAbs_natCast]
theorem txtN (n : Nat) : txt (n : Int) = TL.numL n := by
  unfold txt; rw [if_pos (by omega), Int.toNat_natCast]
theorem strN {n : Nat} (h : n < 10 ^ 20) (mh : List O) : oStr [.int (n : Nat)] mh = .ok (.str (S (TL.numL n))) mh := by
  rw [oStr_b (Nat.lt_of_lt_of_le (m := 10 ^ 20) (by omega) (by decide)), str_txt, txtN]
/-- a weight as a text -/
def wtx (t b : Nat) : List Nat := TL.numL t ++ (if b = 1 then [] else 47 :: TL.numL b)
def Wr (t b : Nat) (a : List Nat) : Prop := a = wtx t b ∧ t ≤ 1000000 ∧ 1 ≤ b ∧ b ≤ 12 ∧ Nat.gcd t b = 1
theorem no_sl (n : Nat) : 47 ∉ TL.numL n := TL.numL_free (.inl (by omega))
theorem numL_len7 {n : Nat} (h : n ≤ 1000000) : (TL.numL n).length ≤ 7 := TL.numL_len (by omega) (by omega)
theorem numL_plain {n : Nat} (h : n < 10 ^ 16) : plain (TL.numL n) = true := by
  refine (plain_iff _).mpr ⟨TL.numL_ne n, TL.numL_len (by omega) h, ?_, by show TL.numL (NumText.digitsVal (TL.numL n)) = _; rw [TL.numL_val]⟩
  rw [List.all_eq_true]
  intro c hc
  have := TL.numL_digits n c hc
  unfold dig
  rw [Bool.and_eq_true, decide_eq_true_iff, decide_eq_true_iff]
  exact this
theorem val_numL (n : Nat) : val (TL.numL n) = n := TL.numL_val n
theorem oks_num (n : Nat) : Oks (TL.numL n) := fun c hc => by have := TL.numL_digits n c hc; omega
theorem oks_wtx (t b : Nat) : Oks (wtx t b) := by
  unfold wtx
  refine (oks_num t).app ?_
  split
  · intro c hc; simp at hc
  · intro c hc
    rcases List.mem_cons.mp hc with rfl | hc
    · omega
    · exact oks_num b c hc
theorem wtx_inj {t b b' : Nat} (h : wtx t b = wtx t b') : b = b' := by
  unfold wtx at h
  have h := List.append_cancel_left h
  by_cases h1 : b = 1
  · by_cases h2 : b' = 1
    · rw [h1, h2]
    · rw [if_pos h1, if_neg h2] at h; cases h
  · by_cases h2 : b' = 1
    · rw [if_neg h1, if_pos h2] at h; cases h
    · rw [if_neg h1, if_neg h2] at h
      injection h with _ h
      exact TL.numL_inj h
/-- what stands ahead of the first stroke -/
def hd (a : List Nat) : List Nat := match TL.par [47] [] a with
  | some (p, _) => p
  | none => a
theorem cut_cases : ∀ a : List Nat, 47 ∉ a ∨ ∃ p q, a = p ++ 47 :: q ∧ 47 ∉ p
  | [] => .inl (by simp)
  | c :: a => by
    by_cases h : c = 47
    · exact .inr ⟨[], a, by rw [h]; rfl, by simp⟩
    · rcases cut_cases a with z | ⟨p, q, rfl, hp⟩
      · refine .inl fun hm => ?_
        rcases List.mem_cons.mp hm with e | hm
        · exact h e.symm
        · exact z hm
      · refine .inr ⟨c :: p, q, rfl, fun hm => ?_⟩
        rcases List.mem_cons.mp hm with e | hm
        · exact h e.symm
        · exact hp hm
theorem par_some {p q : List Nat} (h : 47 ∉ p) : TL.par [47] [] (p ++ 47 :: q) = some (p, q) := par_head (sep := []) q h
theorem par_none {a : List Nat} (h : 47 ∉ a) : TL.par [47] [] a = none := par_head_none h
theorem part_some {p q : List Nat} (h : 47 ∉ p) (hl : (p ++ 47 :: q).length ≤ 1000) (mh : List O) : oPart (.str (S (p ++ 47 :: q))) [.str (S [47])] mh = .ok (.tup [.str (S p), .str (S [47]), .str (S q)]) mh := by
  have e := partition_some (a := p ++ 47 :: q) (b := [47]) (by simp) (par_some h)
  show (if ((S [47]).length == 0) = false ∧ (S (p ++ 47 :: q)).length ≤ sizeLine then _ else _) = _
  rw [if_pos ⟨rfl, by rw [S_len]; exact sl_1000 (by omega)⟩, e]
  exact oTup_3
theorem part_none {a : List Nat} (h : 47 ∉ a) (hl : a.length ≤ 1000) (mh : List O) : oPart (.str (S a)) [.str (S [47])] mh = .ok (.tup [.str (S a), .str (S []), .str (S [])]) mh := by
  have e := partition_none (a := a) (b := [47]) (by simp) (par_none h)
  show (if ((S [47]).length == 0) = false ∧ (S a).length ≤ sizeLine then _ else _) = _
  rw [if_pos ⟨rfl, by rw [S_len]; exact sl_1000 (by omega)⟩, e]
  exact oTup_3
/-- number_of within bounds from 0 on -/
def optN : Option Nat → D
  | some n => .int (n : Nat)
  | none => .non
theorem nof {a : List Nat} (ho : Oks a) (hl : a.length ≤ 1000) {lo M : Int} (h0 : 0 ≤ lo) (hM : M < 1000000000000000) : ∃ r : Option Nat, (∀ mh, ar 3 (oP f_number_of) [.str (S a), .int lo, .int M] mh = .ok (optN r) mh) ∧ ∀ n : Nat, r = some n ↔ (a = TL.numL n ∧ lo ≤ n ∧ n ≤ M) := by
  have key := fun mh => number_eq ho hl lo M mh
  by_cases hp : plain a = true
  · obtain ⟨h1, h2, h3, h4⟩ := (plain_iff a).mp hp
    have e : numb a = some ((val a : Nat) : Int) := by unfold numb; rw [if_pos hp]
    rw [e] at key
    by_cases hb : lo ≤ (val a : Nat) ∧ ((val a : Nat) : Int) ≤ M
    · refine ⟨some (val a), fun mh => ?_, fun n => ⟨fun z => ?_, fun z => ?_⟩⟩
      · rw [key mh]
        show Res.ok (if lo ≤ ((val a : Nat) : Int) ∧ ((val a : Nat) : Int) ≤ M then D.int _ else D.non) mh = _
        rw [if_pos hb]; rfl
      · injection z with z; subst z; exact ⟨h4.symm, hb⟩
      · rw [z.1, val_numL]
    · refine ⟨none, fun mh => ?_, fun n => ⟨fun z => (by cases z), fun z => ?_⟩⟩
      · rw [key mh]
        show Res.ok (if lo ≤ ((val a : Nat) : Int) ∧ ((val a : Nat) : Int) ≤ M then D.int _ else D.non) mh = _
        rw [if_neg hb]; rfl
      · exfalso; apply hb; rw [z.1, val_numL]; exact z.2
  · have nn : ∀ n : Nat, ¬ (a = TL.numL n ∧ lo ≤ (n : Int) ∧ (n : Int) ≤ M) := fun n z => by
      apply hp; rw [z.1]; exact numL_plain (by omega)
    refine ⟨none, fun mh => ?_, fun n => ⟨fun z => (by cases z), fun z => absurd z (nn n)⟩⟩
    rw [key mh]
    unfold numb
    rw [if_neg hp]
    split
    · rename_i z
      obtain ⟨z1, z2, z3⟩ := z
      obtain ⟨h1, h2, h3, h4⟩ := (plain_iff _).mp z3
      have hv : 0 < val (a.drop 1) := by
        rcases Nat.eq_zero_or_pos (val (a.drop 1)) with q | q
        · exfalso
          rw [q] at h4
          apply z2
          have e48 : TL.numL 0 = [48] := rfl
          rw [e48] at h4
          have : a = a.take 1 ++ a.drop 1 := (List.take_append_drop 1 a).symm
          rw [this, z1, ← h4]; rfl
        · exact q
      show Res.ok (if lo ≤ (0 - ((val (a.drop 1) : Nat) : Int)) ∧ (0 - ((val (a.drop 1) : Nat) : Int)) ≤ M then D.int _ else D.non) mh = _
      rw [if_neg (by omega)]; rfl
    · rfl
def wopt : Option (Nat × Nat) → D
  | some (t, b) => .tup [.int (t : Nat), .int (b : Nat)]
  | none => .non
theorem noRef_wopt (r : Option (Nat × Nat)) : noRef (wopt r) = true := by cases r <;> simp [wopt]
theorem lowN {t b : Nat} (hb : 0 < b) (hb2 : b < 2 ^ 60) (mh : List O) : ar 2 (oP f_lowest) [.int (t : Nat), .int (b : Nat)] mh = .ok (.tup [.int ((t / Nat.gcd t b : Nat) : Nat), .int ((b / Nat.gcd t b : Nat) : Nat)]) mh := by
  refine call_eq rfl (by simp) fun mh => ?_
  rw [lowest_eq (by omega) (by omega), gdN]
  rfl
theorem win_ok {a : List Nat} (ho : Oks a) (hl : a.length ≤ 1000) : ∃ r : Option (Nat × Nat), (∀ mh, ar 1 (oP f_weight_in) [.str (S a)] mh = .ok (wopt r) mh) ∧ ∀ t b, r = some (t, b) ↔ Wr t b a := by
  have i0 : ∀ mh, oIsX .non .non mh = .ok (.bl true) mh := fun mh => rfl
  have i1 : ∀ (i : Int) mh, oIsX (.int i) .non mh = .ok (.bl false) mh := fun i mh => rfl
  rcases cut_cases a with hn | ⟨p, q, rfl, hp⟩
  · obtain ⟨r1, f1, s1⟩ := nof ho hl (lo := 0) (M := 1000000) (by omega) (by omega)
    have pt : ∀ (ρ : En) mh, cMS oPart (cVar 0) (cCons (cK (.str (S [47]))) cNil) (some (.str (S a)) :: ρ) mh = .ok (.tup [.str (S a), .str (S []), .str (S [])]) mh := fun ρ mh => part_none hn hl mh
    have ne : ∀ mh, oNe (.str (S [])) (.str (S [])) mh = .ok (.bl false) mh := fun mh => by rw [oNe_S (oks_lit rfl) (oks_lit rfl)]; rfl
    cases r1 with
    | none =>
      have f1' : ∀ mh, ar 3 (oP f_number_of) [.str (S a), .int 0, .int 1000000] mh = .ok .non mh := f1
      refine ⟨none, fun mh => call_eq rfl (by simp) fun mh => ?_, fun t b => ⟨fun z => (by cases z), fun z => ?_⟩⟩
      · unfold f_weight_in defn b_weight_in
        rw [c_sl, c_e]
        show _ = Res.ok D.non mh
        generalize S a = A at *
        generalize S [47] = B at *
        generalize S [] = E at *
        simp [pt, f1', ne, i0]
      · exfalso
        obtain ⟨e, t1, b1, b2, g⟩ := z
        unfold wtx at e
        by_cases hb : b = 1
        · rw [if_pos hb, List.append_nil] at e
          have := (s1 t).mpr ⟨e, by omega, by omega⟩
          cases this
        · rw [if_neg hb] at e
          apply hn; rw [e]; simp
    | some n =>
      have f1' : ∀ mh, ar 3 (oP f_number_of) [.str (S a), .int 0, .int 1000000] mh = .ok (.int (n : Nat)) mh := f1
      obtain ⟨e1, _, e3⟩ := (s1 n).mp rfl
      have lw : ∀ mh, ar 2 (oP f_lowest) [.int (n : Nat), .int 1] mh = .ok (.tup [.int (n : Nat), .int 1]) mh := fun mh => by
        have := lowN (t := n) (b := 1) (by omega) (by omega) mh
        rw [Nat.gcd_one_right, Nat.div_one, Nat.div_one] at this
        exact this
      refine ⟨some (n, 1), fun mh => call_eq rfl (by simp) fun mh => ?_, fun t b => ⟨fun z => ?_, fun z => ?_⟩⟩
      · unfold f_weight_in defn b_weight_in
        rw [c_sl, c_e]
        show _ = Res.ok (D.tup [.int (n : Nat), .int 1]) mh
        generalize ((n : Nat) : Int) = N at *
        generalize S a = A at *
        generalize S [47] = B at *
        generalize S [] = E at *
        simp [pt, f1', ne, i1, lw]
      · injection z with z; injection z with z1 z2; subst z1 z2
        exact ⟨by unfold wtx; rw [if_pos rfl, List.append_nil]; exact e1, by omega, by omega, by omega, Nat.gcd_one_right n⟩
      · obtain ⟨e, t1, b1, b2, g⟩ := z
        unfold wtx at e
        by_cases hb : b = 1
        · rw [if_pos hb, List.append_nil] at e
          have := TL.numL_inj (e1.symm.trans e)
          rw [this, hb]
        · rw [if_neg hb] at e
          exfalso; apply hn; rw [e]; simp
  · have hop : Oks p := fun c hc => ho c (List.mem_append_left _ hc)
    have hoq : Oks q := fun c hc => ho c (List.mem_append_right _ (List.mem_cons_of_mem _ hc))
    have hll : p.length + (q.length + 1) ≤ 1000 := by simpa using hl
    obtain ⟨r1, f1, s1⟩ := nof hop (by omega) (lo := 0) (M := 1000000) (by omega) (by omega)
    obtain ⟨r2, f2, s2⟩ := nof hoq (by omega) (lo := 2) (M := 12) (by omega) (by omega)
    have pt : ∀ (ρ : En) mh, cMS oPart (cVar 0) (cCons (cK (.str (S [47]))) cNil) (some (.str (S (p ++ 47 :: q))) :: ρ) mh = .ok (.tup [.str (S p), .str (S [47]), .str (S q)]) mh := fun ρ mh => part_some hp hl mh
    have ne : ∀ mh, oNe (.str (S [47])) (.str (S [])) mh = .ok (.bl true) mh := fun mh => by rw [oNe_S (oks_lit rfl) (oks_lit rfl)]; rfl
    have uniq : ∀ t b, Wr t b (p ++ 47 :: q) → p = TL.numL t ∧ q = TL.numL b ∧ b ≠ 1 := fun t b z => by
      obtain ⟨e, _⟩ := z
      unfold wtx at e
      by_cases hb : b = 1
      · rw [if_pos hb, List.append_nil] at e
        exfalso; apply no_sl t; rw [← e]; simp
      · rw [if_neg hb] at e
        have h1 := par_some (q := q) hp
        rw [e, par_some (no_sl t)] at h1
        injection h1 with h1
        injection h1 with h1 h2
        exact ⟨h1.symm, h2.symm, hb⟩
    cases r1 with
    | none =>
      have f1' : ∀ mh, ar 3 (oP f_number_of) [.str (S p), .int 0, .int 1000000] mh = .ok .non mh := f1
      have hn2 : noRef (optN r2) = true := by cases r2 <;> simp [optN]
      refine ⟨none, fun mh => call_eq rfl (by simp) fun mh => ?_, fun t b => ⟨fun z => (by cases z), fun z => ?_⟩⟩
      · unfold f_weight_in defn b_weight_in
        rw [c_sl, c_e]
        show _ = Res.ok D.non mh
        generalize S (p ++ 47 :: q) = A at *
        generalize S p = P at *
        generalize S q = Q at *
        generalize S [47] = B at *
        generalize S [] = E at *
        simp [pt, f1', f2, ne, i0]
      · exfalso
        obtain ⟨u1, u2, u3⟩ := uniq t b z
        have := (s1 t).mpr ⟨u1, by omega, by have := z.2.1; omega⟩
        cases this
    | some n =>
      have f1' : ∀ mh, ar 3 (oP f_number_of) [.str (S p), .int 0, .int 1000000] mh = .ok (.int (n : Nat)) mh := f1
      obtain ⟨e1, _, e3⟩ := (s1 n).mp rfl
      cases r2 with
      | none =>
        have f2' : ∀ mh, ar 3 (oP f_number_of) [.str (S q), .int 2, .int 12] mh = .ok .non mh := f2
        refine ⟨none, fun mh => call_eq rfl (by simp) fun mh => ?_, fun t b => ⟨fun z => (by cases z), fun z => ?_⟩⟩
        · unfold f_weight_in defn b_weight_in
          rw [c_sl, c_e]
          show _ = Res.ok D.non mh
          generalize ((n : Nat) : Int) = N at *
          generalize S (p ++ 47 :: q) = A at *
          generalize S p = P at *
          generalize S q = Q at *
          generalize S [47] = B at *
          generalize S [] = E at *
          simp [pt, f1', f2', ne, i0, i1]
        · exfalso
          obtain ⟨u1, u2, u3⟩ := uniq t b z
          have := (s2 b).mpr ⟨u2, by have := z.2.2.1; omega, by have := z.2.2.2.1; omega⟩
          cases this
      | some b =>
        have f2' : ∀ mh, ar 3 (oP f_number_of) [.str (S q), .int 2, .int 12] mh = .ok (.int (b : Nat)) mh := f2
        obtain ⟨e4, e5, e6⟩ := (s2 b).mp rfl
        have lw := fun mh => lowN (t := n) (b := b) (by omega) (by omega) mh
        have isW : Wr n b (p ++ 47 :: q) ↔ Nat.gcd n b = 1 := by
          constructor
          · exact fun z => z.2.2.2.2
          · exact fun z => ⟨by unfold wtx; rw [if_neg (by omega), e1, e4], by omega, by omega, by omega, z⟩
        have only : ∀ t b', Wr t b' (p ++ 47 :: q) → t = n ∧ b' = b := fun t b' z => by
          obtain ⟨u1, u2, u3⟩ := uniq t b' z
          exact ⟨TL.numL_inj (u1.symm.trans e1), TL.numL_inj (u2.symm.trans e4)⟩
        by_cases hg : Nat.gcd n b = 1
        · rw [hg, Nat.div_one, Nat.div_one] at lw
          refine ⟨some (n, b), fun mh => call_eq rfl (by simp) fun mh => ?_, fun t b' => ⟨fun z => ?_, fun z => ?_⟩⟩
          · unfold f_weight_in defn b_weight_in
            rw [c_sl, c_e]
            show _ = Res.ok (D.tup [.int (n : Nat), .int (b : Nat)]) mh
            generalize ((n : Nat) : Int) = N at *
            generalize ((b : Nat) : Int) = M at *
            generalize S (p ++ 47 :: q) = A at *
            generalize S p = P at *
            generalize S q = Q at *
            generalize S [47] = B at *
            generalize S [] = E at *
            simp [pt, f1', f2', ne, i1, lw]
          · injection z with z; injection z with z1 z2; subst z1 z2
            exact isW.mpr hg
          · obtain ⟨u1, u2⟩ := only t b' z
            rw [u1, u2]
        · have hlt : b / Nat.gcd n b ≠ b := fun z => by
            have hp : 0 < Nat.gcd n b := Nat.gcd_pos_of_pos_right n (by omega)
            have : b / Nat.gcd n b < b := Nat.div_lt_self (by omega) (by omega)
            omega
          refine ⟨none, fun mh => call_eq rfl (by simp) fun mh => ?_, fun t b' => ⟨fun z => (by cases z), fun z => ?_⟩⟩
          · unfold f_weight_in defn b_weight_in
            rw [c_sl, c_e]
            show _ = Res.ok D.non mh
            have hne : ¬ (((b / Nat.gcd n b : Nat) : Int) = ((b : Nat) : Int)) := by omega
            generalize ((b / Nat.gcd n b : Nat) : Int) = M' at *
            generalize ((n / Nat.gcd n b : Nat) : Int) = N' at *
            generalize ((n : Nat) : Int) = N at *
            generalize ((b : Nat) : Int) = M at *
            generalize S (p ++ 47 :: q) = A at *
            generalize S p = P at *
            generalize S q = Q at *
            generalize S [47] = B at *
            generalize S [] = E at *
            simp [pt, f1', f2', ne, i1, lw, hne]
          · exfalso
            obtain ⟨u1, u2⟩ := only t b' z
            subst u1 u2
            exact hg z.2.2.2.2
end K04

namespace K04
open PySem L2 G SX
def wr (t b : Nat) : D := .tup [.int (t : Nat), .int (b : Nat)]
theorem divN (t b : Nat) (mh : List O) : ar 2 (oP f_l_divisor) [.int (t : Nat), .int (b : Nat)] mh = .ok (.int ((Nat.gcd t b : Nat) : Nat)) mh := by
  refine call_eq rfl (by simp) fun mh => ?_
  rw [divisor_eq (by omega) (by omega), gdN]
theorem fdivN {x g : Nat} (h : 0 < g) (h2 : g < 2 ^ 60) (mh : List O) : oFdiv (.int (x : Nat)) (.int (g : Nat)) mh = .ok (.int ((x / g : Nat) : Nat)) mh := by
  rw [oFdiv_s (by omega) (by omega)]
  rfl
theorem gcd_b {t b : Nat} (hb : 1 ≤ b) : 0 < Nat.gcd t b ∧ Nat.gcd t b ≤ b ∧ 1 ≤ b / Nat.gcd t b := by
  have h1 : 0 < Nat.gcd t b := Nat.gcd_pos_of_pos_right t (by omega)
  have h2 : Nat.gcd t b ≤ b := Nat.le_of_dvd (by omega) (Nat.gcd_dvd_right t b)
  exact ⟨h1, h2, (Nat.le_div_iff_mul_le h1).mpr (by omega)⟩
theorem written_eq {t b : Nat} (ht : t ≤ 10000000) (hb : 1 ≤ b) (hb2 : b ≤ 100) (mh : List O) : ar 1 (oP f_l_written) [wr t b] mh = .ok (.str (S (wtx (t / Nat.gcd t b) (b / Nat.gcd t b)))) mh := by
  obtain ⟨g1, g2, g3⟩ := gcd_b (t := t) hb
  have dv := divN t b
  have q1 := fun mh => fdivN (x := t) g1 (by omega) mh
  have q2 := fun mh => fdivN (x := b) g1 (by omega) mh
  have l1 : t / Nat.gcd t b ≤ t := Nat.div_le_self _ _
  have l2 : b / Nat.gcd t b ≤ b := Nat.div_le_self _ _
  generalize Nat.gcd t b = g at *
  generalize t / g = T at *
  generalize b / g = B at *
  have s1 := fun mh => strN (n := T) (by omega) mh
  have s2 := fun mh => strN (n := B) (by omega) mh
  have nl1 : (TL.numL T).length ≤ 20 := TL.numL_len (by omega) (by omega)
  have nl2 : (TL.numL B).length ≤ 20 := TL.numL_len (by omega) (by omega)
  have a1 : ∀ mh, oAdd (.str (S (TL.numL T))) (.str (S [47])) mh = .ok (.str (S (TL.numL T ++ [47]))) mh := fun mh => oAdd_S (by simp; omega)
  have a2 : ∀ mh, oAdd (.str (S (TL.numL T ++ [47]))) (.str (S (TL.numL B))) mh = .ok (.str (S (TL.numL T ++ 47 :: TL.numL B))) mh := fun mh => by
    rw [oAdd_S (by simp; omega), List.append_assoc]; rfl
  refine call_eq rfl (by simp [wr]) fun mh => ?_
  unfold f_l_written defn b_l_written wr wtx
  rw [c_sl]
  by_cases h : B = 1
  · rw [if_pos h, List.append_nil]
    subst h
    have h1 : ¬ ((1 : Int) < ((1 : Nat) : Int)) := by decide
    generalize ((t : Nat) : Int) = tt at *
    generalize ((b : Nat) : Int) = bb at *
    generalize ((g : Nat) : Int) = gg at *
    generalize ((1 : Nat) : Int) = oo at *
    generalize ((T : Nat) : Int) = TT at *
    generalize S (TL.numL T) = ST at *
    simp [dv, q1, q2, s1, h1]
  · rw [if_neg h]
    have h1 : (1 : Int) < ((B : Nat) : Int) := by omega
    generalize ((t : Nat) : Int) = tt at *
    generalize ((b : Nat) : Int) = bb at *
    generalize ((g : Nat) : Int) = gg at *
    generalize ((B : Nat) : Int) = BB at *
    generalize ((T : Nat) : Int) = TT at *
    generalize S (TL.numL T ++ 47 :: TL.numL B) = R at *
    generalize S (TL.numL T ++ [47]) = R0 at *
    generalize S (TL.numL T) = ST at *
    generalize S (TL.numL B) = SB at *
    generalize S [47] = SL at *
    simp [dv, q1, q2, s1, s2, h1, a1, a2]
theorem text_eq {t b : Nat} (ht : t ≤ 10000000) (hb : 1 ≤ b) (hb2 : b ≤ 100) (mh : List O) : ar 1 (oP f_weight_text) [wr t b] mh = .ok (.str (S (wtx (t / Nat.gcd t b) (b / Nat.gcd t b)))) mh := by
  obtain ⟨g1, g2, g3⟩ := gcd_b (t := t) hb
  have lw := fun mh => lowN (t := t) (b := b) (by omega) (by omega) mh
  have l1 : t / Nat.gcd t b ≤ t := Nat.div_le_self _ _
  have l2 : b / Nat.gcd t b ≤ b := Nat.div_le_self _ _
  generalize Nat.gcd t b = g at *
  generalize t / g = T at *
  generalize b / g = B at *
  have s1 := fun mh => strN (n := T) (by omega) mh
  have nl1 : (TL.numL T).length ≤ 20 := TL.numL_len (by omega) (by omega)
  have nl2 : (TL.numL B).length ≤ 20 := TL.numL_len (by omega) (by omega)
  have fm : ∀ n : Nat, n < 10 ^ 20 → ∀ mh, oFmt (.int (n : Nat)) mh = .ok (.str (S (TL.numL n))) mh := fun n hn mh => by
    have e := strN hn mh
    unfold oStr at e
    unfold oFmt
    exact e
  have fs : ∀ (a : List Nat), a.length ≤ 1000 → ∀ mh, oFmt (.str (S a)) mh = .ok (.str (S a)) mh := fun a ha mh => by
    show (if (S a).length ≤ sizeLine then _ else _) = _
    rw [S_len]; exact if_pos (sl_1000 (by omega))
  have js : ∀ (ρ : En) (mh : List O), ρ[1]? = some (some (.int (T : Nat))) → ρ[2]? = some (some (.int (B : Nat))) → cJs (cjC (c1 oFmt (cVar 1)) (cjC (cK (.str (S [47]))) (cjC (c1 oFmt (cVar 2)) cjN))) ρ mh = .ok (.str (S (TL.numL T ++ 47 :: TL.numL B))) mh := by
    intro ρ mh h1 h2
    have v1 : ∀ mh, cVar 1 ρ mh = .ok (.int (T : Nat)) mh := fun mh => by unfold cVar; rw [h1]
    have v2 : ∀ mh, cVar 2 ρ mh = .ok (.int (B : Nat)) mh := fun mh => by unfold cVar; rw [h2]
    have e0 : Str.empty ++ S (TL.numL T) = S (TL.numL T) := by
      have : Str.empty = S [] := rfl
      rw [this, S_cat, List.nil_append]
    have step : ∀ (acc y : List Nat) (f : CE) (g : CJ), acc.length + y.length ≤ 1000 → f ρ mh = .ok (.str (S y)) mh → cjC f g (S acc) ρ mh = g (S (acc ++ y)) ρ mh := fun acc y f g hl hf => by
      unfold cjC
      rw [hf]
      show (if (S acc ++ S y).length ≤ sizeLine then g (S acc ++ S y) ρ mh else .stuck) = _
      rw [S_cat, S_len, List.length_append, if_pos (sl_1000 (by omega))]
    have f1 : c1 oFmt (cVar 1) ρ mh = .ok (.str (S (TL.numL T))) mh := by
      show (cVar 1 ρ mh).bind oFmt = _
      rw [v1]; exact fm T (by omega) mh
    have f2 : c1 oFmt (cVar 2) ρ mh = .ok (.str (S (TL.numL B))) mh := by
      show (cVar 2 ρ mh).bind oFmt = _
      rw [v2]; exact fm B (by omega) mh
    unfold cJs
    show (cjC (c1 oFmt (cVar 1)) (cjC (cK (.str (S [47]))) (cjC (c1 oFmt (cVar 2)) cjN)) (S []) ρ mh).bind _ = _
    rw [step [] (TL.numL T) _ _ (by simp; omega) f1, List.nil_append, step (TL.numL T) [47] _ _ (by simp; omega) rfl, step (TL.numL T ++ [47]) (TL.numL B) _ _ (by simp; omega) f2, List.append_assoc]
    rfl
  refine call_eq rfl (by simp [wr]) fun mh => ?_
  unfold f_weight_text defn b_weight_text wr wtx
  rw [c_sl]
  by_cases h : B = 1
  · rw [if_pos h, List.append_nil]
    subst h
    have h1 : ((1 : Nat) : Int) = 1 := rfl
    rw [h1] at lw
    generalize ((t : Nat) : Int) = tt at *
    generalize ((b : Nat) : Int) = bb at *
    generalize ((T : Nat) : Int) = TT at *
    generalize S (TL.numL T) = ST at *
    simp [lw, s1]
  · rw [if_neg h]
    have h1 : ¬ (((B : Nat) : Int) = 1) := by omega
    have jj := fun mh => js [some (.tup [.int (t : Nat), .int (b : Nat)]), some (.int (T : Nat)), some (.int (B : Nat))] mh rfl rfl
    generalize ((t : Nat) : Int) = tt at *
    generalize ((b : Nat) : Int) = bb at *
    generalize ((B : Nat) : Int) = BB at *
    generalize ((T : Nat) : Int) = TT at *
    generalize S (TL.numL T ++ 47 :: TL.numL B) = R at *
    simp [lw, h1, jj]
/-! ### the law's own reading -/
instance (t b : Nat) (a : List Nat) : Decidable (Wr t b a) := by unfold Wr; infer_instance
theorem hd_of {t b : Nat} {a : List Nat} (h : Wr t b a) : hd a = TL.numL t := by
  obtain ⟨e, _⟩ := h
  unfold hd
  unfold wtx at e
  by_cases hb : b = 1
  · rw [if_pos hb, List.append_nil] at e
    rw [e, par_none (no_sl t)]
  · rw [if_neg hb] at e
    rw [e, par_some (no_sl t)]
theorem part_hd {a : List Nat} (ho : Oks a) (hl : a.length ≤ 1000) : ∃ x y : Str, Oks (hd a) ∧ (hd a).length ≤ 1000 ∧ ∀ mh, oPart (.str (S a)) [.str (S [47])] mh = .ok (.tup [.str (S (hd a)), .str x, .str y]) mh := by
  rcases cut_cases a with hn | ⟨p, q, rfl, hp⟩
  · have e : hd a = a := by unfold hd; rw [par_none hn]
    rw [e]
    exact ⟨_, _, ho, hl, fun mh => part_none hn hl mh⟩
  · have e : hd (p ++ 47 :: q) = p := by unfold hd; rw [par_some hp]
    rw [e]
    have hll : p.length + (q.length + 1) ≤ 1000 := by simpa using hl
    exact ⟨_, _, fun c hc => ho c (List.mem_append_left _ hc), by omega, fun mh => part_some hp hl mh⟩
theorem body {a : List Nat} (ho : Oks a) (hl : a.length ≤ 1000) (i : Nat) (hi : i < 12) (o2 o3 o4 o5 o6 : Option D) (mh : List O) :
    if decide (Wr (val (hd a)) (1 + i) a) = true then bd_l_all_read_1 [some (.str (S a)), some (.int (1 + (i : Nat))), o2, o3, o4, o5, none] mh = .rt (wr (val (hd a)) (1 + i)) mh
    else ∃ q2 q3 q4 q5, bd_l_all_read_1 [some (.str (S a)), some (.int (1 + (i : Nat))), o2, o3, o4, o5, none] mh = .nx [some (.str (S a)), some (.int (1 + (i : Nat))), q2, q3, q4, q5, none] mh := by
  obtain ⟨x, y, hoh, hlh, pt⟩ := part_hd ho hl
  have dv := divN (val (hd a)) (1 + i)
  generalize hp : hd a = p at *
  have pt' : ∀ (ρ : En) mh, cMS oPart (cVar 0) (cCons (cK (.str (S [47]))) cNil) (some (.str (S a)) :: ρ) mh = .ok (.tup [.str (S p), .str x, .str y]) mh := fun ρ mh => pt mh
  have ln : ∀ mh, oLen [.str (S p)] mh = .ok (.int (p.length : Nat)) mh := fun mh => oLen_S (by omega)
  have ne : ∀ mh, oNe (.str (S p)) (.str (S [])) mh = .ok (.bl (!decide (p = []))) mh := fun mh => oNe_S hoh (oks_lit rfl)
  have lc : cLcX false ci_l_all_read_1 (gNm 6) ct_l_all_read_1 ce_l_all_read_1 [6] [some (.str (S a)), some (.int (1 + (i : Nat))), some (.str (S p)), some (.str x), some (.str y), o5, none] mh = .ok (.lst ((p.filter fun c => !dig c).map fun c => .str (S [c]))) mh := by
    have l := lcL_map (mh := mh) (h := fun c => .str (S [c])) (g := (p.map fun c => .str (S [c]), none)) (tg := gNm 6) (t := ct_l_all_read_1) (f := ce_l_all_read_1) (ρ := [some (.str (S a)), some (.int (1 + (i : Nat))), some (.str (S p)), some (.str x), some (.str y), o5, none]) (p := fun c => !dig c) (e := fun c => .str (S [c])) trivial p (fun c hc => by
      refine ⟨[some (.str (S a)), some (.int (1 + (i : Nat))), some (.str (S p)), some (.str x), some (.str y), o5, some (.str (S [c]))], by simp, ?_, fun _ => by rw [ce_l_all_read_1_eq]; simp⟩
      rw [ct_l_all_read_1_eq, c_0, c_9]
      unfold dig
      by_cases z : 48 ≤ c <;> simp [oLe_S, z])
    rw [cLc_at (m1 := mh) (m2 := mh) (g := (p.map fun c => .str (S [c]), none)) (by rw [ci_l_all_read_1_eq]; rfl) (by simp; omega) (by simpa using l)]
    rfl
  have okb : okP 12 (.lst ((p.filter fun c => !dig c).map fun c => .str (S [c]))) := fun x hx => by
    obtain ⟨c, hc, rfl⟩ := List.mem_map.mp hx
    exact Oks.str (fun y hy => by rw [List.mem_singleton.mp hy]; exact hoh c (List.mem_filter.mp hc).1)
  have eq := oEq_nil (mh := mh) okb
  have hem : ((p.filter fun c => !dig c).map fun c => (.str (S [c]) : D)).isEmpty = p.all dig := by
    rw [Bool.eq_iff_iff, List.isEmpty_iff, List.map_eq_nil_iff, List.filter_eq_nil_iff, List.all_eq_true]
    constructor
    · intro h c hc; simpa using h c hc
    · intro h c hc; simp [h c hc]
  rw [hem] at eq
  generalize (p.filter fun c => !dig c).map (fun c => (.str (S [c]) : D)) = B at lc eq
  -- what is asked
  have asked : Wr (val p) (1 + i) a → p.length < 8 ∧ p ≠ [] ∧ p.all dig = true := fun z => by
    have e := hd_of z
    rw [hp] at e
    have h7 := numL_len7 z.2.1
    refine ⟨by rw [e]; omega, by rw [e]; exact TL.numL_ne _, ?_⟩
    rw [e, List.all_eq_true]
    intro c hc
    have := TL.numL_digits _ c hc
    unfold dig
    rw [Bool.and_eq_true, decide_eq_true_iff, decide_eq_true_iff]
    exact this
  have l8 : ((p.length : Nat) : Int) < 8 ↔ p.length < 8 := by omega
  by_cases h1 : p.length < 8
  rotate_left
  · rw [if_neg (by rw [decide_eq_false (fun z => h1 (asked z).1)]; decide)]
    refine ⟨some (.str (S p)), some (.str x), some (.str y), o5, ?_⟩
    rw [bd_l_all_read_1_eq, c_sl, c_e]
    have h1' : ¬ (((p.length : Nat) : Int) < 8) := fun z => h1 (l8.mp z)
    generalize ((p.length : Nat) : Int) = n at *
    generalize S a = A at *
    generalize S p = P at *
    generalize S [47] = SL at *
    simp [pt', ln, h1']
  by_cases h2 : p = []
  · rw [if_neg (by rw [decide_eq_false (fun z => (asked z).2.1 h2)]; decide)]
    refine ⟨some (.str (S p)), some (.str x), some (.str y), o5, ?_⟩
    rw [bd_l_all_read_1_eq, c_sl, c_e]
    have h1' := l8.mpr h1
    have ne' := ne
    rw [decide_eq_true h2] at ne'
    generalize ((p.length : Nat) : Int) = n at *
    generalize S a = A at *
    generalize S p = P at *
    generalize S [47] = SL at *
    generalize S [] = SE at *
    simp [pt', ln, h1', ne']
  rw [decide_eq_false h2] at ne
  have h1' := l8.mpr h1
  cases hd3 : p.all dig with
  | false =>
    rw [if_neg (by rw [decide_eq_false (fun z => by have := (asked z).2.2; rw [hd3] at this; cases this)]; decide)]
    refine ⟨some (.str (S p)), some (.str x), some (.str y), o5, ?_⟩
    rw [bd_l_all_read_1_eq, c_sl, c_e]
    rw [hd3] at eq
    generalize ((p.length : Nat) : Int) = n at *
    generalize S a = A at *
    generalize S p = P at *
    generalize S [47] = SL at *
    generalize S [] = SE at *
    simp [pt', ln, h1', ne, lc, eq]
  | true =>
    rw [hd3] at eq
    have iv : ∀ mh, oIntS [.str (S p)] mh = .ok (.int (val p : Nat)) mh := fun mh => by
      show (match intText? (S p) with | some n => if (S p).length ≤ 640 then Res.ok (D.int n) mh else .stuck | none => .stuck) = _
      rw [int_S hd3 h2 (by omega), S_len]
      exact if_pos (by omega)
    have m6 : ((val p : Nat) : Int) ≤ 1000000 ↔ val p ≤ 1000000 := by omega
    have c1i : (1 : Int) + (i : Nat) = ((1 + i : Nat) : Int) := by omega
    by_cases h4 : val p ≤ 1000000
    rotate_left
    · rw [if_neg (by rw [decide_eq_false (fun z => h4 z.2.1)]; decide)]
      refine ⟨some (.str (S p)), some (.str x), some (.str y), some (.int (val p : Nat)), ?_⟩
      rw [bd_l_all_read_1_eq, c_sl, c_e]
      have h4' : ¬ (((val p : Nat) : Int) ≤ 1000000) := fun z => h4 (m6.mp z)
      generalize ((p.length : Nat) : Int) = n at *
      generalize ((val p : Nat) : Int) = N at *
      generalize S a = A at *
      generalize S p = P at *
      generalize S [47] = SL at *
      generalize S [] = SE at *
      simp (disch := omega) [pt', ln, h1', ne, lc, eq, iv, h4']
    have h4' := m6.mpr h4
    rw [c1i] at lc ⊢
    by_cases h5 : Nat.gcd (val p) (1 + i) = 1
    rotate_left
    · rw [if_neg (by rw [decide_eq_false (fun z => h5 z.2.2.2.2)]; decide)]
      refine ⟨some (.str (S p)), some (.str x), some (.str y), some (.int (val p : Nat)), ?_⟩
      rw [bd_l_all_read_1_eq, c_sl, c_e]
      have h5' : ¬ (((Nat.gcd (val p) (1 + i) : Nat) : Int) = 1) := by omega
      generalize ((Nat.gcd (val p) (1 + i) : Nat) : Int) = g at *
      generalize ((p.length : Nat) : Int) = n at *
      generalize ((val p : Nat) : Int) = N at *
      generalize ((1 + i : Nat) : Int) = I at *
      generalize S a = A at *
      generalize S p = P at *
      generalize S [47] = SL at *
      generalize S [] = SE at *
      simp (disch := omega) [pt', ln, h1', ne, lc, eq, iv, h4', dv, h5']
    have we := written_eq (t := val p) (b := 1 + i) (by omega) (by omega) (by omega)
    rw [h5, Nat.div_one, Nat.div_one] at we
    have qe : ∀ mh, oEq (.str (S (wtx (val p) (1 + i)))) (.str (S a)) mh = .ok (.bl (decide (wtx (val p) (1 + i) = a))) mh := fun mh => oEq_S (oks_wtx _ _) ho
    rw [h5] at dv
    have d1 : ((1 : Nat) : Int) = 1 := rfl
    rw [d1] at dv
    have dec : decide (Wr (val p) (1 + i) a) = decide (wtx (val p) (1 + i) = a) := by
      rw [Bool.eq_iff_iff, decide_eq_true_iff, decide_eq_true_iff]
      exact ⟨fun z => z.1.symm, fun z => ⟨z.symm, h4, by omega, by omega, h5⟩⟩
    rw [dec]
    unfold wr at we ⊢
    rw [bd_l_all_read_1_eq, c_sl, c_e]
    generalize decide (wtx (val p) (1 + i) = a) = bb at *
    generalize S (wtx (val p) (1 + i)) = WT at *
    generalize ((p.length : Nat) : Int) = n at *
    generalize ((val p : Nat) : Int) = N at *
    generalize ((1 + i : Nat) : Int) = I at *
    generalize S a = A at *
    generalize S p = P at *
    generalize S [47] = SL at *
    generalize S [] = SE at *
    cases bb with
    | true =>
      rw [if_pos rfl]
      simp (disch := omega) [pt', ln, h1', ne, lc, eq, iv, h4', dv, we, qe]
    | false =>
      rw [if_neg Bool.false_ne_true]
      refine ⟨some (.str P), some (.str x), some (.str y), some (.int N), ?_⟩
      simp (disch := omega) [pt', ln, h1', ne, lc, eq, iv, h4', dv, we, qe]
theorem all_ok {a : List Nat} (ho : Oks a) (hl : a.length ≤ 1000) : ∃ r : Option (Nat × Nat), (∀ mh, ar 1 (oP f_l_all_read) [.str (S a)] mh = .ok (wopt r) mh) ∧ ∀ t b, r = some (t, b) ↔ Wr t b a := by
  refine ⟨((List.range 12).find? fun i => decide (Wr (val (hd a)) (1 + i) a)).map fun i => (val (hd a), 1 + i), fun mh => call_eq rfl (by simp) fun mh => ?_, fun t b => ?_⟩
  · have rg : ∀ mh, oRng2 [.int 1, .int 13] mh = .ok (rngL 1 12, none) mh := fun mh => rfl
    have hit : ∀ (a1 a2 a3 a4 a5 a6 : Option D) mh, it_l_all_read_1 [some (.str (S a)), a1, a2, a3, a4, a5, a6] mh = .ok (rngL 1 12, none) mh := fun a1 a2 a3 a4 a5 a6 mh => by rw [it_l_all_read_1_eq]; simp [rg]
    have fd := forL_find (h := fun i : Nat => D.int (1 + (i : Int))) (g := (rngL 1 12, none)) (tg := gNm 1) (b := bd_l_all_read_1) (p := fun i => decide (Wr (val (hd a)) (1 + i) a)) (r := fun i => wr (val (hd a)) (1 + i)) (mh := mh)
      (fun ρ => ∃ q1 q2 q3 q4 q5, ρ = [some (.str (S a)), q1, q2, q3, q4, q5, none]) trivial (List.range 12) [some (.str (S a)), none, none, none, none, none, none] ⟨_, _, _, _, _, rfl⟩ (by
      rintro i hi ρ ⟨q1, q2, q3, q4, q5, rfl⟩
      have := body ho hl i (List.mem_range.mp hi) q2 q3 q4 q5 none mh
      by_cases z : decide (Wr (val (hd a)) (1 + i) a) = true
      · rw [if_pos z] at this ⊢
        exact this
      · rw [if_neg z] at this ⊢
        obtain ⟨x2, x3, x4, x5, e⟩ := this
        exact ⟨_, e, _, _, _, _, _, rfl⟩)
    have er : rngL 1 12 = (List.range 12).map fun i : Nat => D.int (1 + (i : Int)) := rfl
    unfold f_l_all_read defn b_l_all_read
    cases hf : (List.range 12).find? fun i => decide (Wr (val (hd a)) (1 + i) a) with
    | some i =>
      rw [hf] at fd
      have fd : forL (rngL 1 12, none) (gNm 1) bd_l_all_read_1 (rngL 1 12) [some (.str (S a)), none, none, none, none, none, none] mh = .rt (wr (val (hd a)) (1 + i)) mh := fd
      generalize S a = A at *
      simp [hit, fd]
      rfl
    | none =>
      rw [hf] at fd
      obtain ⟨ρ', e, _⟩ := fd
      have e : forL (rngL 1 12, none) (gNm 1) bd_l_all_read_1 (rngL 1 12) [some (.str (S a)), none, none, none, none, none, none] mh = .nx ρ' mh := e
      generalize S a = A at *
      simp [hit, e]
      rfl
  · rw [Option.map_eq_some_iff]
    constructor
    · rintro ⟨i, hi, e⟩
      have := List.find?_some hi
      injection e with e1 e2
      subst e1 e2
      exact of_decide_eq_true this
    · intro z
      have e := hd_of z
      have ev : val (hd a) = t := by rw [e, val_numL]
      rw [ev]
      have hb := z.2.2.1
      have hb2 := z.2.2.2.1
      have hm : decide (Wr t (1 + (b - 1)) a) = true := by
        have : 1 + (b - 1) = b := by omega
        rw [this]; exact decide_eq_true z
      cases hf : (List.range 12).find? fun i => decide (Wr t (1 + i) a) with
      | none =>
        have := List.find?_eq_none.mp hf (b - 1) (List.mem_range.mpr (by omega))
        exact absurd hm this
      | some j =>
        refine ⟨j, rfl, ?_⟩
        have hj0 : decide (Wr t (1 + j) a) = true := List.find?_some (p := fun i => decide (Wr t (1 + i) a)) hf
        have hj := of_decide_eq_true hj0
        have : b = 1 + j := wtx_inj (t := t) (by rw [← z.1, ← hj.1])
        rw [this]
theorem read_same {a : List Nat} (ho : Oks a) (hl : a.length ≤ 1000) : ∃ r : Option (Nat × Nat), (∀ mh, ar 1 (oP f_weight_in) [.str (S a)] mh = .ok (wopt r) mh) ∧ (∀ mh, ar 1 (oP f_l_all_read) [.str (S a)] mh = .ok (wopt r) mh) ∧ ∀ t b, r = some (t, b) ↔ Wr t b a := by
  obtain ⟨r, f1, s1⟩ := win_ok ho hl
  obtain ⟨r', f2, s2⟩ := all_ok ho hl
  have e : r = r' := by
    cases r with
    | some x =>
      obtain ⟨t, b⟩ := x
      exact ((s2 t b).mpr ((s1 t b).mp rfl)).symm
    | none =>
      cases r' with
      | none => rfl
      | some x =>
        obtain ⟨t, b⟩ := x
        exact (s1 t b).mpr ((s2 t b).mp rfl)
  subst e
  exact ⟨r, f1, f2, s1⟩
theorem same_ok (r : Option (Nat × Nat)) (mh : List O) : ar 2 (oP f_l_same) [wopt r, wopt r] mh = .ok (.bl true) mh := by
  refine call_eq rfl (by simp [noRef_wopt]) fun mh => ?_
  have i0 : ∀ mh, oIsX .non .non mh = .ok (.bl true) mh := fun mh => rfl
  have i1 : ∀ (ds : List D) mh, oIsX (.tup ds) .non mh = .ok (.bl false) mh := fun i mh => rfl
  unfold f_l_same defn b_l_same
  cases r with
  | none => simp [wopt, i0]
  | some x =>
    obtain ⟨t, b⟩ := x
    simp [wopt, isiT, i1]
end K04

namespace K04
open PySem L2 G SX
def sgl : List Nat := [48, 49, 50, 51, 52, 53, 54, 55, 56, 57, 47, 32, 45, 43, 46, 97, 10]
theorem c_sgl : ("0123456789/ -+.a\n" : Str) = S sgl := by decide +kernel
theorem c_1 : ("/1" : Str) = S [47, 49] := by decide +kernel
theorem c_2 : ("/2" : Str) = S [47, 50] := by decide +kernel
theorem c_nl : ("\n" : Str) = S [10] := by decide +kernel
theorem c_sp : (" " : Str) = S [32] := by decide +kernel
theorem pickS {l : List Nat} (ho : Oks l) (hl : l.length ≤ 1000) {i : Int} (h0 : 0 ≤ i) (h1 : i < (l.length : Nat)) : ∃ c, c < 0x110000 ∧ ∀ mh, oIx (.str (S l)) (.int i) mh = .ok (.str (S [c])) mh := by
  have hi : i.toNat < l.length := by omega
  exact ⟨l[i.toNat], ho _ (List.getElem_mem hi), fun mh => oIx_S (by omega) (atI_of h0 (List.getElem?_eq_getElem hi))⟩
theorem mix_ok (c : Int) {k : Int} (h0 : 0 ≤ k) (h1 : k ≤ 1000) : ∃ v : Int, 0 ≤ v ∧ v < 1099511627776 ∧ ∀ mh, ar 2 (oP f_l_mixed) [.int c, .int k] mh = .ok (.int v) mh :=
  ⟨mixed c k, mixed_range.1, mixed_range.2, fun mh => call_eq rfl (by simp) (mixed_eq h0 (by omega))⟩
theorem oks_one {c : Nat} (h : c < 0x110000) : Oks [c] := fun x hx => by rw [List.mem_singleton.mp hx]; exact h
theorem spoiled_ok (c : Int) {t2 : List Nat} (o2 : Oks t2) (l2 : t2.length ≤ 60) : ∃ t : List Nat, Oks t ∧ t.length ≤ 200 ∧ ∀ mh, ar 2 (oP f_l_spoiled) [.int c, .str (S t2)] mh = .ok (.str (S t)) mh := by
  obtain ⟨n, a0, b0, e0⟩ := mix_ok c (k := 4) (by omega) (by omega)
  have ln : ∀ mh, oLen [.str (S t2)] mh = .ok (.int (t2.length : Nat)) mh := fun mh => oLen_S (by omega)
  generalize hat : n % ((t2.length : Nat) + 1) = at_
  have at0 : 0 ≤ at_ := by subst hat; exact Int.emod_nonneg _ (by omega)
  obtain ⟨y, y0, ey⟩ := pickS (l := sgl) (oks_lit (by decide)) (by decide) (i := n / 16 % 17) (by omega) (by have h13 : sgl.length = 17 := rfl; omega)
  have p1 : ∀ mh, oSlS (.str (S t2)) none (some at_) mh = .ok (.str (S (t2.take at_.toNat))) mh := fun mh => oSlS_to (by omega) at0
  have p2 : ∀ mh, oSlS (.str (S t2)) (some at_) none mh = .ok (.str (S (t2.drop at_.toNat))) mh := fun mh => oSlS_from (by omega) at0
  have p3 : ∀ mh, oSlS (.str (S t2)) (some (at_ + 1)) none mh = .ok (.str (S (t2.drop (at_ + 1).toNat))) mh := fun mh => oSlS_from (by omega) (by omega)
  have la : (t2.take at_.toNat).length ≤ 60 := by rw [List.length_take]; omega
  have lb : (t2.drop at_.toNat).length ≤ 60 := by rw [List.length_drop]; omega
  have lc : (t2.drop (at_ + 1).toNat).length ≤ 60 := by rw [List.length_drop]; omega
  have oa := o2.take at_.toNat
  have ob := o2.drop at_.toNat
  have oc := o2.drop (at_ + 1).toNat
  generalize t2.take at_.toNat = ta at *
  generalize t2.drop at_.toNat = tb at *
  generalize t2.drop (at_ + 1).toNat = tc at *
  have q1 : ∀ mh, oAdd (.str (S ta)) (.str (S [y])) mh = .ok (.str (S (ta ++ [y]))) mh := fun mh => oAdd_S (by simp; omega)
  have q2 : ∀ mh, oAdd (.str (S (ta ++ [y]))) (.str (S tb)) mh = .ok (.str (S (ta ++ [y] ++ tb))) mh := fun mh => oAdd_S (by simp; omega)
  have q3 : ∀ mh, oAdd (.str (S ta)) (.str (S tc)) mh = .ok (.str (S (ta ++ tc))) mh := fun mh => oAdd_S (by omega)
  have q4 : ∀ mh, oAdd (.str (S (ta ++ [y]))) (.str (S tc)) mh = .ok (.str (S (ta ++ [y] ++ tc))) mh := fun mh => oAdd_S (by simp; omega)
  have ho1 := (oa.app (oks_one y0)).app ob
  have ho2 := oa.app oc
  have ho3 := (oa.app (oks_one y0)).app oc
  have hl1 : (ta ++ [y] ++ tb).length ≤ 200 := by simp; omega
  have hl2 : (ta ++ tc).length ≤ 200 := by simp; omega
  have hl3 : (ta ++ [y] ++ tc).length ≤ 200 := by simp; omega
  have mo : ∀ mh, oMod (.int n) (.int ((t2.length : Nat) + 1)) mh = .ok (.int at_) mh := fun mh => by rw [oMod_ok (by omega), hat]
  generalize ((t2.length : Nat) : Int) = L at *
  generalize ta ++ [y] ++ tb = r1 at *
  generalize ta ++ [y] ++ tc = r3 at *
  generalize ta ++ [y] = r0 at *
  generalize ta ++ tc = r2 at *
  clear hat
  by_cases h0 : n / 512 % 4 = 0
  · refine ⟨r1, ho1, hl1, fun mh => call_eq rfl (by simp) fun mh => ?_⟩
    unfold f_l_spoiled defn b_l_spoiled
    rw [c_sgl]
    generalize S sgl = SG at *
    generalize S t2 = A at *
    simp (disch := omega) [cSl, coN, coS, isI, e0, ln, mo, ey, h0, p1, p2, p3, q1, q2, q3, q4]
  · by_cases h1 : n / 512 % 4 = 1
    · refine ⟨r2, ho2, hl2, fun mh => call_eq rfl (by simp) fun mh => ?_⟩
      unfold f_l_spoiled defn b_l_spoiled
      rw [c_sgl]
      generalize S sgl = SG at *
      generalize S t2 = A at *
      simp (disch := omega) [cSl, coN, coS, isI, e0, ln, mo, ey, h0, h1, p1, p2, p3, q1, q2, q3, q4]
    · refine ⟨r3, ho3, hl3, fun mh => call_eq rfl (by simp) fun mh => ?_⟩
      unfold f_l_spoiled defn b_l_spoiled
      rw [c_sgl]
      generalize S sgl = SG at *
      generalize S t2 = A at *
      simp (disch := omega) [cSl, coN, coS, isI, e0, ln, mo, ey, h0, h1, p1, p2, p3, q1, q2, q3, q4]
theorem pickL {ls : List (List Nat)} (ho : ∀ a ∈ ls, Oks a ∧ a.length ≤ 5) {i : Int} (h0 : 0 ≤ i) (h1 : i < (ls.length : Nat)) : ∃ a, Oks a ∧ a.length ≤ 5 ∧ ∀ mh, oIx (.lst (ls.map fun a => .str (S a))) (.int i) mh = .ok (.str (S a)) mh := by
  have hi : i.toNat < ls.length := by omega
  refine ⟨ls[i.toNat], (ho _ (List.getElem_mem hi)).1, (ho _ (List.getElem_mem hi)).2, fun mh => oIx_lst _ ?_⟩
  unfold atI ixN
  rw [List.length_map, if_pos h0, if_pos h1]
  show (ls.map fun a => (.str (S a) : D))[i.toNat]? = _
  rw [List.getElem?_map, List.getElem?_eq_getElem hi]; rfl
theorem two_ok (c : Int) : ∃ t : List Nat, Oks t ∧ t.length ≤ 200 ∧ ∀ mh, ar 1 (oP f_l_two_numbers) [.int c] mh = .ok (.str (S t)) mh := by
  obtain ⟨n, a0, b0, e0⟩ := mix_ok c (k := 5) (by omega) (by omega)
  obtain ⟨u, u0, u1, eu⟩ : ∃ u : Int, 0 < u ∧ u ≤ 1000003 ∧ ∀ mh, oIx (.lst [.int 13, .int 1000, .int 1000003, .int 3]) (.int (n % 4)) mh = .ok (.int u) mh := by
    have h : n % 4 = 0 ∨ n % 4 = 1 ∨ n % 4 = 2 ∨ n % 4 = 3 := by omega
    rcases h with h | h | h | h <;> rw [h]
    · exact ⟨13, by omega, by omega, fun mh => by simp⟩
    · exact ⟨1000, by omega, by omega, fun mh => by simp⟩
    · exact ⟨1000003, by omega, by omega, fun mh => by simp⟩
    · exact ⟨3, by omega, by omega, fun mh => by simp⟩
  obtain ⟨v, v0, v1, ev⟩ : ∃ v : Int, 0 < v ∧ v ≤ 30 ∧ ∀ mh, oIx (.lst [.int 13, .int 15, .int 30]) (.int (n / 4 % 3)) mh = .ok (.int v) mh := by
    have h : n / 4 % 3 = 0 ∨ n / 4 % 3 = 1 ∨ n / 4 % 3 = 2 := by omega
    rcases h with h | h | h <;> rw [h]
    · exact ⟨13, by omega, by omega, fun mh => by simp⟩
    · exact ⟨15, by omega, by omega, fun mh => by simp⟩
    · exact ⟨30, by omega, by omega, fun mh => by simp⟩
  have t0 : 0 ≤ n / 64 % u := Int.emod_nonneg _ (by omega)
  have t1 : n / 64 % u < u := Int.emod_lt_of_pos _ u0
  have w0 : 0 ≤ n / 1048576 % v := Int.emod_nonneg _ (by omega)
  have w1 : n / 1048576 % v < v := Int.emod_lt_of_pos _ v0
  have mo1 : ∀ mh, oMod (.int (n / 64)) (.int u) mh = .ok (.int (n / 64 % u)) mh := fun mh => oMod_ok u0
  have mo2 : ∀ mh, oMod (.int (n / 1048576)) (.int v) mh = .ok (.int (n / 1048576 % v)) mh := fun mh => oMod_ok v0
  generalize hT : n / 64 % u = T at *
  generalize hB : n / 1048576 % v = B at *
  have eT : T = ((T.toNat : Nat) : Int) := by omega
  have eB : B = ((B.toNat : Nat) : Int) := by omega
  have s1 : ∀ mh, oStr [.int T] mh = .ok (.str (S (TL.numL T.toNat))) mh := fun mh => by rw [eT]; exact strN (by omega) mh
  have s2 : ∀ mh, oStr [.int B] mh = .ok (.str (S (TL.numL B.toNat))) mh := fun mh => by rw [eB]; exact strN (by omega) mh
  have nl1 : (TL.numL T.toNat).length ≤ 20 := TL.numL_len (by omega) (by omega)
  have nl2 : (TL.numL B.toNat).length ≤ 20 := TL.numL_len (by omega) (by omega)
  obtain ⟨h, oh, lh, eh⟩ := pickL (ls := [[], [], [], [48], [32], [45], []]) (fun a ha => by
    simp only [List.mem_cons, List.mem_nil_iff, or_false] at ha
    rcases ha with rfl | rfl | rfl | rfl | rfl | rfl | rfl <;> exact ⟨oks_lit rfl, by decide⟩) (i := n / 12 % 7) (by omega) (by show n / 12 % 7 < 7; omega)
  obtain ⟨z, oz, lz, ez⟩ := pickL (ls := [[], [], [], [47, 50], [10]]) (fun a ha => by
    simp only [List.mem_cons, List.mem_nil_iff, or_false] at ha
    rcases ha with rfl | rfl | rfl | rfl | rfl <;> exact ⟨oks_lit rfl, by decide⟩) (i := n / 128 % 5) (by omega) (by show n / 128 % 5 < 5; omega)
  have o1 := oks_num T.toNat
  have o3 := oks_num B.toNat
  generalize TL.numL T.toNat = x1 at *
  generalize TL.numL B.toNat = x2 at *
  have q1 : ∀ mh, oAdd (.str (S h)) (.str (S x1)) mh = .ok (.str (S (h ++ x1))) mh := fun mh => oAdd_S (by omega)
  have q2 : ∀ mh, oAdd (.str (S (h ++ x1))) (.str (S [47])) mh = .ok (.str (S (h ++ x1 ++ [47]))) mh := fun mh => oAdd_S (by simp; omega)
  have q3 : ∀ mh, oAdd (.str (S (h ++ x1 ++ [47]))) (.str (S x2)) mh = .ok (.str (S (h ++ x1 ++ [47] ++ x2))) mh := fun mh => oAdd_S (by simp; omega)
  have q4 : ∀ mh, oAdd (.str (S (h ++ x1 ++ [47] ++ x2))) (.str (S z)) mh = .ok (.str (S (h ++ x1 ++ [47] ++ x2 ++ z))) mh := fun mh => oAdd_S (by simp; omega)
  have hl : (h ++ x1 ++ [47] ++ x2 ++ z).length ≤ 200 := by simp; omega
  have ho := (((oh.app o1).app (oks_one (c := 47) (by omega))).app o3).app oz
  generalize h ++ x1 ++ [47] ++ x2 ++ z = r4 at *
  generalize h ++ x1 ++ [47] ++ x2 = r3 at *
  generalize h ++ x1 ++ [47] = r2 at *
  generalize h ++ x1 = r1 at *
  refine ⟨r4, ho, hl, fun mh => call_eq rfl (by simp) fun mh => ?_⟩
  unfold f_l_two_numbers defn b_l_two_numbers
  rw [c_e, c_0, c_sp, c_m, c_sl, c_2, c_nl]
  simp only [List.map_cons, List.map_nil] at eh ez
  generalize S [] = E at *
  generalize S [48] = C0 at *
  generalize S [32] = Csp at *
  generalize S [45] = Cm at *
  generalize S [47] = Csl at *
  generalize S [47, 50] = C2 at *
  generalize S [10] = Cnl at *
  simp (disch := first | omega | (simp only [List.length_cons, List.length_nil]; omega)) [e0, eu, mo1, ev, mo2, oLst_s, eh, s1, s2, ez, q1, q2, q3, q4, -oMod_ok, oMod_ok]
theorem others (l : List (List Nat)) (hl : ∀ a ∈ l, Oks a ∧ a.length ≤ 1000) (g : List D) (o0 o1 o2 o3 o4 o5 o6 : Option D) (mh : List O) :
    ∃ q6, forL (g, none) (gNm 6) bd_law_1 (l.map fun a => .str (S a)) [o0, o1, o2, o3, o4, o5, o6] mh = .nx [o0, o1, o2, o3, o4, o5, q6] mh := by
  obtain ⟨ρ, m, e, rfl, q6, rfl⟩ := forL_all (l := g) (tg := gNm 6) (b := bd_law_1) (l.map fun a => .str (S a)) (fun _ ρ m => m = mh ∧ ∃ q6, ρ = [o0, o1, o2, o3, o4, o5, q6]) (ρ := [o0, o1, o2, o3, o4, o5, o6]) (mh := mh) ⟨rfl, _, rfl⟩ (by
    rintro j x ρ m hx ⟨rfl, q6, rfl⟩
    obtain ⟨a, ha, rfl⟩ := List.mem_map.mp (List.mem_of_getElem? hx)
    obtain ⟨r, f1, f2, _⟩ := read_same (hl a ha).1 (hl a ha).2
    have sm := same_ok r
    generalize S a = A at *
    exact ⟨_, _, .inl (by simp [bd_law_1_eq, f1, f2, sm]; rfl), rfl, _, rfl⟩)
  exact ⟨q6, e⟩
theorem turn {ns : List Int} (hn : ns.length ≤ 63) {k : Int} (hk : 0 ≤ k) (hk2 : k ≤ 40) (o2 o3 o4 o5 o6 : Option D) (mh : List O) :
    ∃ q2 q3 q4 q5 q6, bd_law_2 [some (.lst (ns.map D.int)), some (.int k), o2, o3, o4, o5, o6] mh = .nx [some (.lst (ns.map D.int)), some (.int k), q2, q3, q4, q5, q6] mh := by
  have c1 := fun mh => call_eq (n := 2) (mh := mh) (fn := f_l_cell) (ds := [.lst (ns.map D.int), .int k]) rfl (by simp) (fun mh => cell_eq hn hk mh (by omega))
  generalize (if k < ns.length then ns.getD k.toNat 0 else 7919 * k + 14) = cl at c1
  obtain ⟨ti, bi, ⟨w1, w2, w3, w4⟩, f1⟩ := weight_eq (c := cl) (k := 0) (by omega) (by omega)
  obtain ⟨t, rfl⟩ : ∃ t : Nat, ti = (t : Int) := ⟨ti.toNat, by omega⟩
  obtain ⟨b, rfl⟩ : ∃ b : Nat, bi = (b : Int) := ⟨bi.toNat, by omega⟩
  have c2 := fun mh => call_eq (n := 2) (mh := mh) (fn := f_l_weight) (ds := [.int cl, .int 0]) rfl (by simp) f1
  have c3 := text_eq (t := t) (b := b) (by omega) (by omega) (by omega)
  have c4 := written_eq (t := t) (b := b) (by omega) (by omega) (by omega)
  have dv := divN t b
  obtain ⟨g1, g2, g3⟩ := gcd_b (t := t) (b := b) (by omega)
  have q1 := fun mh => fdivN (x := t) g1 (by omega) mh
  have q2 := fun mh => fdivN (x := b) g1 (by omega) mh
  have l1 : t / Nat.gcd t b ≤ t := Nat.div_le_self _ _
  have l2 : b / Nat.gcd t b ≤ b := Nat.div_le_self _ _
  have gr : Nat.gcd (t / Nat.gcd t b) (b / Nat.gcd t b) = 1 := by
    rw [Nat.gcd_div (Nat.gcd_dvd_left _ _) (Nat.gcd_dvd_right _ _), Nat.div_self g1]
  generalize Nat.gcd t b = g at *
  generalize t / g = T at *
  generalize b / g = B at *
  have ho := oks_wtx T B
  have hl : (wtx T B).length ≤ 50 := by
    unfold wtx
    have nl1 : (TL.numL T).length ≤ 20 := TL.numL_len (by omega) (by omega)
    have nl2 : (TL.numL B).length ≤ 20 := TL.numL_len (by omega) (by omega)
    rw [List.length_append]
    split
    · simp; omega
    · rw [List.length_cons]; omega
  obtain ⟨r, r1, _, r3⟩ := read_same ho (by omega)
  have hr : r = some (T, B) := (r3 T B).mpr ⟨rfl, by omega, by omega, by omega, gr⟩
  subst hr
  have sm := same_ok (some (T, B))
  obtain ⟨x1, ox1, lx1, e1⟩ := spoiled_ok cl ho (by omega)
  obtain ⟨x2, ox2, lx2, e2⟩ := two_ok cl
  have a3 : ∀ mh, oAdd (.str (S (wtx T B))) (.str (S [47, 49])) mh = .ok (.str (S (wtx T B ++ [47, 49]))) mh := fun mh => oAdd_S (by simp; omega)
  have a4 : ∀ mh, oAdd (.str (S [48])) (.str (S (wtx T B))) mh = .ok (.str (S ([48] ++ wtx T B))) mh := fun mh => oAdd_S (by simp; omega)
  have a5 : ∀ mh, oAdd (.str (S (wtx T B))) (.str (S [10])) mh = .ok (.str (S (wtx T B ++ [10]))) mh := fun mh => oAdd_S (by simp; omega)
  obtain ⟨q6, lp⟩ := others [x1, x2, wtx T B ++ [47, 49], [48] ++ wtx T B, wtx T B ++ [10]] (fun a ha => by
    simp only [List.mem_cons, List.mem_nil_iff, or_false] at ha
    rcases ha with rfl | rfl | rfl | rfl | rfl
    · exact ⟨ox1, by omega⟩
    · exact ⟨ox2, by omega⟩
    · exact ⟨ho.app (oks_lit rfl), by simp; omega⟩
    · exact ⟨(oks_lit (a := [48]) rfl).app ho, by simp; omega⟩
    · exact ⟨ho.app (oks_lit rfl), by simp; omega⟩) ([x1, x2, wtx T B ++ [47, 49], [48] ++ wtx T B, wtx T B ++ [10]].map fun a => .str (S a)) (some (.lst (ns.map D.int))) (some (.int k)) (some (.int cl)) (some (wr t b)) (some (.str (S (wtx T B)))) (some (.int (g : Nat))) o6 mh
  have ne : ∀ mh, oNe (.str (S (wtx T B))) (.str (S (wtx T B))) mh = .ok (.bl false) mh := fun mh => by rw [oNe_S ho ho]; simp
  simp only [List.map_cons, List.map_nil] at lp
  refine ⟨some (.int cl), some (wr t b), some (.str (S (wtx T B))), some (.int (g : Nat)), q6, ?_⟩
  rw [bd_law_2_eq]
  have it1 : ∀ (a0 a1 a3 a5 a6 : Option D) mh, it_law_1 [a0, a1, some (.int cl), a3, some (.str (S (wtx T B))), a5, a6] mh = .ok ([.str (S x1), .str (S x2), .str (S (wtx T B ++ [47, 49])), .str (S ([48] ++ wtx T B)), .str (S (wtx T B ++ [10]))], none) mh := fun a0 a1 a3 a5 a6 mh => by
    rw [it_law_1_eq, c_1, c_0, c_nl]
    generalize S (wtx T B ++ [47, 49]) = R1 at *
    generalize S ([48] ++ wtx T B) = R2 at *
    generalize S (wtx T B ++ [10]) = R3 at *
    generalize S (wtx T B) = R at *
    generalize S [47, 49] = C1 at *
    generalize S [48] = C2 at *
    generalize S [10] = C3 at *
    simp [e1, e2, a3, a4, a5]
  clear a3 a4 a5 e1 e2
  generalize S (wtx T B ++ [47, 49]) = R1 at *
  generalize S ([48] ++ wtx T B) = R2 at *
  generalize S (wtx T B ++ [10]) = R3 at *
  generalize S (wtx T B) = R at *
  unfold wopt at r1 sm
  unfold pr at c2
  unfold wr at c3 c4 lp ⊢
  dsimp only at r1 sm
  generalize ((T : Nat) : Int) = TT at *
  generalize ((B : Nat) : Int) = BB at *
  generalize ((g : Nat) : Int) = gg at *
  generalize ((t : Nat) : Int) = tt at *
  generalize ((b : Nat) : Int) = bb at *
  simp [c1, c2, c3, c4, isiT, ne, dv, r1, q1, q2, sm, it1, lp]
theorem holds (ns : List Int) (hn : ns.length ≤ 63) : ∃ mh, f_law [.lst (ns.map D.int)] [] = .ok (.bl true) mh := by
  obtain ⟨m, hm, hr⟩ : ∃ m : Nat, m ≤ 30 ∧ ∀ (o1 o2 o3 o4 o5 o6 : Option D) (mh : List O), it_law_2 [some (.lst (ns.map D.int)), o1, o2, o3, o4, o5, o6] mh = .ok (rngL 0 m, none) mh := by
    obtain ⟨m, h1, h2⟩ := outer_rng 30 (by decide) (by decide) ns.length
    exact ⟨m, h1, fun _ _ _ _ _ _ mh => by rw [it_law_2_eq]; simp; exact h2 mh⟩
  obtain ⟨ρ, mh, e, rfl, o1, o2, o3, o4, o5, o6, rfl⟩ := forL_all (l := rngL 0 m) (tg := gNm 1) (b := bd_law_2) (rngL 0 m) (fun _ ρ mh => mh = [] ∧ ∃ o1 o2 o3 o4 o5 o6, ρ = [some (.lst (ns.map D.int)), o1, o2, o3, o4, o5, o6])
    (ρ := [some (.lst (ns.map D.int)), none, none, none, none, none, none]) (mh := []) ⟨rfl, _, _, _, _, _, _, rfl⟩ (by
    rintro i d ρ mh hd ⟨rfl, o1, o2, o3, o4, o5, o6, rfl⟩
    obtain ⟨hi, rfl⟩ := rngL_get hd
    obtain ⟨q2, q3, q4, q5, q6, e⟩ := turn hn (k := 0 + (i : Nat)) (by omega) (by omega) o2 o3 o4 o5 o6 []
    exact ⟨_, _, .inl (by simpa using e), rfl, _, _, _, _, _, _, rfl⟩)
  have fin : ∀ (a : List Nat), Oks a → a.length ≤ 5 → ∃ r : Option (Nat × Nat), (∀ mh, ar 1 (oP f_weight_in) [.str (S a)] mh = .ok (wopt r) mh) ∧ ∀ t b, r = some (t, b) ↔ Wr t b a := fun a h1 h2 => win_ok h1 (by omega)
  have noW : ∀ (a : List Nat) (r : Option (Nat × Nat)), (∀ t b, r = some (t, b) ↔ Wr t b a) → (∀ t b, ¬ Wr t b a) → r = none := fun a r h1 h2 => by
    cases r with
    | none => rfl
    | some x => exact absurd ((h1 x.1 x.2).mp rfl) (h2 _ _)
  obtain ⟨r1, z1, s1⟩ := fin [] (fun x hx => by simp at hx) (by simp)
  obtain ⟨r2, z2, s2⟩ := fin [47] (oks_lit rfl) (by simp)
  obtain ⟨r3, z3, s3⟩ := fin [48] (oks_lit rfl) (by simp)
  have w1 : r1 = none := noW _ _ s1 fun t b z => by
    have := hd_of z
    have e0 : hd [] = [] := rfl
    rw [e0] at this
    exact TL.numL_ne t this.symm
  have w2 : r2 = none := noW _ _ s2 fun t b z => by
    have := hd_of z
    have e0 : hd [47] = [] := rfl
    rw [e0] at this
    exact TL.numL_ne t this.symm
  have w3 : r3 = some (0, 1) := (s3 0 1).mpr ⟨rfl, by omega, by omega, by omega, rfl⟩
  subst w1 w2 w3
  have z1' : ∀ mh, ar 1 (oP f_weight_in) [.str (S [])] mh = .ok .non mh := z1
  have z2' : ∀ mh, ar 1 (oP f_weight_in) [.str (S [47])] mh = .ok .non mh := z2
  have z3' : ∀ mh, ar 1 (oP f_weight_in) [.str (S [48])] mh = .ok (.tup [.int 0, .int 1]) mh := z3
  have is : ∀ mh, oIsX .non .non mh = .ok (.bl true) mh := fun mh => rfl
  refine ⟨[], ?_⟩
  unfold f_law defn b_law
  rw [c_e, c_sl, c_0]
  generalize S [47] = A1 at *
  generalize S [48] = A2 at *
  generalize S [] = A3 at *
  simp [hr, e, z1', z2', z3', is]
end K04

open PySem PySem.W PyProof.Rows
set_option maxRecDepth 100000 in
set_option maxHeartbeats 0 in
theorem PySem.Challenge.cw_greywait_k04_weights_as_texts_holds : PySem.Challenge.rw_greywait_k04_weights_as_texts.Holds := by
  w_on; o_law; k_head; (case hw => w_witness2)
  k_fill
  refine G.walk (l := PySem.Challenge.rw_greywait_k04_weights_as_texts) (k := 4) (x := "_law_script") (f := K04.f_law) rfl rfl ⟨rfl, by decide, by decide⟩ (fun w h Y => PySem.W.kIn_of Y) K04.holds ?F
  case F =>
    intro w mg fa h KX G hmg
    refine' K04.all_mk KX G hmg ?a1 ?l1 ?c1 ?k1 ?a2 ?l2 ?c2 ?k2 ?a3 ?l3 ?c3 ?k3 ?a4 ?l4 ?c4 ?k4 ?a5 ?l5 ?c5 ?k5 ?a6 ?l6 ?c6 ?k6 ?a7 ?l7 ?c7 ?k7 ?a8 ?l8 ?c8 ?k8 ?a9 ?l9 ?c9 ?k9 ?a10 ?l10 ?c10 ?k10 ?a11 ?l11 ?c11 ?k11 ?a12 ?l12 ?c12 ?k12 ?a13 ?l13 ?c13 ?k13 ?a14 ?l14 ?c14 ?k14 ?a15 ?l15 ?c15 ?k15 ?z_abs ?z_all ?z_bool ?z_int ?z_isinstance ?z_len ?z_max ?z_min ?z_range ?z_str ?z_tuple ?z_FIGURES ?z_MOST_BOTTOM ?z_MOST_FIGURES ?z_MOST_TOP
    (case a1 => k_is)
    (case l1 => k_is)
    (case c1 => k_is)
    (case k1 => k_is)
    (case a2 => k_is)
    (case l2 => k_is)
    (case c2 => k_is)
    (case k2 => k_is)
    (case a3 => k_is)
    (case l3 => k_is)
    (case c3 => k_is)
    (case k3 => k_is)
    (case a4 => k_is)
    (case l4 => k_is)
    (case c4 => k_is)
    (case k4 => k_is)
    (case a5 => k_is)
    (case l5 => k_is)
    (case c5 => k_is)
    (case k5 => k_is)
    (case a6 => k_is)
    (case l6 => k_is)
    (case c6 => k_is)
    (case k6 => k_is)
    (case a7 => k_is)
    (case l7 => k_is)
    (case c7 => k_is)
    (case k7 => k_is)
    (case a8 => k_is)
    (case l8 => k_is)
    (case c8 => k_is)
    (case k8 => k_is)
    (case a9 => k_is)
    (case l9 => k_is)
    (case c9 => k_is)
    (case k9 => k_is)
    (case a10 => k_is)
    (case l10 => k_is)
    (case c10 => k_is)
    (case k10 => k_is)
    (case a11 => k_is)
    (case l11 => k_is)
    (case c11 => k_is)
    (case k11 => k_is)
    (case a12 => k_is)
    (case l12 => k_is)
    (case c12 => k_is)
    (case k12 => k_is)
    (case a13 => k_is)
    (case l13 => k_is)
    (case c13 => k_is)
    (case k13 => k_is)
    (case a14 => k_is)
    (case l14 => k_is)
    (case c14 => k_is)
    (case k14 => k_is)
    (case a15 => k_is)
    (case l15 => k_is)
    (case c15 => k_is)
    (case k15 => k_is)
    (case z_abs => k_is)
    (case z_all => k_is)
    (case z_bool => k_is)
    (case z_int => k_is)
    (case z_isinstance => k_is)
    (case z_len => k_is)
    (case z_max => k_is)
    (case z_min => k_is)
    (case z_range => k_is)
    (case z_str => k_is)
    (case z_tuple => k_is)
    (case z_FIGURES => k_is)
    (case z_MOST_BOTTOM => k_is)
    (case z_MOST_FIGURES => k_is)
    (case z_MOST_TOP => k_is)
