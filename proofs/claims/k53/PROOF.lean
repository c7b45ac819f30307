import PyProof.Rows.All
import Wide.All
import OpenK.AllK
import Wide.FinOn
import HandS.Lambda
import HandS.ForMost
import HandS.Exc
import HandS.CallSlots
import HandS.IsInst
import HandS.Wide
import HandS.WordsExc
import HandS.Deep
import HandS.ExcOwn
import HandS.EndTab
import HandS.TupAny
import HandS.Style
import HandS.TupLe
import HandS.More
import HandS.Conv
import HandS.Codes
import HandS.Replace
import HandS.FStr
import HandS.ExcInit
import HandS.ExcIs
import HandS.ExcField
import HandS.WideBits
import HandS.TupSets
import KE.SortKeyHeap
import HandS.SortKw
import HandS.Keys
import HandS.Iter
import HandS.Nested
import HandS.Small
import HandS.WordsDict
import HandS.Defaults
import HandS.DictComp
import HandS.SortInts
import HandS.RevTup
import HandS.Rev
import PyProof.ListRange
import HandS.Finally
import HandS.ListEq
import HandS.DictEq
import HandS.DeepEq
import PyProof.NeKinds
import PyProof.P3Eq
import HandS.Zip
import HandS.Sort
import PyProof.SumWalk
import PySem.Challenge.RW_greywait_k53_last_comer_of_all_sorts
set_option Elab.async false
set_option linter.all false
set_option maxRecDepth 100000
set_option maxHeartbeats 8000000
/-! The defs that hold a lambda (this text is printed for each law). -/
namespace G
open PySem
def lamDefs : List Str := ["order_at", "turn_done"]
end G

/-! Part A: plain data, the small machine's state, how both lie in the layer's heap, and what a reading is worth. -/
namespace G
open PySem PySem.Spec PyProof.Rows L2

/-- a lambda, as it is written: its full name, parameters, body, scope, captured names -/
structure Syn where
  q : Str
  params : Arguments
  body : Expr
  scope : Scope
  fr : List Str
inductive D where
  | non | bl (b : Bool) | int (i : Int) | str (x : Str) | ty (n : String) | glb (x : Str) | ref (n : Nat)
  | tup (ds : List D) | lst (ds : List D) | dic (ks : List Key) (ds : List D) | obj (x : Str) (ns : List Str) (ds : List D)
  | clo (y : Syn) (ds : List D)
instance : Inhabited D := ⟨.non⟩
inductive O where
  | lst (ds : List D) | dic (ks : List Key) (ds : List D) | ins (x : Str) (ns : List Str) (ds : List D) | dct (ks : List (List Key)) (ds : List D)

/-- a list that is only read -/
def LstAt (K : PySem.W.Frag) (F : Addr → Prop) (H : Hp) (a : Addr) (vs : List V) : Prop :=
  (Rd H a (.lst vs) ∧ ¬ F a) ∨
    ∃ (o : Obj) (its : Array Value) (n : Nat), K.lookup a = some o ∧ o.cls = .type "list" ∧ o.dict = none ∧ o.data = .seq its n ∧ its.size ≤ sizeLine ∧ Vals vs its.toList

/-- at a: a made exception of the class at C, its dict -/
def xob (a C : Addr) (d : Option Addr) : HO := .ext fun h => ∃ (o : Obj) (vs : Array Value), h.get? a = some o ∧ o.cls = .ref C ∧ o.dict = d ∧ o.data = .fields vs
theorem xob_nt {a C : Addr} {d : Option Addr} : ∀ ps, xob a C d ≠ .tbl ps := fun ps z => by unfold xob at z; cases z
/-- the names of the program's exception classes -/
def excNames : List Str := ["WaitError", "NoWeight", "NoName", "NoSorts", "NoSort", "NoHands", "NoTurn", "NoPiece", "Over", "TooMany", "NoEnd", "NoLine"]
def isExc (x : Str) : Bool := excNames.contains x
/-- an object of an own class (by its name) with its fields: an instance, or an exception -/
def ObjAt (F : Addr → Prop) (H : Hp) (a C : Addr) (x : Str) (fs : List (Str × V)) : Prop :=
  ¬ F a ∧ ((∃ dx, H a = some (.ins C dx fs)) ∨ ∃ d, isExc x = true ∧ H a = some (xob a C d) ∧ ((d = none ∧ fs = []) ∨ ∃ dd, d = some dd ∧ ¬ F dd ∧ H dd = some (.xd fs)))
theorem ObjAt.upto {F F' : Addr → Prop} {H H' : Hp} {a C : Addr} {x : Str} {fs : List (Str × V)} (h : ObjAt F H a C x fs) (hf : ∀ b o, H b = some o → ¬ F b → (∀ ps, o ≠ .tbl ps) → ¬ F' b ∧ H' b = some o) : ObjAt F' H' a C x fs := by
  obtain ⟨n, ⟨dx, h⟩ | ⟨d, hx, h, q⟩⟩ := h
  · exact ⟨(hf _ _ h n fun _ z => nomatch z).1, .inl ⟨dx, (hf _ _ h n fun _ z => nomatch z).2⟩⟩
  · refine ⟨(hf _ _ h n xob_nt).1, .inr ⟨d, hx, (hf _ _ h n xob_nt).2, ?_⟩⟩
    rcases q with q | ⟨dd, e, nd, hd⟩
    · exact .inl q
    · exact .inr ⟨dd, e, (hf _ _ hd nd fun _ z => nomatch z).1, (hf _ _ hd nd fun _ z => nomatch z).2⟩
/-- the object at f, as it stands -/
def LamO (f : Addr) (ob : Obj) : HO := .ext fun h => h.get? f = some ob
abbrev lamObj (q : Str) (params : Arguments) (body : Expr) (scope : Scope) (cl : List (Str × Addr)) (pm : Value) (c' : Addr) (ctv : Value) : Obj := PySem.W.kla_obj "<lambda>" q params body scope cl pm c' ctv
/-- a cell, as it stands -/
abbrev cellO (o : Obj) : HO := .frz o (.own 0)
/-- what the captured cells hold -/
structure CapsAt (F : Addr → Prop) (H : Hp) (cl : List (Str × Addr)) (fr : List Str) (vs : List V) : Prop where
  len : vs.length = fr.length
  all : ∀ y c, cl.lookup y = some c → ¬ F c ∧ ∃ o v, H c = some (cellO o) ∧ o.data = .cell v
  inj : ∀ x y c, cl.lookup x = some c → cl.lookup y = some c → x = y
  has : ∀ (i : Nat) (y : Str), fr[i]? = some y → ∃ c o u v, cl.lookup y = some c ∧ H c = some (cellO o) ∧ o.data = .cell (some u) ∧ vs[i]? = some v ∧ RelV v u
theorem CapsAt.upto {F F' : Addr → Prop} {H H' : Hp} {cl : List (Str × Addr)} {fr : List Str} {vs : List V} (h : CapsAt F H cl fr vs) (hf : ∀ b o, H b = some o → ¬ F b → (∀ ps, o ≠ .tbl ps) → ¬ F' b ∧ H' b = some o) : CapsAt F' H' cl fr vs := by
  refine ⟨h.len, fun y c e => ?_, h.inj, fun i y e => ?_⟩
  · obtain ⟨n, o, v, e1, e2⟩ := h.all y c e
    obtain ⟨a, b⟩ := hf c _ e1 n fun _ z => nomatch z
    exact ⟨a, o, v, b, e2⟩
  · obtain ⟨c, o, u, v, e0, e1, e2, e3, e4⟩ := h.has i y e
    exact ⟨c, o, u, v, e0, (hf c _ e1 (h.all y c e0).1 fun _ z => nomatch z).2, e2, e3, e4⟩
/-- a function object that is a lambda's -/
structure CloAt (F : Addr → Prop) (H : Hp) (f : Addr) (y : Syn) (cl : List (Str × Addr)) (c' : Addr) (pm ctv : Value) (vs : List V) : Prop where
  nf : ¬ F f
  nc : ¬ F c'
  hf : H f = some (LamO f (lamObj y.q y.params y.body y.scope cl pm c' ctv))
  hc : H c' = some (LamX.CodeO c' y.q)
  cells : CapsAt F H cl y.fr vs
theorem lamO_nt {f : Addr} {ob : Obj} : ∀ ps, LamO f ob ≠ .tbl ps := fun ps z => by unfold LamO at z; cases z
theorem CloAt.upto {F F' : Addr → Prop} {H H' : Hp} {f c' : Addr} {y : Syn} {cl : List (Str × Addr)} {pm ctv : Value} {vs : List V} (h : CloAt F H f y cl c' pm ctv vs) (hf : ∀ b o, H b = some o → ¬ F b → (∀ ps, o ≠ .tbl ps) → ¬ F' b ∧ H' b = some o) : CloAt F' H' f y cl c' pm ctv vs :=
  ⟨(hf _ _ h.hf h.nf lamO_nt).1, (hf _ _ h.hc h.nc LamX.codeO_ne).1, (hf _ _ h.hf h.nf lamO_nt).2, (hf _ _ h.hc h.nc LamX.codeO_ne).2, h.cells.upto hf⟩

mutual
inductive DV (K : PySem.W.Frag) (mg : Str → Option Value) (F : Addr → Prop) (ι : List Addr) (H : Hp) : D → V → Prop
  | non : DV K mg F ι H .non .non
  | bl (b : Bool) : DV K mg F ι H (.bl b) (.bl b)
  | int (i : Int) : DV K mg F ι H (.int i) (.int i)
  | str (x : Str) : DV K mg F ι H (.str x) (.str x)
  | ty (n : String) : DV K mg F ι H (.ty n) (.ty n)
  | glb {x : Str} {u : Value} {v : V} (m : mg x = some u) (r : RelV v u) : DV K mg F ι H (.glb x) v
  | ref {n : Nat} {a : Addr} (e : ι[n]? = some a) : DV K mg F ι H (.ref n) (.ref a)
  | tup {a : Addr} {ds : List D} {vs : List V} (h : Rd H a (.tup vs)) (r : DVs K mg F ι H ds vs) : DV K mg F ι H (.tup ds) (.ref a)
  | lst {a : Addr} {ds : List D} {vs : List V} (h : LstAt K F H a vs) (r : DVs K mg F ι H ds vs) : DV K mg F ι H (.lst ds) (.ref a)
  | dic {a : Addr} {ks : List Key} {ds : List D} {kvs : List (Key × V)} (h : Rd H a (.dK kvs)) (n : ¬ F a) (e : kvs.map (·.1) = ks) (r : DVs K mg F ι H ds (kvs.map (·.2))) : DV K mg F ι H (.dic ks ds) (.ref a)
  | obj {a C : Addr} {x : Str} {ns : List Str} {ds : List D} {fs : List (Str × V)} (h : ObjAt F H a C x fs) (m : mg x = some (.ref C)) (e : fs.map (·.1) = ns) (r : DVs K mg F ι H ds (fs.map (·.2))) : DV K mg F ι H (.obj x ns ds) (.ref a)
  | clo {f c' : Addr} {y : Syn} {ds : List D} {cl : List (Str × Addr)} {pm ctv : Value} {vs : List V} (h : CloAt F H f y cl c' pm ctv vs) (r : DVs K mg F ι H ds vs) : DV K mg F ι H (.clo y ds) (.ref f)
inductive DVs (K : PySem.W.Frag) (mg : Str → Option Value) (F : Addr → Prop) (ι : List Addr) (H : Hp) : List D → List V → Prop
  | nil : DVs K mg F ι H [] []
  | cons {d : D} {ds : List D} {v : V} {vs : List V} (h : DV K mg F ι H d v) (t : DVs K mg F ι H ds vs) : DVs K mg F ι H (d :: ds) (v :: vs)
end

/-- an object of the machine, as it stands -/
inductive OV (K : PySem.W.Frag) (mg : Str → Option Value) (F : Addr → Prop) (ι : List Addr) (H : Hp) (a : Addr) : O → Prop
  | lst {ds : List D} {vs : List V} (h : H a = some (.lst vs)) (r : DVs K mg F ι H ds vs) : OV K mg F ι H a (.lst ds)
  | dic {ks : List Key} {ds : List D} {kvs : List (Key × V)} (h : H a = some (.dK kvs)) (e : kvs.map (·.1) = ks) (r : DVs K mg F ι H ds (kvs.map (·.2))) : OV K mg F ι H a (.dic ks ds)
  | ins {C dx : Addr} {x : Str} {ns : List Str} {ds : List D} {fs : List (Str × V)} (h : H a = some (.ins C dx fs)) (m : mg x = some (.ref C)) (e : fs.map (·.1) = ns) (r : DVs K mg F ι H ds (fs.map (·.2))) : OV K mg F ι H a (.ins x ns ds)
  | dct {ks : List (List Key)} {ds : List D} {kvs : List (List Key × V)} (h : H a = some (.dT kvs)) (e : kvs.map (·.1) = ks) (r : DVs K mg F ι H ds (kvs.map (·.2))) : OV K mg F ι H a (.dct ks ds)

/-- a def's code object and its table -/
def tabOf (K : PySem.W.Frag) (x : Str) : Option (Addr × Addr) := match PySem.W.nsIn K mainGlobals x with
  | some (some (.ref f)) => match K.lookup f with
    | some ⟨_, _, .func fd, _⟩ => match fd.code with
      | .ref c => match K.lookup c with
        | some ⟨_, _, .fields vs, _⟩ => match (vs[11]? : Option Value) with
          | some (.ref P) => some (c, P)
          | _ => none
        | _ => none
      | _ => none
    | _ => none
  | _ => none
def lamTabs (K : PySem.W.Frag) : List (Addr × Str) := lamDefs.filterMap fun x => (tabOf K x).map fun p => (p.2, x ++ ".<locals>." ++ "<lambda>")
theorem tabS_upd {H : Hp} {P a : Addr} {q : Str} {o o' : HO} (t : LamX.TabS H P q) (h : H a = some o) (hX : ∀ ps φ, o ≠ .tbl ps ∧ o ≠ .ext φ) : LamX.TabS (upd H a o') P q := by
  obtain ⟨ps, h1, h2, h3⟩ := t
  have nP : P ≠ a := fun z => by rw [z, h] at h1; exact (hX ps fun _ => True).1 (Option.some.inj h1)
  refine ⟨ps, by rw [upd_ne nP]; exact h1, h2, fun pos cv hc => ?_⟩
  obtain ⟨c, e1, e2⟩ := h3 pos cv hc
  have nc : c ≠ a := fun z => by rw [z, h] at e2; exact (hX ps _).2 (Option.some.inj e2)
  exact ⟨c, e1, by rw [upd_ne nc]; exact e2⟩
theorem tabs_upd {H : Hp} {a : Addr} {T : List (Addr × Str)} {o o' : HO} (t : LamX.Tabs T H) (h : H a = some o) (hX : ∀ ps φ, o ≠ .tbl ps ∧ o ≠ .ext φ) : LamX.Tabs T (upd H a o') := fun p hp => tabS_upd (t p hp) h hX
theorem tabs_new {H : Hp} {a : Addr} {T : List (Addr × Str)} {o : HO} (t : LamX.Tabs T H) (h : H a = none) : LamX.Tabs T (upd H a o) := t.ext fun b u e => by rw [upd_ne (ne_of_none e h)]; exact e
structure SR (K : PySem.W.Frag) (mg : Str → Option Value) (F : Addr → Prop) (ι : List Addr) (mh : List O) (H : Hp) : Prop where
  len : ι.length = mh.length
  nd : ι.Nodup
  ob : ∀ (n : Nat) (o : O) (a : Addr), mh[n]? = some o → ι[n]? = some a → OV K mg F ι H a o
  sub : ∀ a, a ∈ ι → F a
  old : ∀ a, F a → H a ≠ none
  tabs : LamX.Tabs (lamTabs K) H

/-- what an evaluation may do to the heap -/
structure Step (F : Addr → Prop) (ι : List Addr) (H : Hp) (F' : Addr → Prop) (ι' : List Addr) (H' : Hp) : Prop where
  pre : ι <+: ι'
  up : ∀ a, F a → F' a
  new : ∀ a, F' a → F a ∨ H a = none
  inew : ∀ a, a ∈ ι' → a ∈ ι ∨ H a = none
  keep : ∀ a o, H a = some o → a ∉ ι → (∀ ps, o ≠ .tbl ps) → H' a = some o
  tups : ∀ a vs, Rd H a (.tup vs) → Rd H' a (.tup vs)
  live : ∀ a o, H a = some o → ∃ o', H' a = some o'

theorem Step.refl {F : Addr → Prop} {ι : List Addr} {H : Hp} : Step F ι H F ι H :=
  ⟨List.prefix_refl _, fun _ h => h, fun _ h => .inl h, fun _ h => .inl h, fun _ _ h _ _ => h, fun _ _ h => h, fun _ o h => ⟨o, h⟩⟩
theorem Step.trans {F F1 F2 : Addr → Prop} {ι ι1 ι2 : List Addr} {H H1 H2 : Hp} (a : Step F ι H F1 ι1 H1) (b : Step F1 ι1 H1 F2 ι2 H2) : Step F ι H F2 ι2 H2 := by
  have back : ∀ x, H1 x = none → H x = none := fun x h => by
    cases q : H x with
    | none => rfl
    | some o => obtain ⟨o', e⟩ := a.live x o q; rw [h] at e; cases e
  refine ⟨a.pre.trans b.pre, fun x h => b.up x (a.up x h), fun x h => ?_, fun x h => ?_, fun x o h n nt => ?_, fun x vs h => b.tups x vs (a.tups x vs h), fun x o h => ?_⟩
  · rcases b.new x h with z | z
    · exact a.new x z
    · exact .inr (back x z)
  · rcases b.inew x h with z | z
    · exact a.inew x z
    · exact .inr (back x z)
  · refine b.keep x o (a.keep x o h n nt) (fun z => ?_) nt
    rcases a.inew x z with q | q
    · exact n q
    · rw [q] at h; cases h
  · obtain ⟨o1, e1⟩ := a.live x o h
    exact b.live x o1 e1

section
variable {K : PySem.W.Frag} {mg : Str → Option Value} {F F' : Addr → Prop} {ι ι' : List Addr} {H H' : Hp}
theorem rd_some {a : Addr} {u : HO} (h : Rd H a u) : ∃ o, H a = some o := by
  rcases h with h | ⟨o, h⟩
  · exact ⟨_, h⟩
  · exact ⟨_, h⟩
theorem rd_upto {a : Addr} {u : HO} (h : Rd H a u) (k : ∀ o, H a = some o → H' a = some o) : Rd H' a u := by
  rcases h with h | ⟨o, h⟩
  · exact .inl (k _ h)
  · exact .inr ⟨o, k _ h⟩
theorem rd_uptoN {a : Addr} {u : HO} (h : Rd H a u) (hu : ∀ ps, u ≠ .tbl ps) (k : ∀ o, H a = some o → (∀ ps, o ≠ .tbl ps) → H' a = some o) : Rd H' a u := by
  rcases h with h | ⟨o, h⟩
  · exact .inl (k _ h hu)
  · exact .inr ⟨o, k _ h fun _ z => nomatch z⟩
theorem LstAt.to {a : Addr} {vs : List V} (h : LstAt K F H a vs) (sub : ∀ a, a ∈ ι → F a) (st : Step F ι H F' ι' H') : LstAt K F' H' a vs := by
  rcases h with ⟨h, n⟩ | h
  · refine .inl ⟨rd_uptoN h (fun _ z => nomatch z) fun o e nt => st.keep a o e (fun z => n (sub a z)) nt, fun z => ?_⟩
    rcases st.new a z with q | q
    · exact n q
    · obtain ⟨o, e⟩ := rd_some h
      rw [q] at e; cases e
  · exact .inr h
mutual
theorem DV.to (sub : ∀ a, a ∈ ι → F a) (st : Step F ι H F' ι' H') : ∀ (d : D) (v : V), DV K mg F ι H d v → DV K mg F' ι' H' d v
  | .non, _, h => by cases h; exact .non
  | .bl b, _, h => by cases h; exact .bl b
  | .int i, _, h => by cases h; exact .int i
  | .str x, _, h => by cases h; exact .str x
  | .ty n, _, h => by cases h; exact .ty n
  | .glb x, _, h => by
    cases h with
    | glb m r => exact .glb m r
  | .ref n, _, h => by
    cases h with
    | ref e =>
      refine .ref ?_
      obtain ⟨t, q⟩ := st.pre
      rw [← q, List.getElem?_append_left]
      · exact e
      · exact (List.getElem?_eq_some_iff.mp e).1
  | .tup ds, _, h => by
    cases h with
    | tup h r => exact .tup (st.tups _ _ h) (DVs.to sub st ds _ r)
  | .lst ds, _, h => by
    cases h with
    | lst h r => exact .lst (h.to sub st) (DVs.to sub st ds _ r)
  | .dic ks ds, _, h => by
    cases h with
    | dic h n e r =>
      refine .dic (rd_uptoN h (fun _ z => nomatch z) fun o q nt => st.keep _ o q (fun z => n (sub _ z)) nt) (fun z => ?_) e (DVs.to sub st ds _ r)
      rcases st.new _ z with q | q
      · exact n q
      · obtain ⟨o, e⟩ := rd_some h
        rw [q] at e; cases e
  | .obj x ns ds, _, h => by
    cases h with
    | obj h m e r =>
      refine .obj (h.upto fun b o e n nt => ⟨fun z => ?_, st.keep _ _ e (fun z => n (sub _ z)) nt⟩) m e (DVs.to sub st ds _ r)
      rcases st.new _ z with q | q
      · exact n q
      · rw [q] at e; cases e
  | .clo y ds, _, h => by
    cases h with
    | clo h r =>
      refine .clo (h.upto fun b o e n nt => ⟨fun z => ?_, st.keep _ _ e (fun z => n (sub _ z)) nt⟩) (DVs.to sub st ds _ r)
      rcases st.new _ z with q | q
      · exact n q
      · rw [q] at e; cases e
theorem DVs.to (sub : ∀ a, a ∈ ι → F a) (st : Step F ι H F' ι' H') : ∀ (ds : List D) (vs : List V), DVs K mg F ι H ds vs → DVs K mg F' ι' H' ds vs
  | [], _, h => by cases h; exact .nil
  | d :: ds, _, h => by
    cases h with
    | cons h t => exact .cons (DV.to sub st d _ h) (DVs.to sub st ds _ t)
end
theorem DVs.length : ∀ {ds : List D} {vs : List V}, DVs K mg F ι H ds vs → ds.length = vs.length
  | [], _, h => by cases h; rfl
  | d :: ds, _, h => by
    cases h with
    | cons _ t => rw [List.length_cons, List.length_cons, DVs.length t]
theorem DVs.get : ∀ {ds : List D} {vs : List V} {i : Nat} {d : D}, DVs K mg F ι H ds vs → ds[i]? = some d → ∃ v, vs[i]? = some v ∧ DV K mg F ι H d v
  | [], _, i, d, h, e => by simp at e
  | x :: ds, _, 0, d, h, e => by
    cases h with
    | cons h t => simp at e; subst e; exact ⟨_, rfl, h⟩
  | x :: ds, _, i + 1, d, h, e => by
    cases h with
    | cons h t =>
      obtain ⟨v, q, r⟩ := DVs.get (i := i) t (by simpa using e)
      exact ⟨v, by simpa using q, r⟩
theorem DVs.getV {ds : List D} {vs : List V} {i : Nat} {v : V} (h : DVs K mg F ι H ds vs) (e : vs[i]? = some v) : ∃ d, ds[i]? = some d ∧ DV K mg F ι H d v := by
  have hi := (List.getElem?_eq_some_iff.mp e).1
  rw [← h.length] at hi
  obtain ⟨v', q, r⟩ := h.get (List.getElem?_eq_getElem hi)
  rw [e] at q; cases q
  exact ⟨_, List.getElem?_eq_getElem hi, r⟩
theorem DVs.append : ∀ {ds es : List D} {vs ws : List V}, DVs K mg F ι H ds vs → DVs K mg F ι H es ws → DVs K mg F ι H (ds ++ es) (vs ++ ws)
  | [], _, _, _, h, k => by cases h; exact k
  | d :: ds, _, _, _, h, k => by
    cases h with
    | cons h t => exact .cons h (DVs.append t k)
theorem DVs.take : ∀ {ds : List D} {vs : List V} (n : Nat), DVs K mg F ι H ds vs → DVs K mg F ι H (ds.take n) (vs.take n)
  | _, _, 0, _ => .nil
  | [], _, n + 1, h => by cases h; exact .nil
  | d :: ds, _, n + 1, h => by
    cases h with
    | cons h t => exact .cons h (DVs.take n t)
theorem DVs.drop : ∀ {ds : List D} {vs : List V} (n : Nat), DVs K mg F ι H ds vs → DVs K mg F ι H (ds.drop n) (vs.drop n)
  | _, _, 0, h => h
  | [], _, n + 1, h => by cases h; exact .nil
  | d :: ds, _, n + 1, h => by
    cases h with
    | cons h t => exact DVs.drop n t
theorem DVs.set {d : D} {v : V} (r : DV K mg F ι H d v) : ∀ {ds : List D} {vs : List V} (i : Nat), DVs K mg F ι H ds vs → DVs K mg F ι H (ds.set i d) (vs.set i v)
  | [], _, _, h => by cases h; exact .nil
  | x :: ds, _, 0, h => by
    cases h with
    | cons h t => exact .cons r t
  | x :: ds, _, i + 1, h => by
    cases h with
    | cons h t => exact .cons h (DVs.set r i t)
theorem DVs.eraseIdx : ∀ {ds : List D} {vs : List V} (i : Nat), DVs K mg F ι H ds vs → DVs K mg F ι H (ds.eraseIdx i) (vs.eraseIdx i)
  | [], _, _, h => by cases h; exact .nil
  | x :: ds, _, 0, h => by
    cases h with
    | cons h t => exact t
  | x :: ds, _, i + 1, h => by
    cases h with
    | cons h t => exact .cons h (DVs.eraseIdx i t)
theorem DVs.reverse : ∀ {ds : List D} {vs : List V}, DVs K mg F ι H ds vs → DVs K mg F ι H ds.reverse vs.reverse
  | [], _, h => by cases h; exact .nil
  | x :: ds, _, h => by
    cases h with
    | cons h t =>
      rw [List.reverse_cons, List.reverse_cons]
      exact (DVs.reverse t).append (.cons h .nil)
theorem OV.to {a : Addr} {o : O} (h : OV K mg F ι H a o) (sub : ∀ a, a ∈ ι → F a) (st : Step F ι H F' ι' H') (k : H' a = H a) : OV K mg F' ι' H' a o := by
  cases h with
  | lst h r => exact .lst (k.trans h) (DVs.to sub st _ _ r)
  | dic h e r => exact .dic (k.trans h) e (DVs.to sub st _ _ r)
  | dct h e r => exact .dct (k.trans h) e (DVs.to sub st _ _ r)
  | ins h m e r => exact .ins (k.trans h) m e (DVs.to sub st _ _ r)
/-- a new object that nobody writes -/
theorem step_new {p : Addr} {u : HO} (hp : H p = none) : Step F ι H F ι (upd H p u) :=
  ⟨List.prefix_refl _, fun _ h => h, fun _ h => .inl h, fun _ h => .inl h, fun a o h _ _ => by rw [upd_ne (ne_of_none h hp)]; exact h,
    fun a vs h => by
      obtain ⟨o, e⟩ := rd_some h
      exact rd_upto h fun o' q => by rw [upd_ne (ne_of_none e hp)]; exact q,
    fun a o h => ⟨o, by rw [upd_ne (ne_of_none h hp)]; exact h⟩⟩
theorem SR.notNew {mh : List O} {p : Addr} (sr : SR K mg F ι mh H) (hp : H p = none) : ¬ F p := fun z => sr.old p z hp
theorem SR.fresh {mh : List O} {p : Addr} {u : HO} (sr : SR K mg F ι mh H) (hp : H p = none) : SR K mg F ι mh (upd H p u) := by
  refine ⟨sr.len, sr.nd, fun n o a e1 e2 => ?_, sr.sub, fun a h => ?_, tabs_new sr.tabs hp⟩
  · have hF := sr.sub a (List.mem_of_getElem? e2)
    have na : a ≠ p := fun z => sr.old a hF (by rw [z]; exact hp)
    exact (sr.ob n o a e1 e2).to sr.sub (step_new hp) (upd_ne na)
  · have na : a ≠ p := fun z => sr.old a h (by rw [z]; exact hp)
    rw [upd_ne na]
    exact sr.old a h
/-- only the heap is larger -/
theorem SR.same {mh : List O} (sr : SR K mg F ι mh H) (k : ∀ a o, H a = some o → H' a = some o) : SR K mg F ι mh H' ∧ Step F ι H F ι H' := by
  have st : Step F ι H F ι H' := ⟨List.prefix_refl _, fun _ h => h, fun _ h => .inl h, fun _ h => .inl h, fun a o h _ _ => k a o h, fun a vs h => rd_upto h fun o q => k a o q, fun a o h => ⟨o, k a o h⟩⟩
  refine ⟨⟨sr.len, sr.nd, fun n o a e1 e2 => ?_, sr.sub, fun a h => ?_, sr.tabs.ext k⟩, st⟩
  · have ho := sr.ob n o a e1 e2
    have hF := sr.sub a (List.mem_of_getElem? e2)
    cases q : H a with
    | none => exact absurd q (sr.old a hF)
    | some u => exact ho.to sr.sub st ((k a u q).trans q.symm)
  · cases q : H a with
    | none => exact absurd q (sr.old a h)
    | some u => rw [k a u q]; exact fun z => nomatch z
end

/-- behind a call in a heap of its own -/
theorem SR.own {K : PySem.W.Frag} {mg : Str → Option Value} {F F' : Addr → Prop} {ι ι' : List Addr} {H H' : Hp} {mh : List O} (sr : SR K mg F ι mh H) (st0 : Step F [] H F' ι' H') (tb : LamX.Tabs (lamTabs K) H') : SR K mg F ι mh H' ∧ Step F ι H F ι H' := by
  have st : Step F ι H F ι H' := ⟨List.prefix_refl _, fun _ h => h, fun _ h => .inl h, fun _ h => .inl h, fun a o h _ nt => st0.keep a o h (by simp) nt, st0.tups, st0.live⟩
  refine ⟨⟨sr.len, sr.nd, fun n o a e1 e2 => ?_, sr.sub, fun a h => ?_, tb⟩, st⟩
  · have ho := sr.ob n o a e1 e2
    cases ho with
    | lst h r => exact .lst (st0.keep _ _ h (by simp) fun _ z => nomatch z) (DVs.to sr.sub st _ _ r)
    | dic h e r => exact .dic (st0.keep _ _ h (by simp) fun _ z => nomatch z) e (DVs.to sr.sub st _ _ r)
    | dct h e r => exact .dct (st0.keep _ _ h (by simp) fun _ z => nomatch z) e (DVs.to sr.sub st _ _ r)
    | ins h m e r => exact .ins (st0.keep _ _ h (by simp) fun _ z => nomatch z) m e (DVs.to sr.sub st _ _ r)
  · cases q : H a with
    | none => exact absurd q (sr.old a h)
    | some u =>
      obtain ⟨o', e⟩ := st0.live a u q
      rw [e]
      exact fun z => nomatch z
/-! ### results -/
inductive Res (α : Type) where
  | ok (a : α) (mh : List O)
  | err (c : Str) (ds : List D) (mh : List O)
  | stuck
def Res.bind {α β : Type} (r : Res α) (f : α → List O → Res β) : Res β := match r with
  | .ok a mh => f a mh
  | .err c ds mh => .err c ds mh
  | .stuck => .stuck
@[simp] theorem Res.bind_ok {α β : Type} (a : α) (mh : List O) (f : α → List O → Res β) : (Res.ok a mh).bind f = f a mh := rfl
@[simp] theorem Res.bind_err {α β : Type} (c : Str) (ds : List D) (mh : List O) (f : α → List O → Res β) : (Res.err c ds mh : Res α).bind f = .err c ds mh := rfl
@[simp] theorem Res.bind_stuck {α β : Type} (f : α → List O → Res β) : (Res.stuck : Res α).bind f = .stuck := rfl

abbrev En := List (Option D)
abbrev CE := En → List O → Res D
abbrev CT := En → List O → Res Bool
abbrev CA := En → List O → Res (List D)

abbrev Rel (α β : Type) := (Addr → Prop) → List Addr → Hp → α → β → Prop
/-- an exception of the class that the module's name c holds, its fields' values -/
def ExV (K : PySem.W.Frag) (mg : Str → Option Value) (F : Addr → Prop) (ι : List Addr) (H : Hp) (c : Str) (ds : List D) (cls : Value) (dx : Option Addr) : Prop :=
  ∃ C, mg c = some (.ref C) ∧ isExc c = true ∧ cls = .ref C ∧ ((dx = none ∧ ds = []) ∨ ∃ (d : Addr) (f : Str) (v : V) (y : D), dx = some d ∧ ¬ F d ∧ H d = some (.xd [(f, v)]) ∧ ds = [.str f, y] ∧ DV K mg F ι H y v)
/-- what a result is worth from a state on -/
def Post {α β : Type} (K : PySem.W.Frag) (mg : Str → Option Value) (R : Rel α β) (W : WX) (σ : L2.St) (F : Addr → Prop) (ι : List Addr) (H : Hp) (r : Res α) (Q : β → Hp → Prop) : Prop := match r with
  | .ok a mh' => ∀ F' ι' H' b, Step F ι H F' ι' H' → SR K mg F' ι' mh' H' → R F' ι' H' a b → Q b H'
  | .err c ds mh' => ∀ F' ι' H' cls dx, Step F ι H F' ι' H' → SR K mg F' ι' mh' H' → ExV K mg F' ι' H' c ds cls dx → W cls dx σ H'
  | .stuck => False
section
variable {α β γ δ : Type} {K : PySem.W.Frag} {mg : Str → Option Value} {R : Rel α β} {R' : Rel γ δ} {W : WX} {σ : L2.St} {F F1 : Addr → Prop} {ι ι1 : List Addr} {H H1 : Hp} {Q Q' : β → Hp → Prop}
theorem Post.at {r : Res α} (h : Post K mg R W σ F ι H r Q) (st : Step F ι H F1 ι1 H1) : Post K mg R W σ F1 ι1 H1 r Q := by
  cases r with
  | ok a mh => exact fun F' ι' H' b s x y => h F' ι' H' b (st.trans s) x y
  | err c ds mh => exact fun F' ι' H' cls dx s x y => h F' ι' H' cls dx (st.trans s) x y
  | stuck => exact h
theorem Post.mono {r : Res α} (h : Post K mg R W σ F ι H r Q) (k : ∀ b H', Q b H' → Q' b H') : Post K mg R W σ F ι H r Q' := by
  cases r with
  | ok a mh => exact fun F' ι' H' b s x y => k _ _ (h F' ι' H' b s x y)
  | err c ds mh => exact fun F' ι' H' cls dx s x y => h F' ι' H' cls dx s x y
  | stuck => exact h
/-- the state behind a first part, with what is left to be shown -/
structure Nxt (K : PySem.W.Frag) (mg : Str → Option Value) (R : Rel α β) (R' : Rel γ δ) (W : WX) (σ : L2.St) (F : Addr → Prop) (ι : List Addr) (H : Hp) (f : α → List O → Res γ) (Q : δ → Hp → Prop) (b : β) (H1 : Hp) : Prop where
  ex : ∃ F1 ι1 a mh1, Step F ι H F1 ι1 H1 ∧ SR K mg F1 ι1 mh1 H1 ∧ R F1 ι1 H1 a b ∧ Post K mg R' W σ F1 ι1 H1 (f a mh1) Q
theorem Post.bind {r : Res α} {f : α → List O → Res γ} {Q : δ → Hp → Prop} (h : Post K mg R' W σ F ι H (r.bind f) Q) : Post K mg R W σ F ι H r (Nxt K mg R R' W σ F ι H f Q) := by
  cases r with
  | ok a mh => exact fun F' ι' H' b s x y => ⟨F', ι', a, mh, s, x, y, Post.at (r := f a mh) h s⟩
  | err c ds mh => exact fun F' ι' H' cls dx s x y => h F' ι' H' cls dx s x y
  | stuck => exact h
theorem Post.ok {a : α} {mh : List O} {b : β} (h : Post K mg R W σ F ι H (.ok a mh) Q) (sr : SR K mg F ι mh H) (r : R F ι H a b) : Q b H := h F ι H b Step.refl sr r
end

/-- slots -/
def ER (K : PySem.W.Frag) (mg : Str → Option Value) (F : Addr → Prop) (ι : List Addr) (H : Hp) (ρ : En) (σ : L2.St) : Prop :=
  ρ.length = σ.length ∧ ∀ (i : Nat) (d : D), ρ[i]? = some (some d) → ∃ v, σ[i]? = some (some v) ∧ DV K mg F ι H d v
section
variable {K : PySem.W.Frag} {mg : Str → Option Value} {F F' : Addr → Prop} {ι ι' : List Addr} {H H' : Hp} {ρ : En} {σ : L2.St}
theorem ER.to (h : ER K mg F ι H ρ σ) (sub : ∀ a, a ∈ ι → F a) (st : Step F ι H F' ι' H') : ER K mg F' ι' H' ρ σ :=
  ⟨h.1, fun i d e => let ⟨v, q, r⟩ := h.2 i d e; ⟨v, q, DV.to sub st _ _ r⟩⟩
theorem ER.set {i : Nat} {d : D} {v : V} (h : ER K mg F ι H ρ σ) (r : DV K mg F ι H d v) : ER K mg F ι H (ρ.set i (some d)) (σ.set i (some v)) := by
  refine ⟨by rw [List.length_set, List.length_set]; exact h.1, fun j e q => ?_⟩
  by_cases hj : i = j
  · subst hj
    by_cases hl : i < ρ.length
    · rw [List.getElem?_set_self hl] at q
      cases q
      exact ⟨v, List.getElem?_set_self (by rw [← h.1]; exact hl), r⟩
    · rw [List.getElem?_eq_none (by rw [List.length_set]; omega)] at q; cases q
  · rw [List.getElem?_set_ne hj] at q
    obtain ⟨w, e1, e2⟩ := h.2 j e q
    exact ⟨w, by rw [List.getElem?_set_ne hj]; exact e1, e2⟩
theorem ER.clear {i : Nat} (h : ER K mg F ι H ρ σ) : ER K mg F ι H (ρ.set i none) (σ.set i none) := by
  refine ⟨by rw [List.length_set, List.length_set]; exact h.1, fun j e q => ?_⟩
  by_cases hj : i = j
  · subst hj
    by_cases hl : i < ρ.length
    · rw [List.getElem?_set_self hl] at q; cases q
    · rw [List.getElem?_eq_none (by rw [List.length_set]; omega)] at q; cases q
  · rw [List.getElem?_set_ne hj] at q
    obtain ⟨w, e1, e2⟩ := h.2 j e q
    exact ⟨w, by rw [List.getElem?_set_ne hj]; exact e1, e2⟩
end
end G

/-! Part B: judgements over the readings; expressions. -/
namespace G
open PySem PySem.Spec PyProof.Rows L2

abbrev DR (X : Cx) : Rel D V := fun F ι H d v => DV X.K X.mg F ι H d v
abbrev DRs (X : Cx) : Rel (List D) (List V) := fun F ι H d v => DVs X.K X.mg F ι H d v
abbrev BR : Rel Bool Bool := fun _ _ _ a b => a = b

structure Cc (k : Nat) (X : Cx) (W : WX) : Prop where
  calm : X.calm = true
  nd : X.N.Nodup
  tk : Takes X W
  hr : Room k X.A
  po : PassesOwn (model X.prog X.w) X.A X.env X.xe
theorem Cc.hu {k : Nat} {X : Cx} {W : WX} (c : Cc k X W) : X.A.units + 64 < cLine := c.hr.units

structure JE (X : Cx) (W : WX) (e : Expr) (f : CE) : Prop where
  ex : ∃ t, PE X e t ∧ ∀ (ρ : En) (mh : List O) (F : Addr → Prop) (ι : List Addr) (σ : L2.St) (H : Hp) (Q : VK), SR X.K X.mg F ι mh H → ER X.K X.mg F ι H ρ σ → Post X.K X.mg (DR X) W σ F ι H (f ρ mh) Q → t σ H Q
structure JT (X : Cx) (W : WX) (e : Expr) (f : CT) : Prop where
  ex : ∃ t, PT X e t ∧ ∀ (ρ : En) (mh : List O) (F : Addr → Prop) (ι : List Addr) (σ : L2.St) (H : Hp) (Q : Bool → Hp → Prop), SR X.K X.mg F ι mh H → ER X.K X.mg F ι H ρ σ → Post X.K X.mg BR W σ F ι H (f ρ mh) Q → t σ H Q
structure JW (X : Cx) (W : WX) (e : Expr) (f : CT) : Prop where
  ex : ∃ t, PW X e t ∧ ∀ (ρ : En) (mh : List O) (F : Addr → Prop) (ι : List Addr) (σ : L2.St) (H : Hp) (Q : Bool → Hp → Prop), SR X.K X.mg F ι mh H → ER X.K X.mg F ι H ρ σ → Post X.K X.mg BR W σ F ι H (f ρ mh) Q → t σ H Q
structure JA (X : Cx) (W : WX) (es : List Expr) (f : CA) : Prop where
  ex : ∃ t, PA X es t ∧ ∀ (ρ : En) (mh : List O) (F : Addr → Prop) (ι : List Addr) (σ : L2.St) (H : Hp) (Q : List V → Hp → Prop), SR X.K X.mg F ι mh H → ER X.K X.mg F ι H ρ σ → Post X.K X.mg (DRs X) W σ F ι H (f ρ mh) Q → t σ H Q
theorem JW.jt {X : Cx} {W : WX} {e : Expr} {f : CT} (h : JW X W e f) : JT X W e f := by
  obtain ⟨t, p, q⟩ := h.ex
  exact ⟨t, p.pt, q⟩

/-! ### names, constants -/
def cVar (i : Nat) : CE := fun ρ mh => match ρ[i]? with
  | some (some d) => .ok d mh
  | _ => .stuck
def cK (d : D) : CE := fun _ mh => .ok d mh
section
variable {X : Cx} {W : WX} {k : Nat} {pos : Pos}
theorem j_var (i : Nat) {x : Str} (hN : X.N[i]? = some x := by rfl) (hv : Vis X.env.scope x := by first | exact Or.inl rfl | exact Or.inr (Or.inl rfl) | exact Or.inr (Or.inr rfl)) (hd : (x == ("__debug__" : Str)) = false := by decide)
    (hcd : (x == ("__classdict__" : Str)) = false := by decide) : JE X W (.Name x pos) (cVar i) := by
  refine ⟨tVar i, pe_var hN hv hd hcd, fun ρ mh F ι σ H Q sr er h => ?_⟩
  unfold cVar at h
  split at h
  · rename_i d e
    obtain ⟨v, q, r⟩ := er.2 i d e
    exact ⟨v, q, h.ok sr r⟩
  · exact h.elim
theorem j_int {i j} : JE X W (.Constant (.int i) j pos) (cK (.int i)) := ⟨_, pe_int, fun _ _ _ _ _ _ _ sr _ h => h.ok sr (.int i)⟩
theorem j_bl {b j} : JE X W (.Constant (.bool b) j pos) (cK (.bl b)) := ⟨_, pe_bl, fun _ _ _ _ _ _ _ sr _ h => h.ok sr (.bl b)⟩
theorem j_non {j} : JE X W (.Constant .none j pos) (cK .non) := ⟨_, pe_non, fun _ _ _ _ _ _ _ sr _ h => h.ok sr .non⟩
theorem j_str {x j} : JE X W (.Constant (.str x) j pos) (cK (.str x)) := ⟨_, pe_str, fun _ _ _ _ _ _ _ sr _ h => h.ok sr (.str x)⟩
/-- a class or a def of the module, as a value -/
theorem j_glb {x : Str} {v : V} {u : Value} (hm : X.mg x = some u) (r : RelV v u) (hg : Gl X x := by rfl) (hd : (x == ("__debug__" : Str)) = false := by decide) : JE X W (.Name x pos) (cK (.glb x)) :=
  ⟨_, pe_glob hg hm r hd, fun _ _ _ _ _ _ _ sr _ h => h.ok sr (.glb hm r)⟩
/-- a constant of the module -/
theorem j_glbI {x : Str} {i : Int} {t : Tok} (hm : X.mg x = some (.int i t)) (hg : Gl X x := by rfl) (hd : (x == ("__debug__" : Str)) = false := by decide) : JE X W (.Name x pos) (cK (.int i)) :=
  ⟨_, pe_glob (v := .int i) hg hm ⟨t, rfl⟩ hd, fun _ _ _ _ _ _ _ sr _ h => h.ok sr (.int i)⟩
theorem j_glbS {x : Str} {z : Str} {t : Tok} (hm : X.mg x = some (.str z t)) (hg : Gl X x := by rfl) (hd : (x == ("__debug__" : Str)) = false := by decide) : JE X W (.Name x pos) (cK (.str z)) :=
  ⟨_, pe_glob (v := .str z) hg hm ⟨t, rfl⟩ hd, fun _ _ _ _ _ _ _ sr _ h => h.ok sr (.str z)⟩
theorem j_bltn {x : Str} {n : String} (hm : X.mg x = none) (hv : bootBuiltins x = some (.type n)) (hg : Gl X x := by rfl) (hn : x ≠ "__name__" := by decide) (hd : (x == ("__debug__" : Str)) = false := by decide) : JE X W (.Name x pos) (cK (.ty n)) :=
  ⟨_, pe_bltn (v := .ty n) hg hm hv rfl hn hd, fun _ _ _ _ _ _ _ sr _ h => h.ok sr (.ty n)⟩
end

/-! ### operations by values -/
/-- the reading r is worth the operation o -/
def VO1 (X : Cx) (r : V → Hp → VK → Prop) (o : D → List O → Res D) : Prop :=
  ∀ (W : WX) (σ : L2.St) (F : Addr → Prop) (ι : List Addr) (mh : List O) (H : Hp) (d : D) (v : V) (Q : VK), SR X.K X.mg F ι mh H → DV X.K X.mg F ι H d v → Post X.K X.mg (DR X) W σ F ι H (o d mh) Q → r v H Q
def VO2 (X : Cx) (r : R2) (o : D → D → List O → Res D) : Prop :=
  ∀ (W : WX) (σ : L2.St) (F : Addr → Prop) (ι : List Addr) (mh : List O) (H : Hp) (d e : D) (v u : V) (Q : VK), SR X.K X.mg F ι mh H → DV X.K X.mg F ι H d v → DV X.K X.mg F ι H e u → Post X.K X.mg (DR X) W σ F ι H (o d e mh) Q → r v u H Q
def VOL (X : Cx) (r : List V → Hp → VK → Prop) (o : List D → List O → Res D) : Prop :=
  ∀ (W : WX) (σ : L2.St) (F : Addr → Prop) (ι : List Addr) (mh : List O) (H : Hp) (ds : List D) (vs : List V) (Q : VK), SR X.K X.mg F ι mh H → DVs X.K X.mg F ι H ds vs → Post X.K X.mg (DR X) W σ F ι H (o ds mh) Q → r vs H Q

def c1 (o : D → List O → Res D) (f : CE) : CE := fun ρ mh => (f ρ mh).bind o
def c2 (o : D → D → List O → Res D) (f g : CE) : CE := fun ρ mh => (f ρ mh).bind fun x m => (g ρ m).bind fun y m' => o x y m'
def cL (o : List D → List O → Res D) (f : CA) : CE := fun ρ mh => (f ρ mh).bind o
def cNil : CA := fun _ mh => .ok [] mh
def cCons (f : CE) (g : CA) : CA := fun ρ mh => (f ρ mh).bind fun x m => (g ρ m).bind fun xs m' => .ok (x :: xs) m'
section
variable {X : Cx} {W : WX} {k : Nat} {pos : Pos} {a b : Expr} {fa fb : CE}
theorem two {ta tb : TE} {σ : L2.St} {r : R2} {o : D → D → List O → Res D}
    (qa : ∀ (ρ : En) (mh : List O) (F : Addr → Prop) (ι : List Addr) (σ : L2.St) (H : Hp) (Q : VK), SR X.K X.mg F ι mh H → ER X.K X.mg F ι H ρ σ → Post X.K X.mg (DR X) W σ F ι H (fa ρ mh) Q → ta σ H Q)
    (qb : ∀ (ρ : En) (mh : List O) (F : Addr → Prop) (ι : List Addr) (σ : L2.St) (H : Hp) (Q : VK), SR X.K X.mg F ι mh H → ER X.K X.mg F ι H ρ σ → Post X.K X.mg (DR X) W σ F ι H (fb ρ mh) Q → tb σ H Q)
    (vo : VO2 X r o) {ρ : En} {mh : List O} {F : Addr → Prop} {ι : List Addr} {H : Hp} {Q : VK} (sr : SR X.K X.mg F ι mh H) (er : ER X.K X.mg F ι H ρ σ)
    (h : Post X.K X.mg (DR X) W σ F ι H (c2 o fa fb ρ mh) Q) : ta σ H fun x H1 => tb σ H1 fun y H2 => r x y H2 Q := by
  refine qa ρ mh F ι σ H _ sr er (h.bind.mono fun x H1 ⟨F1, ι1, d1, m1, st1, sr1, r1, h1⟩ => ?_)
  refine qb ρ m1 F1 ι1 σ H1 _ sr1 (er.to sr.sub st1) (h1.bind.mono fun y H2 ⟨F2, ι2, d2, m2, st2, sr2, r2, h2⟩ => ?_)
  exact vo W σ F2 ι2 m2 H2 d1 d2 x y Q sr2 (DV.to sr1.sub st2 _ _ r1) r2 h2
theorem j_op {op : Operator} {r : R2} {o : D → D → List O → Res D} (ho : OpR X (binaryOp op) r) (vo : VO2 X r o) (ha : JE X W a fa) (hb : JE X W b fb) : JE X W (.BinOp a op b pos) (c2 o fa fb) := by
  obtain ⟨ta, pa, qa⟩ := ha.ex
  obtain ⟨tb, pb, qb⟩ := hb.ex
  exact ⟨_, pe_op ho pa pb, fun ρ mh F ι σ H Q sr er h => two qa qb vo sr er h⟩
theorem j_un {op : UnaryOp} {r : V → Hp → VK → Prop} {o : D → List O → Res D} (ho : UnR X (unaryOp op) r) (vo : VO1 X r o) (ha : JE X W a fa) : JE X W (.UnaryOp op a pos) (c1 o fa) := by
  obtain ⟨ta, pa, qa⟩ := ha.ex
  refine ⟨_, pe_un ho pa, fun ρ mh F ι σ H Q sr er h => ?_⟩
  exact qa ρ mh F ι σ H _ sr er (h.bind.mono fun x H1 ⟨F1, ι1, d1, m1, st1, sr1, r1, h1⟩ => vo W σ F1 ι1 m1 H1 d1 x Q sr1 r1 h1)
theorem j_cmp {op : CmpOp} {r : R2} {o : D → D → List O → Res D} (ho : OpR X (compareOp op) r) (vo : VO2 X r o) (ha : JE X W a fa) (hb : JE X W b fb) (hm : behindInMarks op b = false := by first | exact nomark _ | with_unfolding_all rfl) : JE X W (.Compare a [op] [b] pos) (c2 o fa fb) := by
  obtain ⟨ta, pa, qa⟩ := ha.ex
  obtain ⟨tb, pb, qb⟩ := hb.ex
  exact ⟨_, pe_cmpR ho pa pb hm, fun ρ mh F ι σ H Q sr er h => two qa qb vo sr er h⟩
def isB (d : D) (mh : List O) : Res Bool := match d with
  | .bl b => .ok b mh
  | _ => .stuck
def cB (f : CE) : CT := fun ρ mh => (f ρ mh).bind isB
theorem post_isB {d : D} {v : V} {mh : List O} {F : Addr → Prop} {ι : List Addr} {σ : L2.St} {H : Hp} {Q : Bool → Hp → Prop} (sr : SR X.K X.mg F ι mh H) (r : DV X.K X.mg F ι H d v) (h : Post X.K X.mg BR W σ F ι H (isB d mh) Q) : ∃ c, v = .bl c ∧ Q c H := by
  unfold isB at h
  split at h
  · cases r
    exact ⟨_, rfl, h.ok sr rfl⟩
  · exact h.elim
theorem j_tst {e : Expr} {f : CE} (he : JE X W e f) (hh : ∀ whole, isTrue e X.env whole = (do let v ← whole; standAt e.pos; holding [v] (truthy v)) := by intro _; rfl) : JT X W e (cB f) := by
  obtain ⟨t, p, q⟩ := he.ex
  refine ⟨_, pt_val p hh, fun ρ mh F ι σ H Q sr er h => ?_⟩
  exact q ρ mh F ι σ H _ sr er (h.bind.mono fun x H1 ⟨F1, ι1, d1, m1, st1, sr1, r1, h1⟩ => post_isB sr1 r1 h1)
theorem t_cmp {op : CmpOp} {r : R2} {o : D → D → List O → Res D} (ho : OpR X (compareOp op) r) (vo : VO2 X r o) (ha : JE X W a fa) (hb : JE X W b fb) (hm : behindInMarks op b = false := by first | exact nomark _ | with_unfolding_all rfl) : JT X W (.Compare a [op] [b] pos) (cB (c2 o fa fb)) := by
  obtain ⟨ta, pa, qa⟩ := ha.ex
  obtain ⟨tb, pb, qb⟩ := hb.ex
  refine ⟨_, pt_cmpR ho pa pb hm, fun ρ mh F ι σ H Q sr er h => ?_⟩
  have h' : Post X.K X.mg (DR X) W σ F ι H (c2 o fa fb ρ mh) _ := Post.bind (R := DR X) h
  exact two qa qb vo sr er (h'.mono fun x H1 ⟨F1, ι1, d1, m1, st1, sr1, r1, h1⟩ => post_isB sr1 r1 h1)
/-! chains -/
def cChain (o o' : D → D → List O → Res D) (fa fb fc : CE) : CE := fun ρ mh => (fa ρ mh).bind fun x m => (fb ρ m).bind fun y m1 => (o x y m1).bind fun z m2 => (isB z m2).bind fun b m3 =>
  if b = true then (fc ρ m3).bind fun w m4 => o' y w m4 else .ok (.bl false) m3
theorem chain_ok {r r' : R2} {o o' : D → D → List O → Res D} {ta tb tc : TE} {fc : CE} (vo : VO2 X r o) (vo' : VO2 X r' o')
    (qa : ∀ (ρ : En) (mh : List O) (F : Addr → Prop) (ι : List Addr) (σ : L2.St) (H : Hp) (Q : VK), SR X.K X.mg F ι mh H → ER X.K X.mg F ι H ρ σ → Post X.K X.mg (DR X) W σ F ι H (fa ρ mh) Q → ta σ H Q)
    (qb : ∀ (ρ : En) (mh : List O) (F : Addr → Prop) (ι : List Addr) (σ : L2.St) (H : Hp) (Q : VK), SR X.K X.mg F ι mh H → ER X.K X.mg F ι H ρ σ → Post X.K X.mg (DR X) W σ F ι H (fb ρ mh) Q → tb σ H Q)
    (qc : ∀ (ρ : En) (mh : List O) (F : Addr → Prop) (ι : List Addr) (σ : L2.St) (H : Hp) (Q : VK), SR X.K X.mg F ι mh H → ER X.K X.mg F ι H ρ σ → Post X.K X.mg (DR X) W σ F ι H (fc ρ mh) Q → tc σ H Q)
    {ρ : En} {mh : List O} {F : Addr → Prop} {ι : List Addr} {σ : L2.St} {H : Hp} {Q : VK} (sr : SR X.K X.mg F ι mh H) (er : ER X.K X.mg F ι H ρ σ)
    (h : Post X.K X.mg (DR X) W σ F ι H (cChain o o' fa fb fc ρ mh) Q) : tChain r r' ta tb tc σ H Q := by
  refine qa ρ mh F ι σ H _ sr er (h.bind.mono fun x H1 ⟨F1, ι1, d1, m1, st1, sr1, r1, h1⟩ => ?_)
  refine qb ρ m1 F1 ι1 σ H1 _ sr1 (er.to sr.sub st1) (h1.bind.mono fun y H2 ⟨F2, ι2, d2, m2, st2, sr2, r2, h2⟩ => ?_)
  refine vo W σ F2 ι2 m2 H2 d1 d2 x y _ sr2 (DV.to sr1.sub st2 _ _ r1) r2 ((Post.bind (R := DR X) h2).mono fun z H3 ⟨F3, ι3, d3, m3, st3, sr3, r3, h3⟩ => ?_)
  have h4 := Post.bind (R := BR) h3
  obtain ⟨c, rfl, n4⟩ := post_isB sr3 r3 h4
  obtain ⟨F4, ι4, b, m4, st4, sr4, e4, h5⟩ := n4.ex
  have e5 : b = c := e4
  subst e5
  refine ⟨b, rfl, ?_⟩
  cases b with
  | false =>
    rw [if_neg Bool.false_ne_true] at h5 ⊢
    exact h5.ok sr4 (.bl false)
  | true =>
    rw [if_pos rfl] at h5 ⊢
    have st24 := st3.trans st4
    refine qc ρ m4 F4 ι4 σ H3 _ sr4 ((er.to sr.sub (st1.trans st2)).to sr2.sub st24) (h5.bind.mono fun w' H5 ⟨F5, ι5, d5, m5, st5, sr5, r5, h6⟩ => ?_)
    exact vo' W σ F5 ι5 m5 H5 d2 d5 y w' Q sr5 (DV.to sr2.sub (st24.trans st5) _ _ r2) r5 h6
theorem j_chain {op op' : CmpOp} {r r' : R2} {o o' : D → D → List O → Res D} {c : Expr} {fc : CE} (ho : OpR X (compareOp op) r) (vo : VO2 X r o) (ho' : OpR X (compareOp op') r') (vo' : VO2 X r' o') (ha : JE X W a fa) (hb : JE X W b fb) (hc : JE X W c fc)
    (hm : lastMarks [op, op'] [b, c] = false := by with_unfolding_all rfl) : JE X W (.Compare a [op, op'] [b, c] pos) (cChain o o' fa fb fc) := by
  obtain ⟨ta, pa, qa⟩ := ha.ex
  obtain ⟨tb, pb, qb⟩ := hb.ex
  obtain ⟨tc, pc, qc⟩ := hc.ex
  exact ⟨_, pe_chain ho ho' pa pb pc hm, fun ρ mh F ι σ H Q sr er h => chain_ok vo vo' qa qb qc sr er h⟩
theorem t_chain {op op' : CmpOp} {r r' : R2} {o o' : D → D → List O → Res D} {c : Expr} {fc : CE} (ho : OpR X (compareOp op) r) (vo : VO2 X r o) (ho' : OpR X (compareOp op') r') (vo' : VO2 X r' o') (ha : JE X W a fa) (hb : JE X W b fb) (hc : JE X W c fc)
    (hm : lastMarks [op, op'] [b, c] = false := by with_unfolding_all rfl) : JT X W (.Compare a [op, op'] [b, c] pos) (cB (cChain o o' fa fb fc)) := by
  obtain ⟨ta, pa, qa⟩ := ha.ex
  obtain ⟨tb, pb, qb⟩ := hb.ex
  obtain ⟨tc, pc, qc⟩ := hc.ex
  refine ⟨_, pt_chain ho ho' pa pb pc hm, fun ρ mh F ι σ H Q sr er h => ?_⟩
  have h' : Post X.K X.mg (DR X) W σ F ι H (cChain o o' fa fb fc ρ mh) _ := Post.bind (R := DR X) h
  exact chain_ok vo vo' qa qb qc sr er (h'.mono fun x H1 ⟨F1, ι1, d1, m1, st1, sr1, r1, h1⟩ => post_isB sr1 r1 h1)
end

/-! ### and, or, not, if -/
def tAnd2 (f g : CT) : CT := fun ρ mh => (f ρ mh).bind fun b m => if b = true then g ρ m else .ok false m
def tOr2 (f g : CT) : CT := fun ρ mh => (f ρ mh).bind fun b m => if b = true then .ok true m else g ρ m
def tNot1 (f : CT) : CT := fun ρ mh => (f ρ mh).bind fun b m => .ok (!b) m
def cOfT (f : CT) : CE := fun ρ mh => (f ρ mh).bind fun b m => .ok (.bl b) m
def cIf (t : CT) (f g : CE) : CE := fun ρ mh => (t ρ mh).bind fun b m => if b = true then f ρ m else g ρ m
def cAnd2 (f g : CE) : CE := fun ρ mh => (f ρ mh).bind fun x m => (isB x m).bind fun b m => if b = true then g ρ m else .ok (.bl false) m
def cOr2 (f g : CE) : CE := fun ρ mh => (f ρ mh).bind fun x m => (isB x m).bind fun b m => if b = true then .ok (.bl true) m else g ρ m
def cNot1 (f : CE) : CE := fun ρ mh => (f ρ mh).bind fun x m => (isB x m).bind fun b m => .ok (.bl (!b)) m
section
variable {X : Cx} {W : WX} {k : Nat} {pos : Pos} {a b : Expr} {rest : List Expr}
theorem w_and1 {f : CT} (h : JT X W a f) : JW X W (.BoolOp .And [a] pos) f := by
  obtain ⟨t, p, q⟩ := h.ex
  exact ⟨_, pw_and1 p, q⟩
theorem w_or1 {f : CT} (h : JT X W a f) : JW X W (.BoolOp .Or [a] pos) f := by
  obtain ⟨t, p, q⟩ := h.ex
  exact ⟨_, pw_or1 p, q⟩
theorem w_and {f g : CT} (h : JT X W a f) (h' : JW X W (.BoolOp .And (b :: rest) pos) g) : JW X W (.BoolOp .And (a :: b :: rest) pos) (tAnd2 f g) := by
  obtain ⟨t, p, q⟩ := h.ex
  obtain ⟨t', p', q'⟩ := h'.ex
  refine ⟨_, pw_and p p', fun ρ mh F ι σ H Q sr er h => ?_⟩
  refine q ρ mh F ι σ H _ sr er (h.bind.mono fun c H1 ⟨F1, ι1, d1, m1, st1, sr1, r1, h1⟩ => ?_)
  have e : d1 = c := r1
  subst e
  cases d1 with
  | true => rw [if_pos rfl] at h1 ⊢; exact q' ρ m1 F1 ι1 σ H1 Q sr1 (er.to sr.sub st1) h1
  | false => rw [if_neg Bool.false_ne_true] at h1 ⊢; exact h1.ok sr1 rfl
theorem w_or {f g : CT} (h : JT X W a f) (h' : JW X W (.BoolOp .Or (b :: rest) pos) g) : JW X W (.BoolOp .Or (a :: b :: rest) pos) (tOr2 f g) := by
  obtain ⟨t, p, q⟩ := h.ex
  obtain ⟨t', p', q'⟩ := h'.ex
  refine ⟨_, pw_or p p', fun ρ mh F ι σ H Q sr er h => ?_⟩
  refine q ρ mh F ι σ H _ sr er (h.bind.mono fun c H1 ⟨F1, ι1, d1, m1, st1, sr1, r1, h1⟩ => ?_)
  have e : d1 = c := r1
  subst e
  cases d1 with
  | true => rw [if_pos rfl] at h1 ⊢; exact h1.ok sr1 rfl
  | false => rw [if_neg Bool.false_ne_true] at h1 ⊢; exact q' ρ m1 F1 ι1 σ H1 Q sr1 (er.to sr.sub st1) h1
theorem t_not {f : CT} (h : JT X W a f) : JT X W (.UnaryOp .Not a pos) (tNot1 f) := by
  obtain ⟨t, p, q⟩ := h.ex
  refine ⟨_, pt_not p, fun ρ mh F ι σ H Q sr er h => ?_⟩
  refine q ρ mh F ι σ H _ sr er (h.bind.mono fun c H1 ⟨F1, ι1, d1, m1, st1, sr1, r1, h1⟩ => ?_)
  have e : d1 = c := r1
  subst e
  exact h1.ok sr1 rfl
theorem j_one {op} {f : CE} (h : JE X W a f) : JE X W (.BoolOp op [a] pos) f := by
  obtain ⟨t, p, q⟩ := h.ex
  exact ⟨_, pe_one p, q⟩
theorem j_and {f g : CE} (h : JE X W a f) (h' : JE X W (.BoolOp .And (b :: rest) pos) g) : JE X W (.BoolOp .And (a :: b :: rest) pos) (cAnd2 f g) := by
  obtain ⟨t, p, q⟩ := h.ex
  obtain ⟨t', p', q'⟩ := h'.ex
  refine ⟨_, pe_and p p', fun ρ mh F ι σ H Q sr er h => ?_⟩
  refine q ρ mh F ι σ H _ sr er (h.bind.mono fun x H1 ⟨F1, ι1, d1, m1, st1, sr1, r1, h1⟩ => ?_)
  obtain ⟨c, rfl, n⟩ := post_isB sr1 r1 (Post.bind (R := BR) h1)
  obtain ⟨F4, ι4, b, m4, st4, sr4, e4, h5⟩ := n.ex
  have e5 : b = c := e4
  subst e5
  refine ⟨b, rfl, ?_⟩
  cases b with
  | true => rw [if_pos rfl] at h5 ⊢; exact q' ρ m4 F4 ι4 σ H1 Q sr4 (er.to sr.sub (st1.trans st4)) h5
  | false => rw [if_neg Bool.false_ne_true] at h5 ⊢; exact h5.ok sr4 (.bl false)
theorem j_or {f g : CE} (h : JE X W a f) (h' : JE X W (.BoolOp .Or (b :: rest) pos) g) : JE X W (.BoolOp .Or (a :: b :: rest) pos) (cOr2 f g) := by
  obtain ⟨t, p, q⟩ := h.ex
  obtain ⟨t', p', q'⟩ := h'.ex
  refine ⟨_, pe_or p p', fun ρ mh F ι σ H Q sr er h => ?_⟩
  refine q ρ mh F ι σ H _ sr er (h.bind.mono fun x H1 ⟨F1, ι1, d1, m1, st1, sr1, r1, h1⟩ => ?_)
  obtain ⟨c, rfl, n⟩ := post_isB sr1 r1 (Post.bind (R := BR) h1)
  obtain ⟨F4, ι4, b, m4, st4, sr4, e4, h5⟩ := n.ex
  have e5 : b = c := e4
  subst e5
  refine ⟨b, rfl, ?_⟩
  cases b with
  | true => rw [if_pos rfl] at h5 ⊢; exact h5.ok sr4 (.bl true)
  | false => rw [if_neg Bool.false_ne_true] at h5 ⊢; exact q' ρ m4 F4 ι4 σ H1 Q sr4 (er.to sr.sub (st1.trans st4)) h5
theorem j_not {f : CE} (h : JE X W a f) : JE X W (.UnaryOp .Not a pos) (cNot1 f) := by
  obtain ⟨t, p, q⟩ := h.ex
  refine ⟨_, pe_not p, fun ρ mh F ι σ H Q sr er h => ?_⟩
  refine q ρ mh F ι σ H _ sr er (h.bind.mono fun x H1 ⟨F1, ι1, d1, m1, st1, sr1, r1, h1⟩ => ?_)
  obtain ⟨c, rfl, n⟩ := post_isB sr1 r1 (Post.bind (R := BR) h1)
  obtain ⟨F4, ι4, b, m4, st4, sr4, e4, h5⟩ := n.ex
  have e5 : b = c := e4
  subst e5
  exact ⟨b, rfl, h5.ok sr4 (.bl _)⟩
theorem j_if {c : Expr} {t : CT} {f g : CE} (hc : JT X W c t) (ha : JE X W a f) (hb : JE X W b g) : JE X W (.IfExp c a b pos) (cIf t f g) := by
  obtain ⟨tc, pc, qc⟩ := hc.ex
  obtain ⟨ta, pa, qa⟩ := ha.ex
  obtain ⟨tb, pb, qb⟩ := hb.ex
  refine ⟨_, pe_ifExp pc pa pb, fun ρ mh F ι σ H Q sr er h => ?_⟩
  refine qc ρ mh F ι σ H _ sr er (h.bind.mono fun c H1 ⟨F1, ι1, d1, m1, st1, sr1, r1, h1⟩ => ?_)
  have e : d1 = c := r1
  subst e
  cases d1 with
  | true => rw [if_pos rfl] at h1 ⊢; exact qa ρ m1 F1 ι1 σ H1 Q sr1 (er.to sr.sub st1) h1
  | false => rw [if_neg Bool.false_ne_true] at h1 ⊢; exact qb ρ m1 F1 ι1 σ H1 Q sr1 (er.to sr.sub st1) h1
end

/-! ### argument lists, displays, calls of built-ins -/
def oTup (ds : List D) (mh : List O) : Res D := if ds.length ≤ sizeLine then .ok (.tup ds) mh else .stuck
def oLst (ds : List D) (mh : List O) : Res D := if ds.length ≤ sizeLine then .ok (.lst ds) mh else .stuck
/-- a list that is to be written -/
def oNew (ds : List D) (mh : List O) : Res D := if ds.length ≤ sizeLine then .ok (.ref mh.length) (mh ++ [.lst ds]) else .stuck
section
variable {X : Cx} {W : WX} {k : Nat} {pos : Pos} {e : Expr} {es : List Expr}
theorem a_nil : JA X W [] cNil := ⟨_, pa_nil, fun _ _ _ _ _ _ _ sr _ h => h.ok sr .nil⟩
theorem a_cons {f : CE} {g : CA} (h : JE X W e f) (h' : JA X W es g) (hs : starEach (e :: es) X.env = (false, eval e X.env) :: starEach es X.env := by rfl) : JA X W (e :: es) (cCons f g) := by
  obtain ⟨t, p, q⟩ := h.ex
  obtain ⟨t', p', q'⟩ := h'.ex
  refine ⟨_, pa_cons p p' hs, fun ρ mh F ι σ H Q sr er h => ?_⟩
  refine q ρ mh F ι σ H _ sr er (h.bind.mono fun x H1 ⟨F1, ι1, d1, m1, st1, sr1, r1, h1⟩ => ?_)
  refine q' ρ m1 F1 ι1 σ H1 _ sr1 (er.to sr.sub st1) (h1.bind.mono fun xs H2 ⟨F2, ι2, ds, m2, st2, sr2, r2, h2⟩ => ?_)
  exact h2.ok sr2 (.cons (DV.to sr1.sub st2 _ _ r1) r2)
variable {F : Addr → Prop} {ι : List Addr} {σ : L2.St} {H : Hp} {Q : VK} {mh : List O}
theorem post_tup {ds : List D} {vs : List V} (sr : SR X.K X.mg F ι mh H) (r : DVs X.K X.mg F ι H ds vs) (h : Post X.K X.mg (DR X) W σ F ι H (oTup ds mh) Q) : vs.length ≤ sizeLine ∧ ∀ p, H p = none → Q (.ref p) (upd H p (.tup vs)) := by
  unfold oTup at h
  split at h
  · rename_i hl
    refine ⟨by rw [← r.length]; exact hl, fun p hp => ?_⟩
    have st : Step F ι H F ι (upd H p (.tup vs)) := step_new hp
    exact h F ι _ _ st (sr.fresh hp) (.tup (.inl upd_same) (DVs.to sr.sub st _ _ r))
  · exact h.elim
theorem post_lst {ds : List D} {vs : List V} (sr : SR X.K X.mg F ι mh H) (r : DVs X.K X.mg F ι H ds vs) (h : Post X.K X.mg (DR X) W σ F ι H (oLst ds mh) Q) : vs.length ≤ sizeLine ∧ ∀ p, H p = none → Q (.ref p) (upd H p (.lst vs)) := by
  unfold oLst at h
  split at h
  · rename_i hl
    refine ⟨by rw [← r.length]; exact hl, fun p hp => ?_⟩
    have st : Step F ι H F ι (upd H p (.lst vs)) := step_new hp
    exact h F ι _ _ st (sr.fresh hp) (.lst (.inl ⟨.inl upd_same, sr.notNew hp⟩) (DVs.to sr.sub st _ _ r))
  · exact h.elim
/-- a new object that may be written -/
theorem alloc {K : PySem.W.Frag} {mg : Str → Option Value} {p : Addr} {u : HO} {o : O} (sr : SR K mg F ι mh H) (hp : H p = none) (ho : ∀ F' ι', Step F ι H F' ι' (upd H p u) → OV K mg F' ι' (upd H p u) p o) :
    Step F ι H (fun a => F a ∨ a = p) (ι ++ [p]) (upd H p u) ∧ SR K mg (fun a => F a ∨ a = p) (ι ++ [p]) (mh ++ [o]) (upd H p u) := by
  have st0 : Step F ι H F ι (upd H p u) := step_new hp
  have st : Step F ι H (fun a => F a ∨ a = p) (ι ++ [p]) (upd H p u) := ⟨List.prefix_append _ _, fun _ h => .inl h, fun a h => by
    rcases h with h | h
    · exact .inl h
    · subst h; exact .inr hp, fun a h => by
    rcases List.mem_append.mp h with h | h
    · exact .inl h
    · rw [List.mem_singleton.mp h]; exact .inr hp, st0.keep, st0.tups, st0.live⟩
  have np : p ∉ ι := fun h => sr.old p (sr.sub p h) hp
  refine ⟨st, ⟨by simp [sr.len], ?_, fun n o' a e1 e2 => ?_, fun a h => ?_, fun a h => ?_, tabs_new sr.tabs hp⟩⟩
  · rw [List.nodup_append]
    refine ⟨sr.nd, by simp, fun a h b h' e => ?_⟩
    rw [List.mem_singleton.mp h'] at e
    exact np (e ▸ h)
  · by_cases hn : n < mh.length
    · rw [List.getElem?_append_left hn] at e1
      rw [List.getElem?_append_left (by rw [sr.len]; exact hn)] at e2
      have na : a ≠ p := fun z => np (z ▸ List.mem_of_getElem? e2)
      exact (sr.ob n o' a e1 e2).to sr.sub st (upd_ne na)
    · rw [List.getElem?_append_right (by omega)] at e1
      rw [List.getElem?_append_right (by rw [sr.len]; omega)] at e2
      have hn1 : n - mh.length = 0 := by
        have := (List.getElem?_eq_some_iff.mp e1).1
        simpa using this
      rw [hn1] at e1
      rw [sr.len, hn1] at e2
      simp at e1 e2
      subst e1 e2
      exact ho _ _ st
  · rcases List.mem_append.mp h with h | h
    · exact .inl (sr.sub a h)
    · exact .inr (List.mem_singleton.mp h)
  · rcases h with h | h
    · have na : a ≠ p := fun z => sr.old a h (by rw [z]; exact hp)
      rw [upd_ne na]; exact sr.old a h
    · subst h; rw [upd_same]; exact fun z => nomatch z
theorem post_new {ds : List D} {vs : List V} (sr : SR X.K X.mg F ι mh H) (r : DVs X.K X.mg F ι H ds vs) (h : Post X.K X.mg (DR X) W σ F ι H (oNew ds mh) Q) : vs.length ≤ sizeLine ∧ ∀ p, H p = none → Q (.ref p) (upd H p (.lst vs)) := by
  unfold oNew at h
  split at h
  · rename_i hl
    refine ⟨by rw [← r.length]; exact hl, fun p hp => ?_⟩
    obtain ⟨st, sr'⟩ := alloc (o := .lst ds) sr hp fun F' ι' st => .lst upd_same (DVs.to sr.sub st _ _ r)
    exact h _ _ _ _ st sr' (.ref (by rw [← sr.len]; simp))
  · exact h.elim
theorem j_tup {f : CA} {x1} (h : JA X W es f) : JE X W (.Tuple es x1 pos) (cL oTup f) := by
  obtain ⟨t, p, q⟩ := h.ex
  refine ⟨_, pe_tup p, fun ρ mh F ι σ H Q sr er h => ?_⟩
  exact q ρ mh F ι σ H _ sr er (h.bind.mono fun xs H1 ⟨F1, ι1, d1, m1, st1, sr1, r1, h1⟩ => post_tup sr1 r1 h1)
theorem j_lst {f : CA} (h : JA X W es f) : JE X W (.List es pos) (cL oLst f) := by
  obtain ⟨t, p, q⟩ := h.ex
  refine ⟨_, pe_lst p, fun ρ mh F ι σ H Q sr er h => ?_⟩
  exact q ρ mh F ι σ H _ sr er (h.bind.mono fun xs H1 ⟨F1, ι1, d1, m1, st1, sr1, r1, h1⟩ => post_lst sr1 r1 h1)
theorem j_new {f : CA} (h : JA X W es f) : JE X W (.List es pos) (cL oNew f) := by
  obtain ⟨t, p, q⟩ := h.ex
  refine ⟨_, pe_lst p, fun ρ mh F ι σ H Q sr er h => ?_⟩
  exact q ρ mh F ι σ H _ sr er (h.bind.mono fun xs H1 ⟨F1, ι1, d1, m1, st1, sr1, r1, h1⟩ => post_new sr1 r1 h1)
variable {x : Str} {p : Pos} {id T : String} {r : List V → Hp → VK → Prop} {o : List D → List O → Res D}
theorem j_callB {f : CA} (hc : CallR X (.builtin id) r) (vo : VOL X r o) (hm : X.mg x = none) (hv : bootBuiltins x = some (.builtin id)) (ha : JA X W (e :: es) f) (hg : Gl X x := by rfl) (hn : x ≠ "__name__" := by decide) (hdb : (x == ("__debug__" : Str)) = false := by decide)
    (he : starEach (e :: es) X.env = (false, eval e X.env) :: starEach es X.env := by rfl) (hpl : (backTo pos (starEach es X.env)).any (·.1) = false := by rfl) : JE X W (.Call (.Name x p) (e :: es) [] pos) (cL o f) := by
  obtain ⟨t, pa, q⟩ := ha.ex
  refine ⟨_, pe_callB hc hg hm hv pa hn hdb he hpl, fun ρ mh F ι σ H Q sr er h => ?_⟩
  exact q ρ mh F ι σ H _ sr er (h.bind.mono fun xs H1 ⟨F1, ι1, d1, m1, st1, sr1, r1, h1⟩ => vo W σ F1 ι1 m1 H1 d1 xs Q sr1 r1 h1)
theorem j_callTy {f : CA} (hc : CallR X (.type T) r) (vo : VOL X r o) (hm : X.mg x = none) (hv : bootBuiltins x = some (.type T)) (ha : JA X W (e :: es) f) (hg : Gl X x := by rfl) (hn : x ≠ "__name__" := by decide) (hdb : (x == ("__debug__" : Str)) = false := by decide)
    (he : starEach (e :: es) X.env = (false, eval e X.env) :: starEach es X.env := by rfl) (hpl : (backTo pos (starEach es X.env)).any (·.1) = false := by rfl) : JE X W (.Call (.Name x p) (e :: es) [] pos) (cL o f) := by
  obtain ⟨t, pa, q⟩ := ha.ex
  refine ⟨_, pe_callTy hc hg hm hv pa hn hdb he hpl, fun ρ mh F ι σ H Q sr er h => ?_⟩
  exact q ρ mh F ι σ H _ sr er (h.bind.mono fun xs H1 ⟨F1, ι1, d1, m1, st1, sr1, r1, h1⟩ => vo W σ F1 ι1 m1 H1 d1 xs Q sr1 r1 h1)
/-- o[i] by values -/
theorem j_ix {a b : Expr} {fa fb : CE} {r : R2} {o : D → D → List O → Res D} (ho : IxR X r) (vo : VO2 X r o) (ha : JE X W a fa) (hb : JE X W b fb) (hs : PlainIx b := by exact fun _ _ => rfl) : JE X W (.Subscript a b pos) (c2 o fa fb) := by
  obtain ⟨ta, pa, qa⟩ := ha.ex
  obtain ⟨tb, pb, qb⟩ := hb.ex
  exact ⟨_, pe_ix ho pa pb hs, fun ρ mh F ι σ H Q sr er h => two qa qb vo sr er h⟩
end
end G

/-! Part C: statements, loops, defs, calls, the law's end. -/
namespace G
open PySem PySem.Spec PyProof.Rows L2

inductive Out where
  | nx (ρ : En) (mh : List O) | rt (d : D) (mh : List O) | bk (ρ : En) (mh : List O) | ct (ρ : En) (mh : List O)
  | err (c : Str) (ds : List D) (ρ : En) (mh : List O) | stuck
abbrev CS := En → List O → Out
def PostS (X : Cx) (W : WX) (F : Addr → Prop) (ι : List Addr) (H : Hp) (r : Out) (T : Ends) : Prop := match r with
  | .nx ρ' mh' => ∀ F' ι' H' σ', Step F ι H F' ι' H' → SR X.K X.mg F' ι' mh' H' → ER X.K X.mg F' ι' H' ρ' σ' → T.nx σ' H'
  | .rt d mh' => ∀ F' ι' H' v, Step F ι H F' ι' H' → SR X.K X.mg F' ι' mh' H' → DV X.K X.mg F' ι' H' d v → T.rt v H'
  | .bk ρ' mh' => ∀ F' ι' H' σ', Step F ι H F' ι' H' → SR X.K X.mg F' ι' mh' H' → ER X.K X.mg F' ι' H' ρ' σ' → T.bk σ' H'
  | .ct ρ' mh' => ∀ F' ι' H' σ', Step F ι H F' ι' H' → SR X.K X.mg F' ι' mh' H' → ER X.K X.mg F' ι' H' ρ' σ' → T.ct σ' H'
  | .err c ds ρ' mh' => ∀ F' ι' H' cls dx σ', Step F ι H F' ι' H' → SR X.K X.mg F' ι' mh' H' → ER X.K X.mg F' ι' H' ρ' σ' → ExV X.K X.mg F' ι' H' c ds cls dx → W cls dx σ' H'
  | .stuck => False
structure JS (X : Cx) (W : WX) (st : Stmt) (f : CS) : Prop where
  ex : ∃ t, PS X st t ∧ ∀ (ρ : En) (mh : List O) (F : Addr → Prop) (ι : List Addr) (σ : L2.St) (H : Hp) (T : Ends), SR X.K X.mg F ι mh H → ER X.K X.mg F ι H ρ σ → PostS X W F ι H (f ρ mh) T → t T σ H
structure JSs (X : Cx) (W : WX) (st : List Stmt) (f : CS) : Prop where
  ex : ∃ t, PSs X st t ∧ ∀ (ρ : En) (mh : List O) (F : Addr → Prop) (ι : List Addr) (σ : L2.St) (H : Hp) (T : Ends), SR X.K X.mg F ι mh H → ER X.K X.mg F ι H ρ σ → PostS X W F ι H (f ρ mh) T → t T σ H
def Res.toS {α : Type} (r : Res α) (ρ : En) (k : α → List O → Out) : Out := match r with
  | .ok a mh => k a mh
  | .err c ds mh => .err c ds ρ mh
  | .stuck => .stuck
@[simp] theorem Res.toS_ok {α : Type} (a : α) (mh : List O) (ρ : En) (k : α → List O → Out) : (Res.ok a mh).toS ρ k = k a mh := rfl
@[simp] theorem Res.toS_err {α : Type} (c : Str) (ds : List D) (mh : List O) (ρ : En) (k : α → List O → Out) : (Res.err c ds mh : Res α).toS ρ k = .err c ds ρ mh := rfl
@[simp] theorem Res.toS_stuck {α : Type} (ρ : En) (k : α → List O → Out) : (Res.stuck : Res α).toS ρ k = .stuck := rfl
def Out.seq (o : Out) (g : CS) : Out := match o with
  | .nx ρ mh => g ρ mh
  | o => o
@[simp] theorem Out.seq_nx (ρ : En) (mh : List O) (g : CS) : (Out.nx ρ mh).seq g = g ρ mh := rfl
@[simp] theorem Out.seq_rt (d : D) (mh : List O) (g : CS) : (Out.rt d mh).seq g = .rt d mh := rfl
@[simp] theorem Out.seq_bk (ρ : En) (mh : List O) (g : CS) : (Out.bk ρ mh).seq g = .bk ρ mh := rfl
@[simp] theorem Out.seq_ct (ρ : En) (mh : List O) (g : CS) : (Out.ct ρ mh).seq g = .ct ρ mh := rfl
@[simp] theorem Out.seq_err (c : Str) (ds : List D) (ρ : En) (mh : List O) (g : CS) : (Out.err c ds ρ mh).seq g = .err c ds ρ mh := rfl
@[simp] theorem Out.seq_stuck (g : CS) : Out.stuck.seq g = .stuck := rfl
section
variable {X : Cx} {W : WX} {F F1 : Addr → Prop} {ι ι1 : List Addr} {H H1 : Hp} {T T' : Ends}
theorem PostS.at {r : Out} (h : PostS X W F ι H r T) (st : Step F ι H F1 ι1 H1) : PostS X W F1 ι1 H1 r T := by
  cases r with
  | nx ρ mh => exact fun F' ι' H' σ' s x y => h F' ι' H' σ' (st.trans s) x y
  | rt d mh => exact fun F' ι' H' v s x y => h F' ι' H' v (st.trans s) x y
  | bk ρ mh => exact fun F' ι' H' σ' s x y => h F' ι' H' σ' (st.trans s) x y
  | ct ρ mh => exact fun F' ι' H' σ' s x y => h F' ι' H' σ' (st.trans s) x y
  | err c ds ρ mh => exact fun F' ι' H' cls dx σ' s x y z => h F' ι' H' cls dx σ' (st.trans s) x y z
  | stuck => exact h
theorem PostS.bindE {α β : Type} {R : Rel α β} {r : Res α} {ρ : En} {σ : L2.St} {mh : List O} {k : α → List O → Out} (sr : SR X.K X.mg F ι mh H) (er : ER X.K X.mg F ι H ρ σ) (h : PostS X W F ι H (r.toS ρ k) T) :
    Post X.K X.mg R W σ F ι H r (fun b H1 => ∃ F1 ι1 a mh1, Step F ι H F1 ι1 H1 ∧ SR X.K X.mg F1 ι1 mh1 H1 ∧ R F1 ι1 H1 a b ∧ ER X.K X.mg F1 ι1 H1 ρ σ ∧ PostS X W F1 ι1 H1 (k a mh1) T) := by
  cases r with
  | ok a mh' => exact fun F' ι' H' b s x y => ⟨F', ι', a, mh', s, x, y, er.to sr.sub s, PostS.at (r := k a mh') h s⟩
  | err c ds mh' => exact fun F' ι' H' cls dx s x y => h F' ι' H' cls dx σ s x (er.to sr.sub s) y
  | stuck => exact h
theorem PostS.bindS {r : Out} {g : CS} {u : TS} (h : PostS X W F ι H (r.seq g) T)
    (hu : ∀ (ρ : En) (mh : List O) (F : Addr → Prop) (ι : List Addr) (σ : L2.St) (H : Hp), SR X.K X.mg F ι mh H → ER X.K X.mg F ι H ρ σ → PostS X W F ι H (g ρ mh) T → u T σ H) : PostS X W F ι H r { T with nx := u T } := by
  cases r with
  | nx ρ mh => exact fun F' ι' H' σ' s x y => hu ρ mh F' ι' σ' H' x y (PostS.at (r := g ρ mh) h s)
  | rt d mh => exact h
  | bk ρ mh => exact h
  | ct ρ mh => exact h
  | err c ds ρ mh => exact h
  | stuck => exact h
end

/-! ### simple statements -/
def sNext : CS := fun ρ mh => .nx ρ mh
def sSeq (f g : CS) : CS := fun ρ mh => (f ρ mh).seq g
def sIf (c : CT) (f g : CS) : CS := fun ρ mh => (c ρ mh).toS ρ fun b m => if b = true then f ρ m else g ρ m
def sRet (f : CE) : CS := fun ρ mh => (f ρ mh).toS ρ fun d m => .rt d m
def sRetN : CS := fun _ mh => .rt .non mh
def sBrk : CS := fun ρ mh => .bk ρ mh
def sCnt : CS := fun ρ mh => .ct ρ mh
def sDrop (f : CE) : CS := fun ρ mh => (f ρ mh).toS ρ fun _ m => .nx ρ m
def sNever : CS := fun _ _ => .stuck
def sSet (i : Nat) (f : CE) : CS := fun ρ mh => (f ρ mh).toS ρ fun d m => .nx (ρ.set i (some d)) m
/-- a target of an assignment -/
abbrev CG := D → En → List O → Out
def sAsg (f : CE) (g : CG) : CS := fun ρ mh => (f ρ mh).toS ρ fun d m => g d ρ m
def gNm (i : Nat) : CG := fun d ρ mh => .nx (ρ.set i (some d)) mh
abbrev CGs := List D → En → List O → Out
def gsNil : CGs := fun ds ρ mh => match ds with
  | [] => .nx ρ mh
  | _ => .stuck
def gsCons (g : CG) (gs : CGs) : CGs := fun ds ρ mh => match ds with
  | d :: ds => (g d ρ mh).seq fun ρ' m => gs ds ρ' m
  | [] => .stuck
def gUnp (n : Nat) (gs : CGs) : CG := fun d ρ mh => match d with
  | .tup ds => if ds.length = n then gs ds ρ mh else .stuck
  | _ => .stuck
/-- a list is taken apart -/
def gUnpL (n : Nat) (gs : CGs) : CG := fun d ρ mh => match d with
  | .lst ds => if ds.length = n then gs ds ρ mh else .stuck
  | .ref m => match mh[m]? with
    | some (.lst ds) => if ds.length = n then gs ds ρ mh else .stuck
    | _ => .stuck
  | _ => .stuck
/-- what a target is worth: it goes on, or is stuck -/
def PostG (X : Cx) (F : Addr → Prop) (ι : List Addr) (H : Hp) (r : Out) (Q : L2.St → Hp → Prop) : Prop := match r with
  | .nx ρ' mh' => ∀ F' ι' H' σ', Step F ι H F' ι' H' → SR X.K X.mg F' ι' mh' H' → ER X.K X.mg F' ι' H' ρ' σ' → Q σ' H'
  | _ => False
/-- only the slots ix are touched -/
def Fs (ix : List Nat) (σ σ' : L2.St) : Prop := σ'.length = σ.length ∧ ∀ j, j ∉ ix → σ'[j]? = σ[j]?
structure JG (X : Cx) (W : WX) (tg : Expr) (ix : List Nat) (g : CG) : Prop where
  ex : ∃ t, PG X tg t ∧ ∀ (d : D) (v : V) (ρ : En) (mh : List O) (F : Addr → Prop) (ι : List Addr) (σ : L2.St) (H : Hp) (Q Q' : L2.St → Hp → Prop), SR X.K X.mg F ι mh H → ER X.K X.mg F ι H ρ σ → DV X.K X.mg F ι H d v → PostG X F ι H (g d ρ mh) Q → (∀ σ' H', Fs ix σ σ' → Q σ' H' → Q' σ' H') → t v σ H Q'
  only : ∀ d ρ mh, (∃ ρ' mh', g d ρ mh = .nx ρ' mh') ∨ g d ρ mh = .stuck
structure JGs (X : Cx) (W : WX) (tg : List Expr) (ix : List Nat) (g : CGs) : Prop where
  ex : ∃ t, PGs X tg t ∧ ∀ (ds : List D) (vs : List V) (ρ : En) (mh : List O) (F : Addr → Prop) (ι : List Addr) (σ : L2.St) (H : Hp) (Q Q' : L2.St → Hp → Prop), SR X.K X.mg F ι mh H → ER X.K X.mg F ι H ρ σ → DVs X.K X.mg F ι H ds vs → PostG X F ι H (g ds ρ mh) Q → (∀ σ' H', Fs ix σ σ' → Q σ' H' → Q' σ' H') → t vs σ H Q'
  only : ∀ ds ρ mh, (∃ ρ' mh', g ds ρ mh = .nx ρ' mh') ∨ g ds ρ mh = .stuck
section
variable {X : Cx} {W : WX} {k : Nat} {pos : Pos} {st : Stmt} {rest : List Stmt} {e : Expr} {es : List Expr}
theorem ss_nil : JSs X W [] sNext := ⟨_, pss_nil, fun _ _ F ι σ H T sr er h => h F ι H σ Step.refl sr er⟩
theorem ss_cons {f g : CS} (h : JS X W st f) (h' : JSs X W rest g) : JSs X W (st :: rest) (sSeq f g) := by
  obtain ⟨t, p, q⟩ := h.ex
  obtain ⟨u, p', q'⟩ := h'.ex
  refine ⟨_, pss_cons p p', fun ρ mh F ι σ H T sr er h => ?_⟩
  exact q ρ mh F ι σ H _ sr er (PostS.bindS h fun ρ mh F ι σ H sr er h => q' ρ mh F ι σ H T sr er h)
theorem ss_one {f : CS} (h : JS X W st f) : JSs X W [st] f := by
  obtain ⟨t, p, q⟩ := h.ex
  exact ⟨_, pss_one p, q⟩
theorem ss_never {sts : List Stmt} : JSs X W sts sNever := ⟨_, pss_never, fun _ _ _ _ _ _ _ _ _ h => h⟩
theorem s_never : JS X W st sNever := ⟨_, ps_never, fun _ _ _ _ _ _ _ _ _ h => h⟩
theorem s_pass : JS X W (.Pass pos) sNext := ⟨_, ps_pass, fun _ _ F ι σ H T sr er h => h F ι H σ Step.refl sr er⟩
theorem s_brk : JS X W (.Break pos) sBrk := ⟨_, ps_break, fun _ _ F ι σ H T sr er h => h F ι H σ Step.refl sr er⟩
theorem s_cnt : JS X W (.Continue pos) sCnt := ⟨_, ps_continue, fun _ _ F ι σ H T sr er h => h F ι H σ Step.refl sr er⟩
theorem s_ret {f : CE} (h : JE X W e f) : JS X W (.Return (some e) pos) (sRet f) := by
  obtain ⟨t, p, q⟩ := h.ex
  refine ⟨_, ps_ret p, fun ρ mh F ι σ H T sr er h => ?_⟩
  exact q ρ mh F ι σ H _ sr er ((PostS.bindE (R := DR X) sr er h).mono fun v H1 ⟨F1, ι1, d, m1, st1, sr1, r1, er1, h1⟩ => h1 F1 ι1 H1 v Step.refl sr1 r1)
theorem s_retN : JS X W (.Return none pos) sRetN := ⟨_, ps_retN, fun _ _ F ι σ H T sr er h => h F ι H .non Step.refl sr .non⟩
theorem s_drop {f : CE} (h : JE X W e f) (hs : swapsWith e none pos.line X.env = pure false := by rfl) : JS X W (.Expr e pos) (sDrop f) := by
  obtain ⟨t, p, q⟩ := h.ex
  refine ⟨_, ps_expr p hs, fun ρ mh F ι σ H T sr er h => ?_⟩
  exact q ρ mh F ι σ H _ sr er ((PostS.bindE (R := DR X) sr er h).mono fun v H1 ⟨F1, ι1, d, m1, st1, sr1, r1, er1, h1⟩ => h1 F1 ι1 H1 σ Step.refl sr1 er1)
theorem s_if {c : Expr} {a b : List Stmt} {t : CT} {f g : CS} (hc : JT X W c t) (ha : JSs X W a f) (hb : JSs X W b g) : JS X W (.If c a b pos) (sIf t f g) := by
  obtain ⟨tc, pc, qc⟩ := hc.ex
  obtain ⟨ta, pa, qa⟩ := ha.ex
  obtain ⟨tb, pb, qb⟩ := hb.ex
  refine ⟨_, ps_if pc pa pb, fun ρ mh F ι σ H T sr er h => ?_⟩
  refine qc ρ mh F ι σ H _ sr er ((PostS.bindE (R := BR) sr er h).mono fun c H1 ⟨F1, ι1, d, m1, st1, sr1, r1, er1, h1⟩ => ?_)
  have e : d = c := r1
  subst e
  cases d with
  | true => rw [if_pos rfl] at h1 ⊢; exact qa ρ m1 F1 ι1 σ H1 T sr1 er1 h1
  | false => rw [if_neg Bool.false_ne_true] at h1 ⊢; exact qb ρ m1 F1 ι1 σ H1 T sr1 er1 h1
theorem s_set (c : Cc k X W) {i : Nat} {x : Str} {pos' : Pos} {f : CE} (h : JE X W e f) (hi : X.N[i]? = some x := by rfl) (hx : Loc X.env.scope x := by first | exact Or.inl rfl | exact Or.inr rfl) (hs : swapsWith e (some (.Name x pos')) pos.line X.env = pure false := by rfl)
    (hf : X.fn x = true ∨ X.env.scope.names.lookup x = some .local := by first | exact .inl rfl | exact .inr rfl) : JS X W (.Assign [.Name x pos'] e pos) (sSet i f) := by
  obtain ⟨t, p, q⟩ := h.ex
  refine ⟨_, ps_set c.nd hi hx p hs hf, fun ρ mh F ι σ H T sr er h => ?_⟩
  exact q ρ mh F ι σ H _ sr er ((PostS.bindE (R := DR X) sr er h).mono fun v H1 ⟨F1, ι1, d, m1, st1, sr1, r1, er1, h1⟩ => h1 F1 ι1 H1 _ Step.refl sr1 (er1.set r1))
theorem g_name (c : Cc k X W) {i : Nat} {x : Str} (hi : X.N[i]? = some x := by rfl) (hx : Loc X.env.scope x := by first | exact Or.inl rfl | exact Or.inr rfl) (hf : X.fn x = true ∨ X.env.scope.names.lookup x = some .local := by first | exact .inl rfl | exact .inr rfl) : JG X W (.Name x pos) [i] (gNm i) :=
  ⟨⟨_, pg_name c.nd hi hx hf, fun d v ρ mh F ι σ H Q Q' sr er r h k => k _ _ ⟨List.length_set, fun j hj => List.getElem?_set_ne (fun e => hj (by simp [e]))⟩ (h F ι H _ Step.refl sr (er.set r))⟩, fun d ρ mh => .inl ⟨_, _, rfl⟩⟩
theorem gs_nil : JGs X W [] [] gsNil := by
  refine ⟨⟨_, pgs_nil, fun ds vs ρ mh F ι σ H Q Q' sr er r h k => ?_⟩, fun ds ρ mh => ?_⟩
  · unfold gsNil at h
    split at h
    · cases r
      exact ⟨rfl, k _ _ ⟨rfl, fun _ _ => rfl⟩ (h F ι H σ Step.refl sr er)⟩
    · exact h.elim
  · unfold gsNil
    split
    · exact .inl ⟨_, _, rfl⟩
    · exact .inr rfl
theorem PostG.seq {r : Out} {g : CS} {F : Addr → Prop} {ι : List Addr} {H : Hp} {Q : L2.St → Hp → Prop} (h : PostG X F ι H (r.seq g) Q) :
    PostG X F ι H r fun σ' H' => ∃ F' ι' ρ' mh', Step F ι H F' ι' H' ∧ SR X.K X.mg F' ι' mh' H' ∧ ER X.K X.mg F' ι' H' ρ' σ' ∧ PostG X F' ι' H' (g ρ' mh') Q := by
  cases r with
  | nx ρ mh =>
    refine fun F' ι' H' σ' s x y => ⟨F', ι', ρ, mh, s, x, y, ?_⟩
    have h' : PostG X F ι H (g ρ mh) Q := h
    generalize g ρ mh = o at h' ⊢
    cases o with
    | nx ρ2 m2 => exact fun F2 ι2 H2 σ2 s2 x2 y2 => h' F2 ι2 H2 σ2 (s.trans s2) x2 y2
    | rt d mh => exact h'
    | bk ρ mh => exact h'
    | ct ρ mh => exact h'
    | err c ds ρ mh => exact h'
    | stuck => exact h'
  | rt d mh => exact h
  | bk ρ mh => exact h
  | ct ρ mh => exact h
  | err c ds ρ mh => exact h
  | stuck => exact h
theorem PostG.mono {r : Out} {F : Addr → Prop} {ι : List Addr} {H : Hp} {Q Q' : L2.St → Hp → Prop} (h : PostG X F ι H r Q) (k : ∀ σ' H', Q σ' H' → Q' σ' H') : PostG X F ι H r Q' := by
  cases r with
  | nx ρ mh => exact fun F' ι' H' σ' s x y => k _ _ (h F' ι' H' σ' s x y)
  | rt d mh => exact h
  | bk ρ mh => exact h
  | ct ρ mh => exact h
  | err c ds ρ mh => exact h
  | stuck => exact h
theorem gs_cons {g : CG} {gs : CGs} {ix ix' : List Nat} (h : JG X W e ix g) (h' : JGs X W es ix' gs) (hs : (assignEach (e :: es) X.env).map (·.2) = assign e X.env :: (assignEach es X.env).map (·.2) := by rfl) : JGs X W (e :: es) (ix ++ ix') (gsCons g gs) := by
  obtain ⟨t, p, q⟩ := h.ex
  obtain ⟨u, p', q'⟩ := h'.ex
  refine ⟨⟨_, pgs_cons p p' hs, fun ds vs ρ mh F ι σ H Q Q' sr er r h k => ?_⟩, fun ds ρ mh => ?_⟩
  · unfold gsCons at h
    split at h
    · rename_i d ds
      cases r with
      | cons r1 r2 =>
        refine ⟨_, _, rfl, q _ _ ρ mh F ι σ H _ _ sr er r1 h.seq fun σ' H' f1 ⟨F', ι', ρ', mh', s, x, y, h2⟩ => ?_⟩
        exact q' _ _ ρ' mh' F' ι' σ' H' Q Q' x y (DVs.to sr.sub s _ _ r2) h2 fun σ2 H2 f2 z => k σ2 H2 ⟨f2.1.trans f1.1, fun j hj => (f2.2 j fun z => hj (List.mem_append_right _ z)).trans (f1.2 j fun z => hj (List.mem_append_left _ z))⟩ z
    · exact h.elim
  · unfold gsCons
    split
    · rename_i d ds
      rcases h.only d ρ mh with ⟨ρ', mh', e⟩ | e
      · rw [e]; exact h'.only ds ρ' mh'
      · rw [e]; exact .inr rfl
    · exact .inr rfl
theorem g_unp (c : Cc k X W) {gs : CGs} {kt n : Nat} {ix : List Nat} (h : JGs X W es ix gs) (hn : (assignEach es X.env).length = n := by rfl) (hst : (assignEach es X.env).findIdx? (·.1) = none := by rfl) : JG X W (.Tuple es kt pos) ix (gUnp n gs) := by
  obtain ⟨t, p, q⟩ := h.ex
  refine ⟨⟨_, pg_tup c.calm p hn hst, fun d v ρ mh F ι σ H Q Q' sr er r h k => ?_⟩, fun d ρ mh => ?_⟩
  · unfold gUnp at h
    split at h
    · rename_i ds
      split at h
      · rename_i hl
        cases r with
        | tup hr r2 => exact ⟨_, _, rfl, .inl hr, by rw [← r2.length]; exact hl, q _ _ ρ mh F ι σ H Q Q' sr er r2 h k⟩
      · exact h.elim
    · exact h.elim
  · unfold gUnp
    split
    · split
      · exact h.only _ ρ mh
      · exact .inr rfl
    · exact .inr rfl
theorem PostS.ofG {r : Out} {F : Addr → Prop} {ι : List Addr} {H : Hp} {T : Ends} (o : (∃ ρ' mh', r = .nx ρ' mh') ∨ r = .stuck) (h : PostS X W F ι H r T) : PostG X F ι H r T.nx := by
  rcases o with ⟨ρ', mh', rfl⟩ | rfl
  · exact h
  · exact h
theorem s_asg {tg : Expr} {f : CE} {g : CG} {ix : List Nat} (h : JE X W e f) (hg : JG X W tg ix g) (hs : swapsWithSole [tg] e pos.line X.env = pure false := by rfl) (hw : swappedStores [tg] e X.env = pure none := by rfl)
    (h1 : (assignEach [tg] X.env).map (·.2) = [assign tg X.env] := by rfl) : JS X W (.Assign [tg] e pos) (sAsg f g) := by
  obtain ⟨t, p, q⟩ := h.ex
  obtain ⟨tg', pg, qg⟩ := hg.ex
  refine ⟨_, ps_asg p pg hs hw h1, fun ρ mh F ι σ H T sr er h => ?_⟩
  exact q ρ mh F ι σ H _ sr er ((PostS.bindE (R := DR X) sr er h).mono fun v H1 ⟨F1, ι1, d, m1, st1, sr1, r1, er1, h1⟩ => qg d v ρ m1 F1 ι1 σ H1 _ _ sr1 er1 r1 (h1.ofG (hg.only _ _ _)) fun _ _ _ z => z)
def sPar (i j : Nat) (f : CA) : CS := fun ρ mh => (f ρ mh).toS ρ fun ds m => match ds with
  | [d, e] => .nx ((ρ.set i (some d)).set j (some e)) m
  | _ => .stuck
theorem s_par (c : Cc k X W) {i j : Nat} {x y : Str} {a b : Expr} {f : CA} {px py pt : Pos} {kt k2 pt2} (h : JA X W [a, b] f) (hi : X.N[i]? = some x := by rfl) (hj : X.N[j]? = some y := by rfl) (hij : i ≠ j := by decide)
    (hx : X.env.scope.names.lookup x = some .local := by rfl) (hy : X.env.scope.names.lookup y = some .local := by rfl)
    (hw : swappedStores [.Tuple [.Name x px, .Name y py] kt pt] (.Tuple [a, b] k2 pt2) X.env = pure (some [x, y]) := by rfl)
    (hs : swapsWithSole [.Tuple [.Name x px, .Name y py] kt pt] (.Tuple [a, b] k2 pt2) pos.line X.env = pure false := by rfl) :
    JS X W (.Assign [.Tuple [.Name x px, .Name y py] kt pt] (.Tuple [a, b] k2 pt2) pos) (sPar i j f) := by
  obtain ⟨t, p, q⟩ := h.ex
  refine ⟨_, ps_par c.calm c.nd hi hj hij hx hy p hw hs, fun ρ mh F ι σ H T sr er h => ?_⟩
  refine q ρ mh F ι σ H _ sr er ((PostS.bindE (R := DRs X) sr er h).mono fun vs H1 ⟨F1, ι1, ds, m1, st1, sr1, r1, er1, h1⟩ => ?_)
  split at h1
  · cases r1 with
    | cons r1 r2 =>
      cases r2 with
      | cons r2 r3 =>
        cases r3
        exact ⟨_, _, rfl, h1 F1 ι1 H1 _ Step.refl sr1 ((er1.set r1).set r2)⟩
  · exact h1.elim
/-- name op= e -/
def sAug (i : Nat) (o : D → D → List O → Res D) (f : CE) : CS := fun ρ mh => match ρ[i]? with
  | some (some d) => (f ρ mh).toS ρ fun x m => (o d x m).toS ρ fun z m' => .nx (ρ.set i (some z)) m'
  | _ => .stuck
theorem s_aug (c : Cc k X W) {i : Nat} {x : Str} {op : Operator} {r : R2} {o : D → D → List O → Res D} {pos' : Pos} {f : CE} (h : JE X W e f) (ho : OpR X (inplaceOp op) r) (vo : VO2 X r o) (hi : X.N[i]? = some x := by rfl) (hx : Loc X.env.scope x := by first | exact Or.inl rfl | exact Or.inr rfl)
    (hf : X.fn x = true ∨ X.env.scope.names.lookup x = some .local := by first | exact .inl rfl | exact .inr rfl) : JS X W (.AugAssign (.Name x pos') op e pos) (sAug i o f) := by
  obtain ⟨t, p, q⟩ := h.ex
  refine ⟨_, ps_aug c.nd hi hx p ho hf, fun ρ mh F ι σ H T sr er h => ?_⟩
  unfold sAug at h
  split at h
  · rename_i d e1
    obtain ⟨v, e2, r⟩ := er.2 i d e1
    refine ⟨v, e2, q ρ mh F ι σ H _ sr er ((PostS.bindE (R := DR X) sr er h).mono fun y H1 ⟨F1, ι1, d1, m1, st1, sr1, r1, er1, h1⟩ => ?_)⟩
    exact vo W σ F1 ι1 m1 H1 d d1 v y _ sr1 (DV.to sr.sub st1 _ _ r) r1 ((PostS.bindE (R := DR X) sr1 er1 h1).mono fun z H2 ⟨F2, ι2, d2, m2, st2, sr2, r2, er2, h2⟩ => h2 F2 ι2 H2 _ Step.refl sr2 (er2.set r2))
  · exact h.elim
end

/-! ### while -/
def whileN (c : CT) (b : CS) : Nat → CS
  | 0 => fun _ _ => .stuck
  | n + 1 => fun ρ mh => (c ρ mh).toS ρ fun t m => if t = true then (match b ρ m with
    | .nx ρ' m' => whileN c b n ρ' m'
    | .ct ρ' m' => whileN c b n ρ' m'
    | .bk ρ' m' => .nx ρ' m'
    | o => o) else .nx ρ m
theorem whileN_succ (c : CT) (b : CS) : ∀ (n : Nat) (ρ : En) (mh : List O), whileN c b n ρ mh ≠ .stuck → whileN c b (n + 1) ρ mh = whileN c b n ρ mh
  | 0, _, _, h => absurd rfl h
  | n + 1, ρ, mh, h => by
    have e1 : whileN c b (n + 1 + 1) ρ mh = (c ρ mh).toS ρ fun t m => if t = true then (match b ρ m with
      | .nx ρ' m' => whileN c b (n + 1) ρ' m'
      | .ct ρ' m' => whileN c b (n + 1) ρ' m'
      | .bk ρ' m' => .nx ρ' m'
      | o => o) else .nx ρ m := rfl
    have e2 : whileN c b (n + 1) ρ mh = (c ρ mh).toS ρ fun t m => if t = true then (match b ρ m with
      | .nx ρ' m' => whileN c b n ρ' m'
      | .ct ρ' m' => whileN c b n ρ' m'
      | .bk ρ' m' => .nx ρ' m'
      | o => o) else .nx ρ m := rfl
    rw [e2] at h
    rw [e1, e2]
    cases q : c ρ mh with
    | stuck => rfl
    | err x ds m => rfl
    | ok t m =>
      rw [q] at h
      simp only [Res.toS_ok] at h ⊢
      cases t with
      | false => rfl
      | true =>
        simp only [if_true] at h ⊢
        cases q2 : b ρ m with
        | nx ρ' m' => rw [q2] at h; exact whileN_succ c b n ρ' m' h
        | ct ρ' m' => rw [q2] at h; exact whileN_succ c b n ρ' m' h
        | bk ρ' m' => rfl
        | rt d m => rfl
        | err x ds r m => rfl
        | stuck => rfl
theorem whileN_le {c : CT} {b : CS} {ρ : En} {mh : List O} {n : Nat} (h : whileN c b n ρ mh ≠ .stuck) : ∀ j, whileN c b (n + j) ρ mh = whileN c b n ρ mh
  | 0 => rfl
  | j + 1 => by
    have ih := whileN_le h j
    rw [show n + (j + 1) = (n + j) + 1 from rfl, whileN_succ c b (n + j) ρ mh (by rw [ih]; exact h), ih]
open Classical in
noncomputable def sWhile (c : CT) (b : CS) : CS := fun ρ mh => if h : ∃ n, whileN c b n ρ mh ≠ .stuck then whileN c b h.choose ρ mh else .stuck
theorem sWhile_of {c : CT} {b : CS} {ρ : En} {mh : List O} {n : Nat} (h : whileN c b n ρ mh ≠ .stuck) : sWhile c b ρ mh = whileN c b n ρ mh := by
  have hx : ∃ n, whileN c b n ρ mh ≠ .stuck := ⟨n, h⟩
  unfold sWhile
  rw [dif_pos hx]
  have h2 := hx.choose_spec
  rcases Nat.le_total hx.choose n with hle | hle
  · obtain ⟨j, e⟩ := Nat.le.dest hle
    rw [← whileN_le h2 j, e]
  · obtain ⟨j, e⟩ := Nat.le.dest hle
    rw [← whileN_le h j, e]
theorem sWhile_stuck {c : CT} {b : CS} {ρ : En} {mh : List O} (h : ∀ n, whileN c b n ρ mh = .stuck) : sWhile c b ρ mh = .stuck := by
  unfold sWhile
  rw [dif_neg (fun ⟨n, q⟩ => q (h n))]
/-- one turn -/
theorem sWhile_eq (c : CT) (b : CS) (ρ : En) (mh : List O) : sWhile c b ρ mh = (c ρ mh).toS ρ fun t m => if t = true then (match b ρ m with
    | .nx ρ' m' => sWhile c b ρ' m'
    | .ct ρ' m' => sWhile c b ρ' m'
    | .bk ρ' m' => .nx ρ' m'
    | o => o) else .nx ρ m := by
  cases q : c ρ mh with
  | stuck =>
    refine sWhile_stuck fun n => ?_
    cases n with
    | zero => rfl
    | succ n => show (c ρ mh).toS ρ _ = _; rw [q]; rfl
  | err x ds m =>
    have e : whileN c b 1 ρ mh = .err x ds ρ m := by show (c ρ mh).toS ρ _ = _; rw [q]; rfl
    rw [sWhile_of (n := 1) (by rw [e]; exact fun z => nomatch z), e]; rfl
  | ok t m =>
    simp only [Res.toS_ok]
    have e1 : ∀ n, whileN c b (n + 1) ρ mh = if t = true then (match b ρ m with
      | .nx ρ' m' => whileN c b n ρ' m'
      | .ct ρ' m' => whileN c b n ρ' m'
      | .bk ρ' m' => .nx ρ' m'
      | o => o) else .nx ρ m := fun n => by show (c ρ mh).toS ρ _ = _; rw [q]; rfl
    have case : ∀ (ρ' : En) (m' : List O), (∀ n, whileN c b (n + 1) ρ mh = whileN c b n ρ' m') → sWhile c b ρ mh = sWhile c b ρ' m' := fun ρ' m' hn => by
      by_cases hx : ∃ n, whileN c b n ρ' m' ≠ .stuck
      · obtain ⟨n, hn'⟩ := hx
        rw [sWhile_of hn', sWhile_of (n := n + 1) (by rw [hn]; exact hn'), hn]
      · have hx' : ∀ n, whileN c b n ρ' m' = .stuck := fun n => Classical.byContradiction fun z => hx ⟨n, z⟩
        rw [sWhile_stuck hx']
        refine sWhile_stuck fun n => ?_
        cases n with
        | zero => rfl
        | succ n => rw [hn]; exact hx' n
    have val : ∀ o : Out, o ≠ .stuck → (∀ n, whileN c b (n + 1) ρ mh = o) → sWhile c b ρ mh = o := fun o ho hn => by
      rw [sWhile_of (n := 1) (by rw [hn 0]; exact ho), hn 0]
    cases t with
    | false =>
      simp only [Bool.false_eq_true, if_false] at e1 ⊢
      exact val _ (fun z => nomatch z) e1
    | true =>
      simp only [if_true] at e1 ⊢
      cases q2 : b ρ m with
      | nx ρ' m' => exact case ρ' m' fun n => by rw [e1, q2]
      | ct ρ' m' => exact case ρ' m' fun n => by rw [e1, q2]
      | bk ρ' m' => exact val _ (fun z => nomatch z) fun n => by rw [e1, q2]
      | rt d m2 => exact val _ (fun z => nomatch z) fun n => by rw [e1, q2]
      | err x ds r m2 => exact val _ (fun z => nomatch z) fun n => by rw [e1, q2]
      | stuck =>
        refine sWhile_stuck fun n => ?_
        cases n with
        | zero => rfl
        | succ n => rw [e1, q2]
section
variable {X : Cx} {W : WX} {k : Nat} {pos : Pos}
theorem s_while (c : Cc k X W) {t : Expr} {body : List Stmt} {ct : CT} {cb : CS} (hc : JT X W t ct) (hb : JSs X W body cb) : JS X W (.While t body [] pos) (sWhile ct cb) := by
  obtain ⟨tc, pc, qc⟩ := hc.ex
  obtain ⟨tb, pb, qb⟩ := hb.ex
  refine ⟨_, ps_while c.po pc pb, fun ρ mh F ι σ H T sr er h => ?_⟩
  have hx : ∃ n, whileN ct cb n ρ mh ≠ .stuck := Classical.byContradiction fun z => by
    rw [sWhile_stuck fun n => Classical.byContradiction fun q => z ⟨n, q⟩] at h
    exact h
  obtain ⟨n, hn⟩ := hx
  rw [sWhile_of hn] at h
  refine ⟨fun m σ1 H1 => ∃ F1 ι1 ρ1 mh1, SR X.K X.mg F1 ι1 mh1 H1 ∧ ER X.K X.mg F1 ι1 H1 ρ1 σ1 ∧ PostS X W F1 ι1 H1 (whileN ct cb m ρ1 mh1) T, ⟨n, F, ι, ρ, mh, sr, er, h⟩, ?_⟩
  rintro m σ1 H1 ⟨F1, ι1, ρ1, mh1, sr1, er1, h1⟩
  cases m with
  | zero => exact (show False from h1).elim
  | succ m =>
    refine qc ρ1 mh1 F1 ι1 σ1 H1 _ sr1 er1 ((PostS.bindE (R := BR) sr1 er1 h1).mono fun b H2 ⟨F2, ι2, d, m2, st2, sr2, r2, er2, h2⟩ => ?_)
    have e : d = b := r2
    subst e
    cases d with
    | false =>
      rw [if_neg Bool.false_ne_true] at h2 ⊢
      exact h2 F2 ι2 H2 σ1 Step.refl sr2 er2
    | true =>
      rw [if_pos rfl] at h2 ⊢
      refine ⟨fun σ' H' => ∃ F1 ι1 ρ1 mh1, SR X.K X.mg F1 ι1 mh1 H' ∧ ER X.K X.mg F1 ι1 H' ρ1 σ' ∧ PostS X W F1 ι1 H' (whileN ct cb m ρ1 mh1) T, fun σ' H' z => ⟨m, Nat.lt_succ_self m, z⟩, ?_⟩
      refine qb ρ1 m2 F2 ι2 σ1 H2 _ sr2 er2 ?_
      revert h2
      generalize cb ρ1 m2 = o
      intro h2
      cases o with
      | nx ρ' m' => exact fun F' ι' H' σ' s x y => ⟨F', ι', ρ', m', x, y, PostS.at (r := whileN ct cb m ρ' m') h2 s⟩
      | ct ρ' m' => exact fun F' ι' H' σ' s x y => ⟨F', ι', ρ', m', x, y, PostS.at (r := whileN ct cb m ρ' m') h2 s⟩
      | bk ρ' m' => exact h2
      | rt d mh => exact h2
      | err x ds r mh => exact h2
      | stuck => exact h2
end

/-! ### for -/
abbrev Its := List D × Option (Nat × List D)
def guard (g : Its) (mh : List O) : Prop := match g.2 with
  | none => True
  | some n => mh[n.1]? = some (.lst n.2)
abbrev CI := En → List O → Res Its
def RI (X : Cx) : Rel Its It := fun F ι H g J => ∀ F' ι' H' mh', Step F ι H F' ι' H' → SR X.K X.mg F' ι' mh' H' → guard g mh' →
  ∀ i, (∀ d, g.1[i]? = some d → J.go i H' ∧ ∀ x H'', J.yld i H' x H'' → (∀ a o, H' a = some o → H'' a = some o) ∧ DV X.K X.mg F' ι' H'' d x) ∧ (g.1.length ≤ i → J.stop i H')
structure JI (X : Cx) (W : WX) (tg iter : Expr) (f : CI) : Prop where
  ex : ∃ wi, PI X tg iter wi ∧ ∀ (ρ : En) (mh : List O) (F : Addr → Prop) (ι : List Addr) (σ : L2.St) (H : Hp) (R : It → Hp → Prop), SR X.K X.mg F ι mh H → ER X.K X.mg F ι H ρ σ → Post X.K X.mg (RI X) W σ F ι H (f ρ mh) R → wi σ H R
open Classical in
noncomputable def forL (g : Its) (tg : CG) (b : CS) : List D → CS
  | [] => fun ρ mh => if guard g mh then .nx ρ mh else .stuck
  | d :: ds => fun ρ mh => if guard g mh then (match (tg d ρ mh).seq b with
    | .nx ρ' m' => forL g tg b ds ρ' m'
    | .ct ρ' m' => forL g tg b ds ρ' m'
    | .bk ρ' m' => .nx ρ' m'
    | o => o) else .stuck
noncomputable def sFor (it : CI) (tg : CG) (b : CS) : CS := fun ρ mh => (it ρ mh).toS ρ fun g m => forL g tg b g.1 ρ m
section
variable {X : Cx} {W : WX} {k : Nat} {pos : Pos}
theorem s_for (c : Cc k X W) {tg iter : Expr} {body : List Stmt} {fi : CI} {fg : CG} {fb : CS} {ix : List Nat} (hi : JI X W tg iter fi) (hg : JG X W tg ix fg) (hb : JSs X W body fb)
    (hs : ∀ x, foldedSetIterable iter X.env x = pure x := by intro _; rfl) : JS X W (.For tg iter body [] pos) (sFor fi fg fb) := by
  obtain ⟨wi, pi, qi⟩ := hi.ex
  obtain ⟨tg', pg, qg⟩ := hg.ex
  obtain ⟨tb, pb, qb⟩ := hb.ex
  refine ⟨_, ps_for c.po c.calm pi pg pb hs, fun ρ mh F ι σ H T sr er h => ?_⟩
  refine qi ρ mh F ι σ H _ sr er ((PostS.bindE (R := RI X) sr er h).mono fun J H1 ⟨F1, ι1, g, m1, st1, sr1, r1, er1, h1⟩ => ?_)
  have h1 : PostS X W F1 ι1 H1 (forL g fg fb (g.1.drop 0) ρ m1) T := h1
  refine ⟨fun i m σ2 H2 => m = g.1.length - i ∧ ∃ F2 ι2 ρ2 mh2, Step F1 ι1 H1 F2 ι2 H2 ∧ SR X.K X.mg F2 ι2 mh2 H2 ∧ ER X.K X.mg F2 ι2 H2 ρ2 σ2 ∧ PostS X W F2 ι2 H2 (forL g fg fb (g.1.drop i) ρ2 mh2) T, ⟨_, rfl, F1, ι1, ρ, m1, Step.refl, sr1, er1, h1⟩, ?_⟩
  rintro i m σ2 H2 ⟨rfl, F2, ι2, ρ2, mh2, st2, sr2, er2, h2⟩
  by_cases hl : i < g.1.length
  · have ed : g.1.drop i = g.1[i] :: g.1.drop (i + 1) := List.drop_eq_getElem_cons hl
    rw [ed] at h2
    unfold forL at h2
    split at h2
    · rename_i hgd
      obtain ⟨hgo, hy⟩ := (r1 F2 ι2 H2 mh2 st2 sr2 hgd i).1 _ (List.getElem?_eq_getElem hl)
      refine .inr ⟨hgo, fun σ' H' => ∃ F2 ι2 ρ2 mh2, Step F1 ι1 H1 F2 ι2 H' ∧ SR X.K X.mg F2 ι2 mh2 H' ∧ ER X.K X.mg F2 ι2 H' ρ2 σ' ∧ PostS X W F2 ι2 H' (forL g fg fb (g.1.drop (i + 1)) ρ2 mh2) T, fun σ' H' z => ⟨_, by omega, rfl, z⟩, fun x H3 y => ?_⟩
      obtain ⟨kp, dv⟩ := hy x H3 y
      obtain ⟨sr3, st3⟩ := sr2.same kp
      have er3 := er2.to sr2.sub st3
      have only := hg.only g.1[i] ρ2 mh2
      have body : ∀ (ρ3 : En) (mh3 : List O) (F3 : Addr → Prop) (ι3 : List Addr) (σ3 : L2.St) (H4 : Hp), Step F1 ι1 H1 F3 ι3 H4 → SR X.K X.mg F3 ι3 mh3 H4 → ER X.K X.mg F3 ι3 H4 ρ3 σ3 →
          PostS X W F3 ι3 H4 (match fb ρ3 mh3 with
            | .nx ρ' m' => forL g fg fb (g.1.drop (i + 1)) ρ' m'
            | .ct ρ' m' => forL g fg fb (g.1.drop (i + 1)) ρ' m'
            | .bk ρ' m' => .nx ρ' m'
            | o => o) T → tb { nx := fun σ' H' => ∃ F2 ι2 ρ2 mh2, Step F1 ι1 H1 F2 ι2 H' ∧ SR X.K X.mg F2 ι2 mh2 H' ∧ ER X.K X.mg F2 ι2 H' ρ2 σ' ∧ PostS X W F2 ι2 H' (forL g fg fb (g.1.drop (i + 1)) ρ2 mh2) T, rt := T.rt, bk := T.nx, ct := fun σ' H' => ∃ F2 ι2 ρ2 mh2, Step F1 ι1 H1 F2 ι2 H' ∧ SR X.K X.mg F2 ι2 mh2 H' ∧ ER X.K X.mg F2 ι2 H' ρ2 σ' ∧ PostS X W F2 ι2 H' (forL g fg fb (g.1.drop (i + 1)) ρ2 mh2) T } σ3 H4 := by
        intro ρ3 mh3 F3 ι3 σ3 H4 s x y z
        refine qb ρ3 mh3 F3 ι3 σ3 H4 _ x y ?_
        revert z
        generalize fb ρ3 mh3 = o
        intro z
        cases o with
        | nx ρ' m' => exact fun F' ι' H' σ' s' x' y' => ⟨F', ι', ρ', m', s.trans s', x', y', PostS.at (r := forL g fg fb (g.1.drop (i + 1)) ρ' m') z s'⟩
        | ct ρ' m' => exact fun F' ι' H' σ' s' x' y' => ⟨F', ι', ρ', m', s.trans s', x', y', PostS.at (r := forL g fg fb (g.1.drop (i + 1)) ρ' m') z s'⟩
        | bk ρ' m' => exact z
        | rt d mh => exact z
        | err x ds r mh => exact z
        | stuck => exact z
      rcases only with ⟨ρ', mh', e⟩ | e
      · rw [e] at h2
        refine qg g.1[i] x ρ2 mh2 F2 ι2 σ2 H3 (fun σ' H' => ∃ F' ι', Step F2 ι2 H3 F' ι' H' ∧ SR X.K X.mg F' ι' mh' H' ∧ ER X.K X.mg F' ι' H' ρ' σ') _ sr3 er3 dv (by rw [e]; exact fun F' ι' H' σ' s x y => ⟨F', ι', s, x, y⟩) fun σ' H' _ ⟨F', ι', s, x, y⟩ => ?_
        exact body ρ' mh' F' ι' σ' H' ((st2.trans st3).trans s) x y (PostS.at h2 (st3.trans s))
      · rw [e] at h2
        exact h2.elim
    · exact h2.elim
  · have ed : g.1.drop i = [] := List.drop_eq_nil_of_le (by omega)
    rw [ed] at h2
    unfold forL at h2
    split at h2
    · rename_i hgd
      exact .inl ⟨(r1 F2 ι2 H2 mh2 st2 sr2 hgd i).2 (by omega), h2 F2 ι2 H2 σ2 Step.refl sr2 er2⟩
    · exact h2.elim
/-! what is walked: a value that is a list, a tuple; a range -/
def oIts (d : D) (mh : List O) : Res Its := match d with
  | .lst ds => .ok (ds, none) mh
  | .ref n => match mh[n]? with
    | some (.lst ds) => .ok (ds, some (n, ds)) mh
    | _ => .stuck
  | _ => .stuck
def oItsT (d : D) (mh : List O) : Res Its := match d with
  | .tup ds => .ok (ds, none) mh
  | _ => .stuck
def iL (f : CE) : CI := fun ρ mh => (f ρ mh).bind oIts
def iT (f : CE) : CI := fun ρ mh => (f ρ mh).bind oItsT
theorem SqL_of {K : PySem.W.Frag} {F : Addr → Prop} {H : Hp} {a : Addr} {vs : List V} (h : LstAt K F H a vs) : SqL K H a vs := by
  rcases h with ⟨h, _⟩ | h
  · exact .inl h
  · exact .inr h
theorem i_list {tg e : Expr} {f : CE} (h : JE X W e f) : JI X W tg e (iL f) := by
  obtain ⟨t, p, q⟩ := h.ex
  refine ⟨_, pi_list p, fun ρ mh F ι σ H R sr er h => ?_⟩
  refine q ρ mh F ι σ H _ sr er (h.bind.mono fun v H1 ⟨F1, ι1, d, m1, st1, sr1, r1, h1⟩ => ?_)
  have hl : ∀ {i : Nat} {d : D} {ds : List D} {vs : List V} {F' : Addr → Prop} {ι' : List Addr} {H' : Hp} {a : Addr}, SqL X.K H' a vs → DVs X.K X.mg F' ι' H' ds vs → ((∀ d, ds[i]? = some d → (Itl X.K a).go i H' ∧ ∀ x H'', (Itl X.K a).yld i H' x H'' → (∀ a o, H' a = some o → H'' a = some o) ∧ DV X.K X.mg F' ι' H'' d x) ∧ (ds.length ≤ i → (Itl X.K a).stop i H')) := by
    intro i d ds vs F' ι' H' a sq r
    refine ⟨fun d hd => ?_, fun hi => ⟨vs, sq, by rw [← r.length]; exact hi⟩⟩
    obtain ⟨v, hv, rv⟩ := r.get hd
    refine ⟨⟨vs, v, sq, hv⟩, fun x H'' y => ?_⟩
    obtain ⟨e, y⟩ := y
    subst e
    have q := y vs sq
    rw [hv] at q; cases q
    exact ⟨fun _ _ z => z, rv⟩
  unfold oIts at h1
  split at h1
  · cases r1 with
    | lst hq r =>
      refine ⟨_, rfl, ⟨_, SqL_of hq⟩, h1 F1 ι1 H1 _ Step.refl sr1 fun F' ι' H' mh' s x gd i => ?_⟩
      exact hl (d := D.non) (SqL_of (hq.to sr1.sub s)) (DVs.to sr1.sub s _ _ r)
  · rename_i n
    split at h1
    · rename_i ds hn
      cases r1 with
      | ref e =>
        have ho := sr1.ob _ _ _ hn e
        cases ho with
        | lst hh r =>
          refine ⟨_, rfl, ⟨_, .inl (.inl hh)⟩, h1 F1 ι1 H1 _ Step.refl sr1 fun F' ι' H' mh' s x gd i => ?_⟩
          rename_i a0 _ _ 
          have e' : ι'[n]? = some a0 := by
            obtain ⟨t, q⟩ := s.pre
            rw [← q, List.getElem?_append_left (List.getElem?_eq_some_iff.mp e).1]; exact e
          have ho' := x.ob _ _ _ gd e'
          cases ho' with
          | lst hh' r' => exact hl (d := D.non) (.inl (.inl hh')) r'
    · exact h1.elim
  · exact h1.elim
theorem i_tup {tg e : Expr} {f : CE} (h : JE X W e f) : JI X W tg e (iT f) := by
  obtain ⟨t, p, q⟩ := h.ex
  refine ⟨_, pi_tup p, fun ρ mh F ι σ H R sr er h => ?_⟩
  refine q ρ mh F ι σ H _ sr er (h.bind.mono fun v H1 ⟨F1, ι1, d, m1, st1, sr1, r1, h1⟩ => ?_)
  unfold oItsT at h1
  split at h1
  · cases r1 with
    | tup hq r =>
      refine ⟨_, rfl, ⟨_, .inl hq⟩, h1 F1 ι1 H1 _ Step.refl sr1 fun F' ι' H' mh' s x gd i => ?_⟩
      have sq : SqT X.K H' _ _ := .inl (s.tups _ _ hq)
      have r' := DVs.to sr1.sub s _ _ r
      refine ⟨fun d hd => ?_, fun hi => ⟨_, sq, by rw [← r'.length]; exact hi⟩⟩
      obtain ⟨v, hv, rv⟩ := r'.get hd
      refine ⟨⟨_, v, sq, hv⟩, fun x H'' y => ?_⟩
      obtain ⟨e, y⟩ := y
      subst e
      have q := y _ sq
      rw [hv] at q; cases q
      exact ⟨fun _ _ z => z, rv⟩
  · exact h1.elim
def rngL (lo : Int) (n : Nat) : List D := (List.range n).map fun i => .int (lo + (i : Nat))
def oRng1 (ds : List D) (mh : List O) : Res Its := match ds with
  | [.int j] => if -(2 ^ 62) ≤ j ∧ j < 2 ^ 62 then .ok (rngL 0 j.toNat, none) mh else .stuck
  | _ => .stuck
def oRng2 (ds : List D) (mh : List O) : Res Its := match ds with
  | [.int i, .int j] => if -(2 ^ 62) ≤ i ∧ i < 2 ^ 62 ∧ -(2 ^ 62) ≤ j ∧ j < 2 ^ 62 then .ok (rngL i (j - i).toNat, none) mh else .stuck
  | _ => .stuck
def iR1 (f : CA) : CI := fun ρ mh => (f ρ mh).bind oRng1
def iR2 (f : CA) : CI := fun ρ mh => (f ρ mh).bind oRng2
theorem ri_rng {F : Addr → Prop} {ι : List Addr} {H : Hp} (lo : Int) (n : Nat) : RI X F ι H (rngL lo n, none) (Itr lo n) := by
  intro F' ι' H' mh' s x gd i
  refine ⟨fun d hd => ?_, fun hi => ?_⟩
  · unfold rngL at hd
    rw [List.getElem?_map] at hd
    have hi : i < n := by
      rcases Nat.lt_or_ge i n with h | h
      · exact h
      · rw [List.getElem?_eq_none (by simpa using h)] at hd; cases hd
    rw [List.getElem?_range hi] at hd
    cases hd
    refine ⟨hi, fun x H'' y => ?_⟩
    obtain ⟨e, e2⟩ := y
    subst e e2
    exact ⟨fun _ _ z => z, .int _⟩
  · unfold rngL at hi
    rw [List.length_map, List.length_range] at hi
    exact hi
theorem i_rng1 {tg a : Expr} {f : CA} {p : Pos} (hm : X.mg "range" = none) (h : JA X W [a] f) (hg : Gl X "range" := by rfl) (hs : starEach [a] X.env = [(false, eval a X.env)] := by rfl) : JI X W tg (.Call (.Name "range" p) [a] [] pos) (iR1 f) := by
  obtain ⟨t, pa, q⟩ := h.ex
  refine ⟨_, pi_range1 hg hm pa hs, fun ρ mh F ι σ H R sr er h => ?_⟩
  refine q ρ mh F ι σ H _ sr er (h.bind.mono fun vs H1 ⟨F1, ι1, ds, m1, st1, sr1, r1, h1⟩ => ?_)
  unfold oRng1 at h1
  split at h1
  · split at h1
    · rename_i hb
      cases r1 with
      | cons r1 r2 =>
        cases r2
        cases r1
        exact ⟨_, rfl, hb.1, hb.2, h1 F1 ι1 H1 _ Step.refl sr1 (ri_rng 0 _)⟩
    · exact h1.elim
  · exact h1.elim
theorem i_rng2 {tg a b : Expr} {f : CA} {p : Pos} (hm : X.mg "range" = none) (h : JA X W [a, b] f) (hg : Gl X "range" := by rfl) (hs : starEach [a, b] X.env = [(false, eval a X.env), (false, eval b X.env)] := by rfl) (hs2 : starEach [b] X.env = [(false, eval b X.env)] := by rfl) :
    JI X W tg (.Call (.Name "range" p) [a, b] [] pos) (iR2 f) := by
  obtain ⟨t, pa, q⟩ := h.ex
  refine ⟨_, pi_range2 hg hm pa hs hs2, fun ρ mh F ι σ H R sr er h => ?_⟩
  refine q ρ mh F ι σ H _ sr er (h.bind.mono fun vs H1 ⟨F1, ι1, ds, m1, st1, sr1, r1, h1⟩ => ?_)
  unfold oRng2 at h1
  split at h1
  · split at h1
    · rename_i hb
      cases r1 with
      | cons r1 r2 =>
        cases r2 with
        | cons r2 r3 =>
          cases r3
          cases r1
          cases r2
          exact ⟨_, _, rfl, hb, h1 F1 ι1 H1 _ Step.refl sr1 (ri_rng _ _)⟩
    · exact h1.elim
  · exact h1.elim
end
end G

/-! Part D: defs, their promises, calls, the law's end. -/
namespace G
open PySem PySem.Spec PyProof.Rows L2

/-! ### what a call hands back, as a value of the caller's -/
def fzl (g : D → Option D) : List D → Option (List D)
  | [] => some []
  | d :: ds => match g d, fzl g ds with
    | some x, some xs => some (x :: xs)
    | _, _ => none
def fz (mh : List O) : Nat → D → Option D
  | 0, _ => none
  | n + 1, d => match d with
    | .tup ds => (fzl (fz mh n) ds).map .tup
    | .lst ds => (fzl (fz mh n) ds).map .lst
    | .dic ks ds => (fzl (fz mh n) ds).map (.dic ks)
    | .obj x ns ds => (fzl (fz mh n) ds).map (.obj x ns)
    | .ref m => match mh[m]? with
      | some (.lst ds) => (fzl (fz mh n) ds).map .lst
      | some (.dic ks ds) => (fzl (fz mh n) ds).map (.dic ks)
      | some (.ins x ns ds) => (fzl (fz mh n) ds).map (.obj x ns)
      | _ => none
    | .clo _ _ => none
    | d => some d
def oFz (mh : List O) (d : D) : Option D := match mh with
  | [] => some d
  | _ => fz mh 12 d
section
variable {K : PySem.W.Frag} {mg : Str → Option Value} {F F' : Addr → Prop} {ι ι' : List Addr} {H' : Hp} {mh' : List O}
theorem fz_ok (sr : SR K mg F' ι' mh' H') (nf : ∀ a, a ∈ ι' → ¬ F a) (up : ∀ a, F a → F' a) : ∀ (n : Nat) (d d' : D) (v : V), DV K mg F' ι' H' d v → fz mh' n d = some d' → DV K mg F ι H' d' v := by
  intro n
  induction n with
  | zero => intro d d' v _ e; cases e
  | succ n ih =>
    have all : ∀ (ds ds' : List D) (vs : List V), DVs K mg F' ι' H' ds vs → fzl (fz mh' n) ds = some ds' → DVs K mg F ι H' ds' vs := by
      intro ds
      induction ds with
      | nil => intro ds' vs h e; cases h; cases e; exact .nil
      | cons d ds ihl =>
        intro ds' vs h e
        cases h with
        | cons h t =>
          unfold fzl at e
          split at e
          · rename_i x xs e1 e2
            cases e
            exact .cons (ih _ _ _ h e1) (ihl _ _ t e2)
          · cases e
    intro d d' v h e
    cases h with
    | non => cases e; exact .non
    | bl b => cases e; exact .bl b
    | int i => cases e; exact .int i
    | str x => cases e; exact .str x
    | ty n => cases e; exact .ty n
    | glb m r => cases e; exact .glb m r
    | tup h r =>
      obtain ⟨ds', e1, rfl⟩ := Option.map_eq_some_iff.mp e
      exact .tup h (all _ _ _ r e1)
    | lst h r =>
      obtain ⟨ds', e1, rfl⟩ := Option.map_eq_some_iff.mp e
      refine .lst ?_ (all _ _ _ r e1)
      rcases h with ⟨h, n⟩ | h
      · exact .inl ⟨h, fun z => n (up _ z)⟩
      · exact .inr h
    | dic h n e0 r =>
      obtain ⟨ds', e1, rfl⟩ := Option.map_eq_some_iff.mp e
      exact .dic h (fun z => n (up _ z)) e0 (all _ _ _ r e1)
    | obj h m e0 r =>
      obtain ⟨ds', e1, rfl⟩ := Option.map_eq_some_iff.mp e
      exact .obj (h.upto fun b o e n _ => ⟨fun z => n (up _ z), e⟩) m e0 (all _ _ _ r e1)
    | clo h r => cases e
    | @ref m a ea =>
      have e : (match mh'[m]? with
        | some (.lst ds) => (fzl (fz mh' n) ds).map .lst
        | some (.dic ks ds) => (fzl (fz mh' n) ds).map (.dic ks)
        | some (.ins x ns ds) => (fzl (fz mh' n) ds).map (.obj x ns)
        | _ => none) = some d' := e
      have na := nf a (List.mem_of_getElem? ea)
      split at e
      · rename_i ds q
        obtain ⟨ds', e1, rfl⟩ := Option.map_eq_some_iff.mp e
        cases sr.ob _ _ _ q ea with
        | lst h r => exact .lst (.inl ⟨.inl h, na⟩) (all _ _ _ r e1)
      · rename_i ks ds q
        obtain ⟨ds', e1, rfl⟩ := Option.map_eq_some_iff.mp e
        cases sr.ob _ _ _ q ea with
        | dic h e0 r => exact .dic (.inl h) na e0 (all _ _ _ r e1)
      · rename_i x ns ds q
        obtain ⟨ds', e1, rfl⟩ := Option.map_eq_some_iff.mp e
        cases sr.ob _ _ _ q ea with
        | ins h m e0 r => exact .obj ⟨na, .inl ⟨_, h⟩⟩ m e0 (all _ _ _ r e1)
      · cases e
mutual
/-- nothing live within: it is the same whatever is live -/
theorem DV.bare (up : ∀ a, F a → F' a) : ∀ (d : D) (v : V), DV K mg F' [] H' d v → DV K mg F ι H' d v
  | .non, _, h => by cases h; exact .non
  | .bl b, _, h => by cases h; exact .bl b
  | .int i, _, h => by cases h; exact .int i
  | .str x, _, h => by cases h; exact .str x
  | .ty n, _, h => by cases h; exact .ty n
  | .glb x, _, h => by
    cases h with
    | glb m r => exact .glb m r
  | .ref n, _, h => by
    cases h with
    | ref e => simp at e
  | .tup ds, _, h => by
    cases h with
    | tup h r => exact .tup h (DVs.bare up ds _ r)
  | .lst ds, _, h => by
    cases h with
    | lst h r =>
      refine .lst ?_ (DVs.bare up ds _ r)
      rcases h with ⟨h, n⟩ | h
      · exact .inl ⟨h, fun z => n (up _ z)⟩
      · exact .inr h
  | .dic ks ds, _, h => by
    cases h with
    | dic h n e r => exact .dic h (fun z => n (up _ z)) e (DVs.bare up ds _ r)
  | .obj x ns ds, _, h => by
    cases h with
    | obj h m e r => exact .obj (h.upto fun b o e n _ => ⟨fun z => n (up _ z), e⟩) m e (DVs.bare up ds _ r)
  | .clo y ds, _, h => by
    cases h with
    | clo h r => exact .clo (h.upto fun b o e n _ => ⟨fun z => n (up _ z), e⟩) (DVs.bare up ds _ r)
theorem DVs.bare (up : ∀ a, F a → F' a) : ∀ (ds : List D) (vs : List V), DVs K mg F' [] H' ds vs → DVs K mg F ι H' ds vs
  | [], _, h => by cases h; exact .nil
  | d :: ds, _, h => by
    cases h with
    | cons h t => exact .cons (DV.bare up d _ h) (DVs.bare up ds _ t)
end
theorem oFz_ok {d d' : D} {v : V} (sr : SR K mg F' ι' mh' H') (nf : ∀ a, a ∈ ι' → ¬ F a) (up : ∀ a, F a → F' a) (h : DV K mg F' ι' H' d v) (e : oFz mh' d = some d') : DV K mg F ι H' d' v := by
  unfold oFz at e
  split at e
  · cases e
    have : ι' = [] := List.length_eq_zero_iff.mp sr.len
    subst this
    exact DV.bare up d v h
  · exact fz_ok sr nf up 12 d d' v h e
end
mutual
def noRef : D → Bool
  | .ref _ => false
  | .tup ds => noRefs ds
  | .lst ds => noRefs ds
  | .dic _ ds => noRefs ds
  | .obj _ _ ds => noRefs ds
  | .clo _ _ => false
  | _ => true
def noRefs : List D → Bool
  | [] => true
  | d :: ds => noRef d && noRefs ds
end
section
variable {K : PySem.W.Frag} {mg : Str → Option Value} {F : Addr → Prop} {ι : List Addr} {H : Hp}
mutual
theorem DV.own : ∀ (d : D) (v : V), noRef d = true → DV K mg F ι H d v → DV K mg F [] H d v
  | .non, _, _, h => by cases h; exact .non
  | .bl b, _, _, h => by cases h; exact .bl b
  | .int i, _, _, h => by cases h; exact .int i
  | .str x, _, _, h => by cases h; exact .str x
  | .ty n, _, _, h => by cases h; exact .ty n
  | .glb x, _, _, h => by
    cases h with
    | glb m r => exact .glb m r
  | .ref n, _, q, _ => by
    unfold noRef at q; cases q
  | .tup ds, _, q, h => by
    unfold noRef at q
    cases h with
    | tup h r => exact .tup h (DVs.own ds _ q r)
  | .lst ds, _, q, h => by
    unfold noRef at q
    cases h with
    | lst h r => exact .lst h (DVs.own ds _ q r)
  | .dic ks ds, _, q, h => by
    unfold noRef at q
    cases h with
    | dic h n e r => exact .dic h n e (DVs.own ds _ q r)
  | .obj x ns ds, _, q, h => by
    unfold noRef at q
    cases h with
    | obj h m e r => exact .obj h m e (DVs.own ds _ q r)
  | .clo y ds, _, q, h => by
    unfold noRef at q; cases q
theorem DVs.own : ∀ (ds : List D) (vs : List V), noRefs ds = true → DVs K mg F ι H ds vs → DVs K mg F [] H ds vs
  | [], _, _, h => by cases h; exact .nil
  | d :: ds, _, q, h => by
    unfold noRefs at q
    rw [Bool.and_eq_true] at q
    cases h with
    | cons h t => exact .cons (DV.own d _ q.1 h) (DVs.own ds _ q.2 t)
end
end

/-! ### promises -/
abbrev Fn := List D → List O → Res D
abbrev WD (E : XK) : WX := fun c d _ H => E c d H
def spG (K : PySem.W.Frag) (mg : Str → Option Value) (n : Nat) (f : Fn) : Sp := fun vs H Q E => vs.length = n ∧ ∃ ds F ι mh, SR K mg F ι mh H ∧ DVs K mg F ι H ds vs ∧ Post K mg (fun F ι H d v => DV K mg F ι H d v) (WD E) [] F ι H (f ds mh) Q
def defn (N n : Nat) (b : CS) : Fn := fun ds mh => match b (ds.map some ++ List.replicate (N - n) none) mh with
  | .nx _ m => .ok .non m
  | .rt d m => .ok d m
  | .err c es _ m => .err c es m
  | _ => .stuck
theorem er_start {K : PySem.W.Frag} {mg : Str → Option Value} {F : Addr → Prop} {ι : List Addr} {H : Hp} {ds : List D} {vs : List V} {N : List Str} {n : Nat} (r : DVs K mg F ι H ds vs) (hn : vs.length = n) : ER K mg F ι H (ds.map some ++ List.replicate (N.length - n) none) (L2.start N vs) := by
  have hl := r.length
  unfold L2.start
  refine ⟨by simp [hl, hn], fun i d e => ?_⟩
  by_cases hi : i < ds.length
  · rw [List.getElem?_append_left (by simpa using hi), List.getElem?_map] at e
    cases q : ds[i]? with
    | none => rw [q] at e; cases e
    | some d0 =>
      rw [q] at e
      cases e
      obtain ⟨v, hv, rv⟩ := r.get q
      exact ⟨v, by rw [List.getElem?_append_left (by rw [List.length_map, ← hl]; exact hi), List.getElem?_map, hv]; rfl, rv⟩
  · rw [List.getElem?_append_right (by simpa using hi), List.getElem?_replicate] at e
    split at e <;> cases e
section
variable {P : Program} {w : World} {K : PySem.W.Frag} {mg : Str → Option Value} {base : Heap}
abbrev cxG (P : Program) (w : World) (K : PySem.W.Frag) (mg : Str → Option Value) (base : Heap) (N : List Str) (qual : Str) (st : Stmt) (f : Addr) (cdv : Value) (A : Around) (outer : List Env) (s : Shared) (H : Hp) (E : XK) : Cx :=
  cxOf (L2.CX P w) P w K mg base N qual (defScope st) f cdv A outer s H E
theorem fn_ok {x qual : Str} {st : Stmt} {f : Addr} {fd : FuncData} {N ps : List Str} {k : Nat} (Fu : Fun K x qual st f fd) (S : FnScope N ps (defScope st)) {b : CS}
    (hb : ∀ (cdv : Value) (A : Around) (outer : List Env) (s : Shared) (H : Hp) (E : XK), Cc k (cxG P w K mg base N qual st f cdv A outer s H E) (WD E) → JSs (cxG P w K mg base N qual st f cdv A outer s H E) (WD E) (defBody st) b) :
    FnOk P w K mg base (L2.CX P w) (k + 1) f fd ps (spG K mg ps.length (defn N.length ps.length b)) := by
  refine Fu.okX S (fun vs H Q E h => h.1) (fun cdv A outer s H vs Q E hr h => ?_)
  obtain ⟨hl, ds, F, ι, mh, sr, r, h⟩ := h
  have c : Cc k (cxG P w K mg base N qual st f cdv A outer s H E) (WD E) := ⟨rfl, S.nd, takes_of rfl rfl rfl rfl, hr, passes_of rfl⟩
  obtain ⟨t, p, q⟩ := (hb cdv A outer s H E c).ex
  refine ⟨t, p, q _ mh F ι _ H _ sr (er_start r hl) ?_⟩
  unfold defn at h
  revert h
  generalize b (ds.map some ++ List.replicate (N.length - ps.length) none) mh = o
  intro h
  cases o with
  | nx ρ m => exact fun F' ι' H' σ' s x _ => h F' ι' H' .non s x .non
  | rt d m => exact h
  | err c es ρ m => exact fun F' ι' H' cls dx σ' s x _ z => h F' ι' H' cls dx s x z
  | bk ρ m => exact h.elim
  | ct ρ m => exact h.elim
  | stuck => exact h.elim
/-- a def of the module, with what it is worth -/
structure Def (P : Program) (w : World) (K : PySem.W.Frag) (mg : Str → Option Value) (base : Heap) (k : Nat) (x : Str) (n : Nat) (f : Fn) : Prop where
  ex : ∃ (a : Addr) (fd : FuncData) (ps : List Str), mg x = some (.ref a) ∧ PySem.W.keepIn K (.ref a) = true ∧ Binds K fd ps [] ∧ ps.length = n ∧ FnOk P w K mg base (L2.CX P w) k a fd ps (spG K mg n f)
theorem def_mk {x qual : Str} {st : Stmt} {f : Addr} {fd : FuncData} {ps : List Str} {k n : Nat} {fn : Fn} (Fu : Fun K x qual st f fd) (bi : Binds K fd ps []) (m : mg x = some (.ref f))
    (h : FnOk P w K mg base (L2.CX P w) k f fd ps (spG K mg n fn)) (hn : ps.length = n := by rfl) : Def P w K mg base k x n fn :=
  ⟨f, fd, ps, m, Fu.kp, bi, hn, h⟩
end

/-! ### calls -/
/-- a call in a heap of its own; what it hands back is taken as a value -/
def oP (f : Fn) : Fn := fun ds mh => if noRefs ds = true then (match f ds [] with
  | .ok d m => (match oFz m d with
    | some d' => .ok d' mh
    | none => .stuck)
  | .err c es m => (match fzl (oFz m) es with
    | some es' => .err c es' mh
    | none => .stuck)
  | .stuck => .stuck) else .stuck
section
variable {X : Cx} {W : WX} {k j : Nat} {pos p : Pos} {x : Str} {n : Nat} {f : Fn} {e : Expr} {es : List Expr}
theorem fzls_ok {K : PySem.W.Frag} {mg : Str → Option Value} {F F' : Addr → Prop} {ι ι' : List Addr} {H' : Hp} {mh' : List O} (sr : SR K mg F' ι' mh' H') (nf : ∀ a, a ∈ ι' → ¬ F a) (up : ∀ a, F a → F' a) :
    ∀ (ds ds' : List D) (vs : List V), DVs K mg F' ι' H' ds vs → fzl (oFz mh') ds = some ds' → DVs K mg F ι H' ds' vs := by
  intro ds
  induction ds with
  | nil => intro ds' vs h e; cases h; cases e; exact .nil
  | cons d ds ihl =>
    intro ds' vs h e
    cases h with
    | cons h t =>
      unfold fzl at e
      split at e
      · rename_i x xs e1 e2
        cases e
        exact .cons (oFz_ok sr nf up h e1) (ihl _ _ t e2)
      · cases e
/-- the promise as the caller's worth -/
theorem sp_call {K : PySem.W.Frag} {mg : Str → Option Value} {F : Addr → Prop} {ι : List Addr} {mh : List O} {σ : L2.St} {H : Hp} {ds : List D} {vs : List V} {Q : VK} (hn : vs.length = n) (sr : SR K mg F ι mh H) (r : DVs K mg F ι H ds vs)
    (h : Post K mg (fun F ι H d v => DV K mg F ι H d v) W σ F ι H (f ds mh) Q) : spG K mg n f vs H Q (WE W σ) := by
  refine ⟨hn, ds, F, ι, mh, sr, r, ?_⟩
  revert h
  generalize f ds mh = o
  intro h
  cases o with
  | ok d m => exact h
  | err c es m => exact h
  | stuck => exact h
theorem sp_callP {K : PySem.W.Frag} {mg : Str → Option Value} {F : Addr → Prop} {ι : List Addr} {mh : List O} {σ : L2.St} {H : Hp} {ds : List D} {vs : List V} {Q : VK} (hn : vs.length = n) (sr : SR K mg F ι mh H) (r : DVs K mg F ι H ds vs)
    (h : Post K mg (fun F ι H d v => DV K mg F ι H d v) W σ F ι H (oP f ds mh) Q) : spG K mg n f vs H Q (WE W σ) := by
  unfold oP at h
  split at h
  · rename_i hr
    have sr0 : SR K mg F [] [] H := ⟨rfl, List.nodup_nil, fun n o a e => by simp at e, fun a z => by simp at z, sr.old, sr.tabs⟩
    have back : ∀ {F' : Addr → Prop} {ι' : List Addr} {H' : Hp}, Step F [] H F' ι' H' → LamX.Tabs (lamTabs K) H' → (SR K mg F ι mh H' ∧ Step F ι H F ι H') ∧ (∀ a, a ∈ ι' → ¬ F a) := fun {F' ι' H'} st tb => by
      refine ⟨sr.own st tb, fun a ha z => ?_⟩
      rcases st.inew a ha with q | q
      · simp at q
      · exact sr.old a z q
    refine ⟨hn, ds, F, [], [], sr0, DVs.own ds _ hr r, ?_⟩
    revert h
    generalize f ds [] = o
    intro h
    cases o with
    | ok d m =>
      intro F' ι' H' b st sr' rb
      obtain ⟨⟨sr2, st2⟩, nf⟩ := back st sr'.tabs
      dsimp only at h
      split at h
      · rename_i d' e
        exact h F ι H' b st2 sr2 (oFz_ok sr' nf st.up rb e)
      · exact h.elim
    | err c es m =>
      intro F' ι' H' cls dx st sr' ev
      obtain ⟨⟨sr2, st2⟩, nf⟩ := back st sr'.tabs
      dsimp only at h
      split at h
      · rename_i es' e
        refine h F ι H' cls dx st2 sr2 ?_
        obtain ⟨C, e1, e0, e2, e3⟩ := ev
        refine ⟨C, e1, e0, e2, ?_⟩
        rcases e3 with ⟨rfl, rfl⟩ | ⟨d, f, v, y, rfl, nd, e4, rfl, r4⟩
        · cases e
          exact .inl ⟨rfl, rfl⟩
        · have q : oFz m (.str f) = some (.str f) := by unfold oFz; cases m <;> rfl
          cases qy : oFz m y with
          | none => simp [fzl, q, qy] at e
          | some y' =>
            simp [fzl, q, qy] at e
            subst e
            exact .inr ⟨d, f, v, y', rfl, fun z => nd (st.up _ z), e4, rfl, oFz_ok sr' nf st.up r4 qy⟩
      · exact h.elim
    | stuck => exact h.elim
  · exact h.elim
theorem j_callAny {g : CA} {f' : Fn} (d : Def X.prog X.w X.K X.mg X.base j x n f) (c : Cc k X W) (hk : j ≤ k) (ha : JA X W (e :: es) g)
    (hsp : ∀ (F : Addr → Prop) (ι : List Addr) (mh : List O) (σ : L2.St) (H : Hp) (ds : List D) (vs : List V) (Q : VK), vs.length = n → SR X.K X.mg F ι mh H → DVs X.K X.mg F ι H ds vs → Post X.K X.mg (DR X) W σ F ι H (f' ds mh) Q → spG X.K X.mg n f vs H Q (WE W σ))
    (hn : ∀ ds mh, ds.length ≠ n → f' ds mh = .stuck) (hg : Gl X x := by rfl)
    (hdb : (x == ("__debug__" : Str)) = false := by decide) (he : starEach (e :: es) X.env = (false, eval e X.env) :: starEach es X.env := by rfl) (hpl : (backTo pos (starEach es X.env)).any (·.1) = false := by rfl) :
    JE X W (.Call (.Name x p) (e :: es) [] pos) (cL f' g) := by
  obtain ⟨a, fd, ps, m, kp, b, hl, F⟩ := d.ex
  obtain ⟨t, pa, q⟩ := ha.ex
  refine ⟨_, pe_callS F (c.hr.mono hk) hg m kp b (fun σ => passAt c.tk σ) pa hdb he hpl, fun ρ mh F ι σ H Q sr er h => ?_⟩
  refine q ρ mh F ι σ H _ sr er (h.bind.mono fun xs H1 ⟨F1, ι1, d1, m1, st1, sr1, r1, h1⟩ => ?_)
  by_cases hx : xs.length = n
  · exact hsp F1 ι1 m1 σ H1 d1 xs Q hx sr1 r1 h1
  · rw [hn d1 m1 (by rw [DVs.length r1]; exact hx)] at h1
    exact h1.elim
/-- the arguments' number is checked -/
def ar (n : Nat) (f : Fn) : Fn := fun ds mh => if ds.length = n then f ds mh else .stuck
theorem j_call {g : CA} (d : Def X.prog X.w X.K X.mg X.base j x n f) (c : Cc k X W) (ha : JA X W (e :: es) g) (hk : j ≤ k := by omega) (hg : Gl X x := by rfl)
    (hdb : (x == ("__debug__" : Str)) = false := by decide) (he : starEach (e :: es) X.env = (false, eval e X.env) :: starEach es X.env := by rfl) (hpl : (backTo pos (starEach es X.env)).any (·.1) = false := by rfl) :
    JE X W (.Call (.Name x p) (e :: es) [] pos) (cL (ar n f) g) :=
  j_callAny d c hk ha (fun F ι mh σ H ds vs Q hn sr r h => sp_call hn sr r (by unfold ar at h; rw [if_pos (by rw [DVs.length r]; exact hn)] at h; exact h)) (fun ds mh hx => if_neg hx) hg hdb he hpl
theorem j_callP {g : CA} (d : Def X.prog X.w X.K X.mg X.base j x n f) (c : Cc k X W) (ha : JA X W (e :: es) g) (hk : j ≤ k := by omega) (hg : Gl X x := by rfl)
    (hdb : (x == ("__debug__" : Str)) = false := by decide) (he : starEach (e :: es) X.env = (false, eval e X.env) :: starEach es X.env := by rfl) (hpl : (backTo pos (starEach es X.env)).any (·.1) = false := by rfl) :
    JE X W (.Call (.Name x p) (e :: es) [] pos) (cL (ar n (oP f)) g) :=
  j_callAny d c hk ha (fun F ι mh σ H ds vs Q hn sr r h => sp_callP hn sr r (by unfold ar at h; rw [if_pos (by rw [DVs.length r]; exact hn)] at h; exact h)) (fun ds mh hx => if_neg hx) hg hdb he hpl
end

/-! ### the law's end -/
theorem dvs_ints {K : PySem.W.Frag} {mg : Str → Option Value} {F : Addr → Prop} {ι : List Addr} {H : Hp} : ∀ ns : List Int, DVs K mg F ι H (ns.map D.int) (ns.map V.int)
  | [] => .nil
  | n :: ns => .cons (.int n) (dvs_ints ns)
theorem sp_law {K : PySem.W.Frag} {mg : Str → Option Value} {f : Fn} {H : Hp} {a : Addr} {ns : List Int} (hs : SqL K H a (ns.map V.int)) (tb : LamX.Tabs (lamTabs K) H) (h : ∃ mh, f [.lst (ns.map D.int)] [] = .ok (.bl true) mh) :
    spG K mg 1 f [.ref a] H (fun v _ => v = .bl true) (fun _ _ _ => False) := by
  obtain ⟨mh, e⟩ := h
  refine ⟨rfl, [.lst (ns.map D.int)], fun _ => False, [], [], ⟨rfl, List.nodup_nil, fun n o a e => by simp at e, fun a z => by simp at z, fun a z => z.elim, tb⟩, .cons (.lst ?_ (dvs_ints ns)) .nil, ?_⟩
  · rcases hs with hs | hs
    · exact .inl ⟨hs, fun z => z⟩
    · exact .inr hs
  · rw [e]
    intro F' ι' H' b st sr r
    cases r
    rfl
/-- the defs that hold lambdas: not there, or defs of the text; their tables are no part of the fragment, and unlike -/
structure LamOk (q : Program) (K : PySem.W.Frag) : Prop where
  has : ∀ x ∈ lamDefs, PySem.W.nsIn K mainGlobals x = some none ∨ ((recsOf q).any fun e => e.name == x) = true
  out : ∀ x c P, x ∈ lamDefs → tabOf K x = some (c, P) → K.lookup P = none
  one : ∀ x y c c' P, x ∈ lamDefs → y ∈ lamDefs → tabOf K x = some (c, P) → tabOf K y = some (c', P) → x = y
def TabBs (K : PySem.W.Frag) (base : Heap) (mg : Str → Option Value) : Prop := ∀ x c P, x ∈ lamDefs → tabOf K x = some (c, P) → LamX.TabB base mg c P
theorem tabOf_some {K : PySem.W.Frag} {x : Str} {c P : Addr} (h : tabOf K x = some (c, P)) : ∃ f oc od fd sl e dd vs sl', PySem.W.nsIn K mainGlobals x = some (some (.ref f)) ∧ K.lookup f = some ⟨oc, od, .func fd, sl⟩ ∧ fd.code = .ref c ∧ K.lookup c = some ⟨e, dd, .fields vs, sl'⟩ ∧ vs[11]? = some (.ref P) := by
  unfold tabOf at h
  split at h
  · rename_i f h1
    split at h
    · rename_i oc od fd sl h2
      split at h
      · rename_i c' h3
        split at h
        · rename_i e dd vs sl' h4
          split at h
          · rename_i P' h5
            cases h
            exact ⟨f, oc, od, fd, sl, e, dd, vs, sl', h1, h2, h3, h4, h5⟩
          · cases h
        · cases h
      · cases h
    · cases h
  · cases h
theorem tab_none {K : PySem.W.Frag} {x : Str} (h : PySem.W.nsIn K mainGlobals x = some none) : tabOf K x = none := by
  unfold tabOf
  rw [h]
theorem tab_of {K : PySem.W.Frag} {x : Str} {f tc P : Addr} {oc : Value} {od : Option Addr} {fd : FuncData} {sl sl' : Array (Option Value)} {e : Value} {dd : Option Addr} {vs : Array Value} (a : PySem.W.nsIn K mainGlobals x = some (some (.ref f))) (l : K.lookup f = some ⟨oc, od, .func fd, sl⟩) (hc : fd.code = .ref tc)
    (c : K.lookup tc = some ⟨e, dd, .fields vs, sl'⟩) (v : vs[11]? = some (.ref P)) : tabOf K x = some (tc, P) := by
  unfold tabOf
  rw [a]
  dsimp only
  rw [l]
  dsimp only
  rw [hc]
  dsimp only
  rw [c]
  dsimp only
  rw [v]
section
variable {q : Program} {K : PySem.W.Frag} {f tc P : Addr} {oc : Value} {od : Option Addr} {fd : FuncData} {sl sl' : Array (Option Value)} {e : Value} {dd : Option Addr} {vs : Array Value}
theorem lamOk_00 (z1 : PySem.W.nsIn K mainGlobals "order_at" = some none) (z2 : PySem.W.nsIn K mainGlobals "turn_done" = some none) (hxy : ∀ z ∈ lamDefs, z = "order_at" ∨ z = "turn_done" := by decide) : LamOk q K := by
  have all : ∀ x ∈ lamDefs, PySem.W.nsIn K mainGlobals x = some none := fun x hx => by
    rcases hxy x hx with h | h
    · rw [h]; exact z1
    · rw [h]; exact z2
  exact ⟨fun x hx => .inl (all x hx), fun x c P hx h => (by rw [tab_none (all x hx)] at h; cases h), fun x y c c' P hx _ h _ => (by rw [tab_none (all x hx)] at h; cases h)⟩
theorem lamOk_1 {x y : Str} (hxy : ∀ z ∈ lamDefs, z = x ∨ z = y) (r : ((recsOf q).any fun e => e.name == x) = true) (a : PySem.W.nsIn K mainGlobals x = some (some (.ref f))) (l : K.lookup f = some ⟨oc, od, .func fd, sl⟩) (hc : fd.code = .ref tc)
    (c : K.lookup tc = some ⟨e, dd, .fields vs, sl'⟩) (v : vs[11]? = some (.ref P)) (n : K.lookup P = none) (z2 : PySem.W.nsIn K mainGlobals y = some none) : LamOk q K := by
  have ht := tab_of a l hc c v
  refine ⟨fun z hz => ?_, fun z c P hz h => ?_, fun z w c c' P hz hw h h' => ?_⟩
  · rcases hxy z hz with e | e
    · rw [e]; exact .inr r
    · rw [e]; exact .inl z2
  · rcases hxy z hz with e | e
    · rw [e, ht] at h; cases h; exact n
    · rw [e, tab_none z2] at h; cases h
  · rcases hxy z hz with e | e
    · rcases hxy w hw with e' | e'
      · rw [e, e']
      · rw [e', tab_none z2] at h'; cases h'
    · rw [e, tab_none z2] at h; cases h
end
theorem walk {l : PySem.W.OpenLaw} {q : Program} {loose : List Str} {XP : (Str → Option Value) → Heap → Prop} {YP : World → Heap → Prop} {d : DefRec} {K : Params → PySem.W.Frag} {k : Nat} {x : Str} {f : Fn} (hn : l.most = some 63) (hdf : d.params.defaults = []) (hr : Room k callerA)
    (hY : ∀ (w : World) (h : Heap), YP w h → (K w.params).In h)
    (hf : ∀ ns : List Int, ns.length ≤ 63 → ∃ mh, f [.lst (ns.map D.int)] [] = .ok (.bl true) mh)
    (L : ∀ w : World, LamOk q (K w.params))
    (F : ∀ (w : World) (mg : Str → Option Value) (fa : Addr) (h : Heap), LamOk q (K w.params) → (K w.params).In h → h.Ns mainGlobals mg → mg d.name = some (.ref fa) →
      ∃ fd : FuncData, (∀ (s : Shared) (u : Value), BindsTo s fd ⟨[u], []⟩ [(x, u)]) ∧ ∃ mg', ∀ base : Heap, (K w.params).In base → base.Ns mainGlobals mg → TabBs (K w.params) base mg → FnOk l.prog w (K w.params) mg base (L2.CX l.prog w) k fa fd [x] (spG (K w.params) mg' 1 f)) :
    PySem.W.WalkO q loose XP YP l.row.toRowW d [] (fun f vs => PySem.call f vs) := by
  refine Att.attach_callB hn hdf fun w s₀ s₁ mg mb fa o pm cd doc a vs ns G Y ho hd hcd hmg hobj hints hlen hbits hg => ?_
  have KX := hY w _ Y
  obtain ⟨fd, b, mg', hF⟩ := F w mg fa _ (L w) KX G.T.g hmg
  have key : ∀ x c P, x ∈ lamDefs → tabOf (K w.params) x = some (c, P) → s₁.heap.get? P = some { cls := .none, data := .fields #[] } ∧ PySem.W.CodeHd s₁.heap c P := fun x c P hx ht => by
    obtain ⟨f1, oc, od, fd1, sl, e, dd, vs1, sl', h1, h2, h3, h4, h5⟩ := tabOf_some ht
    rcases (L w).has x hx with hz | hz
    · rw [h1] at hz; cases hz
    · obtain ⟨dL, hm, hn1⟩ := List.any_eq_true.mp hz
      have hn2 : dL.name = x := beq_iff_eq.mp hn1
      obtain ⟨a', o', fd', c', P', k1, k2, k3, k4, k5, k6⟩ := G.T.tab dL hm
      rw [hn2, PySem.W.mg_of KX G.T.g h1] at k1
      cases k1
      have g1 := KX _ _ h2
      rw [g1] at k2
      cases k2
      cases k3
      rw [h3] at k4
      cases k4
      have hC := PySem.W.CodeHd.of k5 k6
      obtain ⟨⟨oc2, vc, e1, _, e3, e4⟩, hP⟩ := k6
      have g2 := KX _ _ h4
      rw [g2] at e1
      cases e1
      cases e3
      rw [h5] at e4
      cases e4
      exact ⟨hP, hC⟩
  have mem : ∀ p ∈ lamDefs.filterMap (tabOf (K w.params)), ∃ x ∈ lamDefs, tabOf (K w.params) x = some (p.1, p.2) := fun p hp => List.mem_filterMap.mp hp
  refine LamX.law_callTs (cs := lamDefs.filterMap (tabOf (K w.params))) (sp := spG (K w.params) mg' 1 f) KX G.T.g G.T.b G.T.builtins G.T.nolimit hg (fun p hp => ?_) (fun p hp => ?_) (fun p hp => ?_) G.T.bmain hobj hints (Nat.le_trans hlen (by decide)) hr (fun base i1 i2 i3 => hF base i1 i2 fun x c P hx ht => i3 (c, P) (List.mem_filterMap.mpr ⟨x, hx, ht⟩)) b (fun H hH hS => sp_law hS (fun p hp => ?_) (hf ns hlen)) fun H e s' z => ?_
  · obtain ⟨x, hx, ht⟩ := mem p hp
    exact (key x _ _ hx ht).1
  · obtain ⟨x, hx, ht⟩ := mem p hp
    exact (L w).out x _ _ hx ht
  · obtain ⟨x, hx, ht⟩ := mem p hp
    exact (key x _ _ hx ht).2
  · obtain ⟨x, hx, ht⟩ := List.mem_filterMap.mp hp
    obtain ⟨r, hr, rfl⟩ := Option.map_eq_some_iff.mp ht
    exact LamX.TabS.nil (hH r (List.mem_filterMap.mpr ⟨x, hx, hr⟩))
  · obtain ⟨_, _, _, _, _, _, _, _, _, _, _, _, z⟩ := z
    exact z.elim
end G

/-! Part E: what operators and built-ins are worth. -/
namespace G
open PySem PySem.Spec PyProof.Rows L2

/-! ### list + list, whatever lists -/
def rCatS (K : PySem.W.Frag) : R2 := fun x y H Q => ∃ l b xs zs, x = .ref l ∧ y = .ref b ∧ SqL K H l xs ∧ SqL K H b zs ∧ xs.length + zs.length ≤ sizeLine ∧ ∀ p, H p = none → Q (.ref p) (upd H p (.lst (xs ++ zs)))
theorem op_catS {X : Cx} : OpR X (binaryOp .Add) (rCatS X.K) := by
  intro pins s σ H x y v u Q I rx ry h
  obtain ⟨l, b, xs, zs, rfl, rfl, hH, hB, hz, q⟩ := h
  cases rx
  cases ry
  obtain ⟨its, r, p, _⟩ := I.list hH
  obtain ⟨its2, r2, p2, _⟩ := I.list hB
  obtain ⟨⟨cls, dd, data, sl⟩, n, ho, hc, hdn, hd⟩ := p
  obtain ⟨⟨cls2, dd2, data2, sl2⟩, n2, ho2, hc2, hdn2, hd2⟩ := p2
  simp only at hc hd hc2 hd2
  subst hc hd hc2 hd2
  have e : its.toArray ++ its2.toArray = (its ++ its2).toArray := by simp
  have hl := r.length
  have hl2 := r2.length
  refine concat_meets ⟨_, ho, rfl⟩ ⟨_, ho2, rfl⟩ noFill_list_add seq_list_add PySem.F.slot_list_add PySem.F.entry_list_add (PySem.F.args_list_add_2 _ _) (list_addW l b its.toArray its2.toArray n n2 dd dd2 sl sl2 (by simp; omega)) ⟨ho, ho2, ?_⟩
  rw [e]
  exact ⟨.ref _, _, I.lnew (t' := s.toks) (r.append r2) (by rw [List.length_append]; omega), rfl, q _ I.fresh⟩

/-! ### reading a data value -/
/-- the items of a list, live or not -/
def lstOf (mh : List O) (d : D) : Option (List D) := match d with
  | .lst ds => some ds
  | .ref n => match mh[n]? with
    | some (.lst ds) => some ds
    | _ => none
  | _ => none
section
variable {X : Cx} {F : Addr → Prop} {ι : List Addr} {mh : List O} {H : Hp}
theorem lstOf_ok {d : D} {v : V} {ds : List D} (sr : SR X.K X.mg F ι mh H) (r : DV X.K X.mg F ι H d v) (e : lstOf mh d = some ds) : ∃ a vs, v = .ref a ∧ SqL X.K H a vs ∧ DVs X.K X.mg F ι H ds vs := by
  unfold lstOf at e
  split at e
  · cases e
    cases r with
    | lst h r => exact ⟨_, _, rfl, SqL_of h, r⟩
  · rename_i n
    split at e
    · rename_i ds' hn
      cases e
      cases r with
      | ref ea =>
        cases sr.ob _ _ _ hn ea with
        | lst h r => exact ⟨_, _, rfl, .inl (.inl h), r⟩
    · cases e
  · cases e
def toPl (g : D → Option PyData) : List D → Option (List PyData)
  | [] => some []
  | d :: ds => match g d, toPl g ds with
    | some x, some xs => some (x :: xs)
    | _, _ => none
/-- a data value at any depth, as the layer's == has it -/
def toP (mh : List O) : Nat → D → Option PyData
  | 0, _ => none
  | n + 1, d => match d with
    | .non => some .none
    | .bl b => some (.bool b)
    | .int i => some (.int i)
    | .str x => if PyData.strOk x = true then some (.str x) else none
    | .tup ds => (toPl (toP mh n) ds).map .tuple
    | .lst ds => (toPl (toP mh n) ds).map .list
    | .ref m => match mh[m]? with
      | some (.lst ds) => (toPl (toP mh n) ds).map .list
      | _ => none
    | _ => none
theorem toP_ok (sr : SR X.K X.mg F ι mh H) : ∀ (n : Nat) (d : D) (v : V) (p : PyData), DV X.K X.mg F ι H d v → toP mh n d = some p → Dp X.K H v p ∧ PyData.canLay0 p = true ∧ p.depth ≤ n := by
  intro n
  induction n with
  | zero => intro d v p _ e; cases e
  | succ n ih =>
    have all : ∀ (ds : List D) (vs : List V) (ps : List PyData), DVs X.K X.mg F ι H ds vs → toPl (toP mh n) ds = some ps → DpAll X.K H vs ps ∧ PyData.canLayAll0 ps = true ∧ PyData.depthAll ps ≤ n := by
      intro ds
      induction ds with
      | nil => intro vs ps h e; cases h; cases e; exact ⟨.nil, by simp [PyData.canLayAll0], by simp [PyData.depthAll]⟩
      | cons d ds ihl =>
        intro vs ps h e
        cases h with
        | cons h t =>
          unfold toPl at e
          split at e
          · rename_i x xs e1 e2
            cases e
            obtain ⟨a1, a2, a3⟩ := ih _ _ _ h e1
            obtain ⟨b1, b2, b3⟩ := ihl _ _ t e2
            exact ⟨.cons a1 b1, by simp [PyData.canLayAll0, a2, b2], by simp only [PyData.depthAll]; omega⟩
          · cases e
    intro d v p h e
    cases h with
    | non => cases e; exact ⟨.non, by simp [PyData.canLay0], by simp [PyData.depth]⟩
    | bl b => cases e; exact ⟨.bl b, by simp [PyData.canLay0], by simp [PyData.depth]⟩
    | int i => cases e; exact ⟨.int i, by simp [PyData.canLay0], by simp [PyData.depth]⟩
    | str x =>
      have e : (if PyData.strOk x = true then some (PyData.str x) else none) = some p := e
      split at e
      · rename_i hx
        cases e
        exact ⟨.str x, by simp [PyData.canLay0, hx], by simp [PyData.depth]⟩
      · cases e
    | tup h r =>
      obtain ⟨ps, e1, rfl⟩ := Option.map_eq_some_iff.mp e
      obtain ⟨b1, b2, b3⟩ := all _ _ _ r e1
      exact ⟨.tup (.inl h) b1, by simpa [PyData.canLay0] using b2, by simp only [PyData.depth]; omega⟩
    | lst h r =>
      obtain ⟨ps, e1, rfl⟩ := Option.map_eq_some_iff.mp e
      obtain ⟨b1, b2, b3⟩ := all _ _ _ r e1
      exact ⟨.lst (SqL_of h) b1, by simpa [PyData.canLay0] using b2, by simp only [PyData.depth]; omega⟩
    | clo h r => cases e
    | @ref m a ea =>
      have e : (match mh[m]? with
        | some (.lst ds) => (toPl (toP mh n) ds).map .list
        | _ => none) = some p := e
      split at e
      · rename_i ds q
        obtain ⟨ps, e1, rfl⟩ := Option.map_eq_some_iff.mp e
        cases sr.ob _ _ _ q ea with
        | lst h r =>
          obtain ⟨b1, b2, b3⟩ := all _ _ _ r e1
          exact ⟨.lst (.inl (.inl h)) b1, by simpa [PyData.canLay0] using b2, by simp only [PyData.depth]; omega⟩
      · cases e
    | ty n => cases e
    | glb m r => cases e
    | dic h n e0 r => cases e
    | obj h m e0 r => cases e
theorem shaped_of {p : PyData} (h : PyData.canLay0 p = true) (h2 : p.depth ≤ 16) : SeqAt.shaped p = true := by
  unfold SeqAt.shaped
  rw [h, Bool.true_and]
  exact decide_eq_true (by omega)
end

/-! ### ints -/
def oAdd (d e : D) (mh : List O) : Res D := match d, e with
  | .int i, .int j => .ok (.int (i + j)) mh
  | .str x, .str y => if x.length + y.length ≤ sizeLine then .ok (.str (x ++ y)) mh else .stuck
  | .tup xs, .tup ys => if xs.length + ys.length ≤ sizeLine then .ok (.tup (xs ++ ys)) mh else .stuck
  | d, e => match lstOf mh d, lstOf mh e with
    | some xs, some ys => if xs.length + ys.length ≤ sizeLine then .ok (.lst (xs ++ ys)) mh else .stuck
    | _, _ => .stuck
def oSub (d e : D) (mh : List O) : Res D := match d, e with
  | .int i, .int j => .ok (.int (i - j)) mh
  | _, _ => .stuck
def mulOk (i j : Int) : Prop := ((-(2 ^ 64) < i ∧ i < 2 ^ 64) ∨ (-(2 ^ 64) < j ∧ j < 2 ^ 64)) ∨ i.natAbs.log2 + j.natAbs.log2 < 1000000
instance (i j : Int) : Decidable (mulOk i j) := by unfold mulOk; infer_instance
def oMul (d e : D) (mh : List O) : Res D := match d, e with
  | .int i, .int j => if mulOk i j then .ok (.int (i * j)) mh else .stuck
  | _, _ => .stuck
def divOk (j : Int) : Prop := 0 < j ∧ j.natAbs.log2 < 9000
instance (j : Int) : Decidable (divOk j) := by unfold divOk; infer_instance
def oFdiv (d e : D) (mh : List O) : Res D := match d, e with
  | .int i, .int j => if divOk j then .ok (.int (i / j)) mh else .stuck
  | _, _ => .stuck
def oMod (d e : D) (mh : List O) : Res D := match d, e with
  | .int i, .int j => if 0 < j then .ok (.int (i % j)) mh else .stuck
  | _, _ => .stuck
def powOk (i j : Int) : Prop := 0 ≤ j ∧ j ≤ 1000000 ∧ i.natAbs < 2 ^ 64
instance (i j : Int) : Decidable (powOk i j) := by unfold powOk; infer_instance
def oPow (d e : D) (mh : List O) : Res D := match d, e with
  | .int i, .int j => if powOk i j then .ok (.int (i ^ j.toNat)) mh else .stuck
  | _, _ => .stuck
def oShr (d e : D) (mh : List O) : Res D := match d, e with
  | .int i, .int j => if 0 ≤ j then .ok (.int (i / 2 ^ j.toNat)) mh else .stuck
  | _, _ => .stuck
def oNeg (d : D) (mh : List O) : Res D := match d with
  | .int i => .ok (.int (-i)) mh
  | _ => .stuck
def rAddG (K : PySem.W.Frag) : R2 := fun x y H Q => rI0 (fun i j => .int (i + j)) x y H Q ∨ (∃ i j, x = .str i ∧ y = .str j ∧ i.length + j.length ≤ sizeLine ∧ Q (.str (i ++ j)) H) ∨ rCatA K x y H Q ∨ rCatS K x y H Q
section
variable {X : Cx}
theorem op_addG : OpR X (binaryOp .Add) (rAddG X.K) := op_add.or (op_add_str.or (op_catA.or op_catS))
theorem vo_add : VO2 X (rAddG X.K) oAdd := by
  intro W σ F ι mh H d e v u Q sr r1 r2 h
  unfold oAdd at h
  split at h
  · cases r1; cases r2
    exact .inl ⟨_, _, rfl, rfl, h.ok sr (.int _)⟩
  · split at h
    · rename_i hl
      cases r1; cases r2
      exact .inr (.inl ⟨_, _, rfl, rfl, hl, h.ok sr (.str _)⟩)
    · exact h.elim
  · split at h
    · rename_i xs ys hl
      cases r1 with
      | tup h1 q1 =>
        cases r2 with
        | tup h2 q2 =>
          refine .inr (.inr (.inl ⟨_, _, _, _, rfl, rfl, .inl h1, .inl h2, by rw [← q1.length, ← q2.length]; exact hl, fun e => ?_, fun _ e => ?_, fun _ _ p hp => ?_⟩))
          · subst e
            cases q1
            exact h F ι H _ Step.refl sr (.tup h2 q2)
          · subst e
            cases q2
            rw [List.append_nil] at h
            exact h F ι H _ Step.refl sr (.tup h1 q1)
          · rename_i a1 vs1 a2 vs2 _ _
            have st := step_new (F := F) (ι := ι) (u := .tup (vs1 ++ vs2)) hp
            exact h F ι _ _ st (sr.fresh hp) (.tup (.inl upd_same) ((DVs.to sr.sub st _ _ q1).append (DVs.to sr.sub st _ _ q2)))
    · exact h.elim
  · split at h
    · rename_i xs ys e1 e2
      split at h
      · rename_i hl
        obtain ⟨a, vs, rfl, s1, q1⟩ := lstOf_ok sr r1 e1
        obtain ⟨b, ws, rfl, s2, q2⟩ := lstOf_ok sr r2 e2
        refine .inr (.inr (.inr ⟨_, _, _, _, rfl, rfl, s1, s2, by rw [← q1.length, ← q2.length]; exact hl, fun p hp => ?_⟩))
        have st := step_new (F := F) (ι := ι) (u := .lst (vs ++ ws)) hp
        exact h F ι _ _ st (sr.fresh hp) (.lst (.inl ⟨.inl upd_same, sr.notNew hp⟩) ((DVs.to sr.sub st _ _ q1).append (DVs.to sr.sub st _ _ q2)))
      · exact h.elim
    · exact h.elim
theorem vo_sub : VO2 X (rI0 fun i j => .int (i - j)) oSub := by
  intro W σ F ι mh H d e v u Q sr r1 r2 h
  unfold oSub at h
  split at h
  · cases r1; cases r2
    exact ⟨_, _, rfl, rfl, h.ok sr (.int _)⟩
  · exact h.elim
def rMulG : R2 := fun x y H Q => rI CMul (fun i j => .int (i * j)) x y H Q ∨ rI CMulW (fun i j => .int (i * j)) x y H Q
theorem op_mulG : OpR X (binaryOp .Mult) rMulG := op_mul.or op_mulW
theorem vo_mul : VO2 X rMulG oMul := by
  intro W σ F ι mh H d e v u Q sr r1 r2 h
  unfold oMul at h
  split at h
  · split at h
    · rename_i hm
      cases r1; cases r2
      rcases hm with hm | hm
      · exact .inl ⟨_, _, rfl, rfl, hm, h.ok sr (.int _)⟩
      · exact .inr ⟨_, _, rfl, rfl, hm, h.ok sr (.int _)⟩
    · exact h.elim
  · exact h.elim
theorem vo_fdiv : VO2 X (rI CDivW fun i j => .int (i / j)) oFdiv := by
  intro W σ F ι mh H d e v u Q sr r1 r2 h
  unfold oFdiv at h
  split at h
  · split at h
    · rename_i hm
      cases r1; cases r2
      exact ⟨_, _, rfl, rfl, hm, h.ok sr (.int _)⟩
    · exact h.elim
  · exact h.elim
theorem vo_mod : VO2 X (rI (fun _ j => 0 < j) fun i j => .int (i % j)) oMod := by
  intro W σ F ι mh H d e v u Q sr r1 r2 h
  unfold oMod at h
  split at h
  · split at h
    · rename_i hm
      cases r1; cases r2
      exact ⟨_, _, rfl, rfl, hm, h.ok sr (.int _)⟩
    · exact h.elim
  · exact h.elim
theorem vo_pow : VO2 X (rI CPow fun i j => .int (i ^ j.toNat)) oPow := by
  intro W σ F ι mh H d e v u Q sr r1 r2 h
  unfold oPow at h
  split at h
  · split at h
    · rename_i hm
      cases r1; cases r2
      exact ⟨_, _, rfl, rfl, hm, h.ok sr (.int _)⟩
    · exact h.elim
  · exact h.elim
theorem vo_shr : VO2 X (rI (fun _ j => 0 ≤ j) fun i j => .int (i / 2 ^ j.toNat)) oShr := by
  intro W σ F ι mh H d e v u Q sr r1 r2 h
  unfold oShr at h
  split at h
  · split at h
    · rename_i hm
      cases r1; cases r2
      exact ⟨_, _, rfl, rfl, hm, h.ok sr (.int _)⟩
    · exact h.elim
  · exact h.elim
theorem vo_neg : VO1 X (rU fun i => .int (-i)) oNeg := by
  intro W σ F ι mh H d v Q sr r1 h
  unfold oNeg at h
  split at h
  · cases r1
    exact ⟨_, rfl, h.ok sr (.int _)⟩
  · exact h.elim
end

/-! ### comparisons -/
def intsOf : List D → Option (List Int)
  | [] => some []
  | .int i :: ds => (intsOf ds).map (i :: ·)
  | _ => none
theorem intsOf_ok {K : PySem.W.Frag} {mg : Str → Option Value} {F : Addr → Prop} {ι : List Addr} {H : Hp} : ∀ {ds : List D} {vs : List V} {ns : List Int}, DVs K mg F ι H ds vs → intsOf ds = some ns → vs = ns.map V.int ∧ ds = ns.map D.int
  | [], _, _, h, e => by cases h; cases e; exact ⟨rfl, rfl⟩
  | .int i :: ds, _, _, h, e => by
    obtain ⟨ns, e1, rfl⟩ := Option.map_eq_some_iff.mp e
    cases h with
    | cons h t =>
      cases h
      obtain ⟨a, b⟩ := intsOf_ok t e1
      exact ⟨by rw [a]; rfl, by rw [b]; rfl⟩
  | .non :: _, _, _, _, e => by cases e
  | .bl _ :: _, _, _, _, e => by cases e
  | .str _ :: _, _, _, _, e => by cases e
  | .ty _ :: _, _, _, _, e => by cases e
  | .glb _ :: _, _, _, _, e => by cases e
  | .ref _ :: _, _, _, _, e => by cases e
  | .tup _ :: _, _, _, _, e => by cases e
  | .lst _ :: _, _, _, _, e => by cases e
  | .dic _ _ :: _, _, _, _, e => by cases e
  | .obj _ _ _ :: _, _, _, _, e => by cases e
  | .clo _ _ :: _, _, _, _, e => by cases e
theorem intsOf_map : ∀ ns : List Int, intsOf (ns.map D.int) = some ns
  | [] => rfl
  | n :: ns => by show (intsOf (ns.map D.int)).map (n :: ·) = _; rw [intsOf_map ns]; rfl
def oLt (d e : D) (mh : List O) : Res D := match d, e with
  | .int i, .int j => .ok (.bl (decide (i < j))) mh
  | .str x, .str y => .ok (.bl (decide (x.cps.toList < y.cps.toList))) mh
  | .tup xs, .tup ys => match intsOf xs, intsOf ys with
    | some ns, some ms => .ok (.bl (HT.lexLt ns ms)) mh
    | _, _ => .stuck
  | _, _ => .stuck
def oLe (d e : D) (mh : List O) : Res D := match d, e with
  | .int i, .int j => .ok (.bl (decide (i ≤ j))) mh
  | .str x, .str y => .ok (.bl (!decide (y.cps.toList < x.cps.toList))) mh
  | _, _ => .stuck
def oGt (d e : D) (mh : List O) : Res D := match d, e with
  | .int i, .int j => .ok (.bl (decide (j < i))) mh
  | _, _ => .stuck
def oGe (d e : D) (mh : List O) : Res D := match d, e with
  | .int i, .int j => .ok (.bl (decide (j ≤ i))) mh
  | _, _ => .stuck
def oEq (d e : D) (mh : List O) : Res D := match toP mh 12 d, toP mh 12 e with
  | some p, some q => .ok (.bl (PyData.eqv p q)) mh
  | _, _ => .stuck
def oNe (d e : D) (mh : List O) : Res D := match toP mh 12 d, toP mh 12 e with
  | some p, some q => .ok (.bl (!PyData.eqv p q)) mh
  | _, _ => .stuck
def isNon : D → Bool
  | .non => true
  | _ => false
def oIs (d e : D) (mh : List O) : Res D := match d, e with
  | d, .non => .ok (.bl (isNon d)) mh
  | .bl a, .bl b => .ok (.bl (decide (a = b))) mh
  | _, _ => .stuck
def oIsNot (d e : D) (mh : List O) : Res D := match d, e with
  | d, .non => .ok (.bl (!isNon d)) mh
  | .bl a, .bl b => .ok (.bl (!decide (a = b))) mh
  | _, _ => .stuck
def rLtG (K : PySem.W.Frag) : R2 := fun x y H Q => rI0 (fun i j => .bl (decide (i < j))) x y H Q ∨ (∃ i j, x = .str i ∧ y = .str j ∧ Q (.bl (decide (i.cps.toList < j.cps.toList))) H) ∨ rLtT K x y H Q
def rLeG : R2 := fun x y H Q => rI0 (fun i j => .bl (decide (i ≤ j))) x y H Q ∨ (∃ i j, x = .str i ∧ y = .str j ∧ Q (.bl (!decide (j.cps.toList < i.cps.toList))) H)
def rIsG : R2 := fun x y H Q => (y = .non ∧ Q (.bl (decide (x = .non))) H) ∨ rIsB x y H Q
def rNotG : R2 := fun x y H Q => (y = .non ∧ Q (.bl (!decide (x = .non))) H) ∨ rNotB x y H Q
section
variable {X : Cx}
theorem op_ltG (hu : X.A.units + 64 < cLine) : OpR X (compareOp .Lt) (rLtG X.K) := op_lt.or (op_lt_str.or (op_ltT (by omega)))
theorem op_leG : OpR X (compareOp .LtE) rLeG := op_le.or op_le_str
theorem op_isG : OpR X (compareOp .Is) rIsG := op_isN.or op_isBl
theorem op_notG : OpR X (compareOp .IsNot) rNotG := op_notN.or op_notBl
theorem vo_lt : VO2 X (rLtG X.K) oLt := by
  intro W σ F ι mh H d e v u Q sr r1 r2 h
  unfold oLt at h
  split at h
  · cases r1; cases r2
    exact .inl ⟨_, _, rfl, rfl, h.ok sr (.bl _)⟩
  · cases r1; cases r2
    exact .inr (.inl ⟨_, _, rfl, rfl, h.ok sr (.bl _)⟩)
  · split at h
    · rename_i ns ms e1 e2
      cases r1 with
      | tup h1 q1 =>
        cases r2 with
        | tup h2 q2 =>
          obtain ⟨a, _⟩ := intsOf_ok q1 e1
          obtain ⟨b, _⟩ := intsOf_ok q2 e2
          subst a b
          exact .inr (.inr ⟨_, _, _, _, rfl, rfl, .inl h1, .inl h2, h.ok sr (.bl _)⟩)
    · exact h.elim
  · exact h.elim
theorem vo_le : VO2 X rLeG oLe := by
  intro W σ F ι mh H d e v u Q sr r1 r2 h
  unfold oLe at h
  split at h
  · cases r1; cases r2
    exact .inl ⟨_, _, rfl, rfl, h.ok sr (.bl _)⟩
  · cases r1; cases r2
    exact .inr ⟨_, _, rfl, rfl, h.ok sr (.bl _)⟩
  · exact h.elim
theorem vo_gt : VO2 X (rI0 fun i j => .bl (decide (j < i))) oGt := by
  intro W σ F ι mh H d e v u Q sr r1 r2 h
  unfold oGt at h
  split at h
  · cases r1; cases r2
    exact ⟨_, _, rfl, rfl, h.ok sr (.bl _)⟩
  · exact h.elim
theorem vo_ge : VO2 X (rI0 fun i j => .bl (decide (j ≤ i))) oGe := by
  intro W σ F ι mh H d e v u Q sr r1 r2 h
  unfold oGe at h
  split at h
  · cases r1; cases r2
    exact ⟨_, _, rfl, rfl, h.ok sr (.bl _)⟩
  · exact h.elim
theorem vo_eq : VO2 X (rEqD X.K) oEq := by
  intro W σ F ι mh H d e v u Q sr r1 r2 h
  unfold oEq at h
  split at h
  · rename_i p q e1 e2
    obtain ⟨a1, a2, a3⟩ := toP_ok sr _ _ _ _ r1 e1
    obtain ⟨b1, b2, b3⟩ := toP_ok sr _ _ _ _ r2 e2
    exact ⟨p, q, a1, b1, shaped_of a2 (by omega), shaped_of b2 (by omega), h.ok sr (.bl _)⟩
  · exact h.elim
theorem vo_ne : VO2 X (rNeD X.K) oNe := by
  intro W σ F ι mh H d e v u Q sr r1 r2 h
  unfold oNe at h
  split at h
  · rename_i p q e1 e2
    obtain ⟨a1, a2, a3⟩ := toP_ok sr _ _ _ _ r1 e1
    obtain ⟨b1, b2, b3⟩ := toP_ok sr _ _ _ _ r2 e2
    exact ⟨p, q, a1, b1, shaped_of a2 (by omega), shaped_of b2 (by omega), h.ok sr (.bl _)⟩
  · exact h.elim
theorem isNon_ok {F : Addr → Prop} {ι : List Addr} {H : Hp} {d : D} {v : V} (r : DV X.K X.mg F ι H d v) (hg : ∀ x, d ≠ .glb x) : decide (v = .non) = isNon d := by
  cases r <;> first | rfl | (simp [isNon]; done) | exact absurd rfl (hg _)
end
/-- not a name of the module -/
def notG : D → Bool
  | .glb _ => false
  | _ => true
theorem notG_ne {d : D} (h : notG d = true) : ∀ x, d ≠ .glb x := fun x e => by rw [e] at h; cases h
def oIsX (d e : D) (mh : List O) : Res D := if notG d = true then oIs d e mh else .stuck
def oIsNotX (d e : D) (mh : List O) : Res D := if notG d = true then oIsNot d e mh else .stuck
section
variable {X : Cx}
theorem vo_is : VO2 X rIsG oIsX := by
  intro W σ F ι mh H d e v u Q sr r1 r2 h
  unfold oIsX at h
  split at h
  · rename_i hg
    unfold oIs at h
    split at h
    · cases r2
      refine .inl ⟨rfl, ?_⟩
      rw [isNon_ok r1 (notG_ne hg)]
      exact h.ok sr (.bl _)
    · cases r1; cases r2
      exact .inr ⟨_, _, rfl, rfl, h.ok sr (.bl _)⟩
    · exact h.elim
  · exact h.elim
theorem vo_isNot : VO2 X rNotG oIsNotX := by
  intro W σ F ι mh H d e v u Q sr r1 r2 h
  unfold oIsNotX at h
  split at h
  · rename_i hg
    unfold oIsNot at h
    split at h
    · cases r2
      refine .inl ⟨rfl, ?_⟩
      rw [isNon_ok r1 (notG_ne hg)]
      exact h.ok sr (.bl _)
    · cases r1; cases r2
      exact .inr ⟨_, _, rfl, rfl, h.ok sr (.bl _)⟩
    · exact h.elim
  · exact h.elim
end

/-! ### an item at a place -/
def oIx (d e : D) (mh : List O) : Res D := match d, e with
  | .tup xs, .int i => match atI xs i with
    | some x => .ok x mh
    | none => .stuck
  | .str z, .int i => if z.length ≤ sizeLine then (match atI z.cps.toList i with
    | some c => .ok (.str ⟨#[c]⟩) mh
    | none => .stuck) else .stuck
  | d, .int i => match lstOf mh d with
    | some xs => match atI xs i with
      | some x => .ok x mh
      | none => .stuck
    | none => .stuck
  | _, _ => .stuck
section
variable {X : Cx} {F : Addr → Prop} {ι : List Addr} {H : Hp}
theorem atI_V {ds : List D} {vs : List V} {i : Int} {d : D} (r : DVs X.K X.mg F ι H ds vs) (e : atI ds i = some d) : ∃ v, atI vs i = some v ∧ DV X.K X.mg F ι H d v := by
  unfold atI at e ⊢
  rw [← r.length]
  cases q : ixN ds.length i with
  | none => rw [q] at e; cases e
  | some j =>
    rw [q] at e
    exact r.get e
theorem vo_ix : VO2 X (rIx X.K) oIx := by
  intro W σ F ι mh H d e v u Q sr r1 r2 h
  unfold oIx at h
  split at h
  · split at h
    · rename_i x hx
      cases r1 with
      | tup h1 q1 =>
        cases r2
        obtain ⟨v, e1, rv⟩ := atI_V q1 hx
        exact .inr (.inl ⟨_, _, _, _, rfl, rfl, .inl h1, e1, h.ok sr rv⟩)
    · exact h.elim
  · split at h
    · rename_i hz
      split at h
      · rename_i c hc
        cases r1; cases r2
        exact .inr (.inr ⟨_, _, _, rfl, rfl, hz, hc, h.ok sr (.str _)⟩)
      · exact h.elim
    · exact h.elim
  · split at h
    · rename_i xs e1
      split at h
      · rename_i x hx
        cases r2
        obtain ⟨a, vs, rfl, s1, q1⟩ := lstOf_ok sr r1 e1
        obtain ⟨v, e1, rv⟩ := atI_V q1 hx
        exact .inl ⟨_, _, _, _, rfl, rfl, s1, e1, h.ok sr rv⟩
      · exact h.elim
    · exact h.elim
  · exact h.elim
end

/-! ### built-ins -/
def oAbs (ds : List D) (mh : List O) : Res D := match ds with
  | [.int i] => .ok (.int (if i < 0 then -i else i)) mh
  | _ => .stuck
def oMax2 (ds : List D) (mh : List O) : Res D := match ds with
  | [.int i, .int j] => .ok (.int (if j > i then j else i)) mh
  | _ => .stuck
def oMin2 (ds : List D) (mh : List O) : Res D := match ds with
  | [.int i, .int j] => .ok (.int (if j < i then j else i)) mh
  | _ => .stuck
def oInt (ds : List D) (mh : List O) : Res D := match ds with
  | [.int i] => .ok (.int i) mh
  | [.bl b] => .ok (.int (if b then 1 else 0)) mh
  | _ => .stuck
def oLen (ds : List D) (mh : List O) : Res D := match ds with
  | [.str x] => if x.length ≤ sizeLine then .ok (.int x.length) mh else .stuck
  | [.tup xs] => .ok (.int xs.length) mh
  | [d] => match lstOf mh d with
    | some xs => .ok (.int xs.length) mh
    | none => .stuck
  | _ => .stuck
def tyN (mh : List O) : D → Option String
  | .non => some "NoneType"
  | .bl _ => some "bool"
  | .int _ => some "int"
  | .str _ => some "str"
  | .tup _ => some "tuple"
  | .lst _ => some "list"
  | .dic _ _ => some "dict"
  | .ref n => match mh[n]? with
    | some (.lst _) => some "list"
    | some (.dic _ _) => some "dict"
    | _ => none
  | _ => none
def isiT (t n : String) : Bool := t == n || (t == "bool" && n == "int")
def tys : List String := ["NoneType", "bool", "int", "str", "tuple", "list", "dict"]
theorem isi_ok : ∀ t ∈ tys, ∀ n ∈ ["int", "bool", "str", "tuple", "list", "dict"], kitB t n = some (isiT t n) := by decide +kernel
def oIsi (ds : List D) (mh : List O) : Res D := match ds with
  | [d, .ty n] => match tyN mh d with
    | some t => if n ∈ ["int", "bool", "str", "tuple", "list", "dict"] then .ok (.bl (isiT t n)) mh else .stuck
    | none => .stuck
  | _ => .stuck
section
variable {X : Cx}
theorem vo_abs : VOL X (fun xs H Q => ∃ i, xs = [.int i] ∧ Q (.int (if i < 0 then -i else i)) H) oAbs := by
  intro W σ F ι mh H ds vs Q sr r h
  unfold oAbs at h
  split at h
  · cases r with
    | cons r1 r2 => cases r2; cases r1; exact ⟨_, rfl, h.ok sr (.int _)⟩
  · exact h.elim
theorem vo_max2 : VOL X (fun xs H Q => ∃ i j, xs = [.int i, .int j] ∧ Q (.int (if j > i then j else i)) H) oMax2 := by
  intro W σ F ι mh H ds vs Q sr r h
  unfold oMax2 at h
  split at h
  · cases r with
    | cons r1 r2 => cases r2 with | cons r2 r3 => cases r3; cases r1; cases r2; exact ⟨_, _, rfl, h.ok sr (.int _)⟩
  · exact h.elim
theorem vo_min2 : VOL X (fun xs H Q => ∃ i j, xs = [.int i, .int j] ∧ Q (.int (if j < i then j else i)) H) oMin2 := by
  intro W σ F ι mh H ds vs Q sr r h
  unfold oMin2 at h
  split at h
  · cases r with
    | cons r1 r2 => cases r2 with | cons r2 r3 => cases r3; cases r1; cases r2; exact ⟨_, _, rfl, h.ok sr (.int _)⟩
  · exact h.elim
theorem vo_int : VOL X (fun xs H Q => (∃ i, xs = [.int i] ∧ Q (.int i) H) ∨ ∃ k, xs = [.bl k] ∧ Q (.int (if k then 1 else 0)) H) oInt := by
  intro W σ F ι mh H ds vs Q sr r h
  unfold oInt at h
  split at h
  · cases r with
    | cons r1 r2 => cases r2; cases r1; exact .inl ⟨_, rfl, h.ok sr (.int _)⟩
  · cases r with
    | cons r1 r2 => cases r2; cases r1; exact .inr ⟨_, rfl, h.ok sr (.int _)⟩
  · exact h.elim
theorem vo_len : VOL X (fun xs H Q => ∃ x n, xs = [x] ∧ LenV X.K x H n ∧ Q (.int n) H) oLen := by
  intro W σ F ι mh H ds vs Q sr r h
  unfold oLen at h
  split at h
  · split at h
    · rename_i hl
      cases r with
      | cons r1 r2 => cases r2; cases r1; exact ⟨_, _, rfl, ⟨hl, rfl⟩, h.ok sr (.int _)⟩
    · exact h.elim
  · cases r with
    | cons r1 r2 =>
      cases r2
      cases r1 with
      | tup h1 q1 => exact ⟨_, _, rfl, .inr ⟨_, .inl h1, rfl⟩, by rw [← q1.length]; exact h.ok sr (.int _)⟩
  · split at h
    · rename_i xs e1
      cases r with
      | cons r1 r2 =>
        cases r2
        obtain ⟨a, vs, rfl, s1, q1⟩ := lstOf_ok sr r1 e1
        exact ⟨_, _, rfl, .inl ⟨_, s1, rfl⟩, by rw [← q1.length]; exact h.ok sr (.int _)⟩
    · exact h.elim
  · exact h.elim
theorem tyN_ok {F : Addr → Prop} {ι : List Addr} {H : Hp} {mh : List O} {d : D} {v : V} {t : String} (sr : SR X.K X.mg F ι mh H) (r : DV X.K X.mg F ι H d v) (e : tyN mh d = some t) : TyX X.K H v (.type t) ∧ t ∈ tys := by
  have rdL : ∀ {a : Addr} {vs : List V}, Rd H a (.lst vs) → TyX X.K H (.ref a) (.type "list") := fun h => by
    rcases h with h | ⟨o, h⟩
    · exact .base (.lst h)
    · exact .base (.frz h)
  cases r with
  | non => cases e; exact ⟨.base .non, by decide⟩
  | bl b => cases e; exact ⟨.base (.bl b), by decide⟩
  | int i => cases e; exact ⟨.base (.int i), by decide⟩
  | str x => cases e; exact ⟨.base (.str x), by decide⟩
  | tup h r =>
    cases e
    refine ⟨?_, by decide⟩
    rcases h with h | ⟨o, h⟩
    · exact .base (.tup h)
    · exact .fTuple h
  | lst h r =>
    cases e
    refine ⟨?_, by decide⟩
    rcases h with ⟨h, _⟩ | ⟨o, its, n, h1, h2, _⟩
    · exact rdL h
    · exact .kList h1 h2
  | dic h n e0 r =>
    cases e
    refine ⟨?_, by decide⟩
    rcases h with h | ⟨o, h⟩
    · exact .base (.dK h)
    · exact .fDict h
  | clo h r => cases e
  | @ref m a ea =>
    have e : (match mh[m]? with
      | some (.lst _) => some "list"
      | some (.dic _ _) => some "dict"
      | _ => none) = some t := e
    split at e
    · rename_i ds q
      cases e
      cases sr.ob _ _ _ q ea with
      | lst h r => exact ⟨rdL (.inl h), by decide⟩
    · rename_i ks ds q
      cases e
      cases sr.ob _ _ _ q ea with
      | dic h e0 r => exact ⟨.base (.dK h), by decide⟩
    · cases e
  | ty n => cases e
  | glb m r => cases e
  | obj h m e0 r => cases e
theorem vo_isi : VOL X (rIsi X.K) oIsi := by
  intro W σ F ι mh H ds vs Q sr r h
  unfold oIsi at h
  split at h
  · split at h
    · rename_i t e
      split at h
      · rename_i hn
        cases r with
        | cons r1 r2 =>
          cases r2 with
          | cons r2 r3 =>
            cases r3
            cases r2
            obtain ⟨ty, ht⟩ := tyN_ok sr r1 e
            exact ⟨_, _, _, _, _, rfl, .ty _, ty, kit_ty (isi_ok _ ht _ hn), h.ok sr (.bl _)⟩
      · exact h.elim
    · exact h.elim
  · exact h.elim
end
theorem bt_abs : bootBuiltins "abs" = some (.builtin "abs") := by decide +kernel
theorem bt_len : bootBuiltins "len" = some (.builtin "len") := by decide +kernel
theorem bt_max : bootBuiltins "max" = some (.builtin "max") := by decide +kernel
theorem bt_min : bootBuiltins "min" = some (.builtin "min") := by decide +kernel
theorem bt_isinstance : bootBuiltins "isinstance" = some (.builtin "isinstance") := by decide +kernel
theorem bt_sorted : bootBuiltins "sorted" = some (.builtin "sorted") := by decide +kernel
theorem bt_sum : bootBuiltins "sum" = some (.builtin "sum") := by decide +kernel
theorem bt_any : bootBuiltins "any" = some (.builtin "any") := by decide +kernel
theorem bt_all : bootBuiltins "all" = some (.builtin "all") := by decide +kernel
theorem bt_divmod : bootBuiltins "divmod" = some (.builtin "divmod") := by decide +kernel
theorem bt_repr : bootBuiltins "repr" = some (.builtin "repr") := by decide +kernel
theorem bt_int : bootBuiltins "int" = some (.type "int") := by decide +kernel
theorem bt_str : bootBuiltins "str" = some (.type "str") := by decide +kernel
theorem bt_list : bootBuiltins "list" = some (.type "list") := by decide +kernel
theorem bt_tuple : bootBuiltins "tuple" = some (.type "tuple") := by decide +kernel
theorem bt_dict : bootBuiltins "dict" = some (.type "dict") := by decide +kernel
theorem bt_bool : bootBuiltins "bool" = some (.type "bool") := by decide +kernel
theorem bt_enumerate : bootBuiltins "enumerate" = some (.type "enumerate") := by decide +kernel
theorem bt_range : bootBuiltins "range" = some (.type "range") := by decide +kernel
theorem bt_zip : bootBuiltins "zip" = some (.type "zip") := by decide +kernel
theorem bt_reversed : bootBuiltins "reversed" = some (.type "reversed") := by decide +kernel
end G

/-! Part F: reckoning with the small machine, in plain Lean. -/
namespace G
open PySem PySem.Spec PyProof.Rows L2

section
variable {ρ : En} {mh : List O} {i j n : Nat} {f g h : CE} {t u : CT} {d e x y : D} {ds es : List D} {a b : CS}
@[simp] theorem cK_eq : cK d ρ mh = .ok d mh := rfl
theorem cVar_eq : cVar i ρ mh = (match ρ[i]? with | some (some d) => .ok d mh | _ => .stuck) := rfl
theorem cVar_at (hh : ρ[i]? = some (some d)) : cVar i ρ mh = .ok d mh := by rw [cVar_eq, hh]
@[simp] theorem c1_eq {o : D → List O → Res D} : c1 o f ρ mh = (f ρ mh).bind o := rfl
@[simp] theorem c2_eq {o : D → D → List O → Res D} : c2 o f g ρ mh = (f ρ mh).bind fun x m => (g ρ m).bind fun y m' => o x y m' := rfl
@[simp] theorem cL_eq {o : List D → List O → Res D} {fa : CA} : cL o fa ρ mh = (fa ρ mh).bind o := rfl
@[simp] theorem cNil_eq : cNil ρ mh = .ok [] mh := rfl
@[simp] theorem cCons_eq {fa : CA} : cCons f fa ρ mh = (f ρ mh).bind fun x m => (fa ρ m).bind fun xs m' => .ok (x :: xs) m' := rfl
@[simp] theorem isB_bl {c : Bool} : isB (.bl c) mh = .ok c mh := rfl
@[simp] theorem cB_eq : cB f ρ mh = (f ρ mh).bind isB := rfl
@[simp] theorem cChain_eq {o o' : D → D → List O → Res D} : cChain o o' f g h ρ mh = (f ρ mh).bind fun x m => (g ρ m).bind fun y m1 => (o x y m1).bind fun z m2 => (isB z m2).bind fun b m3 =>
  if b = true then (h ρ m3).bind fun w m4 => o' y w m4 else .ok (.bl false) m3 := rfl
@[simp] theorem tAnd2_eq : tAnd2 t u ρ mh = (t ρ mh).bind fun b m => if b = true then u ρ m else .ok false m := rfl
@[simp] theorem tOr2_eq : tOr2 t u ρ mh = (t ρ mh).bind fun b m => if b = true then .ok true m else u ρ m := rfl
@[simp] theorem tNot1_eq : tNot1 t ρ mh = (t ρ mh).bind fun b m => .ok (!b) m := rfl
@[simp] theorem cIf_eq : cIf t f g ρ mh = (t ρ mh).bind fun b m => if b = true then f ρ m else g ρ m := rfl
@[simp] theorem cAnd2_eq : cAnd2 f g ρ mh = (f ρ mh).bind fun x m => (isB x m).bind fun b m => if b = true then g ρ m else .ok (.bl false) m := rfl
@[simp] theorem cOr2_eq : cOr2 f g ρ mh = (f ρ mh).bind fun x m => (isB x m).bind fun b m => if b = true then .ok (.bl true) m else g ρ m := rfl
@[simp] theorem cNot1_eq : cNot1 f ρ mh = (f ρ mh).bind fun x m => (isB x m).bind fun b m => .ok (.bl (!b)) m := rfl
@[simp] theorem sNext_eq : sNext ρ mh = .nx ρ mh := rfl
@[simp] theorem sSeq_eq : sSeq a b ρ mh = (a ρ mh).seq b := rfl
@[simp] theorem sIf_eq : sIf t a b ρ mh = (t ρ mh).toS ρ fun c m => if c = true then a ρ m else b ρ m := rfl
@[simp] theorem sRet_eq : sRet f ρ mh = (f ρ mh).toS ρ fun d m => .rt d m := rfl
@[simp] theorem sRetN_eq : sRetN ρ mh = .rt .non mh := rfl
@[simp] theorem sBrk_eq : sBrk ρ mh = .bk ρ mh := rfl
@[simp] theorem sCnt_eq : sCnt ρ mh = .ct ρ mh := rfl
@[simp] theorem sDrop_eq : sDrop f ρ mh = (f ρ mh).toS ρ fun _ m => .nx ρ m := rfl
@[simp] theorem sSet_eq : sSet i f ρ mh = (f ρ mh).toS ρ fun d m => .nx (ρ.set i (some d)) m := rfl
@[simp] theorem sAsg_eq {gg : CG} : sAsg f gg ρ mh = (f ρ mh).toS ρ fun d m => gg d ρ m := rfl
@[simp] theorem gNm_eq : gNm i d ρ mh = .nx (ρ.set i (some d)) mh := rfl
@[simp] theorem gsNil_eq : gsNil [] ρ mh = .nx ρ mh := rfl
@[simp] theorem gsCons_eq {gg : CG} {gs : CGs} : gsCons gg gs (d :: ds) ρ mh = (gg d ρ mh).seq fun ρ' m => gs ds ρ' m := rfl
@[simp] theorem gUnp_eq {gs : CGs} : gUnp n gs (.tup ds) ρ mh = if ds.length = n then gs ds ρ mh else .stuck := rfl
@[simp] theorem sPar_eq {fa : CA} : sPar i j fa ρ mh = (fa ρ mh).toS ρ fun ds m => match ds with
  | [d, e] => .nx ((ρ.set i (some d)).set j (some e)) m
  | _ => .stuck := rfl
@[simp] theorem sFor_eq {it : CI} {tg : CG} : sFor it tg b ρ mh = (it ρ mh).toS ρ fun g m => forL g tg b g.1 ρ m := rfl
@[simp] theorem iL_eq : iL f ρ mh = (f ρ mh).bind oIts := rfl
@[simp] theorem iT_eq : iT f ρ mh = (f ρ mh).bind oItsT := rfl
@[simp] theorem iR1_eq {fa : CA} : iR1 fa ρ mh = (fa ρ mh).bind oRng1 := rfl
@[simp] theorem iR2_eq {fa : CA} : iR2 fa ρ mh = (fa ρ mh).bind oRng2 := rfl
@[simp] theorem oIts_lst : oIts (.lst ds) mh = .ok (ds, none) mh := rfl
@[simp] theorem oItsT_tup : oItsT (.tup ds) mh = .ok (ds, none) mh := rfl
theorem oRng1_ok {k : Int} (h1 : -(2 ^ 62) ≤ k) (h2 : k < 2 ^ 62) : oRng1 [.int k] mh = .ok (rngL 0 k.toNat, none) mh := if_pos ⟨h1, h2⟩
theorem oRng2_ok {k l : Int} (h1 : -(2 ^ 62) ≤ k) (h2 : k < 2 ^ 62) (h3 : -(2 ^ 62) ≤ l) (h4 : l < 2 ^ 62) : oRng2 [.int k, .int l] mh = .ok (rngL k (l - k).toNat, none) mh := if_pos ⟨h1, h2, h3, h4⟩
theorem ar_eq {fn : Fn} : ar n fn ds mh = if ds.length = n then fn ds mh else .stuck := rfl
theorem oP_eq {fn : Fn} (hr : noRefs ds = true) (hf : fn ds [] = .ok d []) : oP fn ds mh = .ok d mh := by
  unfold oP
  rw [if_pos hr, hf]
  rfl
@[simp] theorem noRefs_nil : noRefs [] = true := by simp [noRefs]
@[simp] theorem noRefs_cons : noRefs (d :: ds) = (noRef d && noRefs ds) := by simp [noRefs]
@[simp] theorem noRef_int {k : Int} : noRef (.int k) = true := by simp [noRef]
@[simp] theorem noRef_non : noRef .non = true := by simp [noRef]
@[simp] theorem noRef_bl {c : Bool} : noRef (.bl c) = true := by simp [noRef]
@[simp] theorem noRef_str {z : Str} : noRef (.str z) = true := by simp [noRef]
@[simp] theorem noRef_ty {z : String} : noRef (.ty z) = true := by simp [noRef]
@[simp] theorem noRef_glb {z : Str} : noRef (.glb z) = true := by simp [noRef]
@[simp] theorem noRef_tup : noRef (.tup ds) = noRefs ds := by simp [noRef]
@[simp] theorem noRef_lst : noRef (.lst ds) = noRefs ds := by simp [noRef]
@[simp] theorem noRef_dic {ks : List Key} : noRef (.dic ks ds) = noRefs ds := by simp [noRef]
@[simp] theorem noRef_obj {z : Str} {ns : List Str} : noRef (.obj z ns ds) = noRefs ds := by simp [noRef]
theorem noRefs_all : ∀ {ds : List D}, (∀ d ∈ ds, noRef d = true) → noRefs ds = true
  | [], _ => noRefs_nil
  | d :: ds, h => by rw [noRefs_cons, h d List.mem_cons_self, noRefs_all fun x hx => h x (List.mem_cons_of_mem _ hx)]; rfl
theorem noRefs_map {α : Type} {l : List α} {fn : α → D} (h : ∀ a, a ∈ l → noRef (fn a) = true) : noRefs (l.map fn) = true :=
  noRefs_all fun d hd => by obtain ⟨a, ha, rfl⟩ := List.mem_map.mp hd; exact h a ha
@[simp] theorem noRefs_ints {l : List Int} : noRefs (l.map D.int) = true := noRefs_map fun _ _ => noRef_int
end
section
variable {mh : List O} {i j : Int} {ds es : List D}
@[simp] theorem oAdd_int : oAdd (.int i) (.int j) mh = .ok (.int (i + j)) mh := rfl
@[simp] theorem oSub_int : oSub (.int i) (.int j) mh = .ok (.int (i - j)) mh := rfl
theorem oMul_ok (h : mulOk i j) : oMul (.int i) (.int j) mh = .ok (.int (i * j)) mh := if_pos h
@[simp] theorem oMul_l (h1 : -(2 ^ 64) < i) (h2 : i < 2 ^ 64) : oMul (.int i) (.int j) mh = .ok (.int (i * j)) mh := if_pos (.inl (.inl ⟨h1, h2⟩))
@[simp] theorem oMul_r (h1 : -(2 ^ 64) < j) (h2 : j < 2 ^ 64) : oMul (.int i) (.int j) mh = .ok (.int (i * j)) mh := if_pos (.inl (.inr ⟨h1, h2⟩))
theorem log2_of {a : Nat} (h : a < 2 ^ 8000) : a.log2 < 8000 := by
  by_cases h0 : a = 0
  · subst h0; decide
  · exact (Nat.log2_lt h0).mpr h
theorem mulOk_b (h1 : i.natAbs < 2 ^ 8000) (h2 : j.natAbs < 2 ^ 8000) : mulOk i j := .inr (by have := log2_of h1; have := log2_of h2; omega)
theorem oMul_b (h1 : i.natAbs < 2 ^ 8000) (h2 : j.natAbs < 2 ^ 8000) : oMul (.int i) (.int j) mh = .ok (.int (i * j)) mh := if_pos (mulOk_b h1 h2)
theorem divOk_b (h : 0 < j) (h2 : j.natAbs < 2 ^ 8000) : divOk j := ⟨h, by have := log2_of h2; omega⟩
theorem oFdiv_b (h : 0 < j) (h2 : j.natAbs < 2 ^ 8000) : oFdiv (.int i) (.int j) mh = .ok (.int (i / j)) mh := if_pos (divOk_b h h2)
@[simp] theorem oMod_ok (h : 0 < j) : oMod (.int i) (.int j) mh = .ok (.int (i % j)) mh := if_pos h
theorem oPow_ok (h : powOk i j) : oPow (.int i) (.int j) mh = .ok (.int (i ^ j.toNat)) mh := if_pos h
@[simp] theorem oShr_ok (h : 0 ≤ j) : oShr (.int i) (.int j) mh = .ok (.int (i / 2 ^ j.toNat)) mh := if_pos h
@[simp] theorem oNeg_int : oNeg (.int i) mh = .ok (.int (-i)) mh := rfl
@[simp] theorem oLt_int : oLt (.int i) (.int j) mh = .ok (.bl (decide (i < j))) mh := rfl
@[simp] theorem oLe_int : oLe (.int i) (.int j) mh = .ok (.bl (decide (i ≤ j))) mh := rfl
@[simp] theorem oGt_int : oGt (.int i) (.int j) mh = .ok (.bl (decide (j < i))) mh := rfl
@[simp] theorem oGe_int : oGe (.int i) (.int j) mh = .ok (.bl (decide (j ≤ i))) mh := rfl
@[simp] theorem oEq_int : oEq (.int i) (.int j) mh = .ok (.bl (decide (i = j))) mh := by
  show Res.ok (D.bl (i == j)) mh = _
  rw [Bool.beq_eq_decide_eq]
@[simp] theorem oNe_int : oNe (.int i) (.int j) mh = .ok (.bl (!decide (i = j))) mh := by
  show Res.ok (D.bl (!(i == j))) mh = _
  rw [Bool.beq_eq_decide_eq]
@[simp] theorem oAbs_int : oAbs [.int i] mh = .ok (.int (if i < 0 then -i else i)) mh := rfl
@[simp] theorem oMax2_int : oMax2 [.int i, .int j] mh = .ok (.int (if j > i then j else i)) mh := rfl
@[simp] theorem oMin2_int : oMin2 [.int i, .int j] mh = .ok (.int (if j < i then j else i)) mh := rfl
@[simp] theorem oInt_int : oInt [.int i] mh = .ok (.int i) mh := rfl
@[simp] theorem oInt_bl {b : Bool} : oInt [.bl b] mh = .ok (.int (if b then 1 else 0)) mh := rfl
@[simp] theorem oLen_tup : oLen [.tup ds] mh = .ok (.int ds.length) mh := rfl
@[simp] theorem oLen_lst : oLen [.lst ds] mh = .ok (.int ds.length) mh := rfl
theorem oTup_ok (h : ds.length ≤ sizeLine) : oTup ds mh = .ok (.tup ds) mh := if_pos h
theorem oLst_ok (h : ds.length ≤ sizeLine) : oLst ds mh = .ok (.lst ds) mh := if_pos h
theorem oNew_ok (h : ds.length ≤ sizeLine) : oNew ds mh = .ok (.ref mh.length) (mh ++ [.lst ds]) := if_pos h
theorem sl_le {n : Nat} (h : n ≤ 1000 := by decide) : n ≤ sizeLine := by rw [sizeLine_eq]; omega
@[simp] theorem oTup_0 : oTup [] mh = .ok (.tup []) mh := oTup_ok sl_le
@[simp] theorem oTup_1 {a : D} : oTup [a] mh = .ok (.tup [a]) mh := oTup_ok (sl_le (n := 1))
@[simp] theorem oTup_2 {a b : D} : oTup [a, b] mh = .ok (.tup [a, b]) mh := oTup_ok (sl_le (n := 2))
@[simp] theorem oTup_3 {a b c : D} : oTup [a, b, c] mh = .ok (.tup [a, b, c]) mh := oTup_ok (sl_le (n := 3))
@[simp] theorem oTup_4 {a b c d : D} : oTup [a, b, c, d] mh = .ok (.tup [a, b, c, d]) mh := oTup_ok (sl_le (n := 4))
@[simp] theorem oTup_5 {a b c d e : D} : oTup [a, b, c, d, e] mh = .ok (.tup [a, b, c, d, e]) mh := oTup_ok (sl_le (n := 5))
@[simp] theorem oLst_0 : oLst [] mh = .ok (.lst []) mh := oLst_ok sl_le
@[simp] theorem oLst_1 {a : D} : oLst [a] mh = .ok (.lst [a]) mh := oLst_ok (sl_le (n := 1))
@[simp] theorem oLst_2 {a b : D} : oLst [a, b] mh = .ok (.lst [a, b]) mh := oLst_ok (sl_le (n := 2))
@[simp] theorem oLst_3 {a b c : D} : oLst [a, b, c] mh = .ok (.lst [a, b, c]) mh := oLst_ok (sl_le (n := 3))
@[simp] theorem oLst_4 {a b c d : D} : oLst [a, b, c, d] mh = .ok (.lst [a, b, c, d]) mh := oLst_ok (sl_le (n := 4))
@[simp] theorem oLst_5 {a b c d e : D} : oLst [a, b, c, d, e] mh = .ok (.lst [a, b, c, d, e]) mh := oLst_ok (sl_le (n := 5))
theorem oIx_tup (x : D) (h : atI ds i = some x) : oIx (.tup ds) (.int i) mh = .ok x mh := by
  show (match atI ds i with | some x => Res.ok x mh | none => .stuck) = _
  rw [h]
theorem oIx_lst (x : D) (h : atI ds i = some x) : oIx (.lst ds) (.int i) mh = .ok x mh := by
  show (match atI ds i with | some x => Res.ok x mh | none => .stuck) = _
  rw [h]
@[simp] theorem oIx_tup0 {x : D} : oIx (.tup (x :: ds)) (.int 0) mh = .ok x mh := oIx_tup x (atI_nat (j := 0) rfl)
@[simp] theorem oIx_tup1 {x y : D} : oIx (.tup (x :: y :: ds)) (.int 1) mh = .ok y mh := oIx_tup y (atI_nat (j := 1) rfl)
@[simp] theorem oIx_tup2 {x y z : D} : oIx (.tup (x :: y :: z :: ds)) (.int 2) mh = .ok z mh := oIx_tup z (atI_nat (j := 2) rfl)
@[simp] theorem oIx_tup3 {x y z w : D} : oIx (.tup (x :: y :: z :: w :: ds)) (.int 3) mh = .ok w mh := oIx_tup w (atI_nat (j := 3) rfl)
@[simp] theorem oIx_tup4 {x y z w v : D} : oIx (.tup (x :: y :: z :: w :: v :: ds)) (.int 4) mh = .ok v mh := oIx_tup v (atI_nat (j := 4) rfl)
@[simp] theorem oIx_lst0 {x : D} : oIx (.lst (x :: ds)) (.int 0) mh = .ok x mh := oIx_lst x (atI_nat (j := 0) rfl)
@[simp] theorem oIx_lst1 {x y : D} : oIx (.lst (x :: y :: ds)) (.int 1) mh = .ok y mh := oIx_lst y (atI_nat (j := 1) rfl)
@[simp] theorem oIx_lst2 {x y z : D} : oIx (.lst (x :: y :: z :: ds)) (.int 2) mh = .ok z mh := oIx_lst z (atI_nat (j := 2) rfl)
@[simp] theorem oIx_lst3 {x y z w : D} : oIx (.lst (x :: y :: z :: w :: ds)) (.int 3) mh = .ok w mh := oIx_lst w (atI_nat (j := 3) rfl)
/-- an item of a written list of ints, at a place that lies within -/
theorem oIx_ints {ns : List Int} (h0 : 0 ≤ i) (h1 : i < ns.length) : oIx (.lst (ns.map D.int)) (.int i) mh = .ok (.int (ns.getD i.toNat 0)) mh := by
  have hl : i.toNat < ns.length := by omega
  refine oIx_lst _ ?_
  have e : i = ((i.toNat : Nat) : Int) := by omega
  rw [e]
  refine atI_nat ?_
  rw [List.getElem?_map, List.getD_eq_getElem?_getD, show ((i.toNat : Int)).toNat = i.toNat by omega, List.getElem?_eq_getElem hl]
  rfl
/-- isinstance, by the kind of the thing -/
@[simp] theorem oIsi_int {n : String} : oIsi [.int i, .ty n] mh = if n ∈ ["int", "bool", "str", "tuple", "list", "dict"] then .ok (.bl (isiT "int" n)) mh else .stuck := rfl
@[simp] theorem oIsi_bl {b : Bool} {n : String} : oIsi [.bl b, .ty n] mh = if n ∈ ["int", "bool", "str", "tuple", "list", "dict"] then .ok (.bl (isiT "bool" n)) mh else .stuck := rfl
@[simp] theorem oIsi_non {n : String} : oIsi [.non, .ty n] mh = if n ∈ ["int", "bool", "str", "tuple", "list", "dict"] then .ok (.bl (isiT "NoneType" n)) mh else .stuck := rfl
@[simp] theorem oIsi_str {x : Str} {n : String} : oIsi [.str x, .ty n] mh = if n ∈ ["int", "bool", "str", "tuple", "list", "dict"] then .ok (.bl (isiT "str" n)) mh else .stuck := rfl
@[simp] theorem oIsi_tup {n : String} : oIsi [.tup ds, .ty n] mh = if n ∈ ["int", "bool", "str", "tuple", "list", "dict"] then .ok (.bl (isiT "tuple" n)) mh else .stuck := rfl
@[simp] theorem oIsi_lst {n : String} : oIsi [.lst ds, .ty n] mh = if n ∈ ["int", "bool", "str", "tuple", "list", "dict"] then .ok (.bl (isiT "list" n)) mh else .stuck := rfl
@[simp] theorem oIsi_dic {ks : List Key} {n : String} : oIsi [.dic ks ds, .ty n] mh = if n ∈ ["int", "bool", "str", "tuple", "list", "dict"] then .ok (.bl (isiT "dict" n)) mh else .stuck := rfl
/-- two pairs of ints -/
@[simp] theorem oEq_pair {a b c d : Int} : oEq (.tup [.int a, .int b]) (.tup [.int c, .int d]) mh = .ok (.bl (decide (a = c ∧ b = d))) mh := by
  show Res.ok (D.bl ((a == c) && ((b == d) && true))) mh = _
  congr 2
  by_cases h1 : a = c <;> by_cases h2 : b = d <;> simp [h1, h2]
@[simp] theorem oNe_pair {a b c d : Int} : oNe (.tup [.int a, .int b]) (.tup [.int c, .int d]) mh = .ok (.bl (!decide (a = c ∧ b = d))) mh := by
  show Res.ok (D.bl (!((a == c) && ((b == d) && true)))) mh = _
  congr 2
  by_cases h1 : a = c <;> by_cases h2 : b = d <;> simp [h1, h2]
end

/-! ### loops -/
theorem rngL_get {lo : Int} {n i : Nat} {d : D} (h : (rngL lo n)[i]? = some d) : i < n ∧ d = .int (lo + (i : Nat)) := by
  unfold rngL at h
  rw [List.getElem?_map] at h
  have hi : i < n := by
    rcases Nat.lt_or_ge i n with z | z
    · exact z
    · rw [List.getElem?_eq_none (by simpa using z)] at h; cases h
  rw [List.getElem?_range hi] at h
  cases h
  exact ⟨hi, rfl⟩
/-- a loop that goes through, by what holds behind the i-th turn -/
theorem forL_inv {g : Its} {tg : CG} {b : CS} : ∀ (ds : List D) (P : Nat → En → List O → Prop) (ρ : En) (mh : List O), P 0 ρ mh → (∀ i ρ mh, i ≤ ds.length → P i ρ mh → guard g mh) →
    (∀ i d ρ mh, ds[i]? = some d → P i ρ mh → ∃ ρ' mh', ((tg d ρ mh).seq b = .nx ρ' mh' ∨ (tg d ρ mh).seq b = .ct ρ' mh') ∧ P (i + 1) ρ' mh') → ∃ ρ' mh', forL g tg b ds ρ mh = .nx ρ' mh' ∧ P ds.length ρ' mh'
  | [], P, ρ, mh, h0, hg, _ => ⟨ρ, mh, by unfold forL; rw [if_pos (hg 0 ρ mh (Nat.le_refl _) h0)], h0⟩
  | d :: ds, P, ρ, mh, h0, hg, hs => by
    obtain ⟨ρ1, mh1, e, h1⟩ := hs 0 d ρ mh rfl h0
    obtain ⟨ρ2, mh2, e2, h2⟩ := forL_inv (g := g) (tg := tg) (b := b) ds (fun i => P (i + 1)) ρ1 mh1 h1 (fun i ρ mh hi h => hg (i + 1) ρ mh (by simpa using hi) h) (fun i d ρ mh hd h => hs (i + 1) d ρ mh (by simpa using hd) h)
    refine ⟨ρ2, mh2, ?_, h2⟩
    unfold forL
    rw [if_pos (hg 0 ρ mh (Nat.zero_le _) h0)]
    rcases e with e | e <;> rw [e] <;> exact e2
@[simp] theorem guard_none {ds : List D} {mh : List O} : guard (ds, none) mh = True := rfl
/-- over values: no guard -/
theorem forL_all {l : List D} {tg : CG} {b : CS} (ds : List D) (P : Nat → En → List O → Prop) {ρ : En} {mh : List O} (h0 : P 0 ρ mh)
    (hs : ∀ i d ρ mh, ds[i]? = some d → P i ρ mh → ∃ ρ' mh', ((tg d ρ mh).seq b = .nx ρ' mh' ∨ (tg d ρ mh).seq b = .ct ρ' mh') ∧ P (i + 1) ρ' mh') : ∃ ρ' mh', forL (l, none) tg b ds ρ mh = .nx ρ' mh' ∧ P ds.length ρ' mh' :=
  forL_inv ds P ρ mh h0 (fun _ _ _ _ _ => trivial) hs
/-- a while that ends, by a measure -/
theorem sWhile_inv {c : CT} {b : CS} (P : En → List O → Prop) (μ : En → List O → Nat)
    (hs : ∀ ρ mh, P ρ mh → ∃ t m, c ρ mh = .ok t m ∧ (t = true → ∃ ρ' mh', (b ρ m = .nx ρ' mh' ∨ b ρ m = .ct ρ' mh') ∧ P ρ' mh' ∧ μ ρ' mh' < μ ρ mh)) :
    ∀ (n : Nat) (ρ : En) (mh : List O), μ ρ mh < n → P ρ mh → ∃ ρ' mh' m, sWhile c b ρ mh = .nx ρ' m ∧ P ρ' mh' ∧ c ρ' mh' = .ok false m
  | 0, _, _, h, _ => absurd h (Nat.not_lt_zero _)
  | n + 1, ρ, mh, h, p => by
    obtain ⟨t, m, e, k⟩ := hs ρ mh p
    cases t with
    | false => exact ⟨ρ, mh, m, by rw [sWhile_eq, e]; rfl, p, e⟩
    | true =>
      obtain ⟨ρ1, mh1, e1, p1, l1⟩ := k rfl
      obtain ⟨ρ2, mh2, m2, e2, p2, e3⟩ := sWhile_inv P μ hs n ρ1 mh1 (by omega) p1
      refine ⟨ρ2, mh2, m2, ?_, p2, e3⟩
      rw [sWhile_eq, e]
      rcases e1 with e1 | e1 <;> simp [e1, e2]

/-! ### forms for simp with omega as its hand -/
section
variable {mh : List O} {i j : Int} {ds : List D} {d : D}
@[simp] theorem oPow_s (h1 : 0 ≤ j) (h2 : j ≤ 1000000) (h3 : i.natAbs < 2 ^ 64) : oPow (.int i) (.int j) mh = .ok (.int (i ^ j.toNat)) mh := if_pos ⟨h1, h2, h3⟩
@[simp] theorem oFdiv_s (h1 : 0 < j) (h2 : j < 2 ^ 64) : oFdiv (.int i) (.int j) mh = .ok (.int (i / j)) mh :=
  oFdiv_b h1 (Nat.lt_of_lt_of_le (m := 2 ^ 64) (by omega) (Nat.pow_le_pow_right (by decide) (by decide)))
theorem call_eq {n : Nat} {fn : Fn} (hl : ds.length = n) (hr : noRefs ds = true) (hf : ∀ mh, fn ds mh = .ok d mh) : ar n (oP fn) ds mh = .ok d mh := by
  rw [ar_eq, if_pos hl, oP_eq hr (hf [])]
end
@[simp] theorem cVar_0 {ρ : En} {d : D} {mh : List O} : cVar 0 (some d :: ρ) mh = .ok d mh := rfl
@[simp] theorem cVar_1 {a0 : Option D} {ρ : En} {d : D} {mh : List O} : cVar 1 (a0 :: some d :: ρ) mh = .ok d mh := rfl
@[simp] theorem cVar_2 {a0 a1 : Option D} {ρ : En} {d : D} {mh : List O} : cVar 2 (a0 :: a1 :: some d :: ρ) mh = .ok d mh := rfl
@[simp] theorem cVar_3 {a0 a1 a2 : Option D} {ρ : En} {d : D} {mh : List O} : cVar 3 (a0 :: a1 :: a2 :: some d :: ρ) mh = .ok d mh := rfl
@[simp] theorem cVar_4 {a0 a1 a2 a3 : Option D} {ρ : En} {d : D} {mh : List O} : cVar 4 (a0 :: a1 :: a2 :: a3 :: some d :: ρ) mh = .ok d mh := rfl
@[simp] theorem cVar_5 {a0 a1 a2 a3 a4 : Option D} {ρ : En} {d : D} {mh : List O} : cVar 5 (a0 :: a1 :: a2 :: a3 :: a4 :: some d :: ρ) mh = .ok d mh := rfl
@[simp] theorem cVar_6 {a0 a1 a2 a3 a4 a5 : Option D} {ρ : En} {d : D} {mh : List O} : cVar 6 (a0 :: a1 :: a2 :: a3 :: a4 :: a5 :: some d :: ρ) mh = .ok d mh := rfl
@[simp] theorem cVar_7 {a0 a1 a2 a3 a4 a5 a6 : Option D} {ρ : En} {d : D} {mh : List O} : cVar 7 (a0 :: a1 :: a2 :: a3 :: a4 :: a5 :: a6 :: some d :: ρ) mh = .ok d mh := rfl
@[simp] theorem cVar_8 {a0 a1 a2 a3 a4 a5 a6 a7 : Option D} {ρ : En} {d : D} {mh : List O} : cVar 8 (a0 :: a1 :: a2 :: a3 :: a4 :: a5 :: a6 :: a7 :: some d :: ρ) mh = .ok d mh := rfl
@[simp] theorem cVar_9 {a0 a1 a2 a3 a4 a5 a6 a7 a8 : Option D} {ρ : En} {d : D} {mh : List O} : cVar 9 (a0 :: a1 :: a2 :: a3 :: a4 :: a5 :: a6 :: a7 :: a8 :: some d :: ρ) mh = .ok d mh := rfl
@[simp] theorem cVar_10 {a0 a1 a2 a3 a4 a5 a6 a7 a8 a9 : Option D} {ρ : En} {d : D} {mh : List O} : cVar 10 (a0 :: a1 :: a2 :: a3 :: a4 :: a5 :: a6 :: a7 :: a8 :: a9 :: some d :: ρ) mh = .ok d mh := rfl
@[simp] theorem cVar_11 {a0 a1 a2 a3 a4 a5 a6 a7 a8 a9 a10 : Option D} {ρ : En} {d : D} {mh : List O} : cVar 11 (a0 :: a1 :: a2 :: a3 :: a4 :: a5 :: a6 :: a7 :: a8 :: a9 :: a10 :: some d :: ρ) mh = .ok d mh := rfl
@[simp] theorem cVar_12 {a0 a1 a2 a3 a4 a5 a6 a7 a8 a9 a10 a11 : Option D} {ρ : En} {d : D} {mh : List O} : cVar 12 (a0 :: a1 :: a2 :: a3 :: a4 :: a5 :: a6 :: a7 :: a8 :: a9 :: a10 :: a11 :: some d :: ρ) mh = .ok d mh := rfl
@[simp] theorem cVar_13 {a0 a1 a2 a3 a4 a5 a6 a7 a8 a9 a10 a11 a12 : Option D} {ρ : En} {d : D} {mh : List O} : cVar 13 (a0 :: a1 :: a2 :: a3 :: a4 :: a5 :: a6 :: a7 :: a8 :: a9 :: a10 :: a11 :: a12 :: some d :: ρ) mh = .ok d mh := rfl
@[simp] theorem cVar_14 {a0 a1 a2 a3 a4 a5 a6 a7 a8 a9 a10 a11 a12 a13 : Option D} {ρ : En} {d : D} {mh : List O} : cVar 14 (a0 :: a1 :: a2 :: a3 :: a4 :: a5 :: a6 :: a7 :: a8 :: a9 :: a10 :: a11 :: a12 :: a13 :: some d :: ρ) mh = .ok d mh := rfl
@[simp] theorem cVar_15 {a0 a1 a2 a3 a4 a5 a6 a7 a8 a9 a10 a11 a12 a13 a14 : Option D} {ρ : En} {d : D} {mh : List O} : cVar 15 (a0 :: a1 :: a2 :: a3 :: a4 :: a5 :: a6 :: a7 :: a8 :: a9 :: a10 :: a11 :: a12 :: a13 :: a14 :: some d :: ρ) mh = .ok d mh := rfl
@[simp] theorem cVar_16 {a0 a1 a2 a3 a4 a5 a6 a7 a8 a9 a10 a11 a12 a13 a14 a15 : Option D} {ρ : En} {d : D} {mh : List O} : cVar 16 (a0 :: a1 :: a2 :: a3 :: a4 :: a5 :: a6 :: a7 :: a8 :: a9 :: a10 :: a11 :: a12 :: a13 :: a14 :: a15 :: some d :: ρ) mh = .ok d mh := rfl
@[simp] theorem cVar_17 {a0 a1 a2 a3 a4 a5 a6 a7 a8 a9 a10 a11 a12 a13 a14 a15 a16 : Option D} {ρ : En} {d : D} {mh : List O} : cVar 17 (a0 :: a1 :: a2 :: a3 :: a4 :: a5 :: a6 :: a7 :: a8 :: a9 :: a10 :: a11 :: a12 :: a13 :: a14 :: a15 :: a16 :: some d :: ρ) mh = .ok d mh := rfl
@[simp] theorem cVar_18 {a0 a1 a2 a3 a4 a5 a6 a7 a8 a9 a10 a11 a12 a13 a14 a15 a16 a17 : Option D} {ρ : En} {d : D} {mh : List O} : cVar 18 (a0 :: a1 :: a2 :: a3 :: a4 :: a5 :: a6 :: a7 :: a8 :: a9 :: a10 :: a11 :: a12 :: a13 :: a14 :: a15 :: a16 :: a17 :: some d :: ρ) mh = .ok d mh := rfl
@[simp] theorem cVar_19 {a0 a1 a2 a3 a4 a5 a6 a7 a8 a9 a10 a11 a12 a13 a14 a15 a16 a17 a18 : Option D} {ρ : En} {d : D} {mh : List O} : cVar 19 (a0 :: a1 :: a2 :: a3 :: a4 :: a5 :: a6 :: a7 :: a8 :: a9 :: a10 :: a11 :: a12 :: a13 :: a14 :: a15 :: a16 :: a17 :: a18 :: some d :: ρ) mh = .ok d mh := rfl
@[simp] theorem cVar_20 {a0 a1 a2 a3 a4 a5 a6 a7 a8 a9 a10 a11 a12 a13 a14 a15 a16 a17 a18 a19 : Option D} {ρ : En} {d : D} {mh : List O} : cVar 20 (a0 :: a1 :: a2 :: a3 :: a4 :: a5 :: a6 :: a7 :: a8 :: a9 :: a10 :: a11 :: a12 :: a13 :: a14 :: a15 :: a16 :: a17 :: a18 :: a19 :: some d :: ρ) mh = .ok d mh := rfl
@[simp] theorem cVar_21 {a0 a1 a2 a3 a4 a5 a6 a7 a8 a9 a10 a11 a12 a13 a14 a15 a16 a17 a18 a19 a20 : Option D} {ρ : En} {d : D} {mh : List O} : cVar 21 (a0 :: a1 :: a2 :: a3 :: a4 :: a5 :: a6 :: a7 :: a8 :: a9 :: a10 :: a11 :: a12 :: a13 :: a14 :: a15 :: a16 :: a17 :: a18 :: a19 :: a20 :: some d :: ρ) mh = .ok d mh := rfl
@[simp] theorem cVar_22 {a0 a1 a2 a3 a4 a5 a6 a7 a8 a9 a10 a11 a12 a13 a14 a15 a16 a17 a18 a19 a20 a21 : Option D} {ρ : En} {d : D} {mh : List O} : cVar 22 (a0 :: a1 :: a2 :: a3 :: a4 :: a5 :: a6 :: a7 :: a8 :: a9 :: a10 :: a11 :: a12 :: a13 :: a14 :: a15 :: a16 :: a17 :: a18 :: a19 :: a20 :: a21 :: some d :: ρ) mh = .ok d mh := rfl
@[simp] theorem cVar_23 {a0 a1 a2 a3 a4 a5 a6 a7 a8 a9 a10 a11 a12 a13 a14 a15 a16 a17 a18 a19 a20 a21 a22 : Option D} {ρ : En} {d : D} {mh : List O} : cVar 23 (a0 :: a1 :: a2 :: a3 :: a4 :: a5 :: a6 :: a7 :: a8 :: a9 :: a10 :: a11 :: a12 :: a13 :: a14 :: a15 :: a16 :: a17 :: a18 :: a19 :: a20 :: a21 :: a22 :: some d :: ρ) mh = .ok d mh := rfl
/-- range(max(1, min(N, n))) -/
theorem outer_rng (N : Nat) (h1 : 1 ≤ N) (h2 : N ≤ 1000) (n : Nat) : ∃ m : Nat, m ≤ N ∧ ∀ mh, oRng1 [.int (if (1 : Int) < if (n : Int) < N then (n : Int) else N then if (n : Int) < N then (n : Int) else N else 1)] mh = .ok (rngL 0 m, none) mh := by
  by_cases a : (n : Int) < N
  · by_cases b : (1 : Int) < n
    · refine ⟨n, by omega, fun mh => ?_⟩
      rw [if_pos a, if_pos b, oRng1_ok (by omega) (by omega), Int.toNat_natCast]
    · refine ⟨1, by omega, fun mh => ?_⟩
      rw [if_pos a, if_neg b, oRng1_ok (by omega) (by omega)]
      rfl
  · by_cases b : (1 : Int) < N
    · refine ⟨N, by omega, fun mh => ?_⟩
      rw [if_neg a, if_pos b, oRng1_ok (by omega) (by omega), Int.toNat_natCast]
    · refine ⟨1, by omega, fun mh => ?_⟩
      rw [if_neg a, if_neg b, oRng1_ok (by omega) (by omega)]
      rfl
theorem sl_1000 {n : Nat} (h : n ≤ 100000) : n ≤ sizeLine := by rw [sizeLine_eq]; omega
section
variable {mh : List O} {ds es : List D}
theorem oLst_s (h : ds.length ≤ 100000) : oLst ds mh = .ok (.lst ds) mh := oLst_ok (sl_1000 h)
theorem oTup_s (h : ds.length ≤ 100000) : oTup ds mh = .ok (.tup ds) mh := oTup_ok (sl_1000 h)
theorem oNew_s (h : ds.length ≤ 100000) : oNew ds mh = .ok (.ref mh.length) (mh ++ [.lst ds]) := if_pos (sl_1000 h)
theorem oAdd_ll (h : ds.length + es.length ≤ 100000) : oAdd (.lst ds) (.lst es) mh = .ok (.lst (ds ++ es)) mh := by
  show (if _ then _ else _) = _
  exact if_pos (sl_1000 h)
end
end G

/-! Part H: comprehensions, slices, enumerate, what lists do. -/
namespace G
open PySem PySem.Spec PyProof.Rows L2

/-! ### list comprehensions -/
abbrev W0 : WX := fun _ _ _ _ => False
theorem Cc.blk {k : Nat} {X : Cx} {W : WX} (c : Cc k X W) {s : Shared} {H : Hp} {scope : Scope} {cenv : Env} {fp : List Addr} : Cc k (X.blk s H scope cenv fp) W0 :=
  ⟨c.calm, c.nd, takes0, c.hr, PassesOwn.never⟩
def Res.ne {α : Type} (r : Res α) : Res α := match r with
  | .err _ _ _ => .stuck
  | r => r
@[simp] theorem Res.ne_ok {α : Type} (a : α) (mh : List O) : (Res.ok a mh).ne = .ok a mh := rfl
@[simp] theorem Res.ne_stuck {α : Type} : (Res.stuck : Res α).ne = .stuck := rfl
theorem Post.ne {α β : Type} {K : PySem.W.Frag} {mg : Str → Option Value} {R : Rel α β} {W W' : WX} {σ σ' : L2.St} {F : Addr → Prop} {ι : List Addr} {H : Hp} {Q : β → Hp → Prop} {r : Res α} (h : Post K mg R W σ F ι H r.ne Q) : Post K mg R W' σ' F ι H r Q := by
  cases r with
  | ok a mh => exact h
  | err c ds mh => exact h.elim
  | stuck => exact h
def wipeE (ρ : En) : List Nat → En
  | [] => ρ
  | v :: vs => (wipeE ρ vs).set v none
open Classical in
noncomputable def lcL (g : Its) (tg : CG) (t : CT) (f : CE) (ρ : En) : List D → List O → Res (List D)
  | [], mh => if guard g mh then .ok [] mh else .stuck
  | d :: ds, mh => if guard g mh then (match tg d ρ mh with
    | .nx ρ' m => (t ρ' m).ne.bind fun b m1 => if b = true then (f ρ' m1).ne.bind fun y m2 => (lcL g tg t f ρ ds m2).bind fun ys m3 => .ok (y :: ys) m3 else lcL g tg t f ρ ds m1
    | _ => .stuck) else .stuck
noncomputable def cLcR (it : CI) (tg : CG) (t : CT) (f : CE) (own : List Nat) : CA := fun ρ mh => (it ρ mh).bind fun g m => if g.1.length ≤ sizeLine then lcL g tg t f (wipeE ρ own) g.1 m else .stuck
/-- the list as a value -/
noncomputable def cLc (it : CI) (tg : CG) (t : CT) (f : CE) (own : List Nat) : CE := fun ρ mh => (cLcR it tg t f own ρ mh).bind fun ys m => .ok (.lst ys) m
/-- the list as an object that may be written -/
noncomputable def cLcN (it : CI) (tg : CG) (t : CT) (f : CE) (own : List Nat) : CE := fun ρ mh => (cLcR it tg t f own ρ mh).bind fun ys m => .ok (.ref m.length) (m ++ [.lst ys])
def tYesG : CT := fun _ mh => .ok true mh
@[simp] theorem tYesG_eq (ρ : En) (mh : List O) : tYesG ρ mh = .ok true mh := rfl
section
variable {K : PySem.W.Frag} {mg : Str → Option Value} {F F' : Addr → Prop} {ι ι' : List Addr} {H H' : Hp}
mutual
/-- an address that is set apart is written -/
theorem DV.apart {D0 : Addr} {o o' : HO} (hD : H D0 = some o) (hT : ∀ vs, o ≠ .tup vs ∧ ∀ ob, o ≠ .frz ob (.tup vs)) (hF : F D0) : ∀ (d : D) (v : V), DV K mg F ι H d v → DV K mg F ι (upd H D0 o') d v
  | .non, _, h => by cases h; exact .non
  | .bl b, _, h => by cases h; exact .bl b
  | .int i, _, h => by cases h; exact .int i
  | .str x, _, h => by cases h; exact .str x
  | .ty n, _, h => by cases h; exact .ty n
  | .glb x, _, h => by
    cases h with
    | glb m r => exact .glb m r
  | .ref n, _, h => by
    cases h with
    | ref e => exact .ref e
  | .tup ds, _, h => by
    cases h with
    | @tup a _ vs h r =>
      have ne : a ≠ D0 := fun z => by
        subst z
        rcases h with h | ⟨ob, h⟩
        · rw [hD] at h; cases h; exact (hT vs).1 rfl
        · rw [hD] at h; cases h; exact (hT vs).2 ob rfl
      exact .tup (rd_upto h fun o q => by rw [upd_ne ne]; exact q) (DVs.apart hD hT hF ds _ r)
  | .lst ds, _, h => by
    cases h with
    | @lst a _ vs h r =>
      refine .lst ?_ (DVs.apart hD hT hF ds _ r)
      rcases h with ⟨h, n⟩ | h
      · have ne : a ≠ D0 := fun z => n (z ▸ hF)
        exact .inl ⟨rd_upto h fun o q => by rw [upd_ne ne]; exact q, n⟩
      · exact .inr h
  | .dic ks ds, _, h => by
    cases h with
    | @dic a _ _ _ h n e r =>
      have ne : a ≠ D0 := fun z => n (z ▸ hF)
      exact .dic (rd_upto h fun o q => by rw [upd_ne ne]; exact q) n e (DVs.apart hD hT hF ds _ r)
  | .obj x ns ds, _, h => by
    cases h with
    | obj h m e r =>
      refine .obj (h.upto fun b o e n _ => ⟨n, ?_⟩) m e (DVs.apart hD hT hF ds _ r)
      have ne : b ≠ D0 := fun z => n (z ▸ hF)
      rw [upd_ne ne]; exact e
  | .clo y ds, _, h => by
    cases h with
    | clo h r =>
      refine .clo (h.upto fun b o e n _ => ⟨n, ?_⟩) (DVs.apart hD hT hF ds _ r)
      have ne : b ≠ D0 := fun z => n (z ▸ hF)
      rw [upd_ne ne]; exact e
theorem DVs.apart {D0 : Addr} {o o' : HO} (hD : H D0 = some o) (hT : ∀ vs, o ≠ .tup vs ∧ ∀ ob, o ≠ .frz ob (.tup vs)) (hF : F D0) : ∀ (ds : List D) (vs : List V), DVs K mg F ι H ds vs → DVs K mg F ι (upd H D0 o') ds vs
  | [], _, h => by cases h; exact .nil
  | d :: ds, _, h => by
    cases h with
    | cons h t => exact .cons (DV.apart hD hT hF d _ h) (DVs.apart hD hT hF ds _ t)
end
mutual
/-- fewer are set apart -/
theorem DV.less (up : ∀ a, F' a → F a) : ∀ (d : D) (v : V), DV K mg F ι H d v → DV K mg F' ι H d v
  | .non, _, h => by cases h; exact .non
  | .bl b, _, h => by cases h; exact .bl b
  | .int i, _, h => by cases h; exact .int i
  | .str x, _, h => by cases h; exact .str x
  | .ty n, _, h => by cases h; exact .ty n
  | .glb x, _, h => by
    cases h with
    | glb m r => exact .glb m r
  | .ref n, _, h => by
    cases h with
    | ref e => exact .ref e
  | .tup ds, _, h => by
    cases h with
    | tup h r => exact .tup h (DVs.less up ds _ r)
  | .lst ds, _, h => by
    cases h with
    | lst h r =>
      refine .lst ?_ (DVs.less up ds _ r)
      rcases h with ⟨h, n⟩ | h
      · exact .inl ⟨h, fun z => n (up _ z)⟩
      · exact .inr h
  | .dic ks ds, _, h => by
    cases h with
    | dic h n e r => exact .dic h (fun z => n (up _ z)) e (DVs.less up ds _ r)
  | .obj x ns ds, _, h => by
    cases h with
    | obj h m e r => exact .obj (h.upto fun b o e n _ => ⟨fun z => n (up _ z), e⟩) m e (DVs.less up ds _ r)
  | .clo y ds, _, h => by
    cases h with
    | clo h r => exact .clo (h.upto fun b o e n _ => ⟨fun z => n (up _ z), e⟩) (DVs.less up ds _ r)
theorem DVs.less (up : ∀ a, F' a → F a) : ∀ (ds : List D) (vs : List V), DVs K mg F ι H ds vs → DVs K mg F' ι H ds vs
  | [], _, h => by cases h; exact .nil
  | d :: ds, _, h => by
    cases h with
    | cons h t => exact .cons (DV.less up d _ h) (DVs.less up ds _ t)
end
mutual
/-- more are live -/
theorem DV.more (pre : ι <+: ι') : ∀ (d : D) (v : V), DV K mg F ι H d v → DV K mg F ι' H d v
  | .non, _, h => by cases h; exact .non
  | .bl b, _, h => by cases h; exact .bl b
  | .int i, _, h => by cases h; exact .int i
  | .str x, _, h => by cases h; exact .str x
  | .ty n, _, h => by cases h; exact .ty n
  | .glb x, _, h => by
    cases h with
    | glb m r => exact .glb m r
  | .ref n, _, h => by
    cases h with
    | ref e =>
      refine .ref ?_
      obtain ⟨t, q⟩ := pre
      rw [← q, List.getElem?_append_left (List.getElem?_eq_some_iff.mp e).1]
      exact e
  | .tup ds, _, h => by
    cases h with
    | tup h r => exact .tup h (DVs.more pre ds _ r)
  | .lst ds, _, h => by
    cases h with
    | lst h r => exact .lst h (DVs.more pre ds _ r)
  | .dic ks ds, _, h => by
    cases h with
    | dic h n e r => exact .dic h n e (DVs.more pre ds _ r)
  | .obj x ns ds, _, h => by
    cases h with
    | obj h m e r => exact .obj h m e (DVs.more pre ds _ r)
  | .clo y ds, _, h => by
    cases h with
    | clo h r => exact .clo h (DVs.more pre ds _ r)
theorem DVs.more (pre : ι <+: ι') : ∀ (ds : List D) (vs : List V), DVs K mg F ι H ds vs → DVs K mg F ι' H ds vs
  | [], _, h => by cases h; exact .nil
  | d :: ds, _, h => by
    cases h with
    | cons h t => exact .cons (DV.more pre d _ h) (DVs.more pre ds _ t)
end
theorem SR.apart {mh : List O} {D0 : Addr} {o o' : HO} (sr : SR K mg F ι mh H) (hD : H D0 = some o) (hT : ∀ vs, o ≠ .tup vs ∧ ∀ ob, o ≠ .frz ob (.tup vs)) (hF : F D0) (hn : D0 ∉ ι) (hX : ∀ ps φ, o ≠ .tbl ps ∧ o ≠ .ext φ := by exact fun _ _ => ⟨(by intro z; cases z), (by intro z; cases z)⟩) : SR K mg F ι mh (upd H D0 o') := by
  refine ⟨sr.len, sr.nd, fun n u a e1 e2 => ?_, sr.sub, fun a h => ?_, tabs_upd sr.tabs hD hX⟩
  · have na : a ≠ D0 := fun z => hn (z ▸ List.mem_of_getElem? e2)
    have q := upd_ne (H := H) (o := o') na
    cases sr.ob n u a e1 e2 with
    | lst h r => exact .lst (q.trans h) (DVs.apart hD hT hF _ _ r)
    | dic h e r => exact .dic (q.trans h) e (DVs.apart hD hT hF _ _ r)
    | dct h e r => exact .dct (q.trans h) e (DVs.apart hD hT hF _ _ r)
    | ins h m e r => exact .ins (q.trans h) m e (DVs.apart hD hT hF _ _ r)
  · by_cases ha : a = D0
    · rw [ha, upd_same]; exact fun z => nomatch z
    · rw [upd_ne ha]; exact sr.old a h
theorem SR.less {mh : List O} (sr : SR K mg F ι mh H) (up : ∀ a, F' a → F a) (sub : ∀ a, a ∈ ι → F' a) : SR K mg F' ι mh H := by
  refine ⟨sr.len, sr.nd, fun n u a e1 e2 => ?_, sub, fun a h => sr.old a (up a h), sr.tabs⟩
  cases sr.ob n u a e1 e2 with
  | lst h r => exact .lst h (DVs.less up _ _ r)
  | dic h e r => exact .dic h e (DVs.less up _ _ r)
  | dct h e r => exact .dct h e (DVs.less up _ _ r)
  | ins h m e r => exact .ins h m e (DVs.less up _ _ r)
end
theorem wipe_get {σ : L2.St} {j : Nat} : ∀ {vs : List Nat}, (wipe σ vs)[j]? = if j ∈ vs then (if j < σ.length then some none else none) else σ[j]?
  | [] => by simp [wipe]
  | v :: vs => by
    have ih := wipe_get (σ := σ) (j := j) (vs := vs)
    unfold wipe
    by_cases hv : v = j
    · subst hv
      by_cases hl : v < σ.length
      · rw [List.getElem?_set_self (by rw [wipe_length]; exact hl)]; simp [hl]
      · rw [List.getElem?_eq_none (by rw [List.length_set, wipe_length]; omega)]; simp [hl]
    · rw [List.getElem?_set_ne hv, ih]
      by_cases hm : j ∈ vs
      · simp [hm]
      · have : ¬ j = v := fun z => hv z.symm
        simp [hm, this]
theorem wipe_fs {σ σ' : L2.St} {ix vs : List Nat} (f : Fs ix σ σ') (h : ∀ i ∈ ix, i ∈ vs) : wipe σ' vs = wipe σ vs := by
  apply List.ext_getElem?
  intro j
  rw [wipe_get, wipe_get, f.1]
  by_cases hm : j ∈ vs
  · simp [hm]
  · simp only [hm, if_false]
    exact f.2 j fun z => hm (h j z)
theorem wipeE_er {K : PySem.W.Frag} {mg : Str → Option Value} {F : Addr → Prop} {ι : List Addr} {H : Hp} {ρ : En} {σ : L2.St} (er : ER K mg F ι H ρ σ) : ∀ vs : List Nat, ER K mg F ι H (wipeE ρ vs) (wipe σ vs)
  | [] => er
  | v :: vs => (wipeE_er er vs).clear
section
variable {X : Cx} {W : WX} {k : Nat} {pos : Pos}
structure JTs (X : Cx) (W : WX) (es : List Expr) (f : CT) : Prop where
  ex : ∃ t, PTs X es t ∧ ∀ (ρ : En) (mh : List O) (F : Addr → Prop) (ι : List Addr) (σ : L2.St) (H : Hp) (Q : Bool → Hp → Prop), SR X.K X.mg F ι mh H → ER X.K X.mg F ι H ρ σ → Post X.K X.mg BR W σ F ι H (f ρ mh) Q → t σ H Q
theorem ts_nil : JTs X W [] tYesG := ⟨_, pts_nil, fun _ _ _ _ _ _ _ sr _ h => h.ok sr rfl⟩
theorem ts_one {e : Expr} {f : CT} (h : JT X W e f) : JTs X W [e] f := by
  obtain ⟨t, p, q⟩ := h.ex
  exact ⟨_, pts_one p, q⟩
theorem lc_step {r : Res (List D)} {ad : List D} {y : D} : ((r.bind fun ys m3 => Res.ok (y :: ys) m3).bind fun ys m => Res.ok (ad ++ ys) m) = r.bind fun ys m => .ok ((ad ++ [y]) ++ ys) m := by
  cases r with
  | ok a mh => simp
  | err c ds mh => rfl
  | stuck => rfl
theorem Post.bindB {α β γ δ : Type} {K : PySem.W.Frag} {mg : Str → Option Value} {R : Rel α β} {R' : Rel γ δ} {W : WX} {σ : L2.St} {F0 F : Addr → Prop} {ι0 ι : List Addr} {H0 H : Hp} {r : Res α} {f : α → List O → Res γ} {Q : δ → Hp → Prop}
    (h : Post K mg R' W σ F0 ι0 H0 (r.bind f) Q) (st0 : Step F0 ι0 H0 F ι H) :
    Post K mg R W σ F ι H r (fun b H1 => ∃ F1 ι1 a mh1, Step F ι H F1 ι1 H1 ∧ SR K mg F1 ι1 mh1 H1 ∧ R F1 ι1 H1 a b ∧ Post K mg R' W σ F0 ι0 H0 (f a mh1) Q) := by
  cases r with
  | ok a mh => exact fun F' ι' H' b s x y => ⟨F', ι', a, mh, s, x, y, h⟩
  | err c ds mh => exact fun F' ι' H' cls dx s x y => h F' ι' H' cls dx (st0.trans s) x y
  | stuck => exact h
/-- the new list, set apart, behind a comprehension's loop -/
def LcR (X : Cx) (H : Hp) : Rel (List D) V := fun F' ι' H' ys b => ∃ D0 vs, b = .ref D0 ∧ H' D0 = some (.lst vs) ∧ F' D0 ∧ D0 ∉ ι' ∧ H D0 = none ∧ DVs X.K X.mg F' ι' H' ys vs
structure LcI (X : Cx) (W : WX) (σ : L2.St) (D0 : Addr) (Hs : Hp) (F1 : Addr → Prop) (ι1 : List Addr) (H1 : Hp) (gi : Its) (L : List D → List O → Res (List D)) (Q : VK) (i : Nat) (H2 : Hp) : Prop where
  ex : ∃ (F2 : Addr → Prop) (ι2 : List Addr) (mh2 : List O) (acc : List V) (ad : List D), Step F1 ι1 H1 F2 ι2 H2 ∧ SR X.K X.mg F2 ι2 mh2 H2 ∧ H2 D0 = some (.lst acc) ∧ F2 D0 ∧ D0 ∉ ι2 ∧ DVs X.K X.mg F2 ι2 H2 ad acc ∧ acc.length ≤ i ∧ i ≤ gi.1.length ∧
    Post X.K X.mg (LcR X Hs) W σ F1 ι1 H1 ((L (gi.1.drop i) mh2).bind fun ys m => .ok (ad ++ ys) m) Q
/-- what the loop of a comprehension is worth -/
theorem lc_ok {wi : TI} {g : TG} {tt : TT} {te : TE} {own ix : List Nat} {fi : CI} {fg : CG} {ft : CT} {fe : CE}
    (qi : ∀ (ρ : En) (mh : List O) (F : Addr → Prop) (ι : List Addr) (σ : L2.St) (H : Hp) (R : It → Hp → Prop), SR X.K X.mg F ι mh H → ER X.K X.mg F ι H ρ σ → Post X.K X.mg (RI X) W σ F ι H (fi ρ mh) R → wi σ H R)
    (qg : ∀ (d : D) (v : V) (ρ : En) (mh : List O) (F : Addr → Prop) (ι : List Addr) (σ : L2.St) (H : Hp) (Q Q' : L2.St → Hp → Prop), SR X.K X.mg F ι mh H → ER X.K X.mg F ι H ρ σ → DV X.K X.mg F ι H d v → PostG X F ι H (fg d ρ mh) Q → (∀ σ' H', Fs ix σ σ' → Q σ' H' → Q' σ' H') → g v σ H Q')
    (og : ∀ d ρ mh, (∃ ρ' mh', fg d ρ mh = .nx ρ' mh') ∨ fg d ρ mh = .stuck)
    (qt : ∀ (ρ : En) (mh : List O) (F : Addr → Prop) (ι : List Addr) (σ : L2.St) (H : Hp) (Q : Bool → Hp → Prop), SR X.K X.mg F ι mh H → ER X.K X.mg F ι H ρ σ → Post X.K X.mg BR W0 σ F ι H (ft ρ mh) Q → tt σ H Q)
    (qe : ∀ (ρ : En) (mh : List O) (F : Addr → Prop) (ι : List Addr) (σ : L2.St) (H : Hp) (Q : VK), SR X.K X.mg F ι mh H → ER X.K X.mg F ι H ρ σ → Post X.K X.mg (DR X) W0 σ F ι H (fe ρ mh) Q → te σ H Q)
    (hix : ∀ i ∈ ix, i ∈ own) {ρ : En} {mh : List O} {F : Addr → Prop} {ι : List Addr} {σ : L2.St} {H : Hp} {Q : VK} (sr : SR X.K X.mg F ι mh H) (er : ER X.K X.mg F ι H ρ σ)
    (h : Post X.K X.mg (LcR X H) W σ F ι H (cLcR fi fg ft fe own ρ mh) Q) : tLc wi g tt te own σ H Q := by
  unfold cLcR at h
  refine qi ρ mh F ι σ H _ sr er ((Post.bind (R := RI X) h).mono fun J H1 ⟨F1, ι1, gi, m1, st1, sr1, r1, h1⟩ => ?_)
  intro D0 hD0
  have hD : H D0 = none := by
    cases q : H D0 with
    | none => rfl
    | some o => obtain ⟨o', e⟩ := st1.live D0 o q; rw [hD0] at e; cases e
  split at h1
  · rename_i hlen
    have h1 : Post X.K X.mg (LcR X H) W σ F1 ι1 H1 (lcL gi fg ft fe (wipeE ρ own) (gi.1.drop 0) m1) Q := h1
    have nF : ¬ F1 D0 := sr1.notNew hD0
    have nι : D0 ∉ ι1 := fun z => nF (sr1.sub D0 z)
    have er1 := er.to sr.sub st1
    have tupL : ∀ acc : List V, ∀ vs, (HO.lst acc) ≠ .tup vs ∧ ∀ ob, (HO.lst acc) ≠ .frz ob (.tup vs) := fun acc vs => ⟨(by intro z; cases z), (by intro ob z; cases z)⟩
    refine ⟨fun i m H2 => m = gi.1.length - i ∧ LcI X W σ D0 H F1 ι1 H1 gi (lcL gi fg ft fe (wipeE ρ own)) Q i H2, ⟨_, rfl, ?_⟩, ?_⟩
    · have st0 : Step F1 ι1 H1 F1 ι1 (upd H1 D0 (.lst [])) := step_new hD0
      have sr0 := sr1.fresh (u := .lst []) hD0
      have st : Step F1 ι1 H1 (fun a => F1 a ∨ a = D0) ι1 (upd H1 D0 (.lst [])) := ⟨st0.pre, fun a z => .inl z, fun a z => z.elim .inl fun e => .inr (e ▸ hD0), st0.inew, st0.keep, st0.tups, st0.live⟩
      have sr2 : SR X.K X.mg (fun a => F1 a ∨ a = D0) ι1 m1 (upd H1 D0 (.lst [])) := by
        refine ⟨sr1.len, sr1.nd, fun n o a e1 e2 => ?_, fun a z => .inl (sr1.sub a z), fun a z => ?_, sr0.tabs⟩
        · have na : a ≠ D0 := fun z => nι (z ▸ List.mem_of_getElem? e2)
          exact (sr1.ob n o a e1 e2).to sr1.sub st (upd_ne na)
        · rcases z with z | z
          · exact sr0.old a z
          · rw [z, upd_same]; exact fun q => nomatch q
      refine ⟨_, ι1, m1, [], [], st, sr2, upd_same, .inr rfl, nι, .nil, Nat.zero_le _, Nat.zero_le _, ?_⟩
      have e : ((lcL gi fg ft fe (wipeE ρ own) (gi.1.drop 0) m1).bind fun ys m => Res.ok ([] ++ ys) m) = lcL gi fg ft fe (wipeE ρ own) (gi.1.drop 0) m1 := by
        cases lcL gi fg ft fe (wipeE ρ own) (gi.1.drop 0) m1 <;> rfl
      rw [e]
      exact h1
    · rintro i m H2 ⟨rfl, F2, ι2, mh2, acc, ad, st2, sr2, hacc, hF, hn, rad, hle, hi, h2⟩
      by_cases hl : i < gi.1.length
      · have ed : gi.1.drop i = gi.1[i] :: gi.1.drop (i + 1) := List.drop_eq_getElem_cons hl
        rw [ed] at h2
        unfold lcL at h2
        split at h2
        · rename_i hgd
          obtain ⟨hgo, hy⟩ := (r1 F2 ι2 H2 mh2 st2 sr2 hgd i).1 _ (List.getElem?_eq_getElem hl)
          refine .inr ⟨hgo, fun H' => LcI X W σ D0 H F1 ι1 H1 gi (lcL gi fg ft fe (wipeE ρ own)) Q (i + 1) H', fun H' z => ⟨_, by omega, rfl, z⟩, fun x H3 y => ?_⟩
          obtain ⟨kp, dv⟩ := hy x H3 y
          obtain ⟨sr3, st3⟩ := sr2.same kp
          have erw : ER X.K X.mg F2 ι2 H3 (wipeE ρ own) (wipe σ own) := wipeE_er ((er1.to sr1.sub st2).to sr2.sub st3) own
          rcases og gi.1[i] (wipeE ρ own) mh2 with ⟨ρ', mh', e⟩ | e
          · rw [e] at h2
            refine qg gi.1[i] x (wipeE ρ own) mh2 F2 ι2 (wipe σ own) H3 (fun σ' H' => ∃ F' ι', Step F2 ι2 H3 F' ι' H' ∧ SR X.K X.mg F' ι' mh' H' ∧ ER X.K X.mg F' ι' H' ρ' σ') _ sr3 erw dv (by rw [e]; exact fun F' ι' H' σ' s x y => ⟨F', ι', s, x, y⟩) fun σ4 H4 fs q4 => ?_
            obtain ⟨F4, ι4, st4, sr4, er4⟩ := q4
            have st24 := st3.trans st4
            have hacc4 : H4 D0 = some (.lst acc) := st24.keep D0 _ hacc hn fun _ z => nomatch z
            refine ⟨?_, ?_⟩
            · have := wipe_fs (vs := own) fs hix
              rw [this]
              apply List.ext_getElem?
              intro j
              rw [wipe_get, wipe_length]
              by_cases hj : j ∈ own
              · rw [if_pos hj, wipe_get, if_pos hj]
              · rw [if_neg hj]
            · have h3 : Post X.K X.mg (LcR X H) W σ F1 ι1 H1 ((ft ρ' mh').ne.bind fun b m1 => ((if b = true then (fe ρ' m1).ne.bind fun y m2 => (lcL gi fg ft fe (wipeE ρ own) (gi.1.drop (i + 1)) m2).bind fun ys m3 => .ok (y :: ys) m3 else lcL gi fg ft fe (wipeE ρ own) (gi.1.drop (i + 1)) m1).bind fun ys m => .ok (ad ++ ys) m)) Q := by
                have e3 : ∀ (r : Res Bool) (f : Bool → List O → Res (List D)), (r.bind f).bind (fun ys m => Res.ok (ad ++ ys) m) = r.bind fun b m => (f b m).bind fun ys m => Res.ok (ad ++ ys) m := fun r f => by cases r <;> rfl
                rw [← e3]
                exact h2
              refine qt ρ' mh' F4 ι4 σ4 H4 _ sr4 er4 ((Post.bindB (R := BR) h3 (st2.trans st24)).ne.mono fun b H5 ⟨F5, ι5, b', m5, st5, sr5, rb, h5⟩ => ?_)
              have eb : b' = b := rb
              subst eb
              have hn5 : D0 ∉ ι5 := fun z => by
                rcases (st24.trans st5).inew D0 z with q | q
                · exact hn q
                · rw [q] at hacc; cases hacc
              have hacc5 : H5 D0 = some (.lst acc) := (st24.trans st5).keep D0 _ hacc hn fun _ z => nomatch z
              have hF5 : F5 D0 := (st24.trans st5).up _ hF
              have rad5 := DVs.to sr2.sub (st24.trans st5) _ _ rad
              cases b' with
              | false =>
                rw [if_neg Bool.false_ne_true] at h5 ⊢
                exact ⟨F5, ι5, m5, acc, ad, st2.trans (st24.trans st5), sr5, hacc5, hF5, hn5, rad5, by omega, hl, h5⟩
              | true =>
                rw [if_pos rfl] at h5 ⊢
                have e3 : ∀ (r : Res D) (f : D → List O → Res (List D)), (r.bind f).bind (fun ys m => Res.ok (ad ++ ys) m) = r.bind fun b m => (f b m).bind fun ys m => Res.ok (ad ++ ys) m := fun r f => by cases r <;> rfl
                rw [e3] at h5
                refine qe ρ' m5 F5 ι5 σ4 H5 _ sr5 (er4.to sr4.sub st5) ((Post.bindB (R := DR X) h5 (st2.trans (st24.trans st5))).ne.mono fun yv H6 ⟨F6, ι6, yd, m6, st6, sr6, ry, h7⟩ => ?_)
                have st26 := (st24.trans st5).trans st6
                have hn6 : D0 ∉ ι6 := fun z => by
                  rcases st26.inew D0 z with q | q
                  · exact hn q
                  · rw [q] at hacc; cases hacc
                have hacc6 : H6 D0 = some (.lst acc) := st26.keep D0 _ hacc hn fun _ z => nomatch z
                have hF6 : F6 D0 := st26.up _ hF
                have rad6 := DVs.to sr2.sub st26 _ _ rad
                refine ⟨acc, hacc6, by omega, ?_⟩
                rw [lc_step] at h7
                have ne1 : H1 D0 = none := hD0
                have stF : Step F1 ι1 H1 F6 ι6 (upd H6 D0 (.lst (acc ++ [yv]))) := by
                  have s := st2.trans st26
                  refine ⟨s.pre, s.up, s.new, s.inew, fun a o e n nt => ?_, fun a vs r => ?_, fun a o e => ?_⟩
                  · rw [upd_ne (ne_of_none e ne1)]; exact s.keep a o e n nt
                  · obtain ⟨o, e⟩ := rd_some r
                    exact rd_upto (s.tups a vs r) fun o q => by rw [upd_ne (ne_of_none e ne1)]; exact q
                  · rw [upd_ne (ne_of_none e ne1)]; exact s.live a o e
                have sr7 := sr6.apart (o' := .lst (acc ++ [yv])) hacc6 (tupL acc) hF6 hn6
                exact ⟨F6, ι6, m6, acc ++ [yv], ad ++ [yd], stF, sr7, upd_same, hF6, hn6, DVs.apart hacc6 (tupL acc) hF6 _ _ (rad6.append (.cons ry .nil)), by rw [List.length_append]; exact Nat.succ_le_succ hle, hl, h7⟩
          · rw [e] at h2
            exact h2.elim
        · exact h2.elim
      · have ed : gi.1.drop i = [] := List.drop_eq_nil_of_le (by omega)
        rw [ed] at h2
        unfold lcL at h2
        split at h2
        · rename_i hgd
          refine .inl ⟨(r1 F2 ι2 H2 mh2 st2 sr2 hgd i).2 (by omega), ?_⟩
          rw [Res.bind_ok, List.append_nil] at h2
          exact h2 F2 ι2 H2 _ st2 sr2 ⟨D0, acc, rfl, hacc, hF, hn, hD, rad⟩
        · exact h2.elim
  · exact h1.elim
end
end G

/-! Part J: str of an int, a display of one pair, constants. -/
namespace G
open PySem PySem.Spec PyProof.Rows L2
def oStr (ds : List D) (mh : List O) : Res D := match ds with
  | [.int i] => if i.natAbs.log2 < 1920 then .ok (.str (toString i)) mh else .stuck
  | _ => .stuck
theorem vo_str {X : Cx} : VOL X (fun xs H Q => ∃ i, xs = [.int i] ∧ i.natAbs.log2 < 1920 ∧ Q (.str (toString i)) H) oStr := by
  intro W σ F ι mh H ds vs Q sr r h
  unfold oStr at h
  split at h
  · split at h
    · rename_i hl
      cases r with
      | cons r1 r2 => cases r2; cases r1; exact ⟨_, rfl, hl, h.ok sr (.str _)⟩
    · exact h.elim
  · exact h.elim
def keyD : D → Option Key
  | .int i => some (.inl i)
  | .str x => some (.inr x)
  | _ => none
theorem keyD_ok {K : PySem.W.Frag} {mg : Str → Option Value} {F : Addr → Prop} {ι : List Addr} {H : Hp} {d : D} {v : V} {k : Key} (r : DV K mg F ι H d v) (e : keyD d = some k) : v = kV k := by
  cases r <;> cases e <;> rfl
def oDisp (d e : D) (mh : List O) : Res D := match keyD d with
  | some k => .ok (.dic [k] [e]) mh
  | none => .stuck
section
variable {X : Cx} {W : WX} {k : Nat} {pos : Pos} {a b : Expr} {fa fb : CE}
theorem j_disp1 (ha : JE X W a fa) (hb : JE X W b fb) : JE X W (.Dict [some a] [b] pos) (c2 oDisp fa fb) := by
  obtain ⟨ta, pa, qa⟩ := ha.ex
  obtain ⟨tb, pb, qb⟩ := hb.ex
  refine ⟨_, pe_disp (pps_cons pa pb pps_nil) rfl rfl (by simp) (by show 1 ≤ 15; omega), fun ρ mh F ι σ H Q sr er h => ?_⟩
  intro D0 hD0
  have nF : ¬ F D0 := sr.notNew hD0
  have nι : D0 ∉ ι := fun z => nF (sr.sub D0 z)
  have st0 : Step F ι H F ι (upd H D0 (.dK [])) := step_new hD0
  have sr0 := sr.fresh (u := .dK []) hD0
  have st : Step F ι H (fun a => F a ∨ a = D0) ι (upd H D0 (.dK [])) := ⟨st0.pre, fun a z => .inl z, fun a z => z.elim .inl fun e => .inr (e ▸ hD0), st0.inew, st0.keep, st0.tups, st0.live⟩
  have sr1 : SR X.K X.mg (fun a => F a ∨ a = D0) ι mh (upd H D0 (.dK [])) := by
    refine ⟨sr.len, sr.nd, fun n o a e1 e2 => ?_, fun a z => .inl (sr.sub a z), fun a z => ?_, sr0.tabs⟩
    · have na : a ≠ D0 := fun z => nι (z ▸ List.mem_of_getElem? e2)
      exact (sr.ob n o a e1 e2).to sr.sub st (upd_ne na)
    · rcases z with z | z
      · exact sr0.old a z
      · rw [z, upd_same]; exact fun q => nomatch q
  have er1 := er.to sr.sub st
  refine qa ρ mh _ ι σ _ _ sr1 er1 ((Post.bindB (R := DR X) h st).mono fun x H1 ⟨F1, ι1, d1, m1, st1, srA, r1, h1⟩ => ?_)
  refine qb ρ m1 F1 ι1 σ H1 _ srA (er1.to sr1.sub st1) ((Post.bindB (R := DR X) h1 (st.trans st1)).mono fun y H2 ⟨F2, ι2, d2, m2, st2, srB, r2, h2⟩ => ?_)
  have st12 := st1.trans st2
  have hacc : H2 D0 = some (.dK []) := st12.keep D0 _ upd_same nι fun _ z => nomatch z
  have hn : D0 ∉ ι2 := fun z => by
    rcases st12.inew D0 z with q | q
    · exact nι q
    · rw [upd_same] at q; cases q
  have hF : F2 D0 := st12.up _ (.inr rfl)
  have r1' := DV.to srA.sub st2 _ _ r1
  show H2 D0 = some (.dK []) ∧ _
  refine ⟨hacc, ?_⟩
  unfold oDisp at h2
  split at h2
  · rename_i kk e
    have ek := keyD_ok r1' e
    subst ek
    refine ⟨[(kk, y)], rfl, by show 1 ≤ 15; omega, ?_⟩
    have nt : ∀ vs, (HO.dK []) ≠ .tup vs ∧ ∀ ob, (HO.dK []) ≠ .frz ob (.tup vs) := fun vs => ⟨(by intro z; cases z), (by intro ob z; cases z)⟩
    have srC := srB.apart (o' := .dK [(kk, y)]) hacc nt hF hn
    have dv := DV.apart (o' := .dK [(kk, y)]) hacc nt hF _ _ r2
    have s := st.trans st12
    have up : ∀ a, (F2 a ∧ a ≠ D0) → F2 a := fun a z => z.1
    have stF : Step F ι H (fun a => F2 a ∧ a ≠ D0) ι2 (upd H2 D0 (.dK [(kk, y)])) := by
      refine ⟨s.pre, fun a z => ⟨s.up a z, fun e => nF (e ▸ z)⟩, fun a z => s.new a z.1, s.inew, fun a o e n nt => ?_, fun a vs r => ?_, fun a o e => ?_⟩
      · rw [upd_ne (ne_of_none e hD0)]; exact s.keep a o e n nt
      · obtain ⟨o, e⟩ := rd_some r
        exact rd_upto (s.tups a vs r) fun o q => by rw [upd_ne (ne_of_none e hD0)]; exact q
      · rw [upd_ne (ne_of_none e hD0)]; exact s.live a o e
    have dv' : DVs X.K X.mg F2 ι2 (upd H2 D0 (.dK [(kk, y)])) [d2] [y] := .cons dv .nil
    exact h2 _ ι2 _ _ stF (srC.less up fun a z => ⟨srC.sub a z, fun e => hn (e ▸ z)⟩) (.dic (.inl upd_same) (fun z => z.2 rfl) rfl (DVs.less up _ _ dv'))
  · exact h2.elim
end
section
variable {mh : List O} {i : Int} {d e : D}
@[simp] theorem oStr_s (h1 : i.natAbs < 2 ^ 64) : oStr [.int i] mh = .ok (.str (toString i)) mh := if_pos (by
  by_cases h0 : i.natAbs = 0
  · rw [h0]; decide
  · have := (Nat.log2_lt (k := 64) h0).mpr h1
    omega)
@[simp] theorem oDisp_int : oDisp (.int i) e mh = .ok (.dic [.inl i] [e]) mh := rfl
end
end G

/-! Part I: comprehensions as rules, slices, enumerate, what lists do. -/
namespace G
open PySem PySem.Spec PyProof.Rows L2

section
variable {X : Cx} {W : WX} {k : Nat} {pos : Pos}
theorem post_lc {ys : List D} {v : V} {σ : L2.St} {F F1 : Addr → Prop} {ι ι1 : List Addr} {mh m1 : List O} {H H1 : Hp} {Q : VK} (sr : SR X.K X.mg F ι mh H) (st1 : Step F ι H F1 ι1 H1) (sr1 : SR X.K X.mg F1 ι1 m1 H1) (r : LcR X H F1 ι1 H1 ys v)
    (h : Post X.K X.mg (DR X) W σ F ι H (.ok (.lst ys) m1) Q) : Q v H1 := by
  obtain ⟨D0, vs, rfl, hD, hF, hn, h0, r⟩ := r
  have up : ∀ a, (F1 a ∧ a ≠ D0) → F1 a := fun a z => z.1
  have st : Step F ι H (fun a => F1 a ∧ a ≠ D0) ι1 H1 := ⟨st1.pre, fun a z => ⟨st1.up a z, fun e => sr.old a z (e ▸ h0)⟩, fun a z => st1.new a z.1, st1.inew, st1.keep, st1.tups, st1.live⟩
  exact h _ ι1 H1 _ st (sr1.less up fun a z => ⟨sr1.sub a z, fun e => hn (e ▸ z)⟩) (.lst (.inl ⟨.inl hD, fun z => z.2 rfl⟩) (DVs.less up _ _ r))
theorem post_lcN {ys : List D} {v : V} {σ : L2.St} {F F1 : Addr → Prop} {ι ι1 : List Addr} {mh m1 : List O} {H H1 : Hp} {Q : VK} (sr : SR X.K X.mg F ι mh H) (st1 : Step F ι H F1 ι1 H1) (sr1 : SR X.K X.mg F1 ι1 m1 H1) (r : LcR X H F1 ι1 H1 ys v)
    (h : Post X.K X.mg (DR X) W σ F ι H (.ok (.ref m1.length) (m1 ++ [.lst ys])) Q) : Q v H1 := by
  obtain ⟨D0, vs, rfl, hD, hF, hn, h0, r⟩ := r
  have pre : ι1 <+: ι1 ++ [D0] := List.prefix_append _ _
  have st : Step F ι H F1 (ι1 ++ [D0]) H1 := ⟨st1.pre.trans pre, st1.up, st1.new, fun a z => by
    rcases List.mem_append.mp z with z | z
    · exact st1.inew a z
    · rw [List.mem_singleton.mp z]; exact .inr h0, st1.keep, st1.tups, st1.live⟩
  refine h F1 (ι1 ++ [D0]) H1 _ st ⟨by simp [sr1.len], ?_, fun n o a e1 e2 => ?_, fun a z => ?_, sr1.old, sr1.tabs⟩ (.ref (by rw [← sr1.len]; simp))
  · rw [List.nodup_append]
    exact ⟨sr1.nd, by simp, fun a z b z' e => by rw [List.mem_singleton.mp z'] at e; exact hn (e ▸ z)⟩
  · by_cases hl : n < m1.length
    · rw [List.getElem?_append_left hl] at e1
      rw [List.getElem?_append_left (by rw [sr1.len]; exact hl)] at e2
      cases sr1.ob n o a e1 e2 with
      | lst h r => exact .lst h (DVs.more pre _ _ r)
      | dic h e r => exact .dic h e (DVs.more pre _ _ r)
      | dct h e r => exact .dct h e (DVs.more pre _ _ r)
      | ins h m e r => exact .ins h m e (DVs.more pre _ _ r)
    · rw [List.getElem?_append_right (by omega)] at e1
      rw [List.getElem?_append_right (by rw [sr1.len]; omega)] at e2
      have hn1 : n - m1.length = 0 := by
        have := (List.getElem?_eq_some_iff.mp e1).1
        simpa using this
      rw [hn1] at e1
      rw [sr1.len, hn1] at e2
      simp at e1 e2
      subst e1 e2
      exact .lst hD (DVs.more pre _ _ r)
  · rcases List.mem_append.mp z with z | z
    · exact sr1.sub a z
    · rw [List.mem_singleton.mp z]; exact hF
section
variable {elt tg iter : Expr} {ifs : List Expr} {scope : Scope} {own : List (Str × Nat)} {ix : List Nat} {fi : CI} {fg : CG} {ft : CT} {fe : CE}
theorem bindR {α β γ δ : Type} {K : PySem.W.Frag} {mg : Str → Option Value} {R : Rel α β} {R' : Rel γ δ} {σ : L2.St} {F : Addr → Prop} {ι : List Addr} {H : Hp} {r : Res α} {f : α → List O → Res γ} {Q : δ → Hp → Prop} {Q1 : β → Hp → Prop}
    (h : Post K mg R' W σ F ι H (r.bind f) Q) (k : ∀ (F1 : Addr → Prop) (ι1 : List Addr) (H1 : Hp) (a : α) (m1 : List O) (b : β), Step F ι H F1 ι1 H1 → SR K mg F1 ι1 m1 H1 → R F1 ι1 H1 a b → Post K mg R' W σ F ι H (f a m1) Q → Q1 b H1) : Post K mg R W σ F ι H r Q1 := by
  cases r with
  | ok a mh => exact fun F' ι' H' b s x y => k F' ι' H' a mh b s x y h
  | err c ds mh => exact fun F' ι' H' cls dx s x y => h F' ι' H' cls dx s x y
  | stuck => exact h
def canE (X : Cx) (W : WX) (f : CE) : TE := fun σ H Q => ∃ (ρ : En) (mh : List O) (F : Addr → Prop) (ι : List Addr), SR X.K X.mg F ι mh H ∧ ER X.K X.mg F ι H ρ σ ∧ Post X.K X.mg (DR X) W σ F ι H (f ρ mh) Q
def canT (X : Cx) (W : WX) (f : CT) : TT := fun σ H Q => ∃ (ρ : En) (mh : List O) (F : Addr → Prop) (ι : List Addr), SR X.K X.mg F ι mh H ∧ ER X.K X.mg F ι H ρ σ ∧ Post X.K X.mg BR W σ F ι H (f ρ mh) Q
def canG (X : Cx) (ix : List Nat) (g : CG) : TG := fun v σ H Q' => ∃ (d : D) (ρ : En) (mh : List O) (F : Addr → Prop) (ι : List Addr) (Q : L2.St → Hp → Prop), SR X.K X.mg F ι mh H ∧ ER X.K X.mg F ι H ρ σ ∧ DV X.K X.mg F ι H d v ∧ PostG X F ι H (g d ρ mh) Q ∧ ∀ σ' H', Fs ix σ σ' → Q σ' H' → Q' σ' H'
theorem JE.can {e : Expr} {f : CE} (h : JE X W e f) : PE X e (canE X W f) := by
  obtain ⟨t, p, q⟩ := h.ex
  exact ⟨fun pins s σ H Q I ⟨ρ, mh, F, ι, sr, er, hp⟩ => p.run pins s σ H Q I (q ρ mh F ι σ H Q sr er hp)⟩
theorem JTs.can {e : List Expr} {f : CT} (h : JTs X W e f) : PTs X e (canT X W f) := by
  obtain ⟨t, p, q⟩ := h.ex
  exact ⟨fun pins s σ H Q I ⟨ρ, mh, F, ι, sr, er, hp⟩ => p.run pins s σ H Q I (q ρ mh F ι σ H Q sr er hp)⟩
theorem JG.can {e : Expr} {g : CG} (h : JG X W e ix g) : PG X e (canG X ix g) := by
  obtain ⟨t, p, q⟩ := h.ex
  exact ⟨fun pins s σ H v u Q' I r ⟨d, ρ, mh, F, ι, Q, sr, er, dv, hp, k⟩ => p.run pins s σ H v u Q' I r (q d v ρ mh F ι σ H Q Q' sr er dv hp k)⟩
def fin (w : Bool) (ys : List D) (m : List O) : Res D := if w = true then .ok (.ref m.length) (m ++ [.lst ys]) else .ok (.lst ys) m
/-- a comprehension; w: the list is to be written -/
noncomputable def cLcX (w : Bool) (it : CI) (tg : CG) (t : CT) (f : CE) (own : List Nat) : CE := fun ρ mh => (cLcR it tg t f own ρ mh).bind (fin w)
theorem post_fin {w : Bool} {ys : List D} {v : V} {σ : L2.St} {F F1 : Addr → Prop} {ι ι1 : List Addr} {mh m1 : List O} {H H1 : Hp} {Q : VK} (sr : SR X.K X.mg F ι mh H) (st1 : Step F ι H F1 ι1 H1) (sr1 : SR X.K X.mg F1 ι1 m1 H1) (r : LcR X H F1 ι1 H1 ys v)
    (h : Post X.K X.mg (DR X) W σ F ι H (fin w ys m1) Q) : Q v H1 := by
  cases w with
  | true => exact post_lcN sr st1 sr1 r h
  | false => exact post_lc sr st1 sr1 r h
theorem lcx {w : Bool} {wi : TI} {vs : List Nat}
    (qi : ∀ (ρ : En) (mh : List O) (F : Addr → Prop) (ι : List Addr) (σ : L2.St) (H : Hp) (R : It → Hp → Prop), SR X.K X.mg F ι mh H → ER X.K X.mg F ι H ρ σ → Post X.K X.mg (RI X) W σ F ι H (fi ρ mh) R → wi σ H R)
    (og : ∀ d ρ mh, (∃ ρ' mh', fg d ρ mh = .nx ρ' mh') ∨ fg d ρ mh = .stuck) (hix : ∀ i ∈ ix, i ∈ vs) {ρ : En} {mh : List O} {F : Addr → Prop} {ι : List Addr} {σ : L2.St} {H : Hp} {Q : VK} (sr : SR X.K X.mg F ι mh H) (er : ER X.K X.mg F ι H ρ σ)
    (h : Post X.K X.mg (DR X) W σ F ι H (cLcX w fi fg ft fe vs ρ mh) Q) : tLc wi (canG X ix fg) (canT X W0 ft) (canE X W0 fe) vs σ H Q :=
  lc_ok qi (fun d v ρ mh F ι σ H Q Q' sr er r h k => ⟨d, ρ, mh, F, ι, Q, sr, er, r, h, k⟩) og (fun ρ mh F ι σ H Q sr er h => ⟨ρ, mh, F, ι, sr, er, h⟩) (fun ρ mh F ι σ H Q sr er h => ⟨ρ, mh, F, ι, sr, er, h⟩) hix sr er
    (bindR h fun F1 ι1 H1 a m1 b st1 sr1 r h1 => post_fin sr st1 sr1 r h1)
theorem j_lc (c : Cc k X W) {w : Bool} (hi : JI X W tg iter fi) (ok : BlkOk X.N X.env.scope scope own)
    (hg : ∀ (s : Shared) (H : Hp) (C : Addr) (cl : List (Str × Addr)) (fp : List Addr), Cc k (X.blk s H scope (compEnvC scope cl C X.env) fp) W0 → JG (X.blk s H scope (compEnvC scope cl C X.env) fp) W0 tg ix fg)
    (ht : ∀ (s : Shared) (H : Hp) (C : Addr) (cl : List (Str × Addr)) (fp : List Addr), Cc k (X.blk s H scope (compEnvC scope cl C X.env) fp) W0 → JTs (X.blk s H scope (compEnvC scope cl C X.env) fp) W0 ifs ft)
    (he : ∀ (s : Shared) (H : Hp) (C : Addr) (cl : List (Str × Addr)) (fp : List Addr), Cc k (X.blk s H scope (compEnvC scope cl C X.env) fp) W0 → JE (X.blk s H scope (compEnvC scope cl C X.env) fp) W0 elt fe)
    (hix : ∀ i ∈ ix, i ∈ own.map (·.2) := by decide) (hs : ∀ x, foldedSetIterable iter X.env x = pure x := by intro _; rfl) :
    JE X W (.ListComp elt [⟨tg, iter, ifs, 0⟩] scope pos) (cLcX w fi fg ft fe (own.map (·.2))) := by
  obtain ⟨wi, pi, qi⟩ := hi.ex
  have og := (hg {} (fun _ => none) 0 [] [] c.blk).only
  exact ⟨_, pe_lc (g := canG X ix fg) (tt := canT X W0 ft) (te := canE X W0 fe) c.calm c.nd pi ok (fun s H C cl fp => (hg s H C cl fp c.blk).can) (fun s H C cl fp => (ht s H C cl fp c.blk).can) (fun s H C cl fp => (he s H C cl fp c.blk).can) hs, fun ρ mh F ι σ H Q sr er h => lcx qi og hix sr er h⟩
theorem s_setLc (c : Cc k X W) {w : Bool} {i : Nat} {y : Str} {py spos : Pos} (hi : JI X W tg iter fi) (ok : BlkOk X.N X.env.scope scope own)
    (hg : ∀ (s : Shared) (H : Hp) (C : Addr) (cl : List (Str × Addr)) (fp : List Addr), Cc k (X.blk s H scope (compEnvC scope cl C X.env) fp) W0 → JG (X.blk s H scope (compEnvC scope cl C X.env) fp) W0 tg ix fg)
    (ht : ∀ (s : Shared) (H : Hp) (C : Addr) (cl : List (Str × Addr)) (fp : List Addr), Cc k (X.blk s H scope (compEnvC scope cl C X.env) fp) W0 → JTs (X.blk s H scope (compEnvC scope cl C X.env) fp) W0 ifs ft)
    (he : ∀ (s : Shared) (H : Hp) (C : Addr) (cl : List (Str × Addr)) (fp : List Addr), Cc k (X.blk s H scope (compEnvC scope cl C X.env) fp) W0 → JE (X.blk s H scope (compEnvC scope cl C X.env) fp) W0 elt fe)
    (hsw : swapsWith (.ListComp elt [⟨tg, iter, ifs, 0⟩] scope pos) (some (.Name y py)) spos.line X.env = pure true) (hy : X.N[i]? = some y := by rfl) (hyl : X.env.scope.names.lookup y = some .local := by rfl)
    (hix : ∀ i ∈ ix, i ∈ own.map (·.2) := by decide) (hs : ∀ x, foldedSetIterable iter X.env x = pure x := by intro _; rfl) :
    JS X W (.Assign [.Name y py] (.ListComp elt [⟨tg, iter, ifs, 0⟩] scope pos) spos) (sSet i (cLcX w fi fg ft fe (own.map (·.2)))) := by
  obtain ⟨wi, pi, qi⟩ := hi.ex
  have og := (hg {} (fun _ => none) 0 [] [] c.blk).only
  refine ⟨_, ps_setLc (g := canG X ix fg) (tt := canT X W0 ft) (te := canE X W0 fe) c.calm c.nd hy hyl hsw pi ok (fun s H C cl fp => (hg s H C cl fp c.blk).can) (fun s H C cl fp => (ht s H C cl fp c.blk).can) (fun s H C cl fp => (he s H C cl fp c.blk).can) hs, fun ρ mh F ι σ H T sr er h => ?_⟩
  exact lcx qi og hix sr er ((PostS.bindE (R := DR X) sr er h).mono fun v H1 ⟨F1, ι1, d, m1, st1, sr1, r1, er1, h1⟩ => h1 F1 ι1 H1 _ Step.refl sr1 (er1.set r1))
end
end
end G

/-! Part K: what is written; what lists do; slices; enumerate. -/
namespace G
open PySem PySem.Spec PyProof.Rows L2

theorem tupN (l : List V) : ∀ vs, (HO.lst l) ≠ .tup vs ∧ ∀ ob, (HO.lst l) ≠ .frz ob (.tup vs) := fun vs => ⟨(by intro z; cases z), (by intro ob z; cases z)⟩
theorem SR.write {K : PySem.W.Frag} {mg : Str → Option Value} {F : Addr → Prop} {ι : List Addr} {H : Hp} {mh : List O} {n : Nat} {a : Addr} {o : O} {u u0 : HO} (sr : SR K mg F ι mh H) (e : ι[n]? = some a) (h0 : H a = some u0) (hT : ∀ vs, u0 ≠ .tup vs ∧ ∀ ob, u0 ≠ .frz ob (.tup vs))
    (ho : Step F ι H F ι (upd H a u) → OV K mg F ι (upd H a u) a o) (hX : ∀ ps φ, u0 ≠ .tbl ps ∧ u0 ≠ .ext φ := by exact fun _ _ => ⟨(by intro z; cases z), (by intro z; cases z)⟩) : Step F ι H F ι (upd H a u) ∧ SR K mg F ι (mh.set n o) (upd H a u) := by
  have ha : a ∈ ι := List.mem_of_getElem? e
  have st : Step F ι H F ι (upd H a u) := by
    refine ⟨List.prefix_refl _, fun _ z => z, fun _ z => .inl z, fun _ z => .inl z, fun b o' q n _ => ?_, fun b vs r => ?_, fun b o' q => ?_⟩
    · rw [upd_ne (fun z => n (by rw [z]; exact ha))]; exact q
    · have nb : b ≠ a := by
        rintro rfl
        rcases r with r | ⟨ob, r⟩
        · rw [h0] at r; cases r; exact (hT vs).1 rfl
        · rw [h0] at r; cases r; exact (hT vs).2 ob rfl
      exact rd_upto r fun o q => by rw [upd_ne nb]; exact q
    · by_cases hb : b = a
      · exact ⟨u, by rw [hb, upd_same]⟩
      · exact ⟨o', by rw [upd_ne hb]; exact q⟩
  have hn := (List.getElem?_eq_some_iff.mp e).1
  refine ⟨st, by rw [List.length_set]; exact sr.len, sr.nd, fun m o' b e1 e2 => ?_, sr.sub, fun b z => ?_, tabs_upd sr.tabs h0 hX⟩
  · by_cases hm : m = n
    · subst hm
      rw [e] at e2
      cases e2
      rw [List.getElem?_set_self (by rw [← sr.len]; exact hn)] at e1
      cases e1
      exact ho st
    · rw [List.getElem?_set_ne (fun z => hm z.symm)] at e1
      have nb : b ≠ a := fun z => by
        subst z
        exact hm ((List.getElem?_inj (List.getElem?_eq_some_iff.mp e2).1 sr.nd).mp (e2.trans e.symm))
      exact (sr.ob m o' b e1 e2).to sr.sub st (upd_ne nb)
  · by_cases hb : b = a
    · rw [hb, upd_same]; exact fun q => nomatch q
    · rw [upd_ne hb]; exact sr.old b z
/-- a list that may be written -/
def liveL (mh : List O) (d : D) : Option (Nat × List D) := match d with
  | .ref n => match mh[n]? with
    | some (.lst ds) => some (n, ds)
    | _ => none
  | _ => none
def VOM (X : Cx) (r : V → List V → Hp → VK → Prop) (o : D → List D → List O → Res D) : Prop :=
  ∀ (W : WX) (σ : L2.St) (F : Addr → Prop) (ι : List Addr) (mh : List O) (H : Hp) (d : D) (ds : List D) (v : V) (vs : List V) (Q : VK), SR X.K X.mg F ι mh H → DV X.K X.mg F ι H d v → DVs X.K X.mg F ι H ds vs → Post X.K X.mg (DR X) W σ F ι H (o d ds mh) Q → r v vs H Q
/-- o.m(..) of a list -/
def cM (o : D → List D → List O → Res D) (f : CE) (g : CA) : CE := fun ρ mh => (f ρ mh).bind fun x m => if (lstOf m x).isSome = true then (g ρ m).bind fun xs m' => o x xs m' else .stuck
section
variable {X : Cx} {W : WX} {k : Nat} {pos : Pos} {F : Addr → Prop} {ι : List Addr} {mh : List O} {σ : L2.St} {H : Hp}
theorem liveL_ok {d : D} {v : V} {n : Nat} {ds : List D} (sr : SR X.K X.mg F ι mh H) (r : DV X.K X.mg F ι H d v) (e : liveL mh d = some (n, ds)) : ∃ a vs, v = .ref a ∧ ι[n]? = some a ∧ H a = some (.lst vs) ∧ DVs X.K X.mg F ι H ds vs := by
  unfold liveL at e
  split at e
  · split at e
    · rename_i hm
      cases e
      cases r with
      | ref ea =>
        cases sr.ob _ _ _ hm ea with
        | lst h r => exact ⟨_, _, rfl, ea, h, r⟩
    · cases e
  · cases e
/-- what is worth writing -/
theorem wr {n : Nat} {a : Addr} {ws ws' : List V} {ds' : List D} {d : D} {v : V} {Q : VK} (sr : SR X.K X.mg F ι mh H) (ea : ι[n]? = some a) (hH : H a = some (.lst ws)) (r : DVs X.K X.mg F ι H ds' ws') (rd : DV X.K X.mg F ι H d v)
    (h : Post X.K X.mg (DR X) W σ F ι H (.ok d (mh.set n (.lst ds'))) Q) : Q v (upd H a (.lst ws')) := by
  obtain ⟨st, sr'⟩ := sr.write (o := .lst ds') (u := .lst ws') ea hH (tupN _) fun st => .lst upd_same (DVs.to sr.sub st _ _ r)
  exact h F ι _ _ st sr' (DV.to sr.sub st _ _ rd)
section
variable {a e : Expr} {es : List Expr} {name : Str} {apos cpos : Pos} {id : String} {r : V → List V → Hp → VK → Prop} {o : D → List D → List O → Res D} {fa : CE} {g : CA}
theorem j_m (slot : Slot "list" name id) (hty : typeOf (.builtin id) = pure (.type "method_descriptor")) (hm : MtR X id r) (vo : VOM X r o) (ho : JE X W a fa) (ha : JA X W (e :: es) g)
    (hbase : attributeBase a name X.env (eval a X.env) = eval a X.env := by rfl)
    (hfew : ((backTo cpos (starEach (e :: es) X.env)).all (fun x => !x.1) && (backToKw cpos (keywordEach [] X.env)).all (fun x => x.1.isSome)
      && decide ((e :: es).length + ([] : List Keyword).length + (if ([] : List Keyword).isEmpty then 0 else 1) < 30)) = true := by rfl)
    (hline : (apos.endLine == cpos.line) = true := by rfl) (hs : starEach (e :: es) X.env = (false, eval e X.env) :: starEach es X.env := by rfl) (hplain : (backTo cpos (starEach es X.env)).any (·.1) = false := by rfl) :
    JE X W (.Call (.Attribute a name apos) (e :: es) [] cpos) (cM o fa g) := by
  obtain ⟨ta, pa, qa⟩ := ho.ex
  obtain ⟨tb, pb, qb⟩ := ha.ex
  refine ⟨_, pe_bm PySem.F.plainAttrs_list slot hty hm pa pb hbase hfew hline hs hplain, fun ρ mh F ι σ H Q sr er h => ?_⟩
  refine qa ρ mh F ι σ H _ sr er (h.bind.mono fun x H1 ⟨F1, ι1, d1, m1, st1, sr1, r1, h1⟩ => ?_)
  split at h1
  · rename_i hl
    obtain ⟨ds, hds⟩ := Option.isSome_iff_exists.mp hl
    obtain ⟨a', vs, rfl, sq, _⟩ := lstOf_ok sr1 r1 hds
    refine ⟨.inl ⟨rfl, _, sq⟩, ?_⟩
    refine qb ρ m1 F1 ι1 σ H1 _ sr1 (er.to sr.sub st1) (h1.bind.mono fun xs H2 ⟨F2, ι2, ds2, m2, st2, sr2, r2, h2⟩ => ?_)
    exact vo W σ F2 ι2 m2 H2 d1 ds2 _ xs Q sr2 (DV.to sr1.sub st2 _ _ r1) r2 h2
  · exact h1.elim
theorem j_m0 (slot : Slot "list" name id) (hty : typeOf (.builtin id) = pure (.type "method_descriptor")) (hm : MtR X id r) (vo : VOM X r o) (ho : JE X W a fa)
    (hbase : attributeBase a name X.env (eval a X.env) = eval a X.env := by rfl) (hline : (apos.endLine == cpos.line) = true := by rfl) :
    JE X W (.Call (.Attribute a name apos) [] [] cpos) (cM o fa cNil) := by
  obtain ⟨ta, pa, qa⟩ := ho.ex
  refine ⟨_, pe_bm0 PySem.F.plainAttrs_list slot hty hm pa hbase hline, fun ρ mh F ι σ H Q sr er h => ?_⟩
  refine qa ρ mh F ι σ H _ sr er (h.bind.mono fun x H1 ⟨F1, ι1, d1, m1, st1, sr1, r1, h1⟩ => ?_)
  split at h1
  · rename_i hl
    obtain ⟨ds, hds⟩ := Option.isSome_iff_exists.mp hl
    obtain ⟨a', vs, rfl, sq, _⟩ := lstOf_ok sr1 r1 hds
    refine ⟨.inl ⟨rfl, _, sq⟩, ?_⟩
    exact vo W σ F1 ι1 m1 H1 d1 [] _ [] Q sr1 r1 .nil h1
  · exact h1.elim
end
def oAppend (d : D) (ds : List D) (mh : List O) : Res D := match liveL mh d, ds with
  | some (n, xs), [y] => if xs.length < sizeLine then .ok .non (mh.set n (.lst (xs ++ [y]))) else .stuck
  | _, _ => .stuck
theorem vo_append : VOM X rAppend oAppend := by
  intro W σ F ι mh H d ds v vs Q sr r rs h
  unfold oAppend at h
  split at h
  · rename_i e
    split at h
    · rename_i hl
      obtain ⟨a, ws, rfl, ea, hH, rx⟩ := liveL_ok sr r e
      cases rs with
      | cons r1 r2 =>
        cases r2
        exact ⟨a, ws, _, rfl, rfl, hH, by rw [← rx.length]; exact hl, wr sr ea hH (rx.append (.cons r1 .nil)) .non h⟩
    · exact h.elim
  · exact h.elim
def oReverse (d : D) (ds : List D) (mh : List O) : Res D := match liveL mh d, ds with
  | some (n, xs), [] => .ok .non (mh.set n (.lst xs.reverse))
  | _, _ => .stuck
theorem vo_reverse : VOM X rReverse oReverse := by
  intro W σ F ι mh H d ds v vs Q sr r rs h
  unfold oReverse at h
  split at h
  · rename_i e
    obtain ⟨a, ws, rfl, ea, hH, rx⟩ := liveL_ok sr r e
    cases rs
    exact ⟨a, ws, rfl, rfl, hH, wr sr ea hH rx.reverse .non h⟩
  · exact h.elim
def oClear (d : D) (ds : List D) (mh : List O) : Res D := match liveL mh d, ds with
  | some (n, xs), [] => .ok .non (mh.set n (.lst []))
  | _, _ => .stuck
theorem vo_clear : VOM X rClear oClear := by
  intro W σ F ι mh H d ds v vs Q sr r rs h
  unfold oClear at h
  split at h
  · rename_i e
    obtain ⟨a, ws, rfl, ea, hH, rx⟩ := liveL_ok sr r e
    cases rs
    exact ⟨a, ws, rfl, rfl, hH, wr sr ea hH .nil .non h⟩
  · exact h.elim
def oInsert (d : D) (ds : List D) (mh : List O) : Res D := match liveL mh d, ds with
  | some (n, xs), [.int i, y] => if xs.length < sizeLine ∧ 0 ≤ i ∧ i < 2 ^ 63 then .ok .non (mh.set n (.lst (xs.take i.toNat ++ [y] ++ xs.drop i.toNat))) else .stuck
  | _, _ => .stuck
theorem vo_insert : VOM X (fun x vs H Q => ∃ (l : Addr) (xs : List V) (i : Int) (y : V), x = .ref l ∧ vs = [.int i, y] ∧ H l = some (.lst xs) ∧ xs.length < sizeLine ∧ 0 ≤ i ∧ i < 2 ^ 63 ∧
    Q .non (upd H l (.lst (xs.take i.toNat ++ [y] ++ xs.drop i.toNat)))) oInsert := by
  intro W σ F ι mh H d ds v vs Q sr r rs h
  unfold oInsert at h
  split at h
  · rename_i e
    split at h
    · rename_i hl
      obtain ⟨a, ws, rfl, ea, hH, rx⟩ := liveL_ok sr r e
      cases rs with
      | cons r1 r2 =>
        cases r2 with
        | cons r2 r3 =>
          cases r3
          cases r1
          exact ⟨a, ws, _, _, rfl, rfl, hH, by rw [← rx.length]; exact hl.1, hl.2.1, hl.2.2, wr sr ea hH (((rx.take _).append (.cons r2 .nil)).append (rx.drop _)) .non h⟩
    · exact h.elim
  · exact h.elim
def oPopAt (d : D) (ds : List D) (mh : List O) : Res D := match liveL mh d, ds with
  | some (n, xs), [.int i] => if 0 ≤ i ∧ i < 2 ^ 63 then (match xs[i.toNat]? with
    | some y => .ok y (mh.set n (.lst (xs.eraseIdx i.toNat)))
    | none => .stuck) else .stuck
  | _, _ => .stuck
theorem seqIx {n : Nat} {i : Int} (h0 : 0 ≤ i) (h1 : i.toNat < n) : seqIndex? i n = some i.toNat := (ixN_seq (i := i) (n := n) (by unfold ixN; rw [if_pos h0, if_pos (by omega)])).1
theorem vo_popAt : VOM X rPopAt oPopAt := by
  intro W σ F ι mh H d ds v vs Q sr r rs h
  unfold oPopAt at h
  split at h
  · rename_i e
    split at h
    · rename_i hl
      split at h
      · rename_i y hy
        obtain ⟨a, ws, rfl, ea, hH, rx⟩ := liveL_ok sr r e
        cases rs with
        | cons r1 r2 =>
          cases r2
          cases r1
          obtain ⟨w, ew, rw'⟩ := rx.get hy
          exact ⟨a, ws, _, _, _, rfl, rfl, hH, by omega, hl.2, seqIx hl.1 (List.getElem?_eq_some_iff.mp ew).1, ew, wr sr ea hH (rx.eraseIdx _) rw' h⟩
      · exact h.elim
    · exact h.elim
  · exact h.elim
/-! ### x[i] = v -/
def oSetL (d e y : D) (mh : List O) : Option (List O) := match liveL mh d, e with
  | some (n, xs), .int k => match ixN xs.length k with
    | some j => some (mh.set n (.lst (xs.set j y)))
    | none => none
  | _, _ => none
def gIx (f g : CE) : CG := fun d ρ mh => match f ρ mh with
  | .ok x m => match g ρ m with
    | .ok i m' => match oSetL x i d m' with
      | some m2 => .nx ρ m2
      | none => .stuck
    | _ => .stuck
  | _ => .stuck
theorem g_ix {a b : Expr} {fa fb : CE} (ha : JE X W a fa) (hb : JE X W b fb) (hx : ∀ v, assign (.Subscript a b pos) X.env v = (do
      let ov ← holding [v] (eval a X.env)
      let iv ← holding [v, ov] (eval b X.env)
      standAt pos
      holding [v, ov, iv] (setItem ov iv v)
      release [v, ov, iv] []) := by intro _; rfl) : JG X W (.Subscript a b pos) [] (gIx fa fb) := by
  obtain ⟨ta, pa, qa⟩ := ha.ex
  obtain ⟨tb, pb, qb⟩ := hb.ex
  refine ⟨⟨_, pg_sub pa pb set_list hx, fun d v ρ mh F ι σ H Q Q' sr er r h k => ?_⟩, fun d ρ mh => ?_⟩
  · unfold gIx at h
    split at h
    · rename_i x m ea
      split at h
      · rename_i i m' eb
        split at h
        · rename_i m2 es
          refine qa ρ mh F ι σ H _ sr er ?_
          rw [ea]
          intro F1 ι1 H1 xv st1 sr1 r1
          refine qb ρ m F1 ι1 σ H1 _ sr1 (er.to sr.sub st1) ?_
          rw [eb]
          intro F2 ι2 H2 iv st2 sr2 r2
          unfold oSetL at es
          split at es
          · rename_i el
            split at es
            · rename_i j ej
              cases es
              obtain ⟨p, ws, rfl, ep, hH, rx⟩ := liveL_ok sr2 (DV.to sr1.sub st2 _ _ r1) el
              cases r2
              have dv := DV.to sr.sub (st1.trans st2) _ _ r
              obtain ⟨st3, sr3⟩ := sr2.write (u := .lst (ws.set j v)) ep hH (tupN _) fun st => .lst upd_same (DVs.to sr2.sub st _ _ (rx.set dv j))
              have st := (st1.trans st2).trans st3
              exact ⟨p, ws, _, j, rfl, rfl, hH, by rw [← rx.length]; exact ej, k _ _ ⟨rfl, fun _ _ => rfl⟩ (h F2 ι2 _ σ st sr3 (er.to sr.sub st))⟩
            · cases es
          · cases es
        · exact h.elim
      · exact h.elim
    · exact h.elim
  · unfold gIx
    split
    · split
      · split
        · exact .inl ⟨_, _, rfl⟩
        · exact .inr rfl
      · exact .inr rfl
    · exact .inr rfl
/-! ### list(..), tuple(..) -/
def seqOf (mh : List O) (d : D) : Option (List D) := match d with
  | .tup ds => some ds
  | d => lstOf mh d
def oListOf (ds : List D) (mh : List O) : Res D := match ds with
  | [d] => match seqOf mh d with
    | some xs => oLst xs mh
    | none => .stuck
  | _ => .stuck
def oListN (ds : List D) (mh : List O) : Res D := match ds with
  | [d] => match seqOf mh d with
    | some xs => oNew xs mh
    | none => .stuck
  | _ => .stuck
theorem seqOf_ok {d : D} {v : V} {ds : List D} (sr : SR X.K X.mg F ι mh H) (r : DV X.K X.mg F ι H d v) (e : seqOf mh d = some ds) : ∃ a vs, v = .ref a ∧ (SqL X.K H a vs ∨ SqT X.K H a vs) ∧ DVs X.K X.mg F ι H ds vs := by
  unfold seqOf at e
  split at e
  · cases e
    cases r with
    | tup h r => exact ⟨_, _, rfl, .inr (.inl h), r⟩
  · obtain ⟨a, vs, e1, e2, e3⟩ := lstOf_ok sr r e
    exact ⟨a, vs, e1, .inl e2, e3⟩
theorem vo_listOf : VOL X (fun xs H Q => ∃ p ys, xs = [.ref p] ∧ (SqL X.K H p ys ∨ SqT X.K H p ys) ∧ ∀ l, H l = none → Q (.ref l) (upd H l (.lst ys))) oListOf := by
  intro W σ F ι mh H ds vs Q sr r h
  unfold oListOf at h
  split at h
  · split at h
    · rename_i e
      cases r with
      | cons r1 r2 =>
        cases r2
        obtain ⟨a, ws, rfl, sq, rx⟩ := seqOf_ok sr r1 e
        exact ⟨a, ws, rfl, sq, (post_lst sr rx h).2⟩
    · exact h.elim
  · exact h.elim
theorem vo_listN : VOL X (fun xs H Q => ∃ p ys, xs = [.ref p] ∧ (SqL X.K H p ys ∨ SqT X.K H p ys) ∧ ∀ l, H l = none → Q (.ref l) (upd H l (.lst ys))) oListN := by
  intro W σ F ι mh H ds vs Q sr r h
  unfold oListN at h
  split at h
  · split at h
    · rename_i e
      cases r with
      | cons r1 r2 =>
        cases r2
        obtain ⟨a, ws, rfl, sq, rx⟩ := seqOf_ok sr r1 e
        exact ⟨a, ws, rfl, sq, (post_new sr rx h).2⟩
    · exact h.elim
  · exact h.elim
def oTupleOf (ds : List D) (mh : List O) : Res D := match ds with
  | [.tup xs] => .ok (.tup xs) mh
  | [d] => match lstOf mh d with
    | some xs => oTup xs mh
    | none => .stuck
  | _ => .stuck
theorem vo_tupleOf : VOL X (fun xs H Q => ∃ p ys, xs = [.ref p] ∧ ((SqL X.K H p ys ∧ ∀ l, H l = none → Q (.ref l) (upd H l (.tup ys))) ∨ (SqT X.K H p ys ∧ Q (.ref p) H))) oTupleOf := by
  intro W σ F ι mh H ds vs Q sr r h
  unfold oTupleOf at h
  split at h
  · cases r with
    | cons r1 r2 =>
      cases r2
      cases r1 with
      | tup hr rr => exact ⟨_, _, rfl, .inr ⟨.inl hr, h.ok sr (.tup hr rr)⟩⟩
  · split at h
    · rename_i e
      cases r with
      | cons r1 r2 =>
        cases r2
        obtain ⟨a, ws, rfl, sq, rx⟩ := lstOf_ok sr r1 e
        exact ⟨a, ws, rfl, .inl ⟨sq, (post_tup sr rx h).2⟩⟩
    · exact h.elim
  · exact h.elim
/-! ### any, all -/
def blsOf : List D → Option (List Bool)
  | [] => some []
  | .bl b :: ds => match blsOf ds with
    | some bs => some (b :: bs)
    | none => none
  | _ => none
theorem blsOf_ok : ∀ {ds : List D} {vs : List V} {bs : List Bool}, DVs X.K X.mg F ι H ds vs → blsOf ds = some bs → vs = bs.map V.bl
  | [], _, bs, r, e => by
    cases e; cases r; rfl
  | .bl b :: ds, _, bs, r, e => by
    unfold blsOf at e
    split at e
    · rename_i hb
      cases e
      cases r with
      | cons r1 r2 =>
        cases r1
        rw [blsOf_ok r2 hb]; rfl
    · cases e
  | .non :: _, _, _, _, e => by cases e
  | .int _ :: _, _, _, _, e => by cases e
  | .str _ :: _, _, _, _, e => by cases e
  | .ty _ :: _, _, _, _, e => by cases e
  | .glb _ :: _, _, _, _, e => by cases e
  | .ref _ :: _, _, _, _, e => by cases e
  | .tup _ :: _, _, _, _, e => by cases e
  | .lst _ :: _, _, _, _, e => by cases e
  | .dic _ _ :: _, _, _, _, e => by cases e
  | .obj _ _ _ :: _, _, _, _, e => by cases e
  | .clo _ _ :: _, _, _, _, e => by cases e
def oAny (ds : List D) (mh : List O) : Res D := match ds with
  | [d] => match (lstOf mh d).bind blsOf with
    | some bs => .ok (.bl (bs.any id)) mh
    | none => .stuck
  | _ => .stuck
def oAll (ds : List D) (mh : List O) : Res D := match ds with
  | [d] => match (lstOf mh d).bind blsOf with
    | some bs => .ok (.bl (bs.all id)) mh
    | none => .stuck
  | _ => .stuck
theorem bls_lst {d : D} {v : V} {bs : List Bool} (sr : SR X.K X.mg F ι mh H) (r : DV X.K X.mg F ι H d v) (e : (lstOf mh d).bind blsOf = some bs) : ∃ a, v = .ref a ∧ SqL X.K H a (bs.map V.bl) := by
  cases q : lstOf mh d with
  | none => rw [q] at e; cases e
  | some ds =>
    rw [q] at e
    obtain ⟨a, vs, e1, e2, e3⟩ := lstOf_ok sr r q
    exact ⟨a, e1, blsOf_ok e3 e ▸ e2⟩
theorem vo_any : VOL X (rAny X.K) oAny := by
  intro W σ F ι mh H ds vs Q sr r h
  unfold oAny at h
  split at h
  · split at h
    · rename_i e
      cases r with
      | cons r1 r2 =>
        cases r2
        obtain ⟨a, rfl, sq⟩ := bls_lst sr r1 e
        exact ⟨a, _, rfl, sq, h.ok sr (.bl _)⟩
    · exact h.elim
  · exact h.elim
theorem vo_all : VOL X (rAll X.K) oAll := by
  intro W σ F ι mh H ds vs Q sr r h
  unfold oAll at h
  split at h
  · split at h
    · rename_i e
      cases r with
      | cons r1 r2 =>
        cases r2
        obtain ⟨a, rfl, sq⟩ := bls_lst sr r1 e
        exact ⟨a, _, rfl, sq, h.ok sr (.bl _)⟩
    · exact h.elim
  · exact h.elim
/-! ### slices of lists -/
abbrev CO := En → List O → Res (Option Int)
abbrev OR : Rel (Option Int) (Option Int) := fun _ _ _ a b => a = b
structure JO (X : Cx) (W : WX) (e : Option Expr) (f : CO) : Prop where
  ex : ∃ t, PO X e t ∧ ∀ (ρ : En) (mh : List O) (F : Addr → Prop) (ι : List Addr) (σ : L2.St) (H : Hp) (Q : Option Int → Hp → Prop), SR X.K X.mg F ι mh H → ER X.K X.mg F ι H ρ σ → Post X.K X.mg OR W σ F ι H (f ρ mh) Q → t σ H Q
def coN : CO := fun _ mh => .ok none mh
def isI (d : D) (mh : List O) : Res (Option Int) := match d with
  | .int i => .ok (some i) mh
  | _ => .stuck
def coS (f : CE) : CO := fun ρ mh => (f ρ mh).bind isI
theorem o_none : JO X W none coN := ⟨_, po_none, fun _ _ _ _ _ _ _ sr _ h => h.ok sr rfl⟩
theorem o_some {e : Expr} {f : CE} (h : JE X W e f) : JO X W (some e) (coS f) := by
  obtain ⟨t, p, q⟩ := h.ex
  refine ⟨_, po_some p, fun ρ mh F ι σ H Q sr er h => ?_⟩
  refine q ρ mh F ι σ H _ sr er (h.bind.mono fun x H1 ⟨F1, ι1, d1, m1, st1, sr1, r1, h1⟩ => ?_)
  unfold isI at h1
  split at h1
  · cases r1
    exact ⟨_, rfl, h1.ok sr1 rfl⟩
  · exact h1.elim
def cutD (xs : List D) (lo hi : Option Int) : List D := (xs.drop (HT.sIx xs.length 0 lo)).take (HT.sIx xs.length xs.length hi - HT.sIx xs.length 0 lo)
def oSlL (d : D) (lo hi : Option Int) (mh : List O) : Res D := match lstOf mh d with
  | some xs => oLst (cutD xs lo hi) mh
  | none => .stuck
def cSl (o : D → Option Int → Option Int → List O → Res D) (f : CE) (l u : CO) : CE := fun ρ mh => (f ρ mh).bind fun x m => (l ρ m).bind fun lo m1 => (u ρ m1).bind fun hi m2 => o x lo hi m2
theorem j_slL {e : Expr} {lo hi : Option Expr} {p2 : Pos} {f : CE} {l u : CO} (he : JE X W e f) (hl : JO X W lo l) (hu : JO X W hi u) : JE X W (.Subscript e (.Slice lo hi none p2) pos) (cSl oSlL f l u) := by
  obtain ⟨te, pe, qe⟩ := he.ex
  obtain ⟨tl, pl, ql⟩ := hl.ex
  obtain ⟨tu, pu, qu⟩ := hu.ex
  refine ⟨_, pe_slice sl_list pe pl pu, fun ρ mh F ι σ H Q sr er h => ?_⟩
  refine qe ρ mh F ι σ H _ sr er (h.bind.mono fun x H1 ⟨F1, ι1, d1, m1, st1, sr1, r1, h1⟩ => ?_)
  refine ql ρ m1 F1 ι1 σ H1 _ sr1 (er.to sr.sub st1) (h1.bind.mono fun lo' H2 ⟨F2, ι2, d2, m2, st2, sr2, r2, h2⟩ => ?_)
  refine qu ρ m2 F2 ι2 σ H2 _ sr2 (er.to sr.sub (st1.trans st2)) (h2.bind.mono fun hi' H3 ⟨F3, ι3, d3, m3, st3, sr3, r3, h3⟩ => ?_)
  have e2 : d2 = lo' := r2
  have e3 : d3 = hi' := r3
  subst e2 e3
  unfold oSlL at h3
  split at h3
  · rename_i xs ex
    obtain ⟨a, vs, rfl, sq, rx⟩ := lstOf_ok sr3 (DV.to sr1.sub (st2.trans st3) _ _ r1) ex
    refine ⟨a, vs, rfl, sq, (post_lst sr3 (vs := cutV vs d2 d3) ?_ h3).2⟩
    unfold cutD cutV
    rw [rx.length]
    exact (rx.drop _).take _
  · exact h3.elim
/-! ### enumerate -/
def enumL (ds : List D) : List D := ds.zipIdx.map fun p => .tup [.int (p.2 : Nat), p.1]
theorem enumL_get {ds : List D} {i : Nat} : (enumL ds)[i]? = (ds[i]?).map fun d => .tup [.int (i : Nat), d] := by
  unfold enumL
  rw [List.getElem?_map, List.getElem?_zipIdx]
  cases ds[i]? <;> simp
@[simp] theorem enumL_length {ds : List D} : (enumL ds).length = ds.length := by
  unfold enumL; simp
def oEn (ds : List D) (mh : List O) : Res Its := match ds with
  | [.lst xs] => .ok (enumL xs, none) mh
  | [d] => match liveL mh d with
    | some (n, xs) => .ok (enumL xs, some (n, xs)) mh
    | none => .stuck
  | _ => .stuck
def iEn (f : CA) : CI := fun ρ mh => (f ρ mh).bind oEn
theorem ri_en {ds : List D} {vs : List V} {F' : Addr → Prop} {ι' : List Addr} {H' : Hp} {a : Addr} {mh' : List O} (sr' : SR X.K X.mg F' ι' mh' H') (sq : SqL X.K H' a vs) (r : DVs X.K X.mg F' ι' H' ds vs) (i : Nat) :
    (∀ d, (enumL ds)[i]? = some d → (Ite X.K a).go i H' ∧ ∀ x H'', (Ite X.K a).yld i H' x H'' → (∀ a o, H' a = some o → H'' a = some o) ∧ DV X.K X.mg F' ι' H'' d x) ∧ ((enumL ds).length ≤ i → (Ite X.K a).stop i H') := by
  refine ⟨fun d hd => ?_, fun hi => ⟨vs, sq, by rw [← r.length]; simpa using hi⟩⟩
  rw [enumL_get] at hd
  cases q : ds[i]? with
  | none => rw [q] at hd; cases hd
  | some d0 =>
    rw [q] at hd
    cases hd
    obtain ⟨v, hv, rv⟩ := r.get q
    refine ⟨⟨vs, v, sq, hv⟩, fun x H'' y => ?_⟩
    obtain ⟨T, x', rfl, hT, rfl, y⟩ := y
    have e := y vs sq
    rw [hv] at e; cases e
    have st : Step F' ι' H' F' ι' (upd H' T (.tup [.int (i : Nat), v])) := step_new hT
    exact ⟨fun b o z => by rw [upd_ne (ne_of_none z hT)]; exact z, .tup (.inl upd_same) (.cons (.int _) (.cons (DV.to sr'.sub st _ _ rv) .nil))⟩
theorem i_enum {e : Expr} {f : CA} {p tpos : Pos} {elts : List Expr} {kk : Nat} (hm : X.mg "enumerate" = none) (h : JA X W [e] f) (hg : Gl X "enumerate" := by rfl) (hs : starEach [e] X.env = [(false, eval e X.env)] := by rfl) :
    JI X W (.Tuple elts kk tpos) (.Call (.Name "enumerate" p) [e] [] pos) (iEn f) := by
  obtain ⟨t, pa, q⟩ := h.ex
  refine ⟨_, pi_enum hg hm pa hs, fun ρ mh F ι σ H R sr er h => ?_⟩
  refine q ρ mh F ι σ H _ sr er (h.bind.mono fun vs H1 ⟨F1, ι1, ds, m1, st1, sr1, r1, h1⟩ => ?_)
  unfold oEn at h1
  split at h1
  · cases r1 with
    | cons r1 r2 =>
      cases r2
      cases r1 with
      | lst hq r =>
        refine ⟨_, _, rfl, SqL_of hq, h1 F1 ι1 H1 _ Step.refl sr1 fun F' ι' H' mh' s x gd i => ?_⟩
        exact ri_en x (SqL_of (hq.to sr1.sub s)) (DVs.to sr1.sub s _ _ r) i
  · split at h1
    · rename_i n xs el
      cases r1 with
      | cons r1 r2 =>
        cases r2
        obtain ⟨a, ws, rfl, ea, hH, rx⟩ := liveL_ok sr1 r1 el
        refine ⟨_, _, rfl, .inl (.inl hH), h1 F1 ι1 H1 _ Step.refl sr1 fun F' ι' H' mh' s x gd i => ?_⟩
        have e' : ι'[n]? = some a := by
          obtain ⟨t, q⟩ := s.pre
          rw [← q, List.getElem?_append_left (List.getElem?_eq_some_iff.mp ea).1]; exact ea
        have gd' : mh'[n]? = some (.lst xs) := gd
        cases x.ob _ _ _ gd' e' with
        | lst hh' r' => exact ri_en x (.inl (.inl hh')) r' i
    · exact h1.elim
  · exact h1.elim
end
end G

/-! Part L: list(range(..)), max and min of a list, sum, in. -/
namespace G
open PySem PySem.Spec PyProof.Rows L2

def oLw (w : Bool) (ds : List D) (mh : List O) : Res D := if w = true then oNew ds mh else oLst ds mh
theorem rgV_dvs {K : PySem.W.Frag} {mg : Str → Option Value} {F : Addr → Prop} {ι : List Addr} {H : Hp} (a b : Int) : DVs K mg F ι H (rngL a (b - a).toNat) (rgV a b) := by
  unfold rngL rgV
  generalize List.range (b - a).toNat = l
  induction l with
  | nil => exact .nil
  | cons x l ih => exact .cons (.int _) ih
section
variable {X : Cx} {W : WX} {k : Nat} {pos : Pos} {F : Addr → Prop} {ι : List Addr} {mh : List O} {σ : L2.St} {H : Hp}
theorem post_lw {w : Bool} {ds : List D} {vs : List V} {Q : VK} (sr : SR X.K X.mg F ι mh H) (r : DVs X.K X.mg F ι H ds vs) (h : Post X.K X.mg (DR X) W σ F ι H (oLw w ds mh) Q) : vs.length ≤ sizeLine ∧ ∀ p, H p = none → Q (.ref p) (upd H p (.lst vs)) := by
  cases w with
  | true => exact post_new sr r h
  | false => exact post_lst sr r h
def oLR1 (w : Bool) (d : D) (mh : List O) : Res D := match d with
  | .int j => if -(2 ^ 62) ≤ j ∧ j ≤ 2 ^ 24 then oLw w (rngL 0 (j - 0).toNat) mh else .stuck
  | _ => .stuck
def oLR2 (w : Bool) (d e : D) (mh : List O) : Res D := match d, e with
  | .int i, .int j => if -(2 ^ 62) ≤ i ∧ i < 2 ^ 62 ∧ -(2 ^ 62) ≤ j ∧ j < 2 ^ 62 ∧ (j - i).toNat ≤ 2 ^ 24 then oLw w (rngL i (j - i).toNat) mh else .stuck
  | _, _ => .stuck
theorem j_listR1 (c : Cc k X W) {w : Bool} {a : Expr} {f : CE} {p p' pos' : Pos} (hm : X.mg "list" = none) (hm' : X.mg "range" = none) (ha : JE X W a f) (hg : Gl X "list" := by rfl) (hg' : Gl X "range" := by rfl) (na : starEach [a] X.env = (false, eval a X.env) :: starEach [] X.env := by rfl)
    (na' : starEach [.Call (.Name "range" p') [a] [] pos'] X.env = (false, eval (.Call (.Name "range" p') [a] [] pos') X.env) :: starEach [] X.env := by rfl) :
    JE X W (.Call (.Name "list" p) [.Call (.Name "range" p') [a] [] pos'] [] pos) (c1 (oLR1 w) f) := by
  obtain ⟨t, pa, q⟩ := ha.ex
  refine ⟨_, pe_listRg c.calm hg hm (prg_1 hg' hm' pa na) na', fun ρ mh F ι σ H Q sr er h => ?_⟩
  refine q ρ mh F ι σ H _ sr er (h.bind.mono fun x H1 ⟨F1, ι1, d1, m1, st1, sr1, r1, h1⟩ => ?_)
  unfold oLR1 at h1
  split at h1
  · split at h1
    · rename_i j hb
      cases r1
      exact ⟨j, rfl, ⟨by omega, by omega, by omega, by omega, by omega⟩, (post_lw sr1 (rgV_dvs 0 j) h1).2⟩
    · exact h1.elim
  · exact h1.elim
theorem j_listR2 (c : Cc k X W) {w : Bool} {a b : Expr} {fa fb : CE} {p p' pos' : Pos} (hm : X.mg "list" = none) (hm' : X.mg "range" = none) (ha : JE X W a fa) (hb : JE X W b fb) (hg : Gl X "list" := by rfl) (hg' : Gl X "range" := by rfl)
    (na : starEach [a, b] X.env = (false, eval a X.env) :: starEach [b] X.env := by rfl) (nb : starEach [b] X.env = (false, eval b X.env) :: starEach [] X.env := by rfl) (hp : (backTo pos' (starEach [b] X.env)).any (·.1) = false := by rfl)
    (na' : starEach [.Call (.Name "range" p') [a, b] [] pos'] X.env = (false, eval (.Call (.Name "range" p') [a, b] [] pos') X.env) :: starEach [] X.env := by rfl) :
    JE X W (.Call (.Name "list" p) [.Call (.Name "range" p') [a, b] [] pos'] [] pos) (c2 (oLR2 w) fa fb) := by
  obtain ⟨ta, pa, qa⟩ := ha.ex
  obtain ⟨tb, pb, qb⟩ := hb.ex
  refine ⟨_, pe_listRg c.calm hg hm (prg_2 hg' hm' pa pb na nb hp) na', fun ρ mh F ι σ H Q sr er h => ?_⟩
  refine qa ρ mh F ι σ H _ sr er (h.bind.mono fun x H1 ⟨F1, ι1, d1, m1, st1, sr1, r1, h1⟩ => ?_)
  refine qb ρ m1 F1 ι1 σ H1 _ sr1 (er.to sr.sub st1) (h1.bind.mono fun y H2 ⟨F2, ι2, d2, m2, st2, sr2, r2, h2⟩ => ?_)
  have r1' := DV.to sr1.sub st2 _ _ r1
  clear r1 h1
  unfold oLR2 at h2
  split at h2
  · split at h2
    · rename_i hb
      cases r1'
      cases r2
      exact ⟨_, _, rfl, rfl, hb, (post_lw sr2 (rgV_dvs _ _) h2).2⟩
    · exact h2.elim
  · exact h2.elim
/-! max, min, sum -/
def maxI : List Int → Int
  | [] => 0
  | [x] => x
  | x :: xs => if maxI xs < x then x else maxI xs
def minI : List Int → Int
  | [] => 0
  | [x] => x
  | x :: xs => if x < minI xs then x else minI xs
theorem maxI_mem : ∀ {l : List Int}, 0 < l.length → maxI l ∈ l
  | [], h => absurd h (Nat.lt_irrefl _)
  | [x], _ => List.mem_singleton.mpr rfl
  | x :: y :: l, _ => by
    have ih := maxI_mem (l := y :: l) (Nat.succ_pos _)
    show (if maxI (y :: l) < x then x else maxI (y :: l)) ∈ x :: y :: l
    split
    · exact List.mem_cons_self
    · exact List.mem_cons_of_mem _ ih
theorem maxI_le : ∀ {l : List Int}, ∀ y ∈ l, y ≤ maxI l
  | [], _, h => by cases h
  | [x], y, h => by rw [List.mem_singleton.mp h]; exact Int.le_refl _
  | x :: z :: l, y, h => by
    have ih := maxI_le (l := z :: l)
    show y ≤ if maxI (z :: l) < x then x else maxI (z :: l)
    rcases List.mem_cons.mp h with e | h
    · subst e; split <;> omega
    · have := ih y h; split <;> omega
theorem minI_mem : ∀ {l : List Int}, 0 < l.length → minI l ∈ l
  | [], h => absurd h (Nat.lt_irrefl _)
  | [x], _ => List.mem_singleton.mpr rfl
  | x :: y :: l, _ => by
    have ih := minI_mem (l := y :: l) (Nat.succ_pos _)
    show (if x < minI (y :: l) then x else minI (y :: l)) ∈ x :: y :: l
    split
    · exact List.mem_cons_self
    · exact List.mem_cons_of_mem _ ih
theorem minI_le : ∀ {l : List Int}, ∀ y ∈ l, minI l ≤ y
  | [], _, h => by cases h
  | [x], y, h => by rw [List.mem_singleton.mp h]; exact Int.le_refl _
  | x :: z :: l, y, h => by
    have ih := minI_le (l := z :: l)
    show (if x < minI (z :: l) then x else minI (z :: l)) ≤ y
    rcases List.mem_cons.mp h with e | h
    · subst e; split <;> omega
    · have := ih y h; split <;> omega
def intsL (mh : List O) (d : D) : Option (List Int) := (lstOf mh d).bind intsOf
theorem intsL_ok {d : D} {v : V} {ns : List Int} (sr : SR X.K X.mg F ι mh H) (r : DV X.K X.mg F ι H d v) (e : intsL mh d = some ns) : ∃ a, v = .ref a ∧ SqL X.K H a (ns.map V.int) := by
  unfold intsL at e
  cases q : lstOf mh d with
  | none => rw [q] at e; cases e
  | some ds =>
    rw [q] at e
    obtain ⟨a, vs, e1, e2, e3⟩ := lstOf_ok sr r q
    exact ⟨a, e1, (intsOf_ok e3 e).1 ▸ e2⟩
def oMaxL (ds : List D) (mh : List O) : Res D := match ds with
  | [d] => match intsL mh d with
    | some ns => if 0 < ns.length then .ok (.int (maxI ns)) mh else .stuck
    | none => .stuck
  | _ => .stuck
def oMinL (ds : List D) (mh : List O) : Res D := match ds with
  | [d] => match intsL mh d with
    | some ns => if 0 < ns.length then .ok (.int (minI ns)) mh else .stuck
    | none => .stuck
  | _ => .stuck
def oSumL (ds : List D) (mh : List O) : Res D := match ds with
  | [d] => match intsL mh d with
    | some ns => .ok (.int ns.sum) mh
    | none => .stuck
  | _ => .stuck
theorem vo_maxL : VOL X (rMax X.K) oMaxL := by
  intro W σ F ι mh H ds vs Q sr r h
  unfold oMaxL at h
  split at h
  · split at h
    · rename_i ns e
      split at h
      · rename_i hp
        cases r with
        | cons r1 r2 =>
          cases r2
          obtain ⟨a, rfl, sq⟩ := intsL_ok sr r1 e
          refine ⟨a, ns, rfl, sq, hp, fun m hm hle => ?_⟩
          have e1 : m = maxI ns := Int.le_antisymm (maxI_le m hm) (hle _ (maxI_mem hp))
          rw [e1]
          exact h.ok sr (.int _)
      · exact h.elim
    · exact h.elim
  · exact h.elim
theorem vo_minL : VOL X (rMin X.K) oMinL := by
  intro W σ F ι mh H ds vs Q sr r h
  unfold oMinL at h
  split at h
  · split at h
    · rename_i ns e
      split at h
      · rename_i hp
        cases r with
        | cons r1 r2 =>
          cases r2
          obtain ⟨a, rfl, sq⟩ := intsL_ok sr r1 e
          refine ⟨a, ns, rfl, sq, hp, fun m hm hle => ?_⟩
          have e1 : m = minI ns := Int.le_antisymm (hle _ (minI_mem hp)) (minI_le m hm)
          rw [e1]
          exact h.ok sr (.int _)
      · exact h.elim
    · exact h.elim
  · exact h.elim
theorem vo_sumL : VOL X (rSum X.K) oSumL := by
  intro W σ F ι mh H ds vs Q sr r h
  unfold oSumL at h
  split at h
  · split at h
    · rename_i ns e
      cases r with
      | cons r1 r2 =>
        cases r2
        obtain ⟨a, rfl, sq⟩ := intsL_ok sr r1 e
        exact ⟨a, ns, rfl, sq, h.ok sr (.int _)⟩
    · exact h.elim
  · exact h.elim
/-! in -/
def flatD : D → Option V
  | .non => some .non
  | .bl b => some (.bl b)
  | .int i => some (.int i)
  | .str x => some (.str x)
  | _ => none
theorem flatD_ok {d : D} {v u : V} (r : DV X.K X.mg F ι H d v) (e : flatD d = some u) : v = u ∧ flatV u = true := by
  cases r <;> cases e <;> exact ⟨rfl, rfl⟩
def flatsD : List D → Option (List V)
  | [] => some []
  | d :: ds => match flatD d, flatsD ds with
    | some v, some vs => some (v :: vs)
    | _, _ => none
theorem flatsD_ok : ∀ {ds : List D} {vs us : List V}, DVs X.K X.mg F ι H ds vs → flatsD ds = some us → vs = us ∧ us.all flatV = true
  | [], _, _, r, e => by cases r; cases e; exact ⟨rfl, rfl⟩
  | d :: ds, _, _, r, e => by
    cases r with
    | cons r1 r2 =>
      unfold flatsD at e
      split at e
      · rename_i e1 e2
        cases e
        obtain ⟨rfl, f1⟩ := flatD_ok r1 e1
        obtain ⟨rfl, f2⟩ := flatsD_ok r2 e2
        exact ⟨rfl, by rw [List.all_cons, f1, f2]; rfl⟩
      · cases e
def oInB (neg : Bool) (d e : D) (mh : List O) : Res D := match flatD d, (seqOf mh e).bind flatsD with
  | some x, some xs => .ok (.bl (if neg then !inV x xs else inV x xs)) mh
  | _, _ => .stuck
theorem vo_in (neg : Bool) : VO2 X (rIn X.K neg) (oInB neg) := by
  intro W σ F ι mh H d e v u Q sr r1 r2 h
  unfold oInB at h
  split at h
  · rename_i x xs e1 e2
    obtain ⟨rfl, f1⟩ := flatD_ok r1 e1
    cases q : seqOf mh e with
    | none => rw [q] at e2; cases e2
    | some ds =>
      rw [q] at e2
      obtain ⟨a, ws, rfl, sq, rx⟩ := seqOf_ok sr r2 q
      obtain ⟨rfl, f2⟩ := flatsD_ok rx e2
      exact ⟨a, _, rfl, sq, f1, f2, h.ok sr (.bl _)⟩
  · exact h.elim
/-! AugAssign x += .. of ints -/
end
end G

/-! Part M: plain lemmas to reckon with the heap, comprehensions, loops that end early, equality. -/
namespace G
open PySem L2

section
variable {mh : List O} {ds es : List D} {d e : D} {i : Int} {n m : Nat}
/-! ### live lists -/
theorem lstOf_ref : lstOf mh (.ref n) = match mh[n]? with
    | some (.lst ds) => some ds
    | _ => none := rfl
theorem liveL_ref : liveL mh (.ref n) = match mh[n]? with
    | some (.lst ds) => some (n, ds)
    | _ => none := rfl
theorem lstOf_at (h : mh[n]? = some (.lst ds)) : lstOf mh (.ref n) = some ds := by rw [lstOf_ref, h]
theorem liveL_at (h : mh[n]? = some (.lst ds)) : liveL mh (.ref n) = some (n, ds) := by rw [liveL_ref, h]
@[simp] theorem lstOf_lst : lstOf mh (.lst ds) = some ds := rfl
theorem oIx_ref (x : D) (h : mh[n]? = some (.lst ds)) (hx : atI ds i = some x) : oIx (.ref n) (.int i) mh = .ok x mh := by
  show (match lstOf mh (.ref n) with | some xs => (match atI xs i with | some x => Res.ok x mh | none => .stuck) | none => .stuck) = _
  rw [lstOf_at h]
  show (match atI ds i with | some x => Res.ok x mh | none => .stuck) = _
  rw [hx]
theorem oLen_ref (h : mh[n]? = some (.lst ds)) : oLen [.ref n] mh = .ok (.int ds.length) mh := by
  show (match lstOf mh (.ref n) with | some xs => Res.ok (D.int xs.length) mh | none => .stuck) = _
  rw [lstOf_at h]
theorem oIts_ref (h : mh[n]? = some (.lst ds)) : oIts (.ref n) mh = .ok (ds, some (n, ds)) mh := by
  show (match mh[n]? with | some (.lst ds) => Res.ok (ds, some (n, ds)) mh | _ => .stuck) = _
  rw [h]
theorem oAdd_of {xs ys : List D} (hd : ∀ z, d ≠ .int z) (hs : ∀ z, d ≠ .str z) (ht : ∀ z, d ≠ .tup z) (h1 : lstOf mh d = some xs) (h2 : lstOf mh e = some ys) (h : xs.length + ys.length ≤ 100000) : oAdd d e mh = .ok (.lst (xs ++ ys)) mh := by
  unfold oAdd
  split
  · exact absurd rfl (hd _)
  · exact absurd rfl (hs _)
  · exact absurd rfl (ht _)
  · rw [h1, h2]; exact if_pos (sl_1000 h)
theorem oAdd_rl (h : mh[n]? = some (.lst ds)) (hl : ds.length + es.length ≤ 100000) : oAdd (.ref n) (.lst es) mh = .ok (.lst (ds ++ es)) mh :=
  oAdd_of (fun _ z => nomatch z) (fun _ z => nomatch z) (fun _ z => nomatch z) (lstOf_at h) rfl hl
theorem gIx_at {f g : CE} {ρ : En} {m1 m2 : List O} {k : Nat} (hf : f ρ mh = .ok (.ref n) m1) (hg : g ρ m1 = .ok (.int i) m2) (h : m2[n]? = some (.lst ds)) (hk : ixN ds.length i = some k) : gIx f g d ρ mh = .nx ρ (m2.set n (.lst (ds.set k d))) := by
  unfold gIx
  rw [hf]
  show (match g ρ m1 with | .ok i m' => (match oSetL (.ref n) i d m' with | some m2 => Out.nx ρ m2 | none => .stuck) | _ => .stuck) = _
  rw [hg]
  show (match oSetL (.ref n) (.int i) d m2 with | some m2 => Out.nx ρ m2 | none => .stuck) = _
  unfold oSetL
  rw [liveL_at h]
  show (match (match ixN ds.length i with | some j => some (m2.set n (.lst (ds.set j d))) | none => none) with | some m2 => Out.nx ρ m2 | none => .stuck) = _
  rw [hk]
theorem cM_at {o : D → List D → List O → Res D} {f : CE} {g : CA} {ρ : En} {m1 : List O} (hf : f ρ mh = .ok (.ref n) m1) (h : m1[n]? = some (.lst ds)) : cM o f g ρ mh = (g ρ m1).bind fun xs m' => o (.ref n) xs m' := by
  unfold cM
  rw [hf]
  show (if (lstOf m1 (.ref n)).isSome = true then _ else _) = _
  rw [lstOf_at h]
  rfl
theorem oAppend_at (h : mh[n]? = some (.lst ds)) (hl : ds.length ≤ 10000) : oAppend (.ref n) [d] mh = .ok .non (mh.set n (.lst (ds ++ [d]))) := by
  unfold oAppend
  rw [liveL_at h]
  exact if_pos (Nat.lt_of_lt_of_le (Nat.lt_succ_of_le hl) (sl_1000 (by omega)))
theorem oReverse_at (h : mh[n]? = some (.lst ds)) : oReverse (.ref n) [] mh = .ok .non (mh.set n (.lst ds.reverse)) := by
  unfold oReverse
  rw [liveL_at h]
theorem oPopAt_at (h : mh[n]? = some (.lst ds)) (h0 : 0 ≤ i) (h1 : i < 2 ^ 63) (hx : ds[i.toNat]? = some d) : oPopAt (.ref n) [.int i] mh = .ok d (mh.set n (.lst (ds.eraseIdx i.toNat))) := by
  unfold oPopAt
  rw [liveL_at h]
  show (if 0 ≤ i ∧ i < 2 ^ 63 then _ else _) = _
  rw [if_pos ⟨h0, h1⟩, hx]
theorem oInsert_at (h : mh[n]? = some (.lst ds)) (hl : ds.length ≤ 10000) (h0 : 0 ≤ i) (h1 : i < 2 ^ 63) : oInsert (.ref n) [.int i, d] mh = .ok .non (mh.set n (.lst (ds.take i.toNat ++ [d] ++ ds.drop i.toNat))) := by
  unfold oInsert
  rw [liveL_at h]
  exact if_pos ⟨Nat.lt_of_lt_of_le (Nat.lt_succ_of_le hl) (sl_1000 (by omega)), h0, h1⟩
theorem ar_at {f : Fn} (h : ds.length = n) : ar n f ds mh = f ds mh := by rw [ar_eq, if_pos h]
theorem ar_n {f : Fn} {r : Res D} (h : f ds mh = r) (hl : ds.length = n := by rfl) : ar n f ds mh = r := by rw [ar_eq, if_pos hl, h]
theorem call_bl {f : Fn} {b : Bool} {m' : List O} (h : f ds [] = .ok (.bl b) m') (hr : noRefs ds = true) (hl : ds.length = n := by rfl) : ar n (oP f) ds mh = .ok (.bl b) mh := by
  rw [ar_eq, if_pos hl]
  unfold oP
  rw [if_pos hr, h]
  cases m' <;> rfl
theorem fzl_self {f : D → Option D} : ∀ xs : List D, (∀ x ∈ xs, f x = some x) → fzl f xs = some xs
  | [], _ => rfl
  | x :: xs, h => by
    unfold fzl
    rw [h x List.mem_cons_self, fzl_self xs fun y hy => h y (List.mem_cons_of_mem _ hy)]
/-- a call whose list is taken as a value -/
theorem call_fz {f : Fn} {xs : List D} {m' : List O} {j : Nat} (h : f ds [] = .ok (.ref j) m') (hj : m'[j]? = some (.lst xs)) (hx : ∀ x ∈ xs, fz m' 11 x = some x) (hr : noRefs ds = true) (hl : ds.length = n := by rfl) : ar n (oP f) ds mh = .ok (.lst xs) mh := by
  rw [ar_eq, if_pos hl]
  unfold oP
  rw [if_pos hr, h]
  have e : oFz m' (.ref j) = some (.lst xs) := by
    cases m' with
    | nil => simp at hj
    | cons o m =>
      show (match (o :: m)[j]? with
        | some (.lst ds) => (fzl (fz (o :: m) 11) ds).map D.lst
        | some (.dic ks ds) => (fzl (fz (o :: m) 11) ds).map (D.dic ks)
        | some (.ins x ns ds) => (fzl (fz (o :: m) 11) ds).map (D.obj x ns)
        | _ => none) = _
      rw [hj]
      show (fzl (fz (o :: m) 11) xs).map D.lst = _
      rw [fzl_self xs hx]; rfl
  show (match oFz m' (.ref j) with | some d' => Res.ok d' mh | none => .stuck) = _
  rw [e]
/-! ### list(range(..)), copies -/
theorem oLR1_v {j : Int} (h : 0 ≤ j) (h2 : j ≤ 100000) : oLR1 false (.int j) mh = .ok (.lst (rngL 0 j.toNat)) mh := by
  show (if -(2 ^ 62) ≤ j ∧ j ≤ 2 ^ 24 then _ else _) = _
  rw [if_pos (by omega), Int.sub_zero]
  exact oLst_s (by unfold rngL; simp; omega)
theorem oLR1_w {j : Int} (h : 0 ≤ j) (h2 : j ≤ 100000) : oLR1 true (.int j) mh = .ok (.ref mh.length) (mh ++ [.lst (rngL 0 j.toNat)]) := by
  show (if -(2 ^ 62) ≤ j ∧ j ≤ 2 ^ 24 then _ else _) = _
  rw [if_pos (by omega), Int.sub_zero]
  exact oNew_s (by unfold rngL; simp; omega)
theorem oLR2_v {j : Int} (h : -(2 ^ 62) ≤ i) (h1 : j < 2 ^ 62) (h2 : j - i ≤ 100000) (h3 : i < 2 ^ 62) (h4 : -(2 ^ 62) ≤ j) : oLR2 false (.int i) (.int j) mh = .ok (.lst (rngL i (j - i).toNat)) mh := by
  show (if -(2 ^ 62) ≤ i ∧ i < 2 ^ 62 ∧ -(2 ^ 62) ≤ j ∧ j < 2 ^ 62 ∧ (j - i).toNat ≤ 2 ^ 24 then _ else _) = _
  rw [if_pos (by omega)]
  exact oLst_s (by unfold rngL; simp; omega)
theorem oListOf_v (h : seqOf mh d = some ds) (hl : ds.length ≤ 100000) : oListOf [d] mh = .ok (.lst ds) mh := by
  show (match seqOf mh d with | some xs => oLst xs mh | none => .stuck) = _
  rw [h]; exact oLst_s hl
theorem seqOf_ref (h : mh[n]? = some (.lst ds)) : seqOf mh (.ref n) = some ds := lstOf_at h
@[simp] theorem seqOf_lst : seqOf mh (.lst ds) = some ds := rfl
@[simp] theorem seqOf_tup : seqOf mh (.tup ds) = some ds := rfl
theorem oMaxL_ints {ns : List Int} (hd : lstOf mh d = some (ns.map D.int)) (h : 0 < ns.length) : oMaxL [d] mh = .ok (.int (maxI ns)) mh := by
  have e : intsL mh d = some ns := by unfold intsL; rw [hd]; exact intsOf_map ns
  show (match intsL mh d with | some ns => if 0 < ns.length then Res.ok (D.int (maxI ns)) mh else .stuck | none => .stuck) = _
  rw [e]; exact if_pos h
theorem oAny_bls {bs : List Bool} (hd : lstOf mh d = some (bs.map D.bl)) : oAny [d] mh = .ok (.bl (bs.any id)) mh := by
  have hb : ∀ bs : List Bool, blsOf (bs.map D.bl) = some bs := by
    intro bs
    induction bs with
    | nil => rfl
    | cons b bs ih => show (match blsOf (bs.map D.bl) with | some bs => some (b :: bs) | none => none) = _; rw [ih]
  have e : (lstOf mh d).bind blsOf = some bs := by rw [hd]; exact hb bs
  show (match (lstOf mh d).bind blsOf with | some bs => Res.ok (D.bl (bs.any id)) mh | none => .stuck) = _
  rw [e]
theorem oAll_bls {bs : List Bool} (hd : lstOf mh d = some (bs.map D.bl)) : oAll [d] mh = .ok (.bl (bs.all id)) mh := by
  have hb : ∀ bs : List Bool, blsOf (bs.map D.bl) = some bs := by
    intro bs
    induction bs with
    | nil => rfl
    | cons b bs ih => show (match blsOf (bs.map D.bl) with | some bs => some (b :: bs) | none => none) = _; rw [ih]
  have e : (lstOf mh d).bind blsOf = some bs := by rw [hd]; exact hb bs
  show (match (lstOf mh d).bind blsOf with | some bs => Res.ok (D.bl (bs.all id)) mh | none => .stuck) = _
  rw [e]
/-! ### loops that may end early; comprehensions -/
theorem forL_any {g : Its} {tg : CG} {b : CS} {p : D → Bool} {r : D} (I : En → Prop) (hg : guard g mh) : ∀ (ds : List D) (ρ : En), I ρ → (∀ x ∈ ds, ∀ ρ, I ρ → if p x = true then (tg x ρ mh).seq b = .rt r mh else ∃ ρ', (tg x ρ mh).seq b = .nx ρ' mh ∧ I ρ') →
    (ds.any p = true → forL g tg b ds ρ mh = .rt r mh) ∧ (ds.any p = false → ∃ ρ', forL g tg b ds ρ mh = .nx ρ' mh ∧ I ρ')
  | [], ρ, h0, _ => ⟨fun z => by simp at z, fun _ => ⟨ρ, by unfold forL; rw [if_pos hg], h0⟩⟩
  | x :: ds, ρ, h0, hs => by
    have h1 := hs x List.mem_cons_self ρ h0
    by_cases hp : p x = true
    · rw [if_pos hp] at h1
      refine ⟨fun _ => ?_, fun z => ?_⟩
      · unfold forL; rw [if_pos hg, h1]
      · rw [List.any_cons, hp] at z; cases z
    · rw [if_neg hp] at h1
      obtain ⟨ρ1, e1, i1⟩ := h1
      obtain ⟨a1, a2⟩ := forL_any I hg ds ρ1 i1 (fun x hx => hs x (List.mem_cons_of_mem _ hx))
      have hp' : p x = false := by simpa using hp
      refine ⟨fun z => ?_, fun z => ?_⟩
      · rw [List.any_cons, hp', Bool.false_or] at z
        unfold forL; rw [if_pos hg, e1]; exact a1 z
      · rw [List.any_cons, hp', Bool.false_or] at z
        obtain ⟨ρ2, e2, i2⟩ := a2 z
        exact ⟨ρ2, by unfold forL; rw [if_pos hg, e1]; exact e2, i2⟩
theorem lcL_pure {g : Its} {tg : CG} {t : CT} {f : CE} {ρ : En} {p : D → Bool} {e : D → D} (hg : guard g mh) : ∀ ds : List D, (∀ x ∈ ds, ∃ ρ', tg x ρ mh = .nx ρ' mh ∧ t ρ' mh = .ok (p x) mh ∧ (p x = true → f ρ' mh = .ok (e x) mh)) → lcL g tg t f ρ ds mh = .ok ((ds.filter p).map e) mh
  | [], _ => by unfold lcL; rw [if_pos hg]; rfl
  | x :: ds, h => by
    obtain ⟨ρ', h1, h2, h3⟩ := h x List.mem_cons_self
    have ih := lcL_pure hg ds fun x hx => h x (List.mem_cons_of_mem _ hx)
    unfold lcL
    rw [if_pos hg, h1]
    show (t ρ' mh).ne.bind _ = _
    rw [h2]
    show (if p x = true then _ else _) = _
    by_cases hp : p x = true
    · rw [if_pos hp, h3 hp, List.filter_cons_of_pos hp]
      show (lcL g tg t f ρ ds mh).bind _ = _
      rw [ih]; rfl
    · rw [if_neg hp, List.filter_cons_of_neg hp]
      exact ih
theorem lcL_map {α : Type} {h : α → D} {g : Its} {tg : CG} {t : CT} {f : CE} {ρ : En} {p : α → Bool} {e : α → D} (hg : guard g mh) : ∀ xs : List α, (∀ x ∈ xs, ∃ ρ', tg (h x) ρ mh = .nx ρ' mh ∧ t ρ' mh = .ok (p x) mh ∧ (p x = true → f ρ' mh = .ok (e x) mh)) → lcL g tg t f ρ (xs.map h) mh = .ok ((xs.filter p).map e) mh
  | [], _ => by unfold lcL; exact if_pos hg
  | x :: xs, hh => by
    obtain ⟨ρ', h1, h2, h3⟩ := hh x List.mem_cons_self
    have ih := lcL_map hg xs fun x hx => hh x (List.mem_cons_of_mem _ hx)
    rw [List.map_cons]
    unfold lcL
    rw [if_pos hg, h1]
    show (t ρ' mh).ne.bind _ = _
    rw [h2]
    show (if p x = true then _ else _) = _
    by_cases hp : p x = true
    · rw [if_pos hp, h3 hp, List.filter_cons_of_pos hp]
      show (lcL g tg t f ρ (xs.map h) mh).bind _ = _
      rw [ih]; rfl
    · rw [if_neg hp, List.filter_cons_of_neg hp]
      exact ih
theorem forL_anyM {α : Type} {h : α → D} {g : Its} {tg : CG} {b : CS} {p : α → Bool} {r : D} (I : En → Prop) (hg : guard g mh) : ∀ (xs : List α) (ρ : En), I ρ → (∀ x ∈ xs, ∀ ρ, I ρ → if p x = true then (tg (h x) ρ mh).seq b = .rt r mh else ∃ ρ', (tg (h x) ρ mh).seq b = .nx ρ' mh ∧ I ρ') →
    (xs.any p = true → forL g tg b (xs.map h) ρ mh = .rt r mh) ∧ (xs.any p = false → ∃ ρ', forL g tg b (xs.map h) ρ mh = .nx ρ' mh ∧ I ρ')
  | [], ρ, h0, _ => ⟨fun z => by simp at z, fun _ => ⟨ρ, by unfold forL; exact if_pos hg, h0⟩⟩
  | x :: xs, ρ, h0, hs => by
    have h1 := hs x List.mem_cons_self ρ h0
    rw [List.map_cons]
    by_cases hp : p x = true
    · rw [if_pos hp] at h1
      refine ⟨fun _ => ?_, fun z => ?_⟩
      · unfold forL; rw [if_pos hg, h1]
      · rw [List.any_cons, hp] at z; cases z
    · rw [if_neg hp] at h1
      obtain ⟨ρ1, e1, i1⟩ := h1
      obtain ⟨a1, a2⟩ := forL_anyM I hg xs ρ1 i1 (fun x hx => hs x (List.mem_cons_of_mem _ hx))
      have hp' : p x = false := by simpa using hp
      refine ⟨fun z => ?_, fun z => ?_⟩
      · rw [List.any_cons, hp', Bool.false_or] at z
        unfold forL; rw [if_pos hg, e1]; exact a1 z
      · rw [List.any_cons, hp', Bool.false_or] at z
        obtain ⟨ρ2, e2, i2⟩ := a2 z
        exact ⟨ρ2, by unfold forL; rw [if_pos hg, e1]; exact e2, i2⟩
/-- a comprehension whose items draw on -/
theorem lcL_inv {l : List D} {tg : CG} {t : CT} {f : CE} {ρ : En} (I : List O → Prop) (P : D → Prop) : ∀ (ds : List D) (mh : List O), I mh → (∀ x ∈ ds, ∀ mh, I mh → ∃ ρ' y mh', tg x ρ mh = .nx ρ' mh ∧ t ρ' mh = .ok true mh ∧ f ρ' mh = .ok y mh' ∧ P y ∧ I mh') →
    ∃ ys mh', lcL (l, none) tg t f ρ ds mh = .ok ys mh' ∧ I mh' ∧ (∀ y ∈ ys, P y) ∧ ys.length = ds.length
  | [], mh, h, _ => ⟨[], mh, by unfold lcL; exact if_pos (show guard (l, none) mh from trivial), h, fun y hy => by simp at hy, rfl⟩
  | x :: ds, mh, h, hs => by
    obtain ⟨ρ', y, m1, e1, e2, e3, py, i1⟩ := hs x List.mem_cons_self mh h
    obtain ⟨ys, m2, e4, i2, pys, hl⟩ := lcL_inv I P ds m1 i1 fun x hx => hs x (List.mem_cons_of_mem _ hx)
    refine ⟨y :: ys, m2, ?_, i2, fun z hz => ?_, by simp [hl]⟩
    · unfold lcL
      rw [if_pos (show guard (l, none) mh from trivial), e1]
      show (t ρ' mh).ne.bind _ = _
      rw [e2]
      show ((f ρ' mh).ne.bind fun y m2 => (lcL (l, none) tg t f ρ ds m2).bind fun ys m3 => Res.ok (y :: ys) m3) = _
      rw [e3]
      show (lcL (l, none) tg t f ρ ds m1).bind _ = _
      rw [e4]; rfl
    · rcases List.mem_cons.mp hz with rfl | hz
      · exact py
      · exact pys z hz
theorem cLc_at {w : Bool} {it : CI} {tg : CG} {t : CT} {f : CE} {own : List Nat} {ρ : En} {g : Its} {ys : List D} {m1 m2 : List O} (hi : it ρ mh = .ok g m1) (hl : g.1.length ≤ 100000) (h : lcL g tg t f (wipeE ρ own) g.1 m1 = .ok ys m2) : cLcX w it tg t f own ρ mh = fin w ys m2 := by
  unfold cLcX cLcR
  rw [hi]
  show Res.bind (if g.1.length ≤ sizeLine then _ else _) _ = _
  rw [if_pos (sl_1000 hl), h]
  rfl
@[simp] theorem fin_f {ys : List D} : fin false ys mh = .ok (.lst ys) mh := rfl
@[simp] theorem fin_t {ys : List D} : fin true ys mh = .ok (.ref mh.length) (mh ++ [.lst ys]) := rfl
@[simp] theorem wipeE_nil {ρ : En} : wipeE ρ [] = ρ := rfl
@[simp] theorem wipeE_cons {ρ : En} {v : Nat} {vs : List Nat} : wipeE ρ (v :: vs) = (wipeE ρ vs).set v none := rfl
theorem rngL_len {lo : Int} : (rngL lo n).length = n := by unfold rngL; simp
theorem rngL_succ {lo : Int} : rngL lo (n + 1) = rngL lo n ++ [.int (lo + (n : Nat))] := by
  unfold rngL; rw [List.range_succ, List.map_append]; rfl
/-- those up to f -/
theorem rngL_filter {lo f : Int} {p : D → Bool} : ∀ n : Nat, (∀ j : Nat, j < n → p (.int (lo + j)) = decide (lo + j ≤ f)) → (rngL lo n).filter p = rngL lo (min n (f + 1 - lo).toNat)
  | 0, _ => by simp [rngL]
  | n + 1, h => by
    have ih := rngL_filter n fun j hj => h j (by omega)
    rw [rngL_succ, List.filter_append, ih]
    have hp := h n (by omega)
    by_cases hf : lo + (n : Int) ≤ f
    · rw [List.filter_cons_of_pos (by rw [hp, decide_eq_true hf]), List.filter_nil]
      have e1 : min n (f + 1 - lo).toNat = n := by omega
      have e2 : min (n + 1) (f + 1 - lo).toNat = n + 1 := by omega
      rw [e1, e2, rngL_succ]
    · rw [List.filter_cons_of_neg (by rw [hp, decide_eq_false hf]; decide), List.filter_nil, List.append_nil]
      have e2 : min (n + 1) (f + 1 - lo).toNat = min n (f + 1 - lo).toNat := by omega
      rw [e2]
theorem rngL_mem {lo : Int} (h : d ∈ rngL lo n) : ∃ j : Nat, j < n ∧ d = .int (lo + j) := by
  unfold rngL at h
  obtain ⟨j, hj, e⟩ := List.mem_map.mp h
  exact ⟨j, List.mem_range.mp hj, e.symm⟩
/-! ### equality -/
theorem toPl_can {f : D → Option PyData} (h : ∀ d p, f d = some p → p.canLay0 = true) : ∀ (ds : List D) (ps : List PyData), toPl f ds = some ps → PyData.canLayAll0 ps = true
  | [], _, e => by cases e; rfl
  | d :: ds, _, e => by
    unfold toPl at e
    split at e
    · rename_i e1 e2
      cases e
      have := toPl_can h ds _ e2
      simp [PyData.canLayAll0, h _ _ e1, this]
    · cases e
theorem toP_can : ∀ (n : Nat) (d : D) (p : PyData), toP mh n d = some p → p.canLay0 = true
  | 0, _, _, e => by cases e
  | n + 1, d, p, e => by
    have ih := toPl_can (toP_can n)
    cases d with
    | non => cases e; rfl
    | bl b => cases e; rfl
    | int i => cases e; rfl
    | str x =>
      have e : (if PyData.strOk x = true then some (PyData.str x) else none) = some p := e
      split at e
      · rename_i hx; cases e; simp [PyData.canLay0, hx]
      · cases e
    | tup ds =>
      obtain ⟨ps, e1, rfl⟩ := Option.map_eq_some_iff.mp (show (toPl (toP mh n) ds).map PyData.tuple = some p from e)
      simpa [PyData.canLay0] using ih _ _ e1
    | lst ds =>
      obtain ⟨ps, e1, rfl⟩ := Option.map_eq_some_iff.mp (show (toPl (toP mh n) ds).map PyData.list = some p from e)
      simpa [PyData.canLay0] using ih _ _ e1
    | ref m =>
      have e : (match mh[m]? with | some (.lst ds) => (toPl (toP mh n) ds).map PyData.list | _ => none) = some p := e
      split at e
      · obtain ⟨ps, e1, rfl⟩ := Option.map_eq_some_iff.mp e
        simpa [PyData.canLay0] using ih _ _ e1
      · cases e
    | ty => cases e
    | glb => cases e
    | dic => cases e
    | clo => cases e
    | obj => cases e
theorem oEq_same {p : PyData} (h1 : toP mh 12 d = some p) (h2 : toP mh 12 e = some p) : oEq d e mh = .ok (.bl true) mh := by
  unfold oEq; rw [h1, h2]
  show Res.ok (D.bl (PyData.eqv p p)) mh = _
  rw [PySem.SeqAt.eqv_refl p (toP_can _ _ _ h1)]
theorem oNe_same {p : PyData} (h1 : toP mh 12 d = some p) (h2 : toP mh 12 e = some p) : oNe d e mh = .ok (.bl false) mh := by
  unfold oNe; rw [h1, h2]
  show Res.ok (D.bl (!PyData.eqv p p)) mh = _
  rw [PySem.SeqAt.eqv_refl p (toP_can _ _ _ h1)]; rfl
/-- ints, tuples and lists of such, at most so deep -/
def okP : Nat → D → Prop
  | 0, _ => False
  | n + 1, d => match d with
    | .int _ => True
    | .bl _ => True
    | .non => True
    | .tup ds => ∀ x ∈ ds, okP n x
    | .lst ds => ∀ x ∈ ds, okP n x
    | .str x => PyData.strOk x = true
    | _ => False
theorem toPl_some {f : D → Option PyData} : ∀ ds : List D, (∀ x ∈ ds, ∃ p, f x = some p) → ∃ ps, toPl f ds = some ps
  | [], _ => ⟨[], rfl⟩
  | d :: ds, h => by
    obtain ⟨p, e⟩ := h d List.mem_cons_self
    obtain ⟨ps, e2⟩ := toPl_some ds fun x hx => h x (List.mem_cons_of_mem _ hx)
    exact ⟨p :: ps, by unfold toPl; rw [e, e2]⟩
theorem okP_toP : ∀ (n : Nat) (d : D), okP n d → ∃ p, toP mh n d = some p
  | 0, _, h => h.elim
  | n + 1, d, h => by
    cases d with
    | non => exact ⟨_, rfl⟩
    | bl b => exact ⟨_, rfl⟩
    | int i => exact ⟨_, rfl⟩
    | tup ds =>
      obtain ⟨ps, e⟩ := toPl_some ds fun x hx => okP_toP n x (h x hx)
      exact ⟨.tuple ps, by show (toPl (toP mh n) ds).map PyData.tuple = _; rw [e]; rfl⟩
    | lst ds =>
      obtain ⟨ps, e⟩ := toPl_some ds fun x hx => okP_toP n x (h x hx)
      exact ⟨.list ps, by show (toPl (toP mh n) ds).map PyData.list = _; rw [e]; rfl⟩
    | str x => exact ⟨.str x, by show (if PyData.strOk x = true then some (PyData.str x) else none) = _; exact if_pos h⟩
    | ty => exact h.elim
    | glb => exact h.elim
    | ref => exact h.elim
    | dic => exact h.elim
    | obj => exact h.elim
    | clo => exact h.elim
theorem okP_up : ∀ (n : Nat) (d : D), okP n d → okP (n + 1) d
  | 0, _, h => h.elim
  | n + 1, d, h => by
    cases d with
    | non => trivial
    | bl b => trivial
    | int i => trivial
    | tup ds => exact fun x hx => okP_up n x (h x hx)
    | lst ds => exact fun x hx => okP_up n x (h x hx)
    | str => exact h
    | ty => exact h.elim
    | glb => exact h.elim
    | ref => exact h.elim
    | dic => exact h.elim
    | obj => exact h.elim
    | clo => exact h.elim
theorem oEq_self (h : okP 12 d) : oEq d d mh = .ok (.bl true) mh := by
  obtain ⟨p, e⟩ := okP_toP (mh := mh) 12 d h
  exact oEq_same e e
theorem oNe_self (h : okP 12 d) : oNe d d mh = .ok (.bl false) mh := by
  obtain ⟨p, e⟩ := okP_toP (mh := mh) 12 d h
  exact oNe_same e e
/-- a live list beside its content -/
theorem toP_ref (h : mh[n]? = some (.lst ds)) : toP mh 12 (.ref n) = toP mh 12 (.lst ds) := by
  show (match mh[n]? with | some (.lst ds) => (toPl (toP mh 11) ds).map PyData.list | _ => none) = _
  rw [h]; rfl
theorem oEq_nil (h : okP 12 (.lst ds)) : oEq (.lst ds) (.lst []) mh = .ok (.bl ds.isEmpty) mh := by
  cases ds with
  | nil => exact oEq_self h
  | cons x ds =>
    obtain ⟨p, e⟩ := okP_toP (mh := mh) 12 _ h
    obtain ⟨ps, e1, rfl⟩ := Option.map_eq_some_iff.mp (show (toPl (toP mh 11) (x :: ds)).map PyData.list = some p from e)
    have hq : toP mh 12 (.lst []) = some (.list []) := rfl
    unfold oEq
    rw [e, hq]
    have hps : ∃ y ys, ps = y :: ys := by
      unfold toPl at e1
      split at e1
      · cases e1; exact ⟨_, _, rfl⟩
      · cases e1
    obtain ⟨y, ys, rfl⟩ := hps
    rfl
theorem oNe_nil (h : okP 12 (.lst ds)) : oNe (.lst ds) (.lst []) mh = .ok (.bl (!ds.isEmpty)) mh := by
  have := oEq_nil (mh := mh) h
  unfold oEq at this
  unfold oNe
  split at this
  · rename_i p q e1 e2
    injection this with h1
    injection h1 with h1
    show Res.ok (D.bl (!PyData.eqv p q)) mh = _
    rw [h1]
  · cases this
theorem oNe_nil_ref (hm : mh[n]? = some (.lst ds)) (h : okP 12 (.lst ds)) : oNe (.ref n) (.lst []) mh = .ok (.bl (!ds.isEmpty)) mh := by
  have := oNe_nil (mh := mh) h
  unfold oNe at this ⊢
  rw [toP_ref hm]; exact this
theorem oNe_ref_l (hm : mh[n]? = some (.lst ds)) (h : okP 12 (.lst ds)) : oNe (.ref n) (.lst ds) mh = .ok (.bl false) mh := by
  obtain ⟨p, e⟩ := okP_toP (mh := mh) 12 _ h
  exact oNe_same ((toP_ref hm).trans e) e
theorem oNe_l_ref (hm : mh[n]? = some (.lst ds)) (h : okP 12 (.lst ds)) : oNe (.lst ds) (.ref n) mh = .ok (.bl false) mh := by
  obtain ⟨p, e⟩ := okP_toP (mh := mh) 12 _ h
  exact oNe_same e ((toP_ref hm).trans e)
theorem okP_ints {ns : List Int} : okP 12 (.lst (ns.map D.int)) := fun x hx => by
  obtain ⟨i, _, rfl⟩ := List.mem_map.mp hx
  trivial
theorem rngL_ints {lo : Int} : rngL lo n = ((List.range n).map fun (i : Nat) => lo + (i : Int)).map D.int := by
  unfold rngL; rw [List.map_map]; rfl
end
end G

/-! Part T: texts. -/
namespace G
open PySem PySem.Spec PyProof.Rows L2

section
variable {X : Cx} {W : WX} {k : Nat} {pos : Pos} {F : Addr → Prop} {ι : List Addr} {mh : List O} {σ : L2.St} {H : Hp}
/-! ### rules -/
/-- one sign in a text -/
def oInS (d e : D) (mh : List O) : Res D := match d, e with
  | .str x, .str z => match x.cps.toList with
    | [c] => .ok (.bl (decide (c ∈ z.cps.toList))) mh
    | _ => .stuck
  | _, _ => .stuck
theorem vo_inS : VO2 X (fun x y H Q => ∃ (c : Nat) (z : Str), x = .str ⟨#[c]⟩ ∧ y = .str z ∧ Q (.bl (decide (c ∈ z.cps.toList))) H) oInS := by
  intro W σ F ι mh H d e v u Q sr r1 r2 h
  unfold oInS at h
  split at h
  · rename_i x z
    split at h
    · rename_i c ec
      cases r1; cases r2
      have ex : x = ⟨#[c]⟩ := by
        cases x with
        | mk cps =>
          have : cps.toList = [c] := ec
          congr
          exact Array.ext' this
      exact ⟨c, z, by rw [ex], rfl, h.ok sr (.bl _)⟩
    · exact h.elim
  · exact h.elim
def oSlS (d : D) (lo hi : Option Int) (mh : List O) : Res D := match d with
  | .str z => if z.length ≤ sizeLine then .ok (.str (cutS z lo hi)) mh else .stuck
  | _ => .stuck
theorem j_slS {e : Expr} {lo hi : Option Expr} {p2 : Pos} {f : CE} {l u : CO} (he : JE X W e f) (hl : JO X W lo l) (hu : JO X W hi u) : JE X W (.Subscript e (.Slice lo hi none p2) pos) (cSl oSlS f l u) := by
  obtain ⟨te, pe, qe⟩ := he.ex
  obtain ⟨tl, pl, ql⟩ := hl.ex
  obtain ⟨tu, pu, qu⟩ := hu.ex
  refine ⟨_, pe_slice sl_str pe pl pu, fun ρ mh F ι σ H Q sr er h => ?_⟩
  refine qe ρ mh F ι σ H _ sr er (h.bind.mono fun x H1 ⟨F1, ι1, d1, m1, st1, sr1, r1, h1⟩ => ?_)
  refine ql ρ m1 F1 ι1 σ H1 _ sr1 (er.to sr.sub st1) (h1.bind.mono fun lo' H2 ⟨F2, ι2, d2, m2, st2, sr2, r2, h2⟩ => ?_)
  refine qu ρ m2 F2 ι2 σ H2 _ sr2 (er.to sr.sub (st1.trans st2)) (h2.bind.mono fun hi' H3 ⟨F3, ι3, d3, m3, st3, sr3, r3, h3⟩ => ?_)
  have e2 : d2 = lo' := r2
  have e3 : d3 = hi' := r3
  subst e2 e3
  have r1' := DV.to sr1.sub (st2.trans st3) _ _ r1
  clear r1 h1
  unfold oSlS at h3
  split at h3
  · split at h3
    · rename_i hz
      cases r1'
      exact ⟨_, rfl, hz, h3.ok sr3 (.str _)⟩
    · exact h3.elim
  · exact h3.elim
/-- the signs of a text, one after another -/
def sgns (z : Str) : List D := z.cps.toList.map fun c => .str ⟨#[c]⟩
def oItsS (d : D) (mh : List O) : Res Its := match d with
  | .str z => .ok (sgns z, none) mh
  | _ => .stuck
def iS (f : CE) : CI := fun ρ mh => (f ρ mh).bind oItsS
theorem i_str {tg e : Expr} {f : CE} (h : JE X W e f) : JI X W tg e (iS f) := by
  obtain ⟨t, p, q⟩ := h.ex
  refine ⟨_, pi_str p, fun ρ mh F ι σ H R sr er h => ?_⟩
  refine q ρ mh F ι σ H _ sr er (h.bind.mono fun v H1 ⟨F1, ι1, d, m1, st1, sr1, r1, h1⟩ => ?_)
  unfold oItsS at h1
  split at h1
  · rename_i z
    cases r1
    refine ⟨z, rfl, h1 F1 ι1 H1 _ Step.refl sr1 fun F' ι' H' mh' s x gd i => ⟨fun d hd => ?_, fun hi => ?_⟩⟩
    · unfold sgns at hd
      rw [List.getElem?_map] at hd
      cases hc : z.cps.toList[i]? with
      | none => rw [hc] at hd; cases hd
      | some c =>
        rw [hc] at hd
        cases hd
        refine ⟨?_, fun x H'' y => ?_⟩
        · have := (List.getElem?_eq_some_iff.mp hc).1
          rw [Array.length_toList] at this
          exact this
        · obtain ⟨eh, c', ec, ev⟩ := y
          subst eh ev
          rw [← Array.getElem?_toList] at ec
          rw [hc] at ec
          cases ec
          exact ⟨fun _ _ z => z, .str _⟩
    · show z.cps.size ≤ i
      unfold sgns at hi
      rw [List.length_map, Array.length_toList] at hi
      exact hi
  · exact h1.elim
def oIntS (ds : List D) (mh : List O) : Res D := match ds with
  | [.str z] => match intText? z with
    | some n => if z.length ≤ 640 then .ok (.int n) mh else .stuck
    | none => .stuck
  | _ => .stuck
theorem vo_intS : VOL X (fun xs H Q => ∃ a n, xs = [.str a] ∧ PySem.intText? a = some n ∧ a.length ≤ 640 ∧ Q (.int n) H) oIntS := by
  intro W σ F ι mh H ds vs Q sr r h
  unfold oIntS at h
  split at h
  · split at h
    · rename_i n en
      split at h
      · rename_i hl
        cases r with
        | cons r1 r2 =>
          cases r2; cases r1
          exact ⟨_, n, rfl, en, hl, h.ok sr (.int n)⟩
      · exact h.elim
    · exact h.elim
  · exact h.elim
/-- a method of a text -/
def isStr : D → Bool
  | .str _ => true
  | _ => false
def cMS (o : D → List D → List O → Res D) (f : CE) (g : CA) : CE := fun ρ mh => (f ρ mh).bind fun x m => if isStr x = true then (g ρ m).bind fun xs m' => o x xs m' else .stuck
section
variable {a e : Expr} {es : List Expr} {name : Str} {apos cpos : Pos} {id : String} {r : V → List V → Hp → VK → Prop} {o : D → List D → List O → Res D} {fa : CE} {g : CA}
theorem j_ms (slot : Slot "str" name id) (hty : typeOf (.builtin id) = pure (.type "method_descriptor")) (hm : MtR X id r) (vo : VOM X r o) (ho : JE X W a fa) (ha : JA X W (e :: es) g)
    (hbase : attributeBase a name X.env (eval a X.env) = eval a X.env := by rfl)
    (hfew : ((backTo cpos (starEach (e :: es) X.env)).all (fun x => !x.1) && (backToKw cpos (keywordEach [] X.env)).all (fun x => x.1.isSome)
      && decide ((e :: es).length + ([] : List Keyword).length + (if ([] : List Keyword).isEmpty then 0 else 1) < 30)) = true := by rfl)
    (hline : (apos.endLine == cpos.line) = true := by rfl) (hs : starEach (e :: es) X.env = (false, eval e X.env) :: starEach es X.env := by rfl) (hplain : (backTo cpos (starEach es X.env)).any (·.1) = false := by rfl) :
    JE X W (.Call (.Attribute a name apos) (e :: es) [] cpos) (cMS o fa g) := by
  obtain ⟨ta, pa, qa⟩ := ho.ex
  obtain ⟨tb, pb, qb⟩ := ha.ex
  refine ⟨_, pe_bm PySem.F.plainAttrs_str slot hty hm pa pb hbase hfew hline hs hplain, fun ρ mh F ι σ H Q sr er h => ?_⟩
  refine qa ρ mh F ι σ H _ sr er (h.bind.mono fun x H1 ⟨F1, ι1, d1, m1, st1, sr1, r1, h1⟩ => ?_)
  split at h1
  · rename_i hl
    cases d1 with
    | str z =>
      have r1' := r1
      cases r1'
      refine ⟨rfl, ?_⟩
      refine qb ρ m1 F1 ι1 σ H1 _ sr1 (er.to sr.sub st1) (h1.bind.mono fun xs H2 ⟨F2, ι2, ds2, m2, st2, sr2, r2, h2⟩ => ?_)
      exact vo W σ F2 ι2 m2 H2 _ ds2 _ xs Q sr2 (DV.to sr1.sub st2 _ _ r1) r2 h2
    | _ => cases hl
  · exact h1.elim
end
def oSIndex (d : D) (ds : List D) (mh : List O) : Res D := match d, ds with
  | .str a, [.str b] => match Builtin.Str.occurrences a b 0 a.length 1 with
    | i :: _ => .ok (.int (i : Nat)) mh
    | [] => .stuck
  | _, _ => .stuck
theorem vo_sindex : VOM X (fun x xs H Q => ∃ a b i rest, x = .str a ∧ xs = [.str b] ∧ Builtin.Str.occurrences a b 0 a.length 1 = i :: rest ∧ Q (.int (i : Nat)) H) oSIndex := by
  intro W σ F ι mh H d ds v vs Q sr r rs h
  unfold oSIndex at h
  split at h
  · split at h
    · rename_i i rest eo
      cases r
      cases rs with
      | cons r1 r2 =>
        cases r2; cases r1
        exact ⟨_, _, i, rest, rfl, rfl, eo, h.ok sr (.int _)⟩
    · exact h.elim
  · exact h.elim
end
/-! ### reckoning -/
open SX
section
variable {mh : List O} {a b : List Nat} {i : Int}
theorem tS (x : Str) : x = S x.cps.toList := (S_tl x).symm
theorem oAdd_S (h : a.length + b.length ≤ 100000) : oAdd (.str (S a)) (.str (S b)) mh = .ok (.str (S (a ++ b))) mh := by
  show (if (S a).length + (S b).length ≤ sizeLine then Res.ok (D.str (S a ++ S b)) mh else .stuck) = _
  rw [S_len, S_len, if_pos (sl_1000 h), S_cat]
theorem oLen_S (h : a.length ≤ 100000) : oLen [.str (S a)] mh = .ok (.int (a.length : Nat)) mh := by
  show (if (S a).length ≤ sizeLine then Res.ok (D.int ((S a).length : Nat)) mh else .stuck) = _
  rw [S_len, if_pos (sl_1000 h)]
theorem oIx_S {c : Nat} (h : a.length ≤ 100000) (hc : atI a i = some c) : oIx (.str (S a)) (.int i) mh = .ok (.str (S [c])) mh := by
  show (if (S a).length ≤ sizeLine then (match atI (S a).cps.toList i with | some c => Res.ok (D.str ⟨#[c]⟩) mh | none => .stuck) else .stuck) = _
  rw [S_len, if_pos (sl_1000 h)]
  show (match atI a i with | some c => Res.ok (D.str ⟨#[c]⟩) mh | none => .stuck) = _
  rw [hc]
theorem atI_of {c : Nat} (h0 : 0 ≤ i) (hc : a[i.toNat]? = some c) : atI a i = some c := by
  have hl := (List.getElem?_eq_some_iff.mp hc).1
  unfold atI ixN
  rw [if_pos h0, if_pos (by omega)]
  exact hc
theorem oSlS_to (h : a.length ≤ 100000) (h0 : 0 ≤ i) : oSlS (.str (S a)) none (some i) mh = .ok (.str (S (a.take i.toNat))) mh := by
  show (if (S a).length ≤ sizeLine then Res.ok (D.str (cutS (S a) none (some i))) mh else .stuck) = _
  rw [S_len, if_pos (sl_1000 h)]
  have e : i = ((i.toNat : Nat) : Int) := by omega
  have e2 : cutS (S a) none (some i) = S (a.take i.toNat) := by
    unfold cutS
    rw [e, HT.sIx_nat, HT.sIx_none, S_len, Int.toNat_natCast]
    show S ((a.drop 0).take (min i.toNat a.length - 0)) = _
    rw [List.drop_zero, Nat.sub_zero]
    congr 1
    by_cases hm : i.toNat ≤ a.length
    · rw [Nat.min_eq_left hm]
    · rw [Nat.min_eq_right (by omega), List.take_of_length_le (Nat.le_refl _), List.take_of_length_le (by omega)]
  rw [e2]
theorem oSlS_from (h : a.length ≤ 100000) (h0 : 0 ≤ i) : oSlS (.str (S a)) (some i) none mh = .ok (.str (S (a.drop i.toNat))) mh := by
  show (if (S a).length ≤ sizeLine then Res.ok (D.str (cutS (S a) (some i) none)) mh else .stuck) = _
  rw [S_len, if_pos (sl_1000 h)]
  have e : i = ((i.toNat : Nat) : Int) := by omega
  have e2 : cutS (S a) (some i) none = S (a.drop i.toNat) := by
    unfold cutS
    rw [e, HT.sIx_nat, HT.sIx_none, S_len, Int.toNat_natCast]
    show S ((a.drop (min i.toNat a.length)).take (a.length - min i.toNat a.length)) = _
    congr 1
    by_cases hm : i.toNat ≤ a.length
    · rw [Nat.min_eq_left hm, List.take_of_length_le (by rw [List.length_drop]; omega)]
    · rw [Nat.min_eq_right (by omega), List.drop_eq_nil_of_le (by omega), List.drop_eq_nil_of_le (by omega), List.take_nil]
  rw [e2]
/-- signs that a text may hold -/
def Oks (a : List Nat) : Prop := ∀ c ∈ a, c < 0x110000
theorem Oks.app (h : Oks a) (h' : Oks b) : Oks (a ++ b) := fun c hc => (List.mem_append.mp hc).elim (h c) (h' c)
theorem Oks.take (h : Oks a) (n : Nat) : Oks (a.take n) := fun c hc => h c (List.mem_of_mem_take hc)
theorem Oks.drop (h : Oks a) (n : Nat) : Oks (a.drop n) := fun c hc => h c (List.mem_of_mem_drop hc)
theorem Oks.str (h : Oks a) : PyData.strOk (S a) = true := by
  unfold PyData.strOk
  rw [← Array.all_toList, List.all_eq_true]
  exact fun c hc => decide_eq_true (h c hc)
theorem toP_S (h : Oks a) (n : Nat) : toP mh (n + 1) (.str (S a)) = some (.str (S a)) := by
  show (if PyData.strOk (S a) = true then some (PyData.str (S a)) else none) = _
  rw [if_pos h.str]
theorem oEq_S (h : Oks a) (h' : Oks b) : oEq (.str (S a)) (.str (S b)) mh = .ok (.bl (decide (a = b))) mh := by
  unfold oEq
  rw [toP_S h, toP_S h']
  show Res.ok (D.bl (S a == S b)) mh = _
  rw [S_beq_eq]
theorem oNe_S (h : Oks a) (h' : Oks b) : oNe (.str (S a)) (.str (S b)) mh = .ok (.bl (!decide (a = b))) mh := by
  unfold oNe
  rw [toP_S h, toP_S h']
  show Res.ok (D.bl (!(S a == S b))) mh = _
  rw [S_beq_eq]
theorem oLe_S {c d : Nat} : oLe (.str (S [c])) (.str (S [d])) mh = .ok (.bl (decide (c ≤ d))) mh := by
  show Res.ok (D.bl (!decide (([d] : List Nat) < [c]))) mh = _
  congr 2
  by_cases h : c ≤ d
  · have : ¬ (([d] : List Nat) < [c]) := by
      rw [List.cons_lt_cons_iff]
      rintro (z | ⟨_, z⟩)
      · omega
      · exact absurd z (by simp)
    simp [h, this]
  · have : (([d] : List Nat) < [c]) := by
      rw [List.cons_lt_cons_iff]
      exact .inl (by omega)
    simp [h, this]
theorem oInS_S {c : Nat} : oInS (.str (S [c])) (.str (S a)) mh = .ok (.bl (decide (c ∈ a))) mh := rfl
theorem sgns_S : sgns (S a) = a.map fun c => .str (S [c]) := rfl
theorem oStr_b (h : i.natAbs < 2 ^ 200) : oStr [.int i] mh = .ok (.str (toString i)) mh := if_pos (by
  by_cases h0 : i.natAbs = 0
  · rw [h0]; decide
  · have := (Nat.log2_lt (k := 200) h0).mpr h
    omega)
end
end G

/-! Part U: partition, formatted texts. -/
namespace G
open PySem PySem.Spec PyProof.Rows L2

section
variable {X : Cx} {W : WX} {k : Nat} {pos : Pos} {F : Addr → Prop} {ι : List Addr} {mh : List O} {σ : L2.St} {H : Hp}
def oPart (d : D) (ds : List D) (mh : List O) : Res D := match d, ds with
  | .str a, [.str b] => if (b.length == 0) = false ∧ a.length ≤ sizeLine then oTup [.str (Txt.partition a b).1, .str (Txt.partition a b).2.1, .str (Txt.partition a b).2.2] mh else .stuck
  | _, _ => .stuck
theorem vo_part : VOM X (fun x xs H Q => ∃ a b, x = .str a ∧ xs = [.str b] ∧ (b.length == 0) = false ∧ a.length ≤ sizeLine ∧
    ∀ p, H p = none → Q (.ref p) (upd H p (.tup [.str (Txt.partition a b).1, .str (Txt.partition a b).2.1, .str (Txt.partition a b).2.2]))) oPart := by
  intro W σ F ι mh H d ds v vs Q sr r rs h
  unfold oPart at h
  split at h
  · split at h
    · rename_i hc
      cases r
      cases rs with
      | cons r1 r2 =>
        cases r2; cases r1
        exact ⟨_, _, rfl, rfl, hc.1, hc.2, (post_tup (vs := [.str _, .str _, .str _]) sr (.cons (.str _) (.cons (.str _) (.cons (.str _) .nil))) h).2⟩
    · exact h.elim
  · exact h.elim
def oFmt (d : D) (mh : List O) : Res D := match d with
  | .str y => if y.length ≤ sizeLine then .ok (.str y) mh else .stuck
  | .int i => if i.natAbs.log2 < 1920 then .ok (.str (toString i)) mh else .stuck
  | _ => .stuck
theorem j_fmt {e : Expr} {f : CE} (he : JE X W e f) : JE X W (.FormattedValue e (-1) none pos) (c1 oFmt f) := by
  obtain ⟨t, p, q⟩ := he.ex
  refine ⟨_, pe_fmt p, fun ρ mh F ι σ H Q sr er h => ?_⟩
  refine q ρ mh F ι σ H _ sr er (h.bind.mono fun x H1 ⟨F1, ι1, d1, m1, st1, sr1, r1, h1⟩ => ?_)
  unfold oFmt at h1
  split at h1
  · split at h1
    · rename_i hz
      cases r1
      exact .inl ⟨_, rfl, hz, h1.ok sr1 (.str _)⟩
    · exact h1.elim
  · split at h1
    · rename_i hz
      cases r1
      exact .inr ⟨_, rfl, hz, h1.ok sr1 (.str _)⟩
    · exact h1.elim
  · exact h1.elim
abbrev SRl : Rel Str Str := fun _ _ _ a b => a = b
abbrev CJ := Str → En → List O → Res Str
structure JJ (X : Cx) (W : WX) (es : List Expr) (f : CJ) : Prop where
  ex : ∃ ts, PJ X es ts ∧ ∀ (acc : Str) (ρ : En) (mh : List O) (F : Addr → Prop) (ι : List Addr) (σ : L2.St) (H : Hp) (Q : Str → Hp → Prop), SR X.K X.mg F ι mh H → ER X.K X.mg F ι H ρ σ → Post X.K X.mg SRl W σ F ι H (f acc ρ mh) Q → tJs ts acc σ H Q
def cjN : CJ := fun acc _ mh => .ok acc mh
def cjC (f : CE) (g : CJ) : CJ := fun acc ρ mh => (f ρ mh).bind fun x m => match x with
  | .str y => if (acc ++ y).length ≤ sizeLine then g (acc ++ y) ρ m else .stuck
  | _ => .stuck
def cJs (f : CJ) : CE := fun ρ mh => (f Str.empty ρ mh).bind fun z m => .ok (.str z) m
theorem jj_nil : JJ X W [] cjN := ⟨_, .nil, fun _ _ _ _ _ _ _ _ sr _ h => h.ok sr rfl⟩
theorem jj_cons {e : Expr} {es : List Expr} {f : CE} {g : CJ} (he : JE X W e f) (hs : JJ X W es g) : JJ X W (e :: es) (cjC f g) := by
  obtain ⟨t, p, q⟩ := he.ex
  obtain ⟨ts, ps, qs⟩ := hs.ex
  refine ⟨_, .cons p ps, fun acc ρ mh F ι σ H Q sr er h => ?_⟩
  refine q ρ mh F ι σ H _ sr er ((Post.bind (R := DR X) h).mono fun x H1 ⟨F1, ι1, d1, m1, st1, sr1, r1, h1⟩ => ?_)
  split at h1
  · split at h1
    · rename_i hz
      cases r1
      exact ⟨_, rfl, hz, qs _ ρ m1 F1 ι1 σ H1 Q sr1 (er.to sr.sub st1) h1⟩
    · exact h1.elim
  · exact h1.elim
theorem j_js {e1 e2 : Expr} {es : List Expr} {f : CJ} (h : JJ X W (e1 :: e2 :: es) f) : JE X W (.JoinedStr (e1 :: e2 :: es) pos) (cJs f) := by
  obtain ⟨ts, ps, qs⟩ := h.ex
  refine ⟨_, pe_joined ps, fun ρ mh F ι σ H Q sr er h => ?_⟩
  exact qs Str.empty ρ mh F ι σ H _ sr er ((Post.bind (R := SRl) h).mono fun x H1 ⟨F1, ι1, d1, m1, st1, sr1, r1, h1⟩ => by
    have e : d1 = x := r1
    subst e
    exact h1.ok sr1 (.str _))
end
/-- a loop that tells the first that is found -/
theorem forL_find {α : Type} {h : α → D} {g : Its} {tg : CG} {b : CS} {p : α → Bool} {r : α → D} {mh : List O} (I : En → Prop) (hg : guard g mh) : ∀ (xs : List α) (ρ : En), I ρ → (∀ x ∈ xs, ∀ ρ, I ρ → if p x = true then (tg (h x) ρ mh).seq b = .rt (r x) mh else ∃ ρ', (tg (h x) ρ mh).seq b = .nx ρ' mh ∧ I ρ') →
    match xs.find? p with
    | some x => forL g tg b (xs.map h) ρ mh = .rt (r x) mh
    | none => ∃ ρ', forL g tg b (xs.map h) ρ mh = .nx ρ' mh ∧ I ρ'
  | [], ρ, h0, _ => ⟨ρ, by unfold forL; exact if_pos hg, h0⟩
  | x :: xs, ρ, h0, hs => by
    have h1 := hs x List.mem_cons_self ρ h0
    rw [List.map_cons]
    by_cases hp : p x = true
    · rw [if_pos hp] at h1
      rw [List.find?_cons_of_pos hp]
      show forL g tg b (h x :: xs.map h) ρ mh = _
      unfold forL; rw [if_pos hg, h1]
    · rw [if_neg hp] at h1
      obtain ⟨ρ1, e1, i1⟩ := h1
      rw [List.find?_cons_of_neg hp]
      have ih := forL_find I hg xs ρ1 i1 (fun x hx => hs x (List.mem_cons_of_mem _ hx))
      have e : forL g tg b (h x :: xs.map h) ρ mh = forL g tg b (xs.map h) ρ1 mh := by
        conv => lhs; unfold forL
        rw [if_pos hg, e1]
      cases hf : xs.find? p with
      | some y =>
        rw [hf] at ih
        show forL g tg b (h x :: xs.map h) ρ mh = _
        rw [e]; exact ih
      | none =>
        rw [hf] at ih
        obtain ⟨ρ', e2, i2⟩ := ih
        exact ⟨ρ', e.trans e2, i2⟩
end G

/-! Part V: exceptions of own classes: made, raised, caught and kept, asked of their class, a field read. -/
namespace G
open PySem PySem.Spec PyProof.Rows L2

/-! ### a tracked exception -/
theorem xob_ok {P : Program} {w : World} {H : Hp} {h : Heap} {a C : Addr} {d : Option Addr} {o : Obj} {vs : Array Value} (e : h.get? a = some o) (hc : o.cls = .ref C) (hd : o.dict = d) (hf : o.data = .fields vs) : ObjOk P w H h a (xob a C d) :=
  ⟨⟨o, vs, e, hc, hd, hf⟩, ⟨o, e⟩, fun h1 h2 z k => by
    obtain ⟨o, vs, e, r⟩ := z
    exact ⟨o, vs, k _ e, r⟩⟩
theorem xob_at {P : Program} {w : World} {H : Hp} {h : Heap} {a C : Addr} {d : Option Addr} (hok : HOk P w H h) (he : H a = some (xob a C d)) : ∃ (o : Obj) (vs : Array Value), h.get? a = some o ∧ o.cls = .ref C ∧ o.dict = d ∧ o.data = .fields vs := by
  have x : ObjOk P w H h a (.ext fun h => ∃ (o : Obj) (vs : Array Value), h.get? a = some o ∧ o.cls = .ref C ∧ o.dict = d ∧ o.data = .fields vs) := hok a _ he
  exact x.1
section
variable {X : Cx} {pins : List (Addr × Obj)} {σ : L2.St} {H : Hp} {s : Shared}
theorem inv_track {a C : Addr} {d : Option Addr} {oe : Obj} {vs : Array Value} (I : Inv X pins σ H s) (ha : s.heap.get? a = some oe) (hd : oe.data = .fields vs) (hc : oe.cls = .ref C) (hdd : oe.dict = d) (na : H a = none) (n0 : X.s_0.heap.get? a = none) (nL : a ≠ X.env.locals)
    (np : ∀ p ∈ X.pn ++ pins, p.1 ≠ a) : Inv X pins σ (upd H a (xob a C d)) s := by
  have n1 : ∀ {b : Addr} {o : Obj}, X.s_0.heap.get? b = some o → b ≠ a := fun {b o} e z => by rw [z, n0] at e; cases e
  have n2 : ∀ {b : Addr} {o : HO}, H b = some o → b ≠ a := fun {b o} e z => by rw [z, na] at e; cases e
  refine ⟨I.ok, I.os, I.bare, ⟨I.base.keep, I.base.slot, fun b o e n hx => ?_, I.base.there, fun b xs e => ?_, fun b o u e => ?_, fun b ps e => ?_⟩, I.loc, I.cell, ?_, fun x c e => ?_, fun p hp => ?_, fun b o e => ?_, I.len⟩
  · rw [upd_ne (n1 e)]; exact I.base.free b o e n hx
  · have q := I.base.tups b xs e
    rw [upd_ne (n2 q)]; exact q
  · have q := I.base.frzs b o u e
    rw [upd_ne (n2 q)]; exact q
  · obtain ⟨more, q⟩ := I.base.tbls b ps e
    exact ⟨more, by rw [upd_ne (n2 q)]; exact q⟩
  · rw [upd_ne (Ne.symm nL)]; exact I.free
  · have hne : c ≠ a := fun z => by
      obtain ⟨v, o, eo, q⟩ := I.cell x c e
      rw [z, ha] at eo
      cases eo
      rw [hd] at q
      cases q
    rw [upd_ne hne]; exact I.freeC x c e
  · obtain ⟨p1, p2, p3, p4, p5⟩ := I.pin p hp
    exact ⟨p1, by rw [upd_ne (np p hp)]; exact p2, p3, p4, p5⟩
  · by_cases hb : b = a
    · subst hb
      rw [upd_same] at e
      cases e
      exact xob_ok ha hc hdd hd
    · rw [upd_ne hb] at e
      exact (I.hok b o e).stay (fun _ _ _ q => q) (fun c q => by rw [upd_ne (n2 q)]; exact q) fun c xs q => by rw [upd_ne (n2 q)]; exact q
theorem inv_suite0 (I : Inv X pins σ H s) {a : Addr} : Inv (X.suite a (X.pn ++ pins)) [] σ H s :=
  ⟨I.ok.suite _ _, I.os, I.bare, I.base, I.loc, I.cell, I.free, I.freeC, fun p hp => I.pin p (by rw [List.append_nil] at hp; exact hp), I.hok, I.len⟩
theorem inv_unsuite0 {a : Addr} {pn' : List (Addr × Obj)} (I : Inv (X.suite a (X.pn ++ pins)) pn' σ H s) (ok : X.Ok) : Inv X pins σ H s :=
  ⟨ok, I.os, I.bare, I.base, I.loc, I.cell, I.free, I.freeC, fun p hp => I.pin p (List.mem_append_left _ hp), I.hok, I.len⟩
end

/-- what the clause wishes of an exception of the body: it is kept -/
def wKp (K : PySem.W.Frag) (c : Value) (i : Nat) (ts : Addr → TS) (Wout : WX) (D : Ends) : WX := fun cls d σ H =>
  ∃ b C, cls = .ref C ∧ PySem.W.exmOne K cls c = some b ∧ (b = true → ∀ a, H a = none → ts a { nx := fun σ' H' => D.nx (σ'.set i none) H', rt := D.rt, bk := fun σ' H' => D.bk (σ'.set i none) H', ct := fun σ' H' => D.ct (σ'.set i none) H' } (σ.set i (some (.ref a))) (upd H a (xob a C d))) ∧
    (b = false → Wout cls d σ H)
section
variable {X : Cx} {x n : Str} {c : Value} {i : Nat} {body suite : List Stmt} {b₀ : Stmt} {np pos pos' : Pos} {tb : WX → TS} {ts : Addr → TS} {Wout : WX}
theorem ps_try_keep (hs : X.stack = X.env :: X.outer) (hf : X.env.frame = some X.env.locals) (hex : X.ex = []) (hN : X.N.Nodup) (hi : X.N[i]? = some n) (hln : X.env.kindOf n = some .local) (hc : Names X x c) (tk : Takes X Wout)
    (hb : ∀ (W : WX) (pn : List (Addr × Obj)) (xe : Value → Shared → Prop), Takes (X.tr pn xe) W → PassesOwn (model X.prog X.w) X.A X.env xe → PSs (X.tr pn xe) body (tb W))
    (hsu : ∀ (a : Addr) (pn : List (Addr × Obj)), PSs (X.suite a pn) (b₀ :: suite) (ts a)) :
    PS X (.Try body [.ExceptHandler (some (.Name x np)) (some n) (b₀ :: suite) pos'] [] [] pos) (fun D σ H => tb (wKp X.K c i ts Wout D) D σ H) := by
  refine ⟨fun pins s σ H D I h => ?_⟩
  have ok := I.ok
  have hfr : X.A.frames = some (X.env :: X.outer) := by rw [ok.frames, hs]
  have hloc : Loc X.env.scope n := .inl hln
  refine wpAny_Try_except ?_
  refine wpAny_mono ((hb (wKp X.K c i ts Wout D) (X.pn ++ pins) (fun e s₁ => wpAny (model X.prog X.w) X.A (noteFrame e X.env) (fun _ s₂ => wpAny (model X.prog X.w) X.A (setFlight e none) (fun _ s₃ =>
    wpAny (model X.prog X.w) X.A (handleBy e X.env [.ExceptHandler (some (.Name x np)) (some n) (b₀ :: suite) pos']) (SP X pins D) X.xe s₃) X.xe s₂) X.xe s₁) (fun u s' xx => ?_) PassesOwn.looking).run [] s σ H D (I.toTry _) h) (fun f s1 hsp => ?_) (fun e s1 he => he)
  · obtain ⟨a, B, sI, pins', σ', H', cls, d, rfl, J', nb, up, sky, na, os, ag, b, C, hC, hb1, hyes, hno⟩ := xx
    subst hC
    have J : Inv X pins σ' H' sI := J'.ofTry ok
    have sky' : Sky B (X.env :: X.outer) a (Zc (.ref C) d) X.env.locals s'.heap := by rw [← hs]; exact sky
    show wpAny (model X.prog X.w) X.A (noteFrame (.ref a) X.env) _ _ _
    refine Sky.land Zc.steady hfr hf sky' fun h3 fl3 up3 => ?_
    have J3 : Inv X pins σ' H' { s' with heap := h3 } := J.landed nb fl3.1 (up.trans up3) os ag
    obtain ⟨oe3, vs3, he3, hz3, hd3⟩ := fl3.there
    have notFr : ∀ {h : Heap} {o : Obj} {vs : Array Value}, h.FunFrames B (X.env :: X.outer) → h.get? a = some o → o.data = .fields vs → a ∉ frs (X.env :: X.outer) := fun {h o vs} ff e dd hm => by
      obtain ⟨_, o', e', hnf⟩ := ff.mem hm
      rw [e] at e'; cases e'
      exact hnf _ dd
    have nfr := notFr fl3.2.2.1 he3 hd3
    have nL : a ≠ X.env.locals := fun z => nfr (List.mem_filterMap.mpr ⟨X.env, List.mem_cons_self, by rw [hf, z]⟩)
    have nF : a ∉ X.fs := fun hm => by
      obtain ⟨e, he, q⟩ := List.mem_filterMap.mp hm
      exact nfr (List.mem_filterMap.mpr ⟨e, List.mem_cons_of_mem _ he, q⟩)
    have nI : sI.heap.get? a = none := by
      cases q : sI.heap.get? a with
      | none => rfl
      | some o =>
        have z := nb a o q (by show a ∉ frs X.stack; rw [hs]; exact nfr)
        rw [fl3.2.1] at z; cases z
    have n0 : X.s_0.heap.get? a = none := by
      cases q : X.s_0.heap.get? a with
      | none => rfl
      | some o =>
        obtain ⟨o', z⟩ := J.base.there a o q (by rw [hex]; simp)
        rw [nI] at z; cases z
    have npin : ∀ p ∈ X.pn ++ pins, p.1 ≠ a := fun p hp z => by
      have q := (J.pin p hp).1
      rw [z, nI] at q; cases q
    have S3 := J3.suite he3 hd3 na nL nF
    refine wpAny_handleBy_cons (codeAny_handlers_test ?_) (by intro q; cases q)
    have LT : PySem.W.Looks (model X.prog X.w) h3 (typeOf (.ref a)) (.ref C) := fun A Q E s k q => wpAny_typeOf_ref (k _ _ he3) (by rw [hz3.1]; exact q)
    have LM := PySem.W.exm_one (M := model X.prog X.w) (J3.kIn) LT hb1
    have test : ∀ {Q : Value → Shared → Prop} {E : Value → Shared → Prop}, Q c { s' with heap := h3 } → wpAny (model X.prog X.w) (X.A.mark (some (.ref a))) (eval (.Name x np) X.env) Q E { s' with heap := h3 } := fun {Q E} q => by
      obtain ⟨hg, hdbg, hm | ⟨hm, hv, hnn⟩⟩ := hc
      · exact ld_glob (X := X.suite a ((a, oe3) :: (X.pn ++ pins))) S3 hg hm q hdbg
      · exact ld_blt (X := X.suite a ((a, oe3) :: (X.pn ++ pins))) S3 hg hm hv q hnn hdbg
    refine test (LM.here ?_)
    cases b with
    | true =>
      refine codeAny_handlers_suite_as ?_
      refine HandSPX.lands_againZ fl3 fun h4 fl4 up4 => ?_
      have J4 : Inv X pins σ' H' { s' with heap := h4 } := J.landed nb fl4.1 ((up.trans up3).trans up4) os ag
      obtain ⟨oe4, vs4, he4, hz4, hd4⟩ := fl4.there
      have J5 : Inv X pins σ' (upd H' a (xob a C d)) { s' with heap := h4 } := inv_track J4 he4 hd4 hz4.1 hz4.2 na n0 nL npin
      have S4 : Inv (X.suite a (X.pn ++ pins)) [] σ' (upd H' a (xob a C d)) { s' with heap := h4 } := inv_suite0 J5
      refine store_ok (X := X.suite a (X.pn ++ pins)) (v := .ref a) S4 hN hi hloc rfl (fun s5 S5 => ?_) (.inr hln)
      refine wpAny_mono ((hsu a (X.pn ++ pins)).run [] s5 _ _ _ S5 (hyes rfl a na)) (fun f s6 hsp => ?_) (fun _ _ z => False.elim z)
      have end_ : ∀ {σ6 : L2.St} {H6 : Hp} {Q : Shared → Prop}, Inv (X.suite a (X.pn ++ pins)) [] σ6 H6 s6 → (∀ s7, Inv X pins (σ6.set i none) H6 s7 → Q s7) →
          wpAny (model X.prog X.w) X.A (do bindName X.env n .none; unbindBehindTheSuite X.env n pos') (fun _ s7 => Q s7) X.xe s6 := fun {σ6 H6 Q} S6 hq => gone_ok (inv_unsuite0 S6 ok) hN hi hln hq
      cases f with
      | next =>
        obtain ⟨σ6, H6, S6, q6⟩ := hsp
        exact end_ S6 fun s7 J7 => ⟨_, _, J7, q6⟩
      | brk =>
        obtain ⟨σ6, H6, S6, q6⟩ := hsp
        exact end_ S6 fun s7 J7 => ⟨_, _, J7, q6⟩
      | cont =>
        obtain ⟨σ6, H6, S6, q6⟩ := hsp
        exact end_ S6 fun s7 J7 => ⟨_, _, J7, q6⟩
      | ret u =>
        obtain ⟨v6, σ6, H6, S6, r6, q6⟩ := hsp
        exact end_ S6 fun s7 J7 => ⟨_, _, _, J7, r6, q6⟩
    | false =>
      show wpAny _ X.A (handleBy (.ref a) X.env []) _ _ _
      refine wpAny_handleBy_nil ?_
      obtain ⟨k1, k2, k3, oe, vs, T, oT, ts', he, hz, hd, h1, hr⟩ := id fl3
      unfold PySem.passOn
      refine wpAny_bind (wpAny_field he hd h1 ?_)
      rw [if_neg (show ¬ ((Value.ref T == Value.none) = true) from by simp)]
      have fin : wpAny (model X.prog X.w) X.A (setFlight (.ref a) X.env.frame) (fun _ s4 => wpAny (model X.prog X.w) X.A (throw (.ref a) : Sem Flow) (SP X pins D) X.xe s4) X.xe { s' with heap := h3 } := by
        rw [hf]
        refine HandSPX.setFlight_upZ fl3 fun h4 hh4 up4 => wpAny_throw (tk _ _ ?_)
        exact ⟨a, B, sI, pins, σ', H', .ref C, d, rfl, J, nb, (up.trans up3).trans up4, .inr (.inr (by rw [hs]; exact hh4)), na, os, ag, hno rfl⟩
      first
        | exact wpAny_bind (wpAny_pure (wpAny_bind fin))
        | exact wpAny_bind fin
  · cases f with
    | next =>
      obtain ⟨σ', H', J', q⟩ := hsp
      exact wpAny_execs_nil ⟨σ', H', J'.ofTry ok, q⟩
    | brk =>
      obtain ⟨σ', H', J', q⟩ := hsp
      exact ⟨σ', H', J'.ofTry ok, q⟩
    | cont =>
      obtain ⟨σ', H', J', q⟩ := hsp
      exact ⟨σ', H', J'.ofTry ok, q⟩
    | ret u =>
      obtain ⟨v, σ', H', J', r, q⟩ := hsp
      exact ⟨v, σ', H', J'.ofTry ok, r, q⟩
end

/-! ### C.__init__(self, 'text'), C an own class -/
structure InitC (K : PySem.W.Frag) (C : Addr) : Prop where
  sg : PySem.W.specialIn K (.ref C) "__getattribute__" = some (some (.builtin "type.__getattribute__"))
  ty : PySem.W.typeIn K (.ref C) = some (.type "type")
  rd : PySem.W.readsIn K C (.type "type") = true
  fi : PySem.W.findCls K (.ref C) (.type "type") "__init__" = some (.val (.builtin "ValueError.__init__"))
section
variable {X : Cx} {x : Str} {C : Addr} {e : Expr} {es : List Expr} {ta : TA} {p1 p2 pos : Pos}
theorem pe_oinit {pl : Sem Bool} (hm : X.mg x = some (.ref C)) (T : InitC X.K C) (ha : PA X (e :: es) ta) (hg : Gl X x := by rfl) (hdb : (x == ("__debug__" : Str)) = false := by decide)
    (hc : eval (.Call (.Attribute (.Name x p1) "__init__" p2) (e :: es) [] pos) X.env = (do
      let ov ← eval (.Name x p1) X.env
      standAt p2.atName
      let (f, first) ← holding [ov] (getMethod ov "__init__" pl)
      callWith pos f first (backTo pos (starEach (e :: es) X.env)) (backToKw pos (keywordEach [] X.env))) := by rfl)
    (he : starEach (e :: es) X.env = (false, eval e X.env) :: starEach es X.env := by rfl) (hpl : (backTo pos (starEach es X.env)).any (·.1) = false := by rfl) :
    PE X (.Call (.Attribute (.Name x p1) "__init__" p2) (e :: es) [] pos) (tVeI X.K ta) := by
  refine ⟨fun pins s σ H Q I h => ?_⟩
  refine PySem.W.methodCall_KW (ld_glob I hg hm ?_ hdb) hc
  obtain ⟨m, fr⟩ := I.fr
  refine PySem.W.method_of_cls fr I.ok.mod.kin T.sg (PySem.W.cls_val fr I.ok.mod.kin T.ty T.rd T.fi (by decide +kernel) ?_)
  show wpAny _ _ (callWith pos (Value.builtin "ValueError.__init__") [] (backTo pos (starEach (e :: es) X.env)) []) _ _ _
  refine PyProof.Rows.callWith_method1 (thn (ha.run pos pins _ σ H _ (I.tok _) h) fun us s1 ⟨vs, H1, I1, r1, a, C, ws, ev, hl, T, ea, q⟩ => ?_) he hpl
  subst ev
  cases r1 with
  | @cons _ u0 _ ur ra rw' =>
    obtain rfl : u0 = Value.ref a := ra
    have hlen : ur.length ≤ sizeLine := by
      rw [← Paired.length rw', sizeLine_eq]
      omega
    exact oinit_ok T I1 ea hlen fun s' J => ⟨.non, H1, J, rfl, q⟩
end
/-- what __init__ keeps: one field is set -/
def spInit (K : PySem.W.Frag) (f : Str) : Sp := fun vs H Q _ => ∃ (a C : Addr) (v : V), vs = [.ref a, v] ∧ OexC K C ∧ PySem.W.findIn K (.ref C) f = some none ∧ H a = some (exo a C none) ∧ ∀ d, H d = none → d ≠ a → Q .non (upd (upd H d (exd d [(f, v)])) a (exo a C (some d)))
theorem spInit_len {K : PySem.W.Frag} {f x y : Str} : ∀ vs H Q E, spInit K f vs H Q E → vs.length = [x, y].length := fun vs H Q E h => by
  obtain ⟨a, C, v, e, _⟩ := h
  rw [e]; rfl
theorem init_read {K : PySem.W.Frag} {f x y t : Str} {vs : List V} {H : Hp} {Q : VK} {E : XK} {bk ct : L2.St → Hp → Prop} (h : spInit K f vs H Q E) :
    tSeq (tDrop (tVeI K (tCons (tVar 0) (tCons (tC (.str t)) tNil)))) (tOst K f (tVar 0) (tVar 1)) { nx := fun _ H' => Q .non H', rt := Q, bk := bk, ct := ct } (L2.start [x, y] vs) H := by
  obtain ⟨a, C, v, rfl, T, hno, ha, q⟩ := h
  refine ⟨.ref a, rfl, a, C, [.str t], rfl, by simp, T, ha, ?_⟩
  exact ⟨v, rfl, .ref a, rfl, a, C, rfl, T, hno, .inl ⟨ha, fun dx n ne => q dx n ne⟩⟩

/-! ### raise C(e) -/
/-- a class whose __init__ sets one field -/
structure XCls (P : Program) (w : World) (K : PySem.W.Frag) (mg : Str → Option Value) (base : Heap) (x f : Str) : Prop where
  ex : ∃ (C fI : Addr) (fd : FuncData) (ps : List Str), mg x = some (.ref C) ∧ OexC K C ∧ PySem.W.findIn K (.ref C) "__init__" = some (some (.ref fI)) ∧ PySem.W.typeIn K (.ref fI) = some (.type "function") ∧
    FnOk P w K mg base (L2.CX P w) 1 fI fd ps (spInit K f) ∧ Binds K fd ps [] ∧ PySem.W.findIn K (.ref C) f = some none
def sRaise (x f : Str) (g : CA) : CS := fun ρ mh => (g ρ mh).toS ρ fun ds m => match ds with
  | [d] => .err x [.str f, d] ρ m
  | _ => .stuck
section
variable {X : Cx} {W : WX} {k : Nat} {pos p p' : Pos} {x f : Str} {e : Expr} {g : CA}
theorem s_raise (xc : XCls X.prog X.w X.K X.mg X.base x f) (c : Cc k X W) (ha : JA X W [e] g) (hxc : isExc x = true := by decide) (hk : 2 ≤ k := by omega) (hg : Gl X x := by rfl) (hdb : (x == ("__debug__" : Str)) = false := by decide)
    (he : starEach [e] X.env = (false, eval e X.env) :: starEach [] X.env := by rfl) (hpl : (backTo pos (starEach [] X.env)).any (·.1) = false := by rfl) :
    JS X W (.Raise (some (.Call (.Name x p) [e] [] pos)) none p') (sRaise x f g) := by
  obtain ⟨C, fI, fd, ps, hm, T, iC, tI, F1, hb, hno⟩ := xc.ex
  obtain ⟨ta, pa, q⟩ := ha.ex
  refine ⟨_, ps_raise c.calm c.tk (pmk_oex T iC tI F1 (c.hr.mono hk) hb .nil passL hg hm pa hdb he hpl), fun ρ mh F ι σ H D sr er h => ?_⟩
  refine q ρ mh F ι σ H _ sr er ((PostS.bindE (R := DRs X) sr er h).mono fun vs H1 ⟨F1', ι1, ds, m1, st1, sr1, r1, er1, h1⟩ => ?_)
  cases r1 with
  | nil => exact h1.elim
  | @cons d ds v vs r1 r2 =>
    cases r2 with
    | cons _ _ => exact h1.elim
    | nil =>
      refine ⟨by simp, fun a na => ?_⟩
      refine ⟨a, C, v, rfl, T, hno, upd_same, fun dd hdd nda => ⟨rfl, ?_⟩⟩
      have hd1 : H1 dd = none := by rw [upd_ne nda] at hdd; exact hdd
      refine ⟨dd, [(f, v)], upd_same, by rw [upd_ne nda, upd_same], hd1, ?_⟩
      have eH : upd (del (upd (upd (upd H1 a (exo a C none)) dd (exd dd [(f, v)])) a (exo a C (some dd))) a) dd (.xd [(f, v)]) = upd H1 dd (.xd [(f, v)]) := by
        funext b
        by_cases hbd : b = dd
        · rw [hbd, upd_same, upd_same]
        · rw [upd_ne hbd, upd_ne hbd]
          by_cases hba : b = a
          · rw [hba, del_same, na]
          · rw [del_ne hba, upd_ne hba, upd_ne hbd, upd_ne hba]
      rw [eH]
      have st : Step F1' ι1 H1 F1' ι1 (upd H1 dd (.xd [(f, v)])) := step_new hd1
      have sr2 := sr1.fresh (u := .xd [(f, v)]) hd1
      exact h1 F1' ι1 _ (.ref C) (some dd) σ st sr2 (er1.to sr1.sub st) ⟨C, hm, hxc, rfl, .inr ⟨dd, f, v, d, rfl, sr1.notNew hd1, upd_same, rfl, DV.to sr1.sub st _ _ r1⟩⟩
end

/-! ### try .. except C as n -/
def exObj (c : Str) (ds : List D) : Option D := match ds with
  | [] => some (.obj c [] [])
  | [.str f, y] => some (.obj c [f] [y])
  | _ => none
def Out.offE (i : Nat) (o : Out) : Out := match o with
  | .nx ρ mh => .nx (ρ.set i none) mh
  | .rt d mh => .rt d mh
  | .bk ρ mh => .bk (ρ.set i none) mh
  | .ct ρ mh => .ct (ρ.set i none) mh
  | _ => .stuck
/-- is: whether an exception of the class is one that the clause names -/
def sTry (is : Str → Option Bool) (i : Nat) (b g : CS) : CS := fun ρ mh => match b ρ mh with
  | .err c ds ρ' mh' => match is c, exObj c ds with
    | some true, some d => (g (ρ'.set i (some d)) mh').offE i
    | some false, _ => .err c ds ρ' mh'
    | _, _ => .stuck
  | o => o
/-- what the written part says of the clause's class -/
structure CatchF (K : PySem.W.Frag) (mg : Str → Option Value) (x : Str) (is : Str → Option Bool) : Prop where
  ex : ∃ c : Value, (mg x = some c) ∧ ∀ y b, is y = some b → ∃ C, mg y = some (.ref C) ∧ PySem.W.exmOne K (.ref C) c = some b
theorem exv_obj {K : PySem.W.Frag} {mg : Str → Option Value} {F : Addr → Prop} {ι : List Addr} {mh : List O} {H : Hp} {c : Str} {ds : List D} {cls : Value} {dx : Option Addr} {o : D} {a C : Addr} (sr : SR K mg F ι mh H) (ev : ExV K mg F ι H c ds cls dx) (e : exObj c ds = some o) (hC : cls = .ref C) (na : H a = none) :
    DV K mg F ι (upd H a (xob a C dx)) o (.ref a) := by
  obtain ⟨C', hm, hxc, e1, e2⟩ := ev
  rw [e1] at hC
  cases hC
  have st : Step F ι H F ι (upd H a (xob a C dx)) := step_new na
  have nF : ¬ F a := sr.notNew na
  rcases e2 with ⟨rfl, rfl⟩ | ⟨d, f, v, y, rfl, nd, hd, rfl, r⟩
  · cases e
    exact .obj (fs := []) ⟨nF, .inr ⟨none, hxc, upd_same, .inl ⟨rfl, rfl⟩⟩⟩ hm rfl .nil
  · cases e
    exact .obj (fs := [(f, v)]) ⟨nF, .inr ⟨some d, hxc, upd_same, .inr ⟨d, rfl, nd, by rw [upd_ne (ne_of_none hd na)]; exact hd⟩⟩⟩ hm rfl (.cons (DV.to sr.sub st _ _ r) .nil)
section
variable {X : Cx} {W : WX} {k : Nat} {np pos pos' : Pos} {x n : Str} {is : Str → Option Bool} {i : Nat} {body suite : List Stmt} {b₀ : Stmt} {b g : CS}
theorem s_try (ct : CatchF X.K X.mg x is) (c : Cc k X W) (i : Nat) (hb : ∀ (W' : WX) (pn : List (Addr × Obj)) (xe : Value → Shared → Prop), Cc k (X.tr pn xe) W' → JSs (X.tr pn xe) W' body b)
    (hsu : ∀ (a : Addr) (pn : List (Addr × Obj)), JSs (X.suite a pn) (fun _ _ _ _ => False) (b₀ :: suite) g) (hi : X.N[i]? = some n := by rfl) (hln : X.env.kindOf n = some .local := by rfl) (hg : Gl X x := by rfl) (hdb : (x == ("__debug__" : Str)) = false := by decide)
    (hs : X.stack = X.env :: X.outer := by rfl) (hf : X.env.frame = some X.env.locals := by rfl) (hex : X.ex = [] := by rfl) :
    JS X W (.Try body [.ExceptHandler (some (.Name x np)) (some n) (b₀ :: suite) pos'] [] [] pos) (sTry is i b g) := by
  obtain ⟨cv, hm, hall⟩ := ct.ex
  have hbs : ∀ (W' : WX) (pn : List (Addr × Obj)) (xe : Value → Shared → Prop), Takes (X.tr pn xe) W' → PassesOwn (model X.prog X.w) X.A X.env xe → JSs (X.tr pn xe) W' body b := fun W' pn xe tk po => hb W' pn xe ⟨c.calm, c.nd, tk, c.hr, po⟩
  refine ⟨_, ps_try_keep (c := cv) (tb := fun W' T σ H => ∀ (pn : List (Addr × Obj)) (xe : Value → Shared → Prop) (tk : Takes (X.tr pn xe) W') (po : PassesOwn (model X.prog X.w) X.A X.env xe), (hbs W' pn xe tk po).ex.choose T σ H)
    (ts := fun a T σ H => ∀ pn, (hsu a pn).ex.choose T σ H) (Wout := W) hs hf hex c.nd hi hln ⟨hg, hdb, .inl hm⟩ c.tk (fun W' pn xe tk po => ?_) (fun a pn => ?_), fun ρ mh F ι σ H T sr er h => ?_⟩
  · exact ⟨fun pins s σ H D I h => (hbs W' pn xe tk po).ex.choose_spec.1.run pins s σ H D I (h pn xe tk po)⟩
  · exact ⟨fun pins s σ H D I h => (hsu a pn).ex.choose_spec.1.run pins s σ H D I (h pn)⟩
  · intro pn xe tk po
    refine (hbs _ pn xe tk po).ex.choose_spec.2 ρ mh F ι σ H T sr er ?_
    unfold sTry at h
    revert h
    generalize b ρ mh = o
    intro h
    cases o with
    | nx ρ m => exact h
    | rt d m => exact h
    | bk ρ m => exact h
    | ct ρ m => exact h
    | stuck => exact h
    | err cc ds ρ1 m1 =>
      intro F' ι' H' cls dx σ' st sr' er' ev
      dsimp only at h
      split at h
      · rename_i d h1 h2
        obtain ⟨C, q1, q2⟩ := hall _ _ h1
        obtain ⟨C', e1, _, e2, e3⟩ := id ev
        rw [q1] at e1
        cases e1
        subst e2
        refine ⟨true, C, rfl, q2, fun _ a na => ?_, fun z => nomatch z⟩
        intro pn'
        have st2 : Step F' ι' H' F' ι' (upd H' a (xob a C dx)) := step_new na
        have sr2 := sr'.fresh (u := xob a C dx) na
        have dv := exv_obj sr' ev h2 rfl na
        refine (hsu a pn').ex.choose_spec.2 _ m1 F' ι' _ _ _ sr2 ((er'.to sr'.sub st2).set dv) ?_
        revert h
        generalize g (ρ1.set i (some d)) m1 = o
        intro h
        have st3 := st.trans st2
        cases o with
        | nx ρ m => exact fun F2 ι2 H2 σ2 s2 x2 y2 => h F2 ι2 H2 _ (st3.trans s2) x2 y2.clear
        | rt d m => exact fun F2 ι2 H2 v s2 x2 y2 => h F2 ι2 H2 v (st3.trans s2) x2 y2
        | bk ρ m => exact fun F2 ι2 H2 σ2 s2 x2 y2 => h F2 ι2 H2 _ (st3.trans s2) x2 y2.clear
        | ct ρ m => exact fun F2 ι2 H2 σ2 s2 x2 y2 => h F2 ι2 H2 _ (st3.trans s2) x2 y2.clear
        | err c ds ρ m => exact h.elim
        | stuck => exact h.elim
      · rename_i h1
        obtain ⟨C, q1, q2⟩ := hall _ _ h1
        obtain ⟨C', e1, _, e2, e3⟩ := id ev
        rw [q1] at e1
        cases e1
        subst e2
        exact ⟨false, C, rfl, q2, (fun z => nomatch z), fun _ => h F' ι' H' _ dx σ' st sr' er' ev⟩
      · exact h.elim
end

/-! ### isinstance(e, C), isinstance(e, (C1, C2, ..)) of a kept exception -/
section
variable {prog : Program} {w : World} {A : Around} {E : Value → Shared → Prop} {s : Shared} {K : PySem.W.Frag} {x D : Addr} {ox : Obj} {od : Option Obj}
open PySem.W PySem.Calls
theorem findObj_dataD {C : Addr} {name : Str} {a g : Value} (hc : (clsIn K C).isSome = true) (ha : findIn K (.ref C) name = some (some a)) (hg : specialIn K a "__get__" = some (some g)) (ht : takesIn K a = some true) : findObj K C od name = some (.bind g a) := by
  obtain ⟨cd, hc⟩ := Option.isSome_iff_exists.mp hc
  unfold findObj
  rw [hc, Option.bind_some, ha, Option.bind_some]
  simp [hg, ht]
theorem kin_classD {Q : Option Value → Shared → Prop} (hga : findIn K (.ref D) "__getattribute__" = some (some (.builtin "BaseException.__getattribute__"))) (hgt : findIn K (.ref D) "__getattr__" = some none) (hsub : subIn K (.ref D) (.type "BaseException") = some true)
    (hdct : hasDictIn K D = true) (ha : findIn K (.ref D) "__class__" = some (some (.builtin "object.__class__")))
    (hn : specialIn K (.builtin "object.__class__") "__get__" = some (some (.builtin "getset_descriptor.__get__"))) (htk : takesIn K (.builtin "object.__class__") = some true) (hm : mroIn K D (.type "object") = some true)
    (X : K.In s.heap) (I : InstAt s.heap x ox D od) (h : Q (some (.ref D)) { s with toks := s.toks + 1 }) : wpAny (model prog w) A (getAttr? (.ref x) "__class__") Q E s := by
  have hf : findObj K D od "__class__" = some (.bind (.builtin "getset_descriptor.__get__") (.builtin "object.__class__")) := findObj_dataD (by obtain ⟨cd, hc, _⟩ := any_some hdct; rw [hc]; rfl) ha hn htk
  obtain ⟨hp, g, d, t, os⟩ := s
  have L0 := I.type (M := model prog w)
  have L1 := looks_findIn (M := model prog w) X hga
  have L2 := looks_findIn (M := model prog w) X hgt
  have L3 := looks_find (M := model prog w) X I hf
  have sub : Looks (model prog w) hp (isInstance (.ref x) (.type "BaseException")) true := L0.andThen (looks_subIn X hsub)
  have hx0 : (false && onTheHeap (Value.builtin "BaseException.__getattribute__")) = false := rfl
  have hx2 : (Value.builtin "BaseException.__getattribute__" == Value.builtin "object.__getattribute__") = false := by decide +kernel
  have hx1 : (onTheHeap (Value.ref D) && Value.builtin "BaseException.__getattribute__" == Value.builtin "object.__getattribute__") = false := by rw [hx2]; rfl
  unfold getAttr? getAttrBy? getAttrBy
  refine wpAny_bind (wpAny_mkText (wpAny_bind (wpAny_attempt (wpAny_holding (wpAny_bind (L0.at (wpAny_bind (L1.at ?_))))))))
  show wpAny _ _ (if (onTheHeap (Value.ref D) && Value.builtin "BaseException.__getattribute__" == Value.builtin "object.__getattribute__") = true then _ else _) _ _ _
  rw [hx1, if_neg Bool.false_ne_true]
  unfold getAttrByItsOwn hookBefore
  refine wpAny_bind ?_
  rw [if_pos (show onTheHeap (Value.ref D) = true from rfl)]
  refine L2.at ?_
  refine wpAny_bind (wpAny_attempt (wpAny_holding ?_))
  unfold callGetattribute
  rw [hx0, if_neg Bool.false_ne_true]
  unfold boundAndCalled
  rw [PySem.F.excAttr_ValueError.ga.bind (.ref x)]
  refine wpAny_bind (wpAny_pure ?_)
  show wpAny _ _ (call (.builtin "BaseException.__getattribute__") [.ref x, .str "__class__" t]) _ _ _
  refine wpAny_call (codeAny_call_builtin PySem.F.excAttr_ValueError.ga.plain PySem.F.entry_bexc_ga ?_)
  refine @check_slot (model prog w) _ _ ⟨hp, g, d, t + 1, os⟩ "BaseException.__getattribute__" "BaseException" "__getattribute__" (.ref x) [.str "__class__" t] [] _ (by decide +kernel) (by decide +kernel) sub (PySem.F.args_bexc_ga (.ref x) (.str "__class__" t)) ?_
  unfold Builtin.«object.__getattribute__»
  refine wpAny_bind (wpAny_of_eq (a := ((Value.ref x : Value), [Value.str "__class__" t])) (by first | rfl | (simp only [slotArgs]; rfl)) ?_)
  refine wpAny_bind (wpAny_pure (wpAny_bind (L0.at (wpAny_bind (L3.at ?_)))))
  show wpAny _ _ (holding [Value.builtin "object.__class__"] (call (.builtin "getset_descriptor.__get__") [.builtin "object.__class__", .ref x, .ref D]) >>= ret) _ _ _
  refine wpAny_bind (wpAny_holding (wpAny_call (class_get (s := ⟨hp, g, d, t + 1, os⟩) (ox := ox) (od := od) X I hm ?_)))
  refine wpAny_pure ?_
  show wpAny _ _ (handedOut (.ref D)) _ _ _
  rw [handedOut_of (v := .ref D) rfl]
  first
    | exact wpAny_pure (wpAny_pure h)
    | exact wpAny_pure h
    | exact wpAny_pure (wpAny_bind (wpAny_pure (wpAny_pure h)))
theorem kitx_excD (C : ExcC K D) : KitX K (.ref x) (.ref D) (fun h => InstAt h x ox D od) where
  ty := fun _ _ _ I => I.type
  it := fun _ _ X _ => by
    obtain ⟨cdD, hcD, _⟩ := any_some C.hd
    unfold clsIn at hcD
    split at hcD
    · rename_i c' d' cd' sl' ho
      intro A' Q' E' s' k q
      unfold isType loadHead
      exact wpAny_bind (wpAny_loadPart (k _ _ (X _ _ ho)) (wpAny_pure q))
    · cases hcD
  ne := fun h tp dd its n sl X htp => by
    obtain ⟨cdD, hcD, _⟩ := any_some C.hd
    refine Bool.eq_false_iff.mpr fun q => ?_
    have e : D = tp := Value.ref.inj (beq_iff_eq.mp q)
    subst e
    unfold clsIn at hcD
    split at hcD
    · rename_i c' d' cd' sl' ho
      have z := (X _ _ ho).symm.trans htp
      cases z
    · cases hcD
  ca := fun X I k => kin_classD C.hg C.hk C.hs C.hd C.ha C.hn C.ht C.hm X I k
end
/-- at a stands a kept exception of the class at C -/
def XoAt (H : Hp) (a C : Addr) : Prop := ∃ F x fs, ObjAt F H a C x fs
def rIsO (K : PySem.W.Frag) : List V → Hp → VK → Prop := fun xs H Q => ∃ (a C : Addr) (c : V) (u : Value) (b : Bool), xs = [.ref a, c] ∧ ClsV c u ∧ XoAt H a C ∧ ExcC K C ∧ PySem.W.kitOne K (.ref C) u = some b ∧ Q (.bl b) H
def rIsOT (K : PySem.W.Frag) : List V → Hp → VK → Prop := fun xs H Q => ∃ (a C tp : Addr) (cs : List V) (us : List Value) (b : Bool), xs = [.ref a, .ref tp] ∧ Rd H tp (.tup cs) ∧ Paired ClsV cs us ∧ XoAt H a C ∧ ExcC K C ∧ PySem.W.kitAny K (.ref C) us = some b ∧ Q (.bl b) H
section
variable {X : Cx}
theorem xo_inst {P : Program} {w : World} {H : Hp} {h : Heap} {a C : Addr} (hok : HOk P w H h) (x : XoAt H a C) : ∃ ox od, PySem.W.InstAt h a ox C od := by
  obtain ⟨F, _, fs, nF, ⟨dx, e⟩ | ⟨d, _, e, q⟩⟩ := x
  · obtain ⟨_, _, _, e1, mA, ⟨od, _, _, ho, _⟩, _⟩ := (show ObjOk P w H h a (.ins C dx fs) from hok a _ e)
    exact ⟨_, some od, e1, rfl, rfl, ho⟩
  obtain ⟨o, vs, e1, e2, e3, e4⟩ := xob_at hok e
  rcases q with ⟨rfl, rfl⟩ | ⟨dd, rfl, _, hd⟩
  · exact ⟨o, none, e1, e2, by unfold PySem.W.notCls; rw [e4] <;> rfl, by rw [e3]; trivial⟩
  · obtain ⟨mA, ⟨od, _, _, ho, _⟩, _⟩ := (show ObjOk P w H h dd (.xd fs) from hok dd _ hd)
    exact ⟨o, some od, e1, e2, by unfold PySem.W.notCls; rw [e4] <;> rfl, by rw [e3]; exact ho⟩
theorem call_isO : CallR X (.builtin "isinstance") (rIsO X.K) := by
  intro pins s σ H xs us Q I r h
  obtain ⟨a, C, c, u, b, rfl, k, xo, T, e, q⟩ := h
  obtain ⟨u1, u2, rfl, r1, r2⟩ := vals2 r
  have e2 := k.eq r2
  subst e2
  cases (show u1 = Value.ref a from r1)
  obtain ⟨ox, od, J⟩ := xo_inst I.hok xo
  exact PySem.W.kia_one (kitx_excD T) I.kIn J e (fun z => nomatch z) fun tk => ⟨.bl b, H, I.tok tk, rfl, q⟩
theorem call_isOT : CallR X (.builtin "isinstance") (rIsOT X.K) := by
  intro pins s σ H xs us Q I r h
  obtain ⟨a, C, tp, cs, ws, b, rfl, hT, k, xo, T, e, q⟩ := h
  obtain ⟨u1, u2, rfl, r1, r2⟩ := vals2 r
  cases (show u2 = Value.ref tp from r2)
  cases (show u1 = Value.ref a from r1)
  obtain ⟨ox, od, J⟩ := xo_inst I.hok xo
  obtain ⟨_, its, rv, o, h1, h2, n, h3⟩ := (show ObjOk X.prog X.w H s.heap tp (.tup cs) from hT.ok I.hok)
  have e3 := ClsV.all k rv
  subst e3
  obtain ⟨oc, od', dt, sl⟩ := o
  simp only at h2 h3
  subst h2 h3
  exact PySem.W.kia_tup (kitx_excD T) I.kIn J h1 e (fun z => nomatch z) fun tk => ⟨.bl b, H, I.tok tk, rfl, q⟩
end
/-- which classes are which: own classes and built-in ones -/
abbrev IsTab := List (Str × (Str ⊕ String) × Bool)
def isOne : IsTab → Str → D → Option Bool
  | [], _, _ => none
  | (c', .inl x, b) :: r, c, t => match t with
    | .glb y => if c' = c ∧ x = y then some b else isOne r c t
    | _ => isOne r c t
  | (c', .inr n, b) :: r, c, t => match t with
    | .ty m => if c' = c ∧ n = m then some b else isOne r c t
    | _ => isOne r c t
def isAny (tab : IsTab) (c : Str) : List D → Option Bool
  | [] => some false
  | t :: ts => match isOne tab c t, isAny tab c ts with
    | some b, some b' => some (b || b')
    | _, _ => none
def IsF1 (K : PySem.W.Frag) (mg : Str → Option Value) (p : Str × (Str ⊕ String) × Bool) : Prop := ∃ C, mg p.1 = some (.ref C) ∧ ExcC K C ∧ match p.2.1 with
  | .inl x => ∃ T, mg x = some (.ref T) ∧ PySem.W.kitOne K (.ref C) (.ref T) = some p.2.2
  | .inr n => PySem.W.kitOne K (.ref C) (.type n) = some p.2.2
def IsFs (K : PySem.W.Frag) (mg : Str → Option Value) (tab : IsTab) : Prop := ∀ p ∈ tab, IsF1 K mg p
theorem isFs_nil {K : PySem.W.Frag} {mg : Str → Option Value} : IsFs K mg [] := fun _ h => by simp at h
theorem isFs_cons {K : PySem.W.Frag} {mg : Str → Option Value} {p : Str × (Str ⊕ String) × Bool} {tab : IsTab} (h : IsF1 K mg p) (t : IsFs K mg tab) : IsFs K mg (p :: tab) := fun q hq => by
  rcases List.mem_cons.mp hq with e | e
  · rw [e]; exact h
  · exact t q e
theorem dv_glb {K : PySem.W.Frag} {mg : Str → Option Value} {F : Addr → Prop} {ι : List Addr} {H : Hp} {x : Str} {T : Addr} {v : V} (h : DV K mg F ι H (.glb x) v) (m : mg x = some (.ref T)) : v = .ref T := by
  cases h with
  | glb m' r =>
    rw [m] at m'
    cases m'
    cases v with
    | ref a => cases (show Value.ref T = Value.ref a from r); rfl
    | non => cases (show Value.ref T = Value.none from r)
    | bl b => cases (show Value.ref T = Value.bool b from r)
    | int i => obtain ⟨t, q⟩ := (show ∃ t, Value.ref T = Value.int i t from r); cases q
    | str i => obtain ⟨t, q⟩ := (show ∃ t, Value.ref T = Value.str i t from r); cases q
    | byt i => obtain ⟨t, q⟩ := (show ∃ t, Value.ref T = Value.bytes i t from r); cases q
    | flt i => obtain ⟨t, q⟩ := (show ∃ t, Value.ref T = Value.float i t from r); cases q
    | ty n => cases (show Value.ref T = Value.type n from r)
theorem isOne_ok {K : PySem.W.Frag} {mg : Str → Option Value} {F : Addr → Prop} {ι : List Addr} {H : Hp} {c : Str} {t : D} {v : V} {b : Bool} (r : DV K mg F ι H t v) : ∀ tab : IsTab, IsFs K mg tab → isOne tab c t = some b → ∃ C u, mg c = some (.ref C) ∧ ExcC K C ∧ ClsV v u ∧ PySem.W.kitOne K (.ref C) u = some b := by
  intro tab
  induction tab with
  | nil => intro _ e; simp [isOne] at e
  | cons p tab ih =>
    intro hf e
    obtain ⟨c', k, b'⟩ := p
    have hf' : IsFs K mg tab := fun q hq => hf q (List.mem_cons_of_mem _ hq)
    have h1 := hf _ (List.mem_cons_self ..)
    cases k with
    | inl x =>
      unfold isOne at e
      split at e
      · rename_i y
        by_cases q : c' = c ∧ x = y
        · rw [if_pos q] at e
          cases e
          obtain ⟨rfl, rfl⟩ := q
          obtain ⟨C, m, T, T2, m2, kk⟩ := h1
          have ev := dv_glb r m2
          exact ⟨C, .ref T2, m, T, by rw [ev]; exact .own T2, kk⟩
        · rw [if_neg q] at e
          exact ih hf' e
      · exact ih hf' e
    | inr n =>
      unfold isOne at e
      split at e
      · rename_i y
        by_cases q : c' = c ∧ n = y
        · rw [if_pos q] at e
          cases e
          obtain ⟨rfl, rfl⟩ := q
          obtain ⟨C, m, T, kk⟩ := h1
          cases r
          exact ⟨C, .type n, m, T, .ty n, kk⟩
        · rw [if_neg q] at e
          exact ih hf' e
      · exact ih hf' e
theorem isAny_ok {K : PySem.W.Frag} {mg : Str → Option Value} {F : Addr → Prop} {ι : List Addr} {H : Hp} {c : Str} {C : Addr} {tab : IsTab} (hf : IsFs K mg tab) (hm : mg c = some (.ref C)) : ∀ (ts : List D) (vs : List V) (b : Bool), DVs K mg F ι H ts vs → isAny tab c ts = some b →
    ∃ us, Paired ClsV vs us ∧ PySem.W.kitAny K (.ref C) us = some b := by
  intro ts
  induction ts with
  | nil => intro vs b h e; cases h; cases e; exact ⟨[], .nil, rfl⟩
  | cons t ts ih =>
    intro vs b h e
    cases h with
    | @cons _ _ v vs' h1 h2 =>
      unfold isAny at e
      split at e
      · rename_i b1 b2 e1 e2
        cases e
        obtain ⟨us, p, q⟩ := ih _ _ h2 e2
        obtain ⟨C', u, m, _, cv, kk⟩ := isOne_ok h1 tab hf e1
        rw [hm] at m
        cases m
        refine ⟨u :: us, .cons cv p, ?_⟩
        unfold PySem.W.kitAny
        rw [kk]
        cases b1 with
        | true => rfl
        | false => exact q
      · cases e
theorem isAny_cls {K : PySem.W.Frag} {mg : Str → Option Value} {F : Addr → Prop} {ι : List Addr} {H : Hp} {c : Str} {tab : IsTab} (hf : IsFs K mg tab) {t : D} {ts : List D} {vs : List V} {b : Bool} (r : DVs K mg F ι H (t :: ts) vs) (e : isAny tab c (t :: ts) = some b) : ∃ C, mg c = some (.ref C) ∧ ExcC K C := by
  cases r with
  | cons h1 h2 =>
    unfold isAny at e
    split at e
    · rename_i b1 b2 e1 e2
      obtain ⟨C, u, m, T, _⟩ := isOne_ok h1 tab hf e1
      exact ⟨C, m, T⟩
    · cases e
def oIsO (tab : IsTab) (ds : List D) (mh : List O) : Res D := match ds with
  | [.obj c _ _, .tup (t :: ts)] => match isAny tab c (t :: ts) with
    | some b => .ok (.bl b) mh
    | none => .stuck
  | [.obj c _ _, t] => match isOne tab c t with
    | some b => .ok (.bl b) mh
    | none => .stuck
  | _ => .stuck
def rIsO2 (K : PySem.W.Frag) : List V → Hp → VK → Prop := fun xs H Q => rIsO K xs H Q ∨ rIsOT K xs H Q
theorem call_isO2 {X : Cx} : CallR X (.builtin "isinstance") (rIsO2 X.K) := by
  intro pins s σ H xs us Q I r h
  rcases h with h | h
  · exact call_isO pins s σ H xs us Q I r h
  · exact call_isOT pins s σ H xs us Q I r h
theorem vo_isO {X : Cx} {tab : IsTab} (hf : IsFs X.K X.mg tab) : VOL X (rIsO2 X.K) (oIsO tab) := by
  intro W σ F ι mh H ds vs Q sr r h
  unfold oIsO at h
  split at h
  · rename_i c ns es t ts
    split at h
    · rename_i b e
      cases r with
      | cons r1 r2 =>
        cases r2 with
        | cons r2 r3 =>
          cases r3
          cases r1 with
          | obj ho m en rr =>
            cases r2 with
            | tup ht rt =>
              obtain ⟨C', m', T⟩ := isAny_cls hf rt e
              rw [m] at m'
              cases m'
              obtain ⟨us, p, q⟩ := isAny_ok hf m _ _ _ rt e
              exact .inr ⟨_, _, _, _, us, b, rfl, ht, p, ⟨_, _, _, ho⟩, T, q, h.ok sr (.bl b)⟩
    · exact h.elim
  · rename_i c ns es t hn
    split at h
    · rename_i b e
      cases r with
      | cons r1 r2 =>
        cases r2 with
        | cons r2 r3 =>
          cases r3
          cases r1 with
          | obj ho m en rr =>
            obtain ⟨C', u, m', T, cv, kk⟩ := isOne_ok r2 tab hf e
            rw [m] at m'
            cases m'
            exact .inl ⟨_, _, _, u, b, rfl, cv, ⟨_, _, _, ho⟩, T, kk, h.ok sr (.bl b)⟩
    · exact h.elim
  · exact h.elim
theorem kit_own {K : PySem.W.Frag} {C T : Addr} {b : Bool} (hd : PySem.W.hasDictIn K T = true) (ty : PySem.W.typeIn K (.ref T) = some (.type "type")) (h : PySem.W.subIn K (.ref C) (.ref T) = some b) (ne : (Value.ref C == Value.ref T) = false) : PySem.W.kitOne K (.ref C) (.ref T) = some b := by
  obtain ⟨cd, hc, _⟩ := PySem.W.any_some hd
  unfold PySem.W.kitOne
  rw [ne, if_neg Bool.false_ne_true]
  show (if ((PySem.W.clsIn K T).isSome && PySem.W.typeIn K (.ref T) == some (.type "type")) = true then PySem.W.subIn K (.ref C) (.ref T) else none) = some b
  rw [if_pos (by rw [hc, ty] <;> rfl)]
  exact h
theorem kit_self {K : PySem.W.Frag} {C : Addr} : PySem.W.kitOne K (.ref C) (.ref C) = some true := by
  unfold PySem.W.kitOne
  rw [if_pos (beq_self_eq_true _)]
theorem kit_typ {K : PySem.W.Frag} {C : Addr} {n : String} {b : Bool} (h : PySem.W.subIn K (.ref C) (.type n) = some b) (hk : PySem.W.kitMeta n = true := by decide +kernel) : PySem.W.kitOne K (.ref C) (.type n) = some b := by
  unfold PySem.W.kitOne
  rw [if_neg (by intro z; cases beq_iff_eq.mp z)]
  show (if PySem.W.kitMeta n = true then PySem.W.subIn K (.ref C) (.type n) else none) = some b
  rw [if_pos hk]
  exact h

/-! ### e.f of a kept exception -/
def tXo (K : PySem.W.Frag) (f : Str) (te : TE) : TE := fun σ H Q => te σ H fun x H1 => ∃ (a C : Addr) (F : Addr → Prop) (xn : Str) (fs : List (Str × V)) (v : V), x = .ref a ∧ ObjAt F H1 a C xn fs ∧ XfC K C ∧ PySem.W.findIn K (.ref C) f = some none ∧ fs.lookup f = some v ∧ Q v H1
theorem xo_field {P : Program} {w : World} {H : Hp} {h : Heap} {F : Addr → Prop} {a C : Addr} {xn : Str} {fs : List (Str × V)} {n : Str} {v : V} (hok : HOk P w H h) (x : ObjAt F H a C xn fs) (l : fs.lookup n = some v) : ∃ ox od u, PySem.W.InstAt h a ox C (some od) ∧ PySem.W.lookIn n od = some (some u) ∧ RelV v u := by
  have fin : ∀ {dd : Addr} {mA : Str → Option Value}, h.Ns1 dd mA → (∀ f, RelO (fs.lookup f) (mA f)) → ∃ od u, h.get? dd = some od ∧ PySem.W.lookIn n od = some (some u) ∧ RelV v u := fun {dd mA} hns hr => by
    obtain ⟨od, ho, hl⟩ := lookIn_ns hns
    obtain ⟨u, hu, ru⟩ := RelO.some_of (v := v) (o := mA n) (by rw [← l]; exact hr n)
    exact ⟨od, u, ho, by rw [hl, hu], ru⟩
  obtain ⟨nF, ⟨dx, e⟩ | ⟨d, _, e, q⟩⟩ := x
  · obtain ⟨_, _, _, e1, mA, hns, hr, _⟩ := (show ObjOk P w H h a (.ins C dx fs) from hok a _ e)
    obtain ⟨od, u, ho, hl, ru⟩ := fin hns hr
    exact ⟨_, od, u, ⟨e1, rfl, rfl, ho⟩, hl, ru⟩
  · obtain ⟨o, vs, e1, e2, e3, e4⟩ := xob_at hok e
    rcases q with ⟨rfl, rfl⟩ | ⟨dd, rfl, _, hd⟩
    · cases l
    · obtain ⟨mA, hns, hr⟩ := (show ObjOk P w H h dd (.xd fs) from hok dd _ hd)
      obtain ⟨od, u, ho, hl, ru⟩ := fin hns hr
      exact ⟨o, od, u, ⟨e1, e2, by unfold PySem.W.notCls; rw [e4] <;> rfl, by rw [e3]; exact ho⟩, hl, ru⟩
section
variable {X : Cx} {e : Expr} {te : TE} {pos : Pos} {n : Str}
theorem pe_xo (he : PE X e te) (hb : attributeBase e n X.env (eval e X.env) = eval e X.env := by rfl) : PE X (.Attribute e n pos) (tXo X.K n te) := by
  refine ⟨fun pins s σ H Q I h => ?_⟩
  refine attr_of hb (thn (he.run pins s σ H _ I h) fun u s1 hh => ?_)
  obtain ⟨x, H1, I1, rx, a, C, F, xn, fs, v, ex, xo, T, hno, l, q⟩ := hh
  subst ex
  obtain rfl : u = Value.ref a := rx
  obtain ⟨ox, od, u, J, hl, ru⟩ := xo_field I1.hok xo l
  exact HandSPX.exc_get I1.kIn J T.ga T.gg T.exC (PySem.W.findObj_own T.hdC hno rfl hl) (handed_of ru) ⟨v, H1, I1.tok _, ru, q⟩
end
/-- the field f of exceptions of the classes cs -/
structure FldF (K : PySem.W.Frag) (mg : Str → Option Value) (f : Str) (cs : List Str) : Prop where
  all : ∀ c ∈ cs, ∃ C, mg c = some (.ref C) ∧ XfC K C ∧ PySem.W.findIn K (.ref C) f = some none
theorem fld_nil {K : PySem.W.Frag} {mg : Str → Option Value} {f : Str} : FldF K mg f [] := ⟨fun _ h => by simp at h⟩
theorem fld_cons {K : PySem.W.Frag} {mg : Str → Option Value} {f c : Str} {C : Addr} {cs : List Str} (m : mg c = some (.ref C)) (T : XfC K C) (h : PySem.W.findIn K (.ref C) f = some none) (t : FldF K mg f cs) : FldF K mg f (c :: cs) := ⟨fun q hq => by
  rcases List.mem_cons.mp hq with e | e
  · rw [e]; exact ⟨C, m, T, h⟩
  · exact t.all q e⟩
def oFld (cs : List Str) (f : Str) (d : D) (mh : List O) : Res D := match d with
  | .obj c [g] [y] => if c ∈ cs ∧ g = f then .ok y mh else .stuck
  | _ => .stuck
theorem j_fld {X : Cx} {W : WX} {e : Expr} {fe : CE} {pos : Pos} {n : Str} {cs : List Str} (T : FldF X.K X.mg n cs) (he : JE X W e fe) (hb : attributeBase e n X.env (eval e X.env) = eval e X.env := by rfl) : JE X W (.Attribute e n pos) (c1 (oFld cs n) fe) := by
  obtain ⟨t, p, q⟩ := he.ex
  refine ⟨_, pe_xo p hb, fun ρ mh F ι σ H Q sr er h => ?_⟩
  refine q ρ mh F ι σ H _ sr er (h.bind.mono fun x H1 ⟨F1, ι1, d1, m1, st1, sr1, r1, h1⟩ => ?_)
  unfold oFld at h1
  split at h1
  · rename_i c g y
    split at h1
    · rename_i hc
      cases r1 with
      | @obj a C _ _ _ fs ho m en rr =>
        obtain ⟨C', m', T, hno⟩ := T.all c hc.1
        rw [m] at m'
        cases m'
        match fs, en, rr with
        | [(g', v)], en, rr =>
          cases rr with
          | cons r1 r2 =>
            simp at en
            refine ⟨_, C, F1, _, [(g', v)], v, rfl, ho, T, hno, by simp [List.lookup, en, hc.2], h1.ok sr1 r1⟩
    · exact h1.elim
  · exact h1.elim
theorem bt_ValueError : bootBuiltins "ValueError" = some (.type "ValueError") := PyProof.Rows.Boot.«ValueError»
/-- the name of a class of the text -/
theorem j_cls {X : Cx} {W : WX} {pos : Pos} {x : Str} {C : Addr} (hm : X.mg x = some (.ref C)) (hg : Gl X x := by rfl) (hd : (x == ("__debug__" : Str)) = false := by decide) : JE X W (.Name x pos) (cK (.glb x)) :=
  j_glb (v := .ref C) hm rfl hg hd
/-! facts -/
theorem oexC_mk {K : PySem.W.Frag} {C : Addr} {nm q N bs bm sn sub ab col dd k0 k1 k2 k3 k5} (h1 : K.lookup C = some (excClassObj nm q C N bs bm true sn sub ab col dd k0 k1 k2 k3 k5 "ValueError.__new__")) (h2 : PySem.HandSPX.refsVE bm = true)
    (sa : PySem.W.findIn K (.ref C) "__setattr__" = some (some (.builtin "object.__setattr__"))) (exC : PySem.W.subIn K (.ref C) (.type "BaseException") = some true) (tyC : PySem.W.typeIn K (.ref C) = some (.type "type")) (kC : PySem.W.keepIn K (.ref C) = true) : OexC K C :=
  ⟨⟨nm, q, N, bs, bm, sn, sub, ab, col, dd, k0, k1, k2, k3, k5, h1, h2⟩, sa, exC, tyC, kC⟩
/-- a name is set where nothing may be raised -/
theorem s_setN {X : Cx} {W : WX} {e : Expr} {pos : Pos} (nd : X.N.Nodup) {i : Nat} {x : Str} {pos' : Pos} {f : CE} (h : JE X W e f) (hi : X.N[i]? = some x := by rfl) (hx : Loc X.env.scope x := by first | exact Or.inl rfl | exact Or.inr rfl) (hs : swapsWith e (some (.Name x pos')) pos.line X.env = pure false := by rfl)
    (hf : X.fn x = true ∨ X.env.scope.names.lookup x = some .local := by first | exact .inl rfl | exact .inr rfl) : JS X W (.Assign [.Name x pos'] e pos) (sSet i f) := by
  obtain ⟨t, p, q⟩ := h.ex
  refine ⟨_, ps_set nd hi hx p hs hf, fun ρ mh F ι σ H T sr er h => ?_⟩
  exact q ρ mh F ι σ H _ sr er ((PostS.bindE (R := DR X) sr er h).mono fun v H1 ⟨F1, ι1, d, m1, st1, sr1, r1, er1, h1⟩ => h1 F1 ι1 H1 _ Step.refl sr1 (er1.set r1))
/-- the j-th statement of a class -/
def methOf (s : Stmt) (j : Nat) : Stmt := match s with
  | .ClassDef (body := b) .. => b.getD j (.Pass ⟨0, 0, 0, 0⟩)
  | _ => .Pass ⟨0, 0, 0, 0⟩
/-! ### to reckon with it -/
section
variable {mh m' : List O} {n : Nat} {ds es ns' : List D} {ns : List Str} {c : Str} {b : Bool} {d y : D} {f : Str}
theorem fzl_nil_self : ∀ es : List D, fzl (oFz []) es = some es
  | [] => rfl
  | e :: es => by
    unfold fzl
    rw [fzl_nil_self es]
    rfl
theorem call_err {fn : Fn} (h : fn ds [] = .err c es []) (hr : noRefs ds = true) (hl : ds.length = n := by rfl) : ar n (oP fn) ds mh = .err c es mh := by
  rw [ar_eq, if_pos hl]
  unfold oP
  rw [if_pos hr, h]
  dsimp only
  rw [fzl_nil_self]
theorem call_at {fn : Fn} (h : fn ds [] = .ok d m') (hz : ∀ m, oFz m d = some d) (hr : noRefs ds = true) (hl : ds.length = n := by rfl) : ar n (oP fn) ds mh = .ok d mh := by
  rw [ar_eq, if_pos hl]
  unfold oP
  rw [if_pos hr, h]
  dsimp only
  rw [hz m']
theorem sTry_err {is : Str → Option Bool} {i : Nat} {bd g : CS} {ρ ρ' : En} {mh' : List O} (h : bd ρ mh = .err c es ρ' mh') (hi : is c = some true) (he : exObj c es = some d) : sTry is i bd g ρ mh = (g (ρ'.set i (some d)) mh').offE i := by
  unfold sTry
  rw [h]
  dsimp only
  rw [hi, he]
theorem sTry_nx {is : Str → Option Bool} {i : Nat} {bd g : CS} {ρ ρ' : En} {mh' : List O} (h : bd ρ mh = .nx ρ' mh') : sTry is i bd g ρ mh = .nx ρ' mh' := by
  unfold sTry
  rw [h]
@[simp] theorem offE_nx {i : Nat} {ρ : En} : (Out.nx ρ mh).offE i = .nx (ρ.set i none) mh := rfl
@[simp] theorem offE_rt {i : Nat} {d : D} : (Out.rt d mh).offE i = .rt d mh := rfl
@[simp] theorem sRaise_eq {x : Str} {g : CA} {ρ : En} : sRaise x f g ρ mh = (g ρ mh).toS ρ fun ds m => match ds with
  | [d] => .err x [.str f, d] ρ m
  | _ => .stuck := rfl
@[simp] theorem exObj_one : exObj c [.str f, y] = some (.obj c [f] [y]) := rfl
@[simp] theorem exObj_nil : exObj c [] = some (.obj c [] []) := rfl
theorem isO_glb {tab : IsTab} {x : Str} (h : isOne tab c (.glb x) = some b) : oIsO tab [.obj c ns es, .glb x] mh = .ok (.bl b) mh := by
  unfold oIsO
  dsimp only
  rw [h]
theorem isO_ty {tab : IsTab} {x : String} (h : isOne tab c (.ty x) = some b) : oIsO tab [.obj c ns es, .ty x] mh = .ok (.bl b) mh := by
  unfold oIsO
  dsimp only
  rw [h]
theorem isO_tup {tab : IsTab} {t : D} {ts : List D} (h : isAny tab c (t :: ts) = some b) : oIsO tab [.obj c ns es, .tup (t :: ts)] mh = .ok (.bl b) mh := by
  unfold oIsO
  dsimp only
  rw [h]
theorem fld_ok {cs : List Str} (h : c ∈ cs) : oFld cs f (.obj c [f] [y]) mh = .ok y mh := if_pos ⟨h, rfl⟩
end
end G

/-! Part W: divmod, += of ints. -/
namespace G
open PySem PySem.Spec PyProof.Rows L2
def oDivmod (ds : List D) (mh : List O) : Res D := match ds with
  | [.int i, .int j] => if 0 < j ∧ j.natAbs.log2 < 9000 then .ok (.tup [.int (i / j), .int (i % j)]) mh else .stuck
  | _ => .stuck
theorem vo_divmod {X : Cx} : VOL X (fun xs H Q => ∃ i j, xs = [.int i, .int j] ∧ CDivP i j ∧ ∀ p, H p = none → Q (.ref p) (upd H p (.tup [.int (i / j), .int (i % j)]))) oDivmod := by
  intro W σ F ι mh H ds vs Q sr r h
  unfold oDivmod at h
  split at h
  · rename_i i j
    split at h
    · rename_i hc
      cases r with
      | cons r1 r2 =>
        cases r2 with
        | cons r2 r3 =>
          cases r1
          cases r2
          cases r3
          refine ⟨i, j, rfl, ⟨hc.1, PyProof.noPylong_of_log2 hc.2⟩, fun p hp => ?_⟩
          exact h F ι _ _ (step_new hp) (sr.fresh hp) (.tup (.inl upd_same) (.cons (.int _) (.cons (.int _) .nil)))
    · exact h.elim
  · exact h.elim
theorem oDivmod_ok {i j : Int} {mh : List O} (h : 0 < j) (h2 : j.natAbs < 2 ^ 8000) : oDivmod [.int i, .int j] mh = .ok (.tup [.int (i / j), .int (i % j)]) mh := by
  refine if_pos ⟨h, ?_⟩
  have h0 : j.natAbs ≠ 0 := by omega
  exact Nat.lt_of_lt_of_le ((Nat.log2_lt h0).mpr h2) (by decide)
def oAddI (d e : D) (mh : List O) : Res D := match d, e with
  | .int i, .int j => .ok (.int (i + j)) mh
  | _, _ => .stuck
theorem vo_iaddI {X : Cx} : VO2 X (rI0 fun i j => .int (i + j)) oAddI := by
  intro W σ F ι mh H d e v u Q sr r1 r2 h
  unfold oAddI at h
  split at h
  · cases r1
    cases r2
    exact ⟨_, _, rfl, rfl, h.ok sr (.int _)⟩
  · exact h.elim
@[simp] theorem oAddI_ok {i j : Int} {mh : List O} : oAddI (.int i) (.int j) mh = .ok (.int (i + j)) mh := rfl
end G

/-! Part X: exceptions made as things; classes without __init__ of their own. -/
namespace G
open PySem PySem.Spec PyProof.Rows L2
section
variable {X : Cx} {pins : List (Addr × Obj)} {σ : L2.St} {H : Hp} {sI s' : Shared}
theorem inv_made (I : Inv X pins σ H sI) (k : ∀ b o, sI.heap.get? b = some o → s'.heap.get? b = some o) (os : s'.os = sI.os) (ag : AllBare s'.gens) : Inv X pins σ H s' := by
  have J := I.call (ch := []) (h' := s'.heap) (g' := s'.gens) (t' := s'.toks) (d' := s'.drawn) (H' := H)
    ⟨fun b o e _ _ _ => k b o e, fun b o e _ _ _ => ⟨o.slots, k b o e⟩, fun _ _ _ n _ => n, fun b o e _ => ⟨o, k b o e⟩, fun _ _ e => e, fun _ _ _ e => e, fun b ps e => ⟨#[], by rw [e]; simp⟩⟩
    (I.hok.kept k) ag (fun _ z => nomatch z)
  obtain ⟨a1, a2, a3, a4, a5⟩ := s'
  have e5 : a5 = sI.os := os
  subst e5
  exact J
theorem pe_made {e : Expr} {t : L2.St → Hp → XK → Prop} (hex : X.ex = []) (he : PMk X e t) : PE X e (fun σ H Q => t σ H fun cls d H' => ∃ C, cls = .ref C ∧ ∀ a, H' a = none → Q (.ref a) (upd H' a (xob a C d))) := by
  refine ⟨fun pins s σ H Q I h => ?_⟩
  refine wpAny_mono (he pins s σ H _ I h) (fun u s1 hu => ?_) fun _ _ x => x
  obtain ⟨a, oe, vs, sI, H', cls, d, rfl, J, k, hne, ha, hz, hd, h1, na, os, ag, r, C, rfl, q⟩ := hu
  have J1 : Inv X pins σ H' s1 := inv_made J k os ag
  have n0 : X.s_0.heap.get? a = none := by
    cases q : X.s_0.heap.get? a with
    | none => rfl
    | some o =>
      obtain ⟨o', z⟩ := J.base.there a o q (by rw [hex]; simp)
      rw [hne] at z; cases z
  have nL : a ≠ X.env.locals := fun z => by
    obtain ⟨m, ⟨o, _, _, e, _⟩, _⟩ := J.loc
    rw [← z, hne] at e; cases e
  have np : ∀ p ∈ X.pn ++ pins, p.1 ≠ a := fun p hp z => by
    have q := (J.pin p hp).1
    rw [z, hne] at q; cases q
  exact ⟨.ref a, _, inv_track J1 ha hd hz.1 hz.2 na n0 nL np, rfl, q a na⟩
theorem pmk_own0 {C : Addr} {bmB : List Value} {B newId initId : String} {x : Str} {p pos : Pos} (F : ExcBaseFacts B newId initId bmB) (q : PySem.W.excIn X.K C bmB newId = true) (gC : X.mg x = some (.ref C)) (kC : PySem.W.keepIn X.K (.ref C) = true) (r : Raises X (.ref C)) (hg : Gl X x)
    (hdb : (x == ("__debug__" : Str)) = false := by decide) : PMk X (.Call (.Name x p) [] [] pos) (fun _ H Q => Q (.ref C) none H) := by
  intro pins s σ H Q I h
  refine wpAny_Call_Name_kw (ld_glob I hg gC ?_ hdb)
  refine PySem.W.callWith_K0 I.kIn kC ?_
  show wpAny _ _ (call (.ref C) []) _ _ _
  obtain ⟨bm, N, nm, qn, bs, hdct, sn, sub, ab, col, dd, k0, k1, k2, k3, k5, mN, hC, hN, hni, T⟩ := exc_obj I.kIn q
  refine wpAny_call_exc_subT F T hC hN hni (fun h' e hm => ?_) (Nat.zero_le _)
  exact mk_of I hm r h (I.hok.gone hm.new)
end
abbrev veB : List Value := [.type "ValueError", .type "Exception", .type "BaseException", .type "object"]
/-- a class without __init__ of its own -/
structure XCl0 (K : PySem.W.Frag) (mg : Str → Option Value) (x : Str) : Prop where
  ex : ∃ C : Addr, mg x = some (.ref C) ∧ PySem.W.excIn K C veB "ValueError.__new__" = true ∧ PySem.W.keepIn K (.ref C) = true ∧ PySem.W.subIn K (.ref C) (.type "BaseException") = some true ∧ PySem.W.typeIn K (.ref C) = some (.type "type")
def cMade (x f : Str) (g : CA) : CE := fun ρ mh => (g ρ mh).bind fun ds m => match ds with
  | [d] => .ok (.obj x [f] [d]) m
  | _ => .stuck
def cMade0 (x : Str) : CE := fun _ mh => .ok (.obj x [] []) mh
def sRaise0 (x : Str) : CS := fun ρ mh => .err x [] ρ mh
section
variable {X : Cx} {W : WX} {k : Nat} {pos p p' : Pos} {x f : Str} {e : Expr} {g : CA}
theorem j_made (xc : XCls X.prog X.w X.K X.mg X.base x f) (c : Cc k X W) (ha : JA X W [e] g) (hxc : isExc x = true := by decide) (hk : 2 ≤ k := by omega) (hg : Gl X x := by rfl) (hdb : (x == ("__debug__" : Str)) = false := by decide)
    (he : starEach [e] X.env = (false, eval e X.env) :: starEach [] X.env := by rfl) (hpl : (backTo pos (starEach [] X.env)).any (·.1) = false := by rfl) (hex : X.ex = [] := by rfl) :
    JE X W (.Call (.Name x p) [e] [] pos) (cMade x f g) := by
  obtain ⟨C, fI, fd, ps, hm, T, iC, tI, F1, hb, hno⟩ := xc.ex
  obtain ⟨ta, pa, q⟩ := ha.ex
  refine ⟨_, pe_made hex (pmk_oex T iC tI F1 (c.hr.mono hk) hb .nil passL hg hm pa hdb he hpl), fun ρ mh F ι σ H Q sr er h => ?_⟩
  refine q ρ mh F ι σ H _ sr er ((Post.bind (R := DRs X) h).mono fun vs H1 ⟨F1', ι1, ds, m1, st1, sr1, r1, h1⟩ => ?_)
  cases r1 with
  | nil => exact h1.elim
  | @cons d ds v vs r1 r2 =>
    cases r2 with
    | cons _ _ => exact h1.elim
    | nil =>
      refine ⟨by simp, fun a na => ?_⟩
      refine ⟨a, C, v, rfl, T, hno, upd_same, fun dd hdd nda => ⟨rfl, ?_⟩⟩
      have hd1 : H1 dd = none := by rw [upd_ne nda] at hdd; exact hdd
      refine ⟨dd, [(f, v)], upd_same, by rw [upd_ne nda, upd_same], hd1, ?_⟩
      have eH : upd (del (upd (upd (upd H1 a (exo a C none)) dd (exd dd [(f, v)])) a (exo a C (some dd))) a) dd (.xd [(f, v)]) = upd H1 dd (.xd [(f, v)]) := by
        funext b
        by_cases hbd : b = dd
        · rw [hbd, upd_same, upd_same]
        · rw [upd_ne hbd, upd_ne hbd]
          by_cases hba : b = a
          · rw [hba, del_same, na]
          · rw [del_ne hba, upd_ne hba, upd_ne hbd, upd_ne hba]
      rw [eH]
      refine ⟨C, rfl, fun a2 na2 => ?_⟩
      have st : Step F1' ι1 H1 F1' ι1 (upd H1 dd (.xd [(f, v)])) := step_new hd1
      have sr2 := sr1.fresh (u := .xd [(f, v)]) hd1
      have st2 : Step F1' ι1 (upd H1 dd (.xd [(f, v)])) F1' ι1 (upd (upd H1 dd (.xd [(f, v)])) a2 (xob a2 C (some dd))) := step_new na2
      have sr3 := sr2.fresh (u := xob a2 C (some dd)) na2
      have nda2 : dd ≠ a2 := fun z => by rw [← z, upd_same] at na2; cases na2
      exact h1 F1' ι1 _ (.ref a2) (st.trans st2) sr3 (.obj (fs := [(f, v)]) ⟨sr2.notNew na2, .inr ⟨some dd, hxc, upd_same, .inr ⟨dd, rfl, sr1.notNew hd1, by rw [upd_ne nda2, upd_same]⟩⟩⟩ hm rfl (.cons (DV.to sr1.sub (st.trans st2) _ _ r1) .nil))
theorem j_made0 (xc : XCl0 X.K X.mg x) (hxc : isExc x = true := by decide) (hg : Gl X x := by rfl) (hdb : (x == ("__debug__" : Str)) = false := by decide) (hex : X.ex = [] := by rfl) : JE X W (.Call (.Name x p) [] [] pos) (cMade0 x) := by
  obtain ⟨C, hm, q, kC, sC, tC⟩ := xc.ex
  refine ⟨_, pe_made hex (pmk_own0 PySem.F.excBase_ValueError q hm kC (raises_own sC tC) hg hdb), fun ρ mh F ι σ H Q sr er h => ?_⟩
  refine ⟨C, rfl, fun a na => ?_⟩
  exact h F ι _ (.ref a) (step_new na) (sr.fresh na) (.obj (fs := []) ⟨sr.notNew na, .inr ⟨none, hxc, upd_same, .inl ⟨rfl, rfl⟩⟩⟩ hm rfl .nil)
theorem s_raise0 (xc : XCl0 X.K X.mg x) (c : Cc k X W) (hxc : isExc x = true := by decide) (hg : Gl X x := by rfl) (hdb : (x == ("__debug__" : Str)) = false := by decide) : JS X W (.Raise (some (.Call (.Name x p) [] [] pos)) none p') (sRaise0 x) := by
  obtain ⟨C, hm, q, kC, sC, tC⟩ := xc.ex
  refine ⟨_, ps_raise c.calm c.tk (pmk_own0 PySem.F.excBase_ValueError q hm kC (raises_own sC tC) hg hdb), fun ρ mh F ι σ H T sr er h => ?_⟩
  exact h F ι H (.ref C) none σ Step.refl sr er ⟨C, hm, hxc, rfl, .inl ⟨rfl, rfl⟩⟩
end
@[simp] theorem cMade_eq {x f : Str} {g : CA} {ρ : En} {mh : List O} : cMade x f g ρ mh = (g ρ mh).bind fun ds m => match ds with
  | [d] => .ok (.obj x [f] [d]) m
  | _ => .stuck := rfl
@[simp] theorem cMade0_eq {x : Str} {ρ : En} {mh : List O} : cMade0 x ρ mh = .ok (.obj x [] []) mh := rfl
@[simp] theorem sRaise0_eq {x : Str} {ρ : En} {mh : List O} : sRaise0 x ρ mh = .err x [] ρ mh := rfl
theorem isFs_app {K : PySem.W.Frag} {mg : Str → Option Value} {a b : IsTab} (h : IsFs K mg a) (t : IsFs K mg b) : IsFs K mg (a ++ b) := fun q hq => by
  rcases List.mem_append.mp hq with e | e
  · exact h q e
  · exact t q e
end G

/-! Part Y: sorted(list of tuples of ints), isinstance(x, (list, tuple)). -/
namespace G
open PySem PySem.Spec PyProof.Rows L2
/-! ### putting in order -/
section
variable {α : Type} (k : α → Int)
def insr (x : α) : List α → List α
  | [] => [x]
  | y :: ys => if k x ≤ k y then x :: y :: ys else y :: insr x ys
def srt : List α → List α
  | [] => []
  | x :: xs => insr k x (srt xs)
theorem insr_perm (x : α) : ∀ l : List α, (insr k x l).Perm (x :: l)
  | [] => .refl _
  | y :: ys => by
    unfold insr
    split
    · exact .refl _
    · exact ((insr_perm x ys).cons y).trans (.swap x y ys)
theorem srt_perm : ∀ l : List α, (srt k l).Perm l
  | [] => .refl _
  | x :: xs => (insr_perm k x _).trans ((srt_perm xs).cons x)
theorem insr_pw (x : α) : ∀ l : List α, l.Pairwise (fun a b => k a ≤ k b) → (insr k x l).Pairwise fun a b => k a ≤ k b
  | [], _ => by simp [insr]
  | y :: ys, h => by
    rw [List.pairwise_cons] at h
    unfold insr
    split
    · rename_i hxy
      refine List.pairwise_cons.mpr ⟨fun a ha => ?_, List.pairwise_cons.mpr h⟩
      rcases List.mem_cons.mp ha with e | e
      · rw [e]; exact hxy
      · exact Int.le_trans hxy (h.1 a e)
    · rename_i hxy
      refine List.pairwise_cons.mpr ⟨fun a ha => ?_, insr_pw x ys h.2⟩
      rcases List.mem_cons.mp ((insr_perm k x ys).mem_iff.mp ha) with e | e
      · rw [e]; omega
      · exact h.1 a e
theorem srt_pw : ∀ l : List α, (srt k l).Pairwise fun a b => k a ≤ k b
  | [] => .nil
  | x :: xs => insr_pw k x _ (srt_pw xs)
/-- in order and of the same members: the same -/
theorem pw_uniq : ∀ (l m : List α), l.Perm m → l.Pairwise (fun a b => k a ≤ k b) → m.Pairwise (fun a b => k a ≤ k b) → (∀ a ∈ l, ∀ b ∈ l, k a = k b → a = b) → l = m
  | [], m, p, _, _, _ => p.nil_eq
  | x :: xs, [], p, _, _, _ => by simpa using p.length_eq
  | x :: xs, y :: ys, p, h1, h2, inj => by
    rw [List.pairwise_cons] at h1 h2
    have e : x = y := by
      refine inj x List.mem_cons_self y (p.mem_iff.mpr List.mem_cons_self) (Int.le_antisymm ?_ ?_)
      · rcases List.mem_cons.mp (p.mem_iff.mpr (List.mem_cons_self (a := y) (l := ys))) with e | e
        · rw [e]; exact Int.le_refl _
        · exact h1.1 y e
      · rcases List.mem_cons.mp (p.mem_iff.mp (List.mem_cons_self (a := x) (l := xs))) with e | e
        · rw [e]; exact Int.le_refl _
        · exact h2.1 x e
    subst e
    rw [pw_uniq xs ys ((List.perm_cons x).mp p) h1.2 h2.2 fun a ha b hb => inj a (List.mem_cons_of_mem _ ha) b (List.mem_cons_of_mem _ hb)]
theorem srt_uniq {l m : List α} (p : l.Perm m) (inj : ∀ a ∈ l, ∀ b ∈ l, k a = k b → a = b) : srt k l = srt k m :=
  pw_uniq k _ _ ((srt_perm k l).trans (p.trans (srt_perm k m).symm)) (srt_pw k l) (srt_pw k m) fun a ha b hb => inj a ((srt_perm k l).mem_iff.mp ha) b ((srt_perm k l).mem_iff.mp hb)
theorem srt_same {l : List α} (h : l.Pairwise fun a b => k a ≤ k b) (inj : ∀ a ∈ l, ∀ b ∈ l, k a = k b → a = b) : srt k l = l :=
  pw_uniq k _ _ (srt_perm k l) (srt_pw k l) h fun a ha b hb => inj a ((srt_perm k l).mem_iff.mp ha) b ((srt_perm k l).mem_iff.mp hb)
theorem insr_map {β : Type} (g : β → α) (x : β) : ∀ l : List β, insr k (g x) (l.map g) = (insr (fun b => k (g b)) x l).map g
  | [] => rfl
  | y :: ys => by
    rw [List.map_cons]
    unfold insr
    split
    · rfl
    · rw [insr_map g x ys]; rfl
theorem srt_map {β : Type} (g : β → α) : ∀ l : List β, srt k (l.map g) = (srt (fun b => k (g b)) l).map g
  | [] => rfl
  | x :: xs => by
    show insr k (g x) (srt k (xs.map g)) = (insr (fun b => k (g b)) x (srt (fun b => k (g b)) xs)).map g
    rw [srt_map g xs, insr_map]
end
/-- things beside values, in another order -/
theorem DVs.perm {K : PySem.W.Frag} {mg : Str → Option Value} {F : Addr → Prop} {ι : List Addr} {H : Hp} {vs ws : List V} (p : vs.Perm ws) : ∀ {ds : List D}, DVs K mg F ι H ds vs → ∃ es, es.Perm ds ∧ DVs K mg F ι H es ws := by
  induction p with
  | nil => intro ds h; exact ⟨ds, .refl _, h⟩
  | cons x _ ih =>
    intro ds h
    cases h with
    | cons h t =>
      obtain ⟨es, p, r⟩ := ih t
      exact ⟨_, p.cons _, .cons h r⟩
  | swap x y l =>
    intro ds h
    cases h with
    | cons h t =>
      cases t with
      | cons h' t => exact ⟨_, .swap _ _ _, .cons h' (.cons h t)⟩
  | trans _ _ ih1 ih2 =>
    intro ds h
    obtain ⟨es, p, r⟩ := ih1 h
    obtain ⟨fs, p', r'⟩ := ih2 r
    exact ⟨fs, p'.trans p, r'⟩
/-- the ints of a tuple -/
def tI (ns : List Int) : D := .tup (ns.map .int)
def tIn (d : D) : List Int := match d with
  | .tup ds => ds.map fun d => match d with
    | .int i => i
    | _ => 0
  | _ => []
theorem tIn_tI (ns : List Int) : tIn (tI ns) = ns := by
  unfold tIn tI
  simp only [List.map_map]
  exact (List.map_congr_left fun _ _ => rfl).trans (List.map_id ns)
theorem code_inj {B : Int} : ∀ (ns ms : List Int), ns.length = ms.length → TS.Bd B ns → TS.Bd B ms → TS.code B ns = TS.code B ms → ns = ms
  | [], [], _, _, _, _ => rfl
  | [], _ :: _, h, _, _, _ => by simp at h
  | _ :: _, [], h, _, _, _ => by simp at h
  | a :: ns, b :: ms, h, h1, h2, e => by
    have hl : ns.length = ms.length := by simpa using h
    rcases Int.lt_trichotomy a b with q | q | q
    · have := TS.code_lt hl h1.tail h2.tail q; omega
    · subst q
      have n1 : ¬ TS.code B ns < TS.code B ms := fun z => by have := (TS.code_same (d := a) hl).mpr z; omega
      have n2 : ¬ TS.code B ms < TS.code B ns := fun z => by have := (TS.code_same (d := a) hl.symm).mpr z; omega
      rw [code_inj ns ms hl h1.tail h2.tail (by omega)]
    · have := TS.code_lt hl.symm h2.tail h1.tail q; omega
def isTup (B : Int) (n : Nat) (d : D) : Prop := ∃ ns, d = tI ns ∧ ns.length = n ∧ TS.Bd B ns
open Classical in
noncomputable def oSortT (B : Int) (n : Nat) (ds : List D) (mh : List O) : Res D := match ds with
  | [x] => match lstOf mh x with
    | some es => if es.length < 64 ∧ ∀ y ∈ es, isTup B n y then .ok (.lst (srt (fun d => TS.code B (tIn d)) es)) mh else .stuck
    | none => .stuck
  | _ => .stuck
theorem dv_tI {K : PySem.W.Frag} {mg : Str → Option Value} {F : Addr → Prop} {ι : List Addr} {H : Hp} {ns : List Int} {v : V} (h : DV K mg F ι H (tI ns) v) : TupI K H v ns := by
  have all : ∀ (ns : List Int) (vs : List V), DVs K mg F ι H (ns.map .int) vs → vs = ns.map V.int := by
    intro ns
    induction ns with
    | nil => intro vs h; cases h; rfl
    | cons n ns ih =>
      intro vs h
      cases h with
      | cons h t =>
        cases h
        rw [ih _ t]; rfl
  unfold tI at h
  cases h with
  | tup hr r =>
    rw [all _ _ r] at hr
    exact ⟨_, rfl, .inl hr⟩
theorem vo_sortT {X : Cx} {B : Int} {n : Nat} : VOL X (rSortU X.K n B) (oSortT B n) := by
  intro W σ F ι mh H ds vs Q sr r h
  unfold oSortT at h
  split at h
  · split at h
    · rename_i es e1
      split at h
      · rename_i hc
        cases r with
        | cons r1 r2 =>
          cases r2
          obtain ⟨a, xs, rfl, s1, q1⟩ := lstOf_ok sr r1 e1
          have all : ∀ x ∈ xs, ∃ ns, TupI X.K H x ns ∧ ns.length = n ∧ TS.Bd B ns := fun x hx => by
            obtain ⟨i, hi, rfl⟩ := List.mem_iff_getElem.mp hx
            obtain ⟨d, hd, rd⟩ := q1.getV (List.getElem?_eq_getElem hi)
            obtain ⟨ns, rfl, hl, hb⟩ := hc.2 d (List.mem_of_getElem? hd)
            exact ⟨ns, dv_tI rd, hl, hb⟩
          refine ⟨a, xs, rfl, s1, by rw [← q1.length]; exact hc.1, all, fun ys p pm pw hp => ?_⟩
          obtain ⟨fs, pf, rf⟩ := DVs.perm pm.symm q1
          have hpw : fs.Pairwise fun a b => TS.code B (tIn a) ≤ TS.code B (tIn b) := by
            rw [List.pairwise_iff_getElem]
            intro i j hi hj hij
            have hi' : i < ys.length := by rw [← rf.length]; exact hi
            have hj' : j < ys.length := by rw [← rf.length]; exact hj
            obtain ⟨v, ev, rv⟩ := rf.get (List.getElem?_eq_getElem hi)
            obtain ⟨u, eu, ru⟩ := rf.get (List.getElem?_eq_getElem hj)
            rw [List.getElem?_eq_getElem hi'] at ev
            rw [List.getElem?_eq_getElem hj'] at eu
            cases ev
            cases eu
            obtain ⟨ns, en, _, _⟩ := hc.2 _ (pf.mem_iff.mp (List.getElem_mem hi))
            obtain ⟨ms, em, _, _⟩ := hc.2 _ (pf.mem_iff.mp (List.getElem_mem hj))
            rw [en] at rv
            rw [em] at ru
            rw [en, em, tIn_tI, tIn_tI]
            exact List.pairwise_iff_getElem.mp pw i j hi' hj' hij ns ms (dv_tI rv) (dv_tI ru)
          have inj : ∀ a ∈ fs, ∀ b ∈ fs, TS.code B (tIn a) = TS.code B (tIn b) → a = b := fun a ha b hb e => by
            obtain ⟨ns, rfl, ln, bn⟩ := hc.2 a (pf.mem_iff.mp ha)
            obtain ⟨ms, rfl, lm, bm⟩ := hc.2 b (pf.mem_iff.mp hb)
            rw [tIn_tI, tIn_tI] at e
            rw [code_inj ns ms (by rw [ln, lm]) bn bm e]
          have ef : fs = srt (fun d => TS.code B (tIn d)) es := (srt_same _ hpw inj).symm.trans (srt_uniq _ pf inj)
          rw [← ef] at h
          have st : Step F ι H F ι (upd H p (.lst ys)) := step_new hp
          exact h F ι _ _ st (sr.fresh hp) (.lst (.inl ⟨.inl upd_same, sr.notNew hp⟩) (DVs.to sr.sub st _ _ rf))
      · exact h.elim
    · exact h.elim
  · exact h.elim
/-! ### isinstance(x, (list, tuple)) -/
def tyNs : List D → Option (List String)
  | [] => some []
  | .ty n :: r => (tyNs r).map (n :: ·)
  | _ => none
def oIsiL (ds : List D) (mh : List O) : Res D := match ds with
  | [d, .tup ts] => match tyN mh d, tyNs ts with
    | some t, some ns => if ∀ n ∈ ns, n ∈ ["int", "bool", "str", "tuple", "list", "dict"] then .ok (.bl (ns.any (isiT t))) mh else .stuck
    | _, _ => .stuck
  | _ => .stuck
def rIsiR (K : PySem.W.Frag) : List V → Hp → VK → Prop := fun xs H Q => ∃ (x : V) (tp : Addr) (cs : List V) (t : Value) (us : List Value) (b : Bool), xs = [x, .ref tp] ∧ Rd H tp (.tup cs) ∧ Paired ClsV cs us ∧ TyX K H x t ∧ PySem.W.kitAny K t us = some b ∧ Q (.bl b) H
theorem call_isiR {X : Cx} : CallR X (.builtin "isinstance") (rIsiR X.K) := by
  intro pins s σ H xs us Q I r h
  obtain ⟨x, tp, cs, t, ws, b, rfl, hT, k, ty, e, q⟩ := h
  obtain ⟨u1, u2, rfl, r1, r2⟩ := vals2 r
  cases (show u2 = Value.ref tp from r2)
  obtain ⟨P, Z, p, hx⟩ := kit_of I r1 ty
  obtain ⟨_, its, rv, o, h1, h2, n, h3⟩ := (show ObjOk X.prog X.w H s.heap tp (.tup cs) from hT.ok I.hok)
  have e3 := ClsV.all k rv
  subst e3
  obtain ⟨oc, od, dt, sl⟩ := o
  simp only at h2 h3
  subst h2 h3
  exact PySem.W.kia_tup Z I.kIn p h1 e hx fun tk => ⟨.bl b, H, I.tok tk, rfl, q⟩
theorem vo_isiL {X : Cx} : VOL X (rIsiR X.K) oIsiL := by
  intro W σ F ι mh H ds vs Q sr r h
  unfold oIsiL at h
  split at h
  · split at h
    · rename_i t ns e1 e2
      split at h
      · rename_i hn
        cases r with
        | cons r1 r2 =>
          cases r2 with
          | cons r2 r3 =>
            cases r3
            cases r2 with
            | tup ht rt =>
              obtain ⟨ty, hty⟩ := tyN_ok sr r1 e1
              have all : ∀ (ts : List D) (ns : List String) (vs : List V), tyNs ts = some ns → (∀ n ∈ ns, n ∈ ["int", "bool", "str", "tuple", "list", "dict"]) → DVs X.K X.mg F ι H ts vs → Paired ClsV vs (ns.map Value.type) ∧ PySem.W.kitAny X.K (.type t) (ns.map Value.type) = some (ns.any (isiT t)) := by
                intro ts
                induction ts with
                | nil => intro ns vs e _ r; cases e; cases r; exact ⟨.nil, rfl⟩
                | cons d ts ih =>
                  intro ns vs e hn r
                  cases r with
                  | cons rd rr =>
                    cases d with
                    | ty n' =>
                      obtain ⟨ns', e', rfl⟩ := Option.map_eq_some_iff.mp (show (tyNs ts).map (n' :: ·) = some ns from e)
                      obtain ⟨p, q⟩ := ih ns' _ e' (fun n h => hn n (List.mem_cons_of_mem _ h)) rr
                      cases rd
                      refine ⟨.cons (.ty _) p, ?_⟩
                      have hk := kit_ty (K := X.K) (isi_ok _ hty _ (hn _ List.mem_cons_self))
                      rw [List.map_cons, List.any_cons]
                      unfold PySem.W.kitAny
                      rw [hk]
                      cases isiT t n' with
                      | true => rfl
                      | false => rw [Bool.false_or]; exact q
                    | _ => exact nomatch (show (none : Option (List String)) = some ns from e)
              obtain ⟨p, q⟩ := all _ _ _ e2 hn rt
              exact ⟨_, _, _, _, _, _, rfl, ht, p, ty, q, h.ok sr (.bl _)⟩
      · exact h.elim
    · exact h.elim
  · exact h.elim
/-- a bound for the ints that are put in order -/
abbrev bigB : Int := 2 ^ 200
/-- a def that calls itself, taken no times -/
def fStuck : Fn := fun _ _ => .stuck
theorem fn_stuck {P : Program} {w : World} {K : PySem.W.Frag} {mg : Str → Option Value} {base : Heap} {CX : CXT} {k n : Nat} {f : Addr} {fd : FuncData} {ps : List Str} (hn : ps.length = n) : FnOk P w K mg base CX k f fd ps (spG K mg n fStuck) :=
  ⟨fun vs H Q E h => by rw [h.1, hn], fun A outer s H args us vs Q E _ _ _ _ h => by
    obtain ⟨_, ds, F, ι, mh, _, _, h⟩ := h
    exact h.elim⟩
/-! ### a walk over a list or a tuple -/
def iSeqR (K : PySem.W.Frag) (tl : TE) : TI := fun σ H R => tl σ H fun x H1 => ∃ a, x = .ref a ∧ (((∃ xs, SqL K H1 a xs) ∧ R (Itl K a) H1) ∨ ((∃ xs, SqT K H1 a xs) ∧ R (Itt K a) H1))
theorem pi_seqR {X : Cx} {tg l : Expr} {tl : TE} (hl : PE X l tl) : PI X tg l (iSeqR X.K tl) := by
  refine ⟨fun pins s σ H R I h => ?_⟩
  refine thn (hl.run pins s σ H _ I h) fun v s1 ⟨x, H1, I1, r1, q1⟩ => ?_
  obtain ⟨a, e, q⟩ := q1
  subst e
  cases r1
  rcases q with ⟨⟨xs, hq⟩, q⟩ | ⟨⟨xs, hq⟩, q⟩
  · obtain ⟨its, rv, p, hz⟩ := I1.list hq
    refine wpAny_pyIter_list p.isList ?_
    refine ⟨s1.heap.objs.size, [s1.heap.objs.size], _, _, H1, rfl, I1.kept (t' := s1.toks) fun b o e => Heap.get?_push_of_some _ e, turn_list a _, ⟨_, Heap.get?_push_size _ rfl, rfl, rfl⟩, fun b hb => ?_, q⟩
    have e : b = s1.heap.objs.size := by simpa using hb
    subst e
    exact I1.fpOk (Nat.le_refl _) (I1.hok.fresh (Nat.le_refl _))
  · obtain ⟨its, rv, p, hz⟩ := I1.tuple hq
    refine wpAny_pyIter_tuple (show s1.heap.IsTuple a its.toArray from p) ?_
    refine ⟨s1.heap.objs.size, [s1.heap.objs.size], _, _, H1, rfl, I1.kept (t' := s1.toks) fun b o e => Heap.get?_push_of_some _ e, turn_tuple a _, ⟨_, Heap.get?_push_size _ rfl, rfl, rfl⟩, fun b hb => ?_, q⟩
    have e : b = s1.heap.objs.size := by simpa using hb
    subst e
    exact I1.fpOk (Nat.le_refl _) (I1.hok.fresh (Nat.le_refl _))
def oItsLT (d : D) (mh : List O) : Res Its := match d with
  | .tup ds => .ok (ds, none) mh
  | d => oIts d mh
def iLT (f : CE) : CI := fun ρ mh => (f ρ mh).bind oItsLT
theorem i_seq {X : Cx} {W : WX} {tg e : Expr} {f : CE} (h : JE X W e f) : JI X W tg e (iLT f) := by
  obtain ⟨t, p, q⟩ := h.ex
  refine ⟨_, pi_seqR p, fun ρ mh F ι σ H R sr er h => ?_⟩
  refine q ρ mh F ι σ H _ sr er (h.bind.mono fun v H1 ⟨F1, ι1, d, m1, st1, sr1, r1, h1⟩ => ?_)
  unfold oItsLT at h1
  split at h1
  · cases r1 with
    | tup hq r =>
      refine ⟨_, rfl, .inr ⟨⟨_, .inl hq⟩, h1 F1 ι1 H1 _ Step.refl sr1 fun F' ι' H' mh' s x gd i => ?_⟩⟩
      have sq : SqT X.K H' _ _ := .inl (s.tups _ _ hq)
      have r' := DVs.to sr1.sub s _ _ r
      refine ⟨fun d hd => ?_, fun hi => ⟨_, sq, by rw [← r'.length]; exact hi⟩⟩
      obtain ⟨v, hv, rv⟩ := r'.get hd
      refine ⟨⟨_, v, sq, hv⟩, fun x H'' y => ?_⟩
      obtain ⟨e, y⟩ := y
      subst e
      have q := y _ sq
      rw [hv] at q; cases q
      exact ⟨fun _ _ z => z, rv⟩
  · have hl : ∀ {i : Nat} {d : D} {ds : List D} {vs : List V} {F' : Addr → Prop} {ι' : List Addr} {H' : Hp} {a : Addr}, SqL X.K H' a vs → DVs X.K X.mg F' ι' H' ds vs → ((∀ d, ds[i]? = some d → (Itl X.K a).go i H' ∧ ∀ x H'', (Itl X.K a).yld i H' x H'' → (∀ a o, H' a = some o → H'' a = some o) ∧ DV X.K X.mg F' ι' H'' d x) ∧ (ds.length ≤ i → (Itl X.K a).stop i H')) := by
      intro i d ds vs F' ι' H' a sq r
      refine ⟨fun d hd => ?_, fun hi => ⟨vs, sq, by rw [← r.length]; exact hi⟩⟩
      obtain ⟨v, hv, rv⟩ := r.get hd
      refine ⟨⟨vs, v, sq, hv⟩, fun x H'' y => ?_⟩
      obtain ⟨e, y⟩ := y
      subst e
      have q := y vs sq
      rw [hv] at q; cases q
      exact ⟨fun _ _ z => z, rv⟩
    unfold oIts at h1
    split at h1
    · cases r1 with
      | lst hq r =>
        refine ⟨_, rfl, .inl ⟨⟨_, SqL_of hq⟩, h1 F1 ι1 H1 _ Step.refl sr1 fun F' ι' H' mh' s x gd i => ?_⟩⟩
        exact hl (d := D.non) (SqL_of (hq.to sr1.sub s)) (DVs.to sr1.sub s _ _ r)
    · rename_i n hnt
      split at h1
      · rename_i ds hn
        cases r1 with
        | ref e =>
          have ho := sr1.ob _ _ _ hn e
          cases ho with
          | lst hh r =>
            refine ⟨_, rfl, .inl ⟨⟨_, .inl (.inl hh)⟩, h1 F1 ι1 H1 _ Step.refl sr1 fun F' ι' H' mh' s x gd i => ?_⟩⟩
            rename_i a0 _ _ 
            have e' : ι'[n]? = some a0 := by
              obtain ⟨t, q⟩ := s.pre
              rw [← q, List.getElem?_append_left (List.getElem?_eq_some_iff.mp e).1]; exact e
            have ho' := x.ob _ _ _ gd e'
            cases ho' with
            | lst hh' r' => exact hl (d := D.non) (.inl (.inl hh')) r'
      · exact h1.elim
    · exact h1.elim
end G

/-! Part Z: sorted(xs, key=f), f a def of the module or a lambda, its keys tuples of ints. -/
namespace G
open PySem PySem.Spec PyProof.Rows L2
/-- the key's tuple as a datum -/
abbrev kd (ns : List Int) : PyData := .tuple (ns.map .int)
theorem tup_sq {K : PySem.W.Frag} {fs ex : List Addr} {H H' : Hp} {h h' : Heap} (u : Un fs ex H H' h h') {v : V} {ns : List Int} (q : TupI K H v ns) : TupI K H' v ns := by
  obtain ⟨t, e, q⟩ := q
  refine ⟨t, e, ?_⟩
  rcases q with (q | ⟨o, q⟩) | q
  · exact .inl (.inl (u.tups _ _ q))
  · exact .inl (.inr ⟨o, u.frzs _ _ _ q⟩)
  · exact .inr q
theorem reads_ints {h : Heap} : ∀ {ns : List Int} {us : List Value}, Vals (ns.map V.int) us → ReadsAll h us (ns.map .int) []
  | [], _, r => by cases r; exact .nil
  | n :: ns, _, r => by
    cases r with
    | cons r t =>
      obtain ⟨t', rfl⟩ := r
      exact .cons (as := []) (bs := []) (.int n t') (reads_ints t)
theorem tup_reads {X : Cx} {pins : List (Addr × Obj)} {σ : L2.St} {H : Hp} {s : Shared} (I : Inv X pins σ H s) {v : V} {u : Value} {ns : List Int} (q : TupI X.K H v ns) (r : RelV v u) : Reads s.heap u (kd ns) [] := by
  obtain ⟨t, rfl, q⟩ := q
  cases (show u = Value.ref t from r)
  obtain ⟨its, rv, ⟨o, ho, hc, n, hd⟩, _⟩ := I.tuple q
  exact .tuple ho hc hd (by simpa using reads_ints rv)
theorem kd_depth (ns : List Int) : (kd ns).depth ≤ 1 := by
  show PyData.depthAll (ns.map .int) + 1 ≤ 1
  rw [PySem.W.depth_ints]
  exact Nat.le_refl _
theorem kd_alike (ks : List (List Int)) : PySem.W.AllAlike (ks.map kd) := by
  intro d hd d' hd'
  obtain ⟨xs, _, rfl⟩ := List.mem_map.mp hd
  obtain ⟨ys, _, rfl⟩ := List.mem_map.mp hd'
  show PySem.W.alike (.tuple (xs.map .int)) (.tuple (ys.map .int)) = true
  simp only [PySem.W.alike]
  exact PySem.W.alike_ints xs ys
theorem kd_sortable (ks : List (List Int)) (h : ∀ k ∈ ks, k ≠ []) : PySem.W.Sortable (ks.map kd) := by
  refine .inl fun d hd => ?_
  obtain ⟨xs, hx, rfl⟩ := List.mem_map.mp hd
  cases xs with
  | nil => exact absurd rfl (h _ hx)
  | cons x xs => exact ⟨_, _, rfl⟩
/-- f(x), called while a list is put in order by it -/
def KFn (X : Cx) (q : Addr) (σ : L2.St) (sp : V → Hp → VK → Prop) : Prop :=
  ∀ (pins : List (Addr × Obj)) (s : Shared) (H : Hp) (u : Value) (v : V) (Q : VK), Inv X pins σ H s → RelV v u → sp v H Q →
    wpAny (model X.prog X.w) X.A.in1.in1 (call (.ref q) [u]) (fun u' s'' => L2.CE X.stack X.prog X.w H s Q u' s'') (fun _ _ => False) s
section
variable {X : Cx} {pins : List (Addr × Obj)} {σ : L2.St} {E : Value → Shared → Prop}
theorem fold_run {H0 : Hp} {s : Shared} {a kS q : Addr} {e1 : Nat} {vs : List V} {us : List Value} {ks : List (List Int)} {sp : V → Hp → VK → Prop} {Φ : Hp → Prop} {P : PySem.Fin → Shared → Prop}
    (kf : KFn X q σ sp) (hA : X.A.units + 10 < cLine) (I : Inv X pins σ H0 s) (fa : FpOk X pins H0 a) (fk : FpOk X pins H0 kS) (ok : s.heap.get? kS = some (seqObj "list" #[] 0)) (oa : s.heap.get? a = some (seqObj "list" #[] e1)) (hka : kS ≠ a)
    (rv : Vals vs us) (hlen : ks.length = us.length) (hZ : us.length ≤ sizeLine) (hne : ∀ k ∈ ks, k ≠ []) (h0 : Φ H0)
    (turn : ∀ (i : Nat) (v : V) (ns : List Int), vs[i]? = some v → ks[i]? = some ns → ∀ H', Φ H' → sp v H' fun v' H'' => TupI X.K H'' v' ns ∧ Φ H'')
    (h : ∀ s' H' out c, Inv X pins σ H' s' → Φ H' → FpOk X pins H' a → s'.heap.get? a = some (seqObj "list" (List.toArray out) c) → PySem.W.KeyedOut false (ks.map kd) us out → P (.done (.ret .none)) s') :
    wpAny (model X.prog X.w) X.A.in1.in1 (ksk_rest a (.ref q) false us.toArray e1 (.ref kS)) P E s := by
  unfold ksk_rest
  refine wpAny_bind (wpAny_rule ?_)
  first
    | rw [List.forIn_toArray]
    | (rw [← Array.forIn_toList]; simp only [List.toList_toArray])
    | rw [← Array.forIn_toList]
  refine wpAny_bind (ksk_fold (fun i s' => ∃ H' kA e, Inv X pins σ H' s' ∧ Φ H' ∧ FpOk X pins H' a ∧ FpOk X pins H' kS ∧ s'.heap.get? kS = some (seqObj "list" kA e) ∧ s'.heap.get? a = some (seqObj "list" #[] e1) ∧
      PySem.W.EachIs (fun u ns => ∃ v, RelV v u ∧ TupI X.K H' v ns) kA.toList (ks.take i)) us 0 s
    ⟨H0, #[], 0, I, h0, fa, fk, ok, oa, by rw [List.take_zero]; exact .nil⟩ ?step ?done)
  case step =>
    rintro j x s' hx ⟨H', kA, e, I', p', fa', fk', ok', oa', hk⟩
    simp only [Nat.zero_add] at hk ⊢
    have hj : j < us.length := (List.getElem?_eq_some_iff.mp hx).1
    obtain ⟨k, hkj⟩ : ∃ k, ks[j]? = some k := ⟨_, List.getElem?_eq_getElem (by omega)⟩
    obtain ⟨v, hv⟩ : ∃ v, vs[j]? = some v := ⟨_, List.getElem?_eq_getElem (by rw [rv.length]; exact hj)⟩
    obtain ⟨u', hu', ru⟩ := rv.get hv
    rw [hx] at hu'
    cases hu'
    have hz : kA.size ≤ us.length := by
      have h1 := hk.length
      rw [Array.length_toList, List.length_take] at h1
      omega
    refine wpAny_bind (wpAny_attempt (wpAny_mono (kf pins s' H' x v _ I' ru (turn j v k hv hkj H' p')) (fun w s2 hc => ?_) fun _ _ hF => hF.elim))
    obtain ⟨v2, H2, os, bare, un, hok, r2, t2, p2⟩ := hc
    have I2 : Inv X pins σ H2 s2 := I'.call' (ch := []) os un hok bare fun b z => absurd z (by simp)
    have nfr : ∀ {b : Addr}, FpOk X pins H' b → b ∉ frs X.stack := fun {b} f z => by
      rcases List.mem_cons.mp (I'.stkSub b z) with e | e
      · exact f.2.1 e
      · exact f.2.2.1 e
    have fp2 : ∀ {b : Addr} {o : Obj}, s'.heap.get? b = some o → FpOk X pins H' b → FpOk X pins H2 b := fun {b o} g f => ⟨un.free b o g f.1 (by simp), f.2⟩
    have ok2 := un.keep kS _ ok' fk'.1 (nfr fk') (by simp)
    have oa2 := un.keep a _ oa' fa'.1 (nfr fa') (by simp)
    have fk2 := fp2 ok' fk'
    have fa2 := fp2 oa' fa'
    try dsimp only
    have s1 := Heap.SameBut.update s2.heap kS (Obj.mapSeq (·.push w))
    obtain ⟨c2, hc2⟩ : ∃ c2, (s2.heap.update kS (Obj.mapSeq (·.push w))).get? kS = some (seqObj "list" (kA.push w) c2) := ⟨_, get?_update_seq ok2 (·.push w)⟩
    have ek : ks.take (j + 1) = ks.take j ++ [k] := by rw [List.take_add_one, hkj]; simp
    have ea : (kA.push w).toList = kA.toList ++ [w] := by simp
    refine wpAny_bind (listUpdate_at ok2 rfl ?_ (Nat.le_trans hz hZ) (Nat.le_trans (Nat.le_of_eq (Array.size_push ..)) (Nat.succ_le_succ (Nat.le_trans hz hZ))))
    refine wpAny_pure ⟨rfl, H2, kA.push w, c2, I2.turned (it := kS) (t' := s2.toks) (fun b o hb e => (s1.2 b hb).trans e) fk2.1 fk2.2.1 fk2.2.2.2.1 fk2.2.2.2.2.1 fk2.2.2.2.2.2, p2, fa2, fk2, hc2, (s1.2 a hka.symm).trans oa2, ?_⟩
    rw [ea, ek]
    exact PySem.W.each_snoc ⟨v2, r2, t2⟩ (hk.mono fun u ns ⟨v, r, t⟩ => ⟨v, r, tup_sq un t⟩)
  case done =>
    rintro s' ⟨H', kA, e, I', p', fa', fk', ok', oa', hk⟩
    have e3 : ks.take (0 + us.length) = ks := List.take_of_length_le (by omega)
    rw [e3] at hk
    have hsz : kA.size = us.length := by
      have h1 := hk.length
      rw [Array.length_toList] at h1
      omega
    have hk' : PySem.W.EachIs (fun u d => ∃ as, Reads s'.heap u d as) kA.toList (ks.map kd) := by
      have h1 : PySem.W.EachIs (fun u ns => ∃ as, Reads s'.heap u (kd ns) as) kA.toList ks := hk.mono fun u ns ⟨v, r, t⟩ => ⟨[], tup_reads I' t r⟩
      clear hsz
      revert h1
      generalize kA.toList = l
      generalize ks = m
      intro h1
      induction h1 with
      | nil => exact .nil
      | cons h _ ih => exact .cons h ih
    refine wpAny_bind (listItems_at ok' rfl ?_)
    have hA' : ∀ d, d ∈ ks.map kd → X.A.in1.in1.units + d.depth < cLine := fun d hd => by
      obtain ⟨ns, _, rfl⟩ := List.mem_map.mp hd
      have := kd_depth ns
      show X.A.units + 1 + 1 + _ < _
      omega
    refine PySem.W.keyH_end (κ := PySem.W.dataKind s'.heap (ks.map kd)) (h₁ := PySem.W.hideAll s'.heap [kS]) (fun b o hb q => PySem.W.of_hideAll _ q) (PySem.W.hideAll_none _ (by simp)) ok' oa' hka
      (PySem.W.SortsAt.data (s := s') hk' (kd_alike ks) (kd_sortable ks hne) hA') hsz hZ fun h' tk c kp hD => ?_
    refine h _ H' _ c (I'.turnedL (ch := [a, kS]) (t' := tk) (h' := h') (fun b o hb q => kp b o (fun z => hb (by simp [z])) (PySem.W.hideAll_get _ q fun z => hb (by simp at z; simp [z]))) fun b hb => ?_) p' fa' hD ⟨s'.heap, kA.toList, kd_alike ks, rfl, hk'⟩
    simp at hb
    rcases hb with rfl | rfl
    · exact fa'
    · exact fk'
end
/-- things with their keys, the lesser key ahead -/
def lek {α : Type} (p q : α × List Int) : Bool := decide (p.2 ≤ q.2)
def srtK {α : Type} (xs : List α) (ks : List (List Int)) : List α := ((xs.zip ks).mergeSort lek).map Prod.fst
theorem lek_data : PySem.W.dataLe false (fun b : V × List Int => kd b.2) = lek := by
  rw [PySem.W.dataLe_eq]
  funext p q
  show (!PySem.W.dataLt (.tuple (q.2.map .int)) (.tuple (p.2.map .int))) = decide (p.2 ≤ q.2)
  rw [PySem.W.dataLt_tuple]
  show (!PySem.W.rowLt (q.2.map .int) (p.2.map .int)) = decide (p.2 ≤ q.2)
  rw [PySem.W.dataLt_ints]
  by_cases h : q.2 < p.2
  · have h' : ¬ p.2 ≤ q.2 := fun z => z h
    simp [h, h']
  · have h' : p.2 ≤ q.2 := h
    simp [h, h']
theorem each_zip : ∀ {vs : List V} {us : List Value} {gs : List (List Int)}, Vals vs us → gs.length = vs.length → PySem.W.EachIs (fun u (b : V × List Int) => RelV b.1 u) us (vs.zip gs)
  | _, _, [], h, hl => by
    cases h with
    | nil => exact .nil
    | cons _ _ => simp at hl
  | _, _, g :: gs, h, hl => by
    cases h with
    | nil => simp at hl
    | cons r t => exact .cons r (each_zip t (by simpa using hl))
theorem vals_each {l : List (V × List Int)} {out : List Value} (h : PySem.W.EachIs (fun u (b : V × List Int) => RelV b.1 u) out l) : Vals (l.map Prod.fst) out := by
  induction h with
  | nil => exact .nil
  | cons h _ ih => exact .cons h ih
/-- sorted(xs, key=f) -/
def rSortK (X : Cx) (σ : L2.St) : List V → List V → Hp → VK → Prop := fun xs zs H Q => ∃ (a q : Addr) (vs : List V) (ks : List (List Int)) (sp : V → Hp → VK → Prop) (Φ : Hp → Prop),
  xs = [.ref a] ∧ zs = [.ref q] ∧ SqL X.K H a vs ∧ KFn X q σ sp ∧ ks.length = vs.length ∧ (∀ k ∈ ks, k ≠ []) ∧ Φ H ∧
  (∀ (i : Nat) (v : V) (ns : List Int), vs[i]? = some v → ks[i]? = some ns → ∀ H', Φ H' → sp v H' fun v' H'' => TupI X.K H'' v' ns ∧ Φ H'') ∧
  ∀ p H', Φ H' → H' p = none → Q (.ref p) (upd H' p (.lst (srtK vs ks)))
section
variable {X : Cx} {pins : List (Addr × Obj)} {σ : L2.St}
theorem sortK_run (hA : X.A.units + 10 < cLine) {s : Shared} {H : Hp} {xs zs : List V} {us ws : List Value} {Q : VK} (I : Inv X pins σ H s) (r : Vals xs us) (rz : Vals zs ws) (h : rSortK X σ xs zs H Q) :
    wpAny (model X.prog X.w) X.A (call (.builtin "sorted") us ([Str.ofString "key"].zip ws)) (EP X pins σ Q) X.xe s := by
  obtain ⟨a, q, vs, ks, sp, Φ, rfl, rfl, hs, kf, hl, hne, p0, turn, hq⟩ := h
  obtain rfl := Vals.ref1 r
  obtain rfl := Vals.ref1 rz
  obtain ⟨its, rv, p, hz⟩ := I.list hs
  have lv := rv.length
  show wpAny (model X.prog X.w) X.A (call (.builtin "sorted") [.ref a] [(Str.ofString "key", .ref q)]) (EP X pins σ Q) X.xe s
  have hZ : its.length ≤ sizeLine := by rw [← lv]; exact hz
  refine PySem.W.sorted_of_sort p.isList hZ (ksk_s1 _ _) (fun _ => ksk_l1 _ _) fun E' => ?_
  rw [ksk_t1]
  have I1 : Inv X pins σ H { s with heap := PySem.W.copyHeap s.heap its } := I.kept (t' := s.toks) fun b o e => PySem.W.copyHeap_old e
  have fL : FpOk X pins H (s.heap.objs.size + 1) := I.fpOk (Nat.le_succ _) (I.hok.fresh (Nat.le_succ _))
  have ho := PySem.W.copyHeap_at s.heap its
  have ha : s.heap.objs.size + 1 < (PySem.W.copyHeap s.heap its).objs.size := Heap.lt_size ho
  obtain ⟨e1, ho1⟩ : ∃ e1, ((PySem.W.copyHeap s.heap its).update (s.heap.objs.size + 1) (Obj.mapSeq fun _ => (#[] : Array Value))).get? (s.heap.objs.size + 1) = some (seqObj "list" #[] e1) := ⟨_, get?_update_seq ho fun _ => #[]⟩
  have hkS : (((PySem.W.copyHeap s.heap its).update (s.heap.objs.size + 1) (Obj.mapSeq fun _ => (#[] : Array Value))).push (seqObj "tuple" its.toArray 0)).objs.size = (PySem.W.copyHeap s.heap its).objs.size + 1 := by rw [size_push', Heap.size_update]
  have fK : FpOk X pins H (((PySem.W.copyHeap s.heap its).update (s.heap.objs.size + 1) (Obj.mapSeq fun _ => (#[] : Array Value))).push (seqObj "tuple" its.toArray 0)).objs.size :=
    I1.fpOk (by rw [hkS]; exact Nat.le_succ _) (I1.hok.fresh (by rw [hkS]; exact Nat.le_succ _))
  have I2 : Inv X pins σ H { s with heap := PySem.W.sortingHeap (PySem.W.copyHeap s.heap its) (s.heap.objs.size + 1) its } := Inv.turnedL (s := { s with heap := PySem.W.copyHeap s.heap its }) (h' := PySem.W.sortingHeap (PySem.W.copyHeap s.heap its) (s.heap.objs.size + 1) its) (ch := [s.heap.objs.size + 1]) (t' := s.toks) I1 (fun b o hb q => PySem.W.sortingHeap_old (fun z => hb (by simp [z])) q) fun b hb => by
    have e : b = s.heap.objs.size + 1 := by simpa using hb
    rw [e]
    exact fL
  unfold ksk_tree
  refine wpAny_bind (listItems_at ho rfl ?_)
  refine wpAny_bind (listUpdate_at ho rfl ?_ (by rw [List.size_toArray]; exact hZ) (Nat.zero_le _))
  refine wpAny_bind (seqEpoch_at ho1 rfl ?_)
  refine wpAny_bind (wpAny_newTuple ?_ (by show its.length ≤ _; exact hZ))
  refine wpAny_bind (wpAny_newList ?_ (Nat.zero_le _))
  refine wpAny_holding ?_
  refine fold_run (s := { s with heap := PySem.W.sortingHeap (PySem.W.copyHeap s.heap its) (s.heap.objs.size + 1) its }) kf hA I2 fL fK (Heap.get?_push_size _ rfl) (Heap.get?_push_of_some _ (Heap.get?_push_of_some _ ho1)) (by rw [hkS]; exact Nat.ne_of_gt (Nat.lt_succ_of_lt ha)) rv (by rw [hl, lv]) hZ hne p0 turn fun s' H' out c I' p' fa' hD ko => ?_
  have em : (vs.zip ks).map (fun b => kd b.2) = ks.map kd := by
    have : ((vs.zip ks).map Prod.snd).map kd = ks.map kd := by rw [List.map_snd_zip (by omega)]
    rw [← this, List.map_map]
    rfl
  rw [← em] at ko
  have ev := PySem.W.keyedOut_each (fun b : V × List Int => kd b.2) ko (each_zip rv hl)
  rw [lek_data] at ev
  have rv' := vals_each ev
  have hlen : (srtK vs ks).length ≤ sizeLine := by
    unfold srtK
    rw [List.length_map, List.length_mergeSort, List.length_zip]
    omega
  exact ⟨rfl, .ref (s.heap.objs.size + 1), upd H' (s.heap.objs.size + 1) (.lst (srtK vs ks)), I'.take (h' := s'.heap) (t' := s'.toks) (fun b ob _ e => e) fa' ⟨hlen, out, c, rv', hD⟩, rfl, hq _ _ p' fa'.1⟩
end
/-! ### as an operation -/
def tIs : D → Option (List Int)
  | .tup ds => ds.mapM fun d => match d with
    | .int i => some i
    | _ => none
  | _ => none
theorem tIs_some {d : D} {ns : List Int} (h : tIs d = some ns) : d = tI ns := by
  unfold tIs at h
  split at h
  · rename_i ds
    have all : ∀ (ds : List D) (ns : List Int), (ds.mapM fun d => match d with
        | .int i => some i
        | _ => none) = some ns → ds = ns.map D.int := by
      intro ds
      induction ds with
      | nil => intro ns h; simp at h; subst h; rfl
      | cons d ds ih =>
        intro ns h
        rw [List.mapM_cons] at h
        cases d with
        | int i =>
          simp only [Option.bind_eq_bind, Option.bind_some] at h
          obtain ⟨ms, h1, h2⟩ := Option.bind_eq_some_iff.mp h
          cases h2
          rw [List.map_cons, ← ih _ h1]
        | _ => simp at h
    rw [all _ _ h]
    rfl
  · cases h
theorem tIs_tI (ns : List Int) : tIs (tI ns) = some ns := by
  unfold tIs tI
  induction ns with
  | nil => rfl
  | cons n ns ih =>
    simp only [List.map_cons] at ih ⊢
    rw [List.mapM_cons]
    simp only [Option.bind_eq_bind, Option.bind_some]
    rw [ih]
    rfl
/-- the key of a thing by a function -/
def keyOf (f : Fn) (d : D) : Option (List Int) := match oP f [d] [] with
  | .ok e _ => match tIs e with
    | some [] => none
    | o => o
  | _ => none
def oSortK (f : Fn) (ds : List D) (mh : List O) : Res D := match ds with
  | [x] => match lstOf mh x with
    | some es => match es.mapM (keyOf f) with
      | some ks => .ok (.lst (srtK es ks)) mh
      | none => .stuck
    | none => .stuck
  | _ => .stuck
theorem oP_any {f : Fn} {ds : List D} {d : D} {m : List O} (h : oP f ds [] = .ok d m) (mh : List O) : oP f ds mh = .ok d mh := by
  unfold oP at h ⊢
  split
  · rename_i hr
    rw [if_pos hr] at h
    split at h
    · split at h
      · cases h; rfl
      · cases h
    · split at h <;> cases h
    · cases h
  · rename_i hr
    rw [if_neg hr] at h
    cases h
theorem mapM_get {α β : Type} {f : α → Option β} : ∀ {l : List α} {m : List β}, l.mapM f = some m → m.length = l.length ∧ ∀ (i : Nat) (x : α) (y : β), l[i]? = some x → m[i]? = some y → f x = some y
  | [], m, h => by
    simp at h
    subst h
    exact ⟨rfl, fun i x y e => by simp at e⟩
  | a :: l, m, h => by
    rw [List.mapM_cons] at h
    obtain ⟨b, h1, h2⟩ := Option.bind_eq_some_iff.mp h
    obtain ⟨m', h3, h4⟩ := Option.bind_eq_some_iff.mp h2
    cases h4
    obtain ⟨k1, k2⟩ := mapM_get h3
    refine ⟨by simp [k1], fun i x y e1 e2 => ?_⟩
    cases i with
    | zero => simp at e1 e2; subst e1 e2; exact h1
    | succ i => exact k2 i x y (by simpa using e1) (by simpa using e2)
theorem DVs.iff {K : PySem.W.Frag} {mg : Str → Option Value} {F : Addr → Prop} {ι : List Addr} {H : Hp} {α : Type} (f : α → D) (g : α → V) : ∀ {l : List α}, (∀ x ∈ l, DV K mg F ι H (f x) (g x)) → DVs K mg F ι H (l.map f) (l.map g)
  | [], _ => .nil
  | x :: l, h => .cons (h x List.mem_cons_self) (DVs.iff f g fun y hy => h y (List.mem_cons_of_mem _ hy))
theorem dvs_srtK {K : PySem.W.Frag} {mg : Str → Option Value} {F : Addr → Prop} {ι : List Addr} {H : Hp} {ds : List D} {vs : List V} {ks : List (List Int)} (r : DVs K mg F ι H ds vs) (hl : ks.length = ds.length) : DVs K mg F ι H (srtK ds ks) (srtK vs ks) := by
  have hv := r.length
  have e1 : ds.zip ks = ((ds.zip vs).zip ks).map fun t => (t.1.1, t.2) := by
    clear r
    induction ds generalizing vs ks with
    | nil => simp
    | cons d ds ih =>
      cases vs with
      | nil => simp at hv
      | cons v vs =>
        cases ks with
        | nil => simp at hl
        | cons k ks => simp [← ih (by simpa using hl) (by simpa using hv)]
  have e2 : vs.zip ks = ((ds.zip vs).zip ks).map fun t => (t.1.2, t.2) := by
    clear r e1
    induction ds generalizing vs ks with
    | nil =>
      cases vs with
      | nil => simp
      | cons v vs => simp at hv
    | cons d ds ih =>
      cases vs with
      | nil => simp at hv
      | cons v vs =>
        cases ks with
        | nil => simp at hl
        | cons k ks => simp [← ih (by simpa using hl) (by simpa using hv)]
  unfold srtK
  rw [e1, e2, ← List.map_mergeSort (r := lek) (f := fun t : (D × V) × List Int => (t.1.1, t.2)) (fun a _ b _ => rfl), ← List.map_mergeSort (r := lek) (f := fun t : (D × V) × List Int => (t.1.2, t.2)) (fun a _ b _ => rfl), List.map_map, List.map_map]
  refine DVs.iff _ _ fun x hx => ?_
  have hx' := List.mem_mergeSort.mp hx
  obtain ⟨j, hj⟩ := List.mem_iff_getElem?.mp hx'
  obtain ⟨h1, _⟩ := List.getElem?_zip_eq_some.mp hj
  obtain ⟨h2, h3⟩ := List.getElem?_zip_eq_some.mp h1
  obtain ⟨v, q, rd⟩ := r.get h2
  rw [h3] at q
  cases q
  exact rd
/-- keys by f, whose promise is sp -/
theorem vo_sortK {X : Cx} {W : WX} {σ : L2.St} {F : Addr → Prop} {ι : List Addr} {mh : List O} {H : Hp} {f : Fn} {q : Addr} {sp : V → Hp → VK → Prop} {ds : List D} {vs : List V} {Q : VK} {Γ : Hp → Prop} (kf : KFn X q σ sp) (hG : Γ H) (hg : ∀ H1 H2, Γ H1 → Step F ι H1 F ι H2 → Γ H2)
    (hsp : ∀ (H : Hp) (d e : D) (v : V) (Q : VK), Γ H → SR X.K X.mg F ι mh H → DV X.K X.mg F ι H d v → oP f [d] mh = .ok e mh → (∀ H' v', Step F ι H F ι H' → SR X.K X.mg F ι mh H' → DV X.K X.mg F ι H' e v' → Q v' H') → sp v H Q)
    (sr : SR X.K X.mg F ι mh H) (r : DVs X.K X.mg F ι H ds vs) (h : Post X.K X.mg (DR X) W σ F ι H (oSortK f ds mh) Q) : rSortK X σ vs [.ref q] H Q := by
  unfold oSortK at h
  split at h
  · split at h
    · rename_i es e1
      split at h
      · rename_i ks e2
        cases r with
        | cons r1 r2 =>
          cases r2
          obtain ⟨a, xs, rfl, s1, q1⟩ := lstOf_ok sr r1 e1
          obtain ⟨hl, hk⟩ := mapM_get e2
          have key : ∀ (i : Nat) (d : D) (ns : List Int), es[i]? = some d → ks[i]? = some ns → oP f [d] mh = .ok (tI ns) mh ∧ ns ≠ [] := fun i d ns h1 h2 => by
            have z := hk i d ns h1 h2
            unfold keyOf at z
            split at z
            · rename_i e m he
              split at z
              · cases z
              · rename_i hn
                rw [tIs_some z] at he
                exact ⟨oP_any he mh, fun w => hn (by rw [z, w])⟩
            · cases z
          refine ⟨a, q, xs, ks, sp, fun H' => SR X.K X.mg F ι mh H' ∧ Step F ι H F ι H', rfl, rfl, s1, kf, by rw [hl, q1.length], fun k hk => ?_, ⟨sr, Step.refl⟩, fun i v ns hv hn H' hp => ?_, fun p H' hp hn => ?_⟩
          · obtain ⟨i, hi, rfl⟩ := List.mem_iff_getElem.mp hk
            exact (key i es[i] _ (List.getElem?_eq_getElem (by omega)) (List.getElem?_eq_getElem hi)).2
          · obtain ⟨d, hd, rd⟩ := q1.getV hv
            refine hsp H' d (tI ns) v _ (hg _ _ hG hp.2) hp.1 (DV.to sr.sub hp.2 _ _ rd) (key i d ns hd hn).1 fun H2 v2 st2 sr2 r2 => ⟨dv_tI r2, sr2, hp.2.trans st2⟩
          · refine h F ι _ _ (hp.2.trans (step_new hn)) (hp.1.fresh hn) (.lst (.inl ⟨.inl upd_same, hp.1.notNew hn⟩) (DVs.to hp.1.sub (step_new hn) _ _ (dvs_srtK (DVs.to sr.sub hp.2 _ _ q1) (by rw [hl]))))
      · exact h.elim
    · exact h.elim
  · exact h.elim
/-! ### the key is a def of the module -/
section
variable {X : Cx} {W : WX} {k j : Nat} {pos p p2 kpos : Pos} {x y : Str} {f : Fn} {e : Expr}
theorem kfn_def {a : Addr} {fd : FuncData} {ps : List Str} {sp : Sp} {σ : L2.St} (F : FnOk X.prog X.w X.K X.mg X.base (L2.CX X.prog X.w) j a fd ps sp) (b : Binds X.K fd ps []) (hr : Room (j + 2) X.A) : KFn X a σ fun v H Q => sp [v] H Q fun _ _ _ => False := by
  intro pins s H u v Q I r h
  have hl : ([u] : List Value).length = ps.length := F.len _ _ _ _ h
  refine wpAny_call (codeAny_mono (F.run X.A.in1.in1 X.stack s H ⟨[u], []⟩ [u] [v] Q (fun _ _ _ => False) hr.in1.in1 I.env0.in1.in1 (by simpa using b s [u] I.kIn (by simpa using hl)) (.cons r .nil) h) fun r s' hq => ?_)
  cases r with
  | error e =>
    obtain ⟨_, _, _, _, _, _, _, _, _, _, _, _, z⟩ := (show L2.CX X.prog X.w X.stack H s (fun _ _ _ => False) e s' from hq)
    exact z.elim
  | ok fl =>
    cases fl with
    | ret u => exact hq
    | next => exact False.elim hq
    | brk => exact False.elim hq
    | cont => exact False.elim hq
theorem pe_sortK {t tk : TA} {es : List Expr} {kws : List Keyword} (hA : X.A.units + 10 < cLine) (hm : X.mg "sorted" = none) (ha : PA X (e :: es) t) (hk : PK X kws tk) (hg : Gl X "sorted" := by rfl)
    (he : backTo pos (starEach (e :: es) X.env) = (false, eval e X.env) :: backTo pos (starEach es X.env) := by rfl) (hpl : (backTo pos (starEach (e :: es) X.env)).any (·.1) = false := by rfl)
    (hall : (backToKw pos (keywordEach kws X.env)).all (·.1.isSome) = true := by rfl) (hnone : (backToKw pos (keywordEach kws X.env)).any (·.1.isNone) = false := by rfl) (hks : (backToKw pos (keywordEach kws X.env)).filterMap (·.1) = [Str.ofString "key"] := by rfl) :
    PE X (.Call (.Name "sorted" p) (e :: es) kws pos) (fun σ H Q => t σ H fun xs H1 => tk σ H1 fun zs H2 => rSortK X σ xs zs H2 Q) := by
  refine ⟨fun pins s σ H Q I h => ?_⟩
  refine wpAny_Call_Name_kw (ld_blt I hg hm bt_sorted ?_ (by decide) (by decide))
  refine PyProof.Rows.callWith_kw (thn (ha.run pos pins s σ H _ I h) fun us s1 ⟨vs, H1, I1, r1, q1⟩ => thn (hk.run pos pins s1 σ H1 _ I1 q1) fun ws s2 ⟨zs, H2, I2, r2, q2⟩ => ?_) he hpl hall hnone
  rw [hks]
  exact sortK_run hA I2 r1 r2 q2
theorem sp_callP2 {K : PySem.W.Frag} {mg : Str → Option Value} {n : Nat} {F : Addr → Prop} {ι : List Addr} {mh : List O} {H : Hp} {ds : List D} {vs : List V} {e : D} {Q : VK} (hn : vs.length = n) (sr : SR K mg F ι mh H) (r : DVs K mg F ι H ds vs) (he : oP f ds mh = .ok e mh)
    (h : ∀ H' v', Step F ι H F ι H' → SR K mg F ι mh H' → DV K mg F ι H' e v' → Q v' H') : spG K mg n f vs H Q (fun _ _ _ => False) := by
  unfold oP at he
  split at he
  · rename_i hr
    have sr0 : SR K mg F [] [] H := ⟨rfl, List.nodup_nil, fun n o a e => by simp at e, fun a z => by simp at z, sr.old, sr.tabs⟩
    refine ⟨hn, ds, F, [], [], sr0, DVs.own ds _ hr r, ?_⟩
    revert he
    generalize f ds [] = o
    intro he
    cases o with
    | ok d m =>
      intro F' ι' H' b st sr' rb
      dsimp only at he
      split at he
      · rename_i d' e'
        cases he
        obtain ⟨sr2, st2⟩ := sr.own st sr'.tabs
        refine h H' b st2 sr2 (oFz_ok sr' (fun a ha z => ?_) st.up rb e')
        rcases st.inew a ha with q | q
        · simp at q
        · exact sr.old a z q
      · cases he
    | err c es m =>
      dsimp only at he
      split at he <;> cases he
    | stuck => cases he
  · cases he
theorem j_sortK {es : List Expr} {g : CA} (d : Def X.prog X.w X.K X.mg X.base j y 1 f) (c : Cc k X W) (hm : X.mg "sorted" = none) (ha : JA X W (e :: es) g) (hk : j + 2 ≤ k := by omega) (hgy : Gl X y := by rfl) (hg : Gl X "sorted" := by rfl) (hdb : (y == ("__debug__" : Str)) = false := by decide)
    (he : backTo pos (starEach (e :: es) X.env) = (false, eval e X.env) :: backTo pos (starEach es X.env) := by rfl) (hpl : (backTo pos (starEach (e :: es) X.env)).any (·.1) = false := by rfl)
    (hall : (backToKw pos (keywordEach [⟨some "key", .Name y p2, kpos⟩] X.env)).all (·.1.isSome) = true := by rfl) (hnone : (backToKw pos (keywordEach [⟨some "key", .Name y p2, kpos⟩] X.env)).any (·.1.isNone) = false := by rfl) (hks : (backToKw pos (keywordEach [⟨some "key", .Name y p2, kpos⟩] X.env)).filterMap (·.1) = [Str.ofString "key"] := by rfl) :
    JE X W (.Call (.Name "sorted" p) (e :: es) [⟨some "key", .Name y p2, kpos⟩] pos) (cL (oSortK f) g) := by
  obtain ⟨a, fd, ps, m, kp, b, hl, Fn⟩ := d.ex
  obtain ⟨t, pa, q⟩ := ha.ex
  have hA : X.A.units + 10 < cLine := by have := c.hr.units; omega
  refine ⟨_, pe_sortK hA hm pa (pk_cons (pe_glob (v := .ref a) hgy m rfl hdb) pk_nil) hg he hpl hall hnone hks, fun ρ mh F ι σ H Q sr er h => ?_⟩
  refine q ρ mh F ι σ H _ sr er (h.bind.mono fun xs H1 ⟨F1, ι1, d1, m1, st1, sr1, r1, h1⟩ => ?_)
  show rSortK X σ xs [.ref a] H1 Q
  exact vo_sortK (Γ := fun _ => True) (kfn_def Fn b (c.hr.mono hk)) trivial (fun _ _ _ _ => trivial) (fun H d e v Q _ sr rd he hq => sp_callP2 rfl sr (.cons rd .nil) he hq) sr1 r1 h1
end
/-! ### orders by lists of ints, in plain Lean -/
section
variable {α : Type} (k : α → List Int)
def srtL (l : List α) : List α := l.mergeSort fun a b => decide (k a ≤ k b)
theorem srtL_perm (l : List α) : (srtL k l).Perm l := List.mergeSort_perm ..
theorem srtL_pw (l : List α) : (srtL k l).Pairwise fun a b => k a ≤ k b := by
  have h := List.pairwise_mergeSort (le := fun a b => decide (k a ≤ k b)) (fun a b c h1 h2 => decide_eq_true (List.le_trans (of_decide_eq_true h1) (of_decide_eq_true h2))) (fun a b => by
    rcases List.le_total (k a) (k b) with h | h <;> simp [h]) l
  exact h.imp fun h => of_decide_eq_true h
theorem pw_uniqL : ∀ (l m : List α), l.Perm m → l.Pairwise (fun a b => k a ≤ k b) → m.Pairwise (fun a b => k a ≤ k b) → (∀ a ∈ l, ∀ b ∈ l, k a = k b → a = b) → l = m
  | [], m, p, _, _, _ => p.nil_eq
  | x :: xs, [], p, _, _, _ => by simpa using p.length_eq
  | x :: xs, y :: ys, p, h1, h2, inj => by
    rw [List.pairwise_cons] at h1 h2
    have e : x = y := by
      refine inj x List.mem_cons_self y (p.mem_iff.mpr List.mem_cons_self) (List.le_antisymm ?_ ?_)
      · rcases List.mem_cons.mp (p.mem_iff.mpr (List.mem_cons_self (a := y) (l := ys))) with e | e
        · rw [e]; exact List.le_refl _
        · exact h1.1 y e
      · rcases List.mem_cons.mp (p.mem_iff.mp (List.mem_cons_self (a := x) (l := xs))) with e | e
        · rw [e]; exact List.le_refl _
        · exact h2.1 x e
    subst e
    rw [pw_uniqL xs ys ((List.perm_cons x).mp p) h1.2 h2.2 fun a ha b hb => inj a (List.mem_cons_of_mem _ ha) b (List.mem_cons_of_mem _ hb)]
/-- put in behind those that are ahead -/
def insB (lt : α → α → Bool) (x : α) : List α → List α
  | [] => [x]
  | y :: ys => if lt y x = true then y :: insB lt x ys else x :: y :: ys
def ordB (lt : α → α → Bool) (xs : List α) : List α := xs.foldl (fun acc x => insB lt x acc) []
theorem insB_perm (lt : α → α → Bool) (x : α) : ∀ l, (insB lt x l).Perm (x :: l)
  | [] => .refl _
  | y :: ys => by
    unfold insB
    split
    · exact ((insB_perm lt x ys).cons y).trans (.swap x y ys)
    · exact .refl _
theorem insB_pw (lt : α → α → Bool) (x : α) : ∀ l, (∀ y ∈ l, (lt y x = true ↔ k y < k x)) → l.Pairwise (fun a b => k a ≤ k b) → (insB lt x l).Pairwise fun a b => k a ≤ k b
  | [], _, _ => by simp [insB]
  | y :: ys, hl, h => by
    rw [List.pairwise_cons] at h
    unfold insB
    split
    · rename_i hxy
      refine List.pairwise_cons.mpr ⟨fun a ha => ?_, insB_pw lt x ys (fun z hz => hl z (List.mem_cons_of_mem _ hz)) h.2⟩
      rcases List.mem_cons.mp ((insB_perm lt x ys).mem_iff.mp ha) with e | e
      · rw [e]; exact List.le_of_lt ((hl y List.mem_cons_self).mp hxy)
      · exact h.1 a e
    · rename_i hxy
      have hxy' : k x ≤ k y := List.not_lt.mp fun z => hxy ((hl y List.mem_cons_self).mpr z)
      refine List.pairwise_cons.mpr ⟨fun a ha => ?_, List.pairwise_cons.mpr h⟩
      rcases List.mem_cons.mp ha with e | e
      · rw [e]; exact hxy'
      · exact List.le_trans hxy' (h.1 a e)
theorem insB_take (lt : α → α → Bool) (x : α) : ∀ l : List α, insB lt x l = l.take (l.takeWhile fun y => lt y x).length ++ [x] ++ l.drop (l.takeWhile fun y => lt y x).length
  | [] => rfl
  | y :: ys => by
    unfold insB
    by_cases h : lt y x = true
    · rw [if_pos h, List.takeWhile_cons, if_pos h, insB_take lt x ys]
      simp
    · rw [if_neg h, List.takeWhile_cons, if_neg h]
      simp
theorem foldB (lt : α → α → Bool) : ∀ (xs acc : List α), (∀ x ∈ xs, ∀ y ∈ acc, (lt y x = true ↔ k y < k x)) → xs.Pairwise (fun a b => lt a b = true ↔ k a < k b) → acc.Pairwise (fun a b => k a ≤ k b) →
    (xs.foldl (fun acc x => insB lt x acc) acc).Perm (acc ++ xs) ∧ (xs.foldl (fun acc x => insB lt x acc) acc).Pairwise fun a b => k a ≤ k b
  | [], acc, _, _, h => by simpa using h
  | x :: xs, acc, h1, h2, h3 => by
    rw [List.pairwise_cons] at h2
    have p := insB_perm lt x acc
    obtain ⟨q1, q2⟩ := foldB lt xs (insB lt x acc) (fun z hz y hy => by
      rcases List.mem_cons.mp (p.mem_iff.mp hy) with e | e
      · rw [e]; exact h2.1 z hz
      · exact h1 z (List.mem_cons_of_mem _ hz) y e) h2.2 (insB_pw k lt x acc (h1 x List.mem_cons_self) h3)
    refine ⟨q1.trans ?_, q2⟩
    exact (p.append_right xs).trans (List.perm_middle.symm)
/-- .. one by one, gives the order by the keys -/
theorem ordB_eq (lt : α → α → Bool) {xs : List α} (h : xs.Pairwise fun a b => lt a b = true ↔ k a < k b) (inj : ∀ a ∈ xs, ∀ b ∈ xs, k a = k b → a = b) : ordB lt xs = srtL k xs := by
  obtain ⟨p, q⟩ := foldB k lt xs [] (fun x _ y hy => by simp at hy) h .nil
  rw [List.nil_append] at p
  exact pw_uniqL k _ _ (p.trans (srtL_perm k xs).symm) q (srtL_pw k xs) fun a ha b hb => inj a (p.mem_iff.mp ha) b (p.mem_iff.mp hb)
theorem ordB_perm (lt : α → α → Bool) (xs : List α) : (ordB lt xs).Perm xs := by
  have all : ∀ (xs acc : List α), (xs.foldl (fun acc x => insB lt x acc) acc).Perm (acc ++ xs) := by
    intro xs
    induction xs with
    | nil => intro acc; simp
    | cons x xs ih => intro acc; exact (ih _).trans (((insB_perm lt x acc).append_right xs).trans List.perm_middle.symm)
  show (xs.foldl (fun acc x => insB lt x acc) []).Perm xs
  simpa using all xs []
end
/-- sorted(.., key=f) of things whose keys are known -/
theorem sortK_eq {α : Type} {f : Fn} {h : α → D} {g : α → List Int} {x : D} {xs : List α} {mh : List O} (hx : lstOf mh x = some (xs.map h)) (hr : ∀ a ∈ xs, noRef (h a) = true) (hg : ∀ a ∈ xs, g a ≠ []) (hf : ∀ a ∈ xs, f [h a] [] = .ok (tI (g a)) []) :
    oSortK f [x] mh = .ok (.lst ((srtL g xs).map h)) mh := by
  have key : ∀ a ∈ xs, keyOf f (h a) = some (g a) := fun a ha => by
    have e : oP f [h a] [] = .ok (tI (g a)) [] := by
      unfold oP
      rw [if_pos (by unfold noRefs; rw [hr a ha]; rfl), hf a ha]
      rfl
    unfold keyOf
    rw [e]
    dsimp only
    rw [tIs_tI]
    cases q : g a with
    | nil => exact absurd q (hg a ha)
    | cons y ys => rfl
  have m : ∀ l : List α, (∀ a ∈ l, keyOf f (h a) = some (g a)) → (l.map h).mapM (keyOf f) = some (l.map g) := by
    intro l
    induction l with
    | nil => intro _; rfl
    | cons a l ih =>
      intro hl
      rw [List.map_cons, List.mapM_cons, hl a List.mem_cons_self, ih fun b hb => hl b (List.mem_cons_of_mem _ hb)]
      rfl
  unfold oSortK
  dsimp only
  rw [hx]
  dsimp only
  rw [m xs key]
  dsimp only
  congr 2
  unfold srtK
  have z : (xs.map h).zip (xs.map g) = xs.map fun a => (h a, g a) := by rw [List.zip_map']
  rw [z, ← List.map_mergeSort (r := fun a b => decide (g a ≤ g b)) (s := lek) (f := fun a => (h a, g a)) (fun a _ b _ => rfl), List.map_map]
  rfl
end G

/-! Part HA: sorted(xs, key=lambda p: f(p, t)), f a def of the module, t a variable of the def that holds it. -/
namespace G
open PySem PySem.Spec PyProof.Rows L2
theorem lamO_at {P : Program} {w : World} {H : Hp} {h : Heap} {f : Addr} {ob : Obj} (hok : HOk P w H h) (e : H f = some (LamO f ob)) : h.get? f = some ob := (hok f _ e).1
section
variable {X : Cx} {pins : List (Addr × Obj)} {σ : L2.St} {H : Hp} {s : Shared}
theorem laid_lam {ob : Obj} {t' : Nat} (I : Inv X pins σ H s) (hz : ob.isFreed = false := by rfl) : Inv X pins σ (upd H s.heap.objs.size (LamO s.heap.objs.size ob)) { s with heap := s.heap.push ob, toks := t' } := by
  have e : (s.heap.push ob).get? s.heap.objs.size = some ob := Heap.get?_push_size _ hz
  exact I.laid (a := s.heap.objs.size) (fun b u q => Heap.get?_push_of_some _ q) (Nat.le_refl _) ⟨e, ⟨_, e⟩, fun h1 h2 z st => st _ z⟩
/-- the lambda is made -/
theorem lam_mk {c P : Addr} {params : Arguments} {body : Expr} {scope : Scope} {pos : Pos} {q : Str} {E : Value → Shared → Prop} {Q : Value → Shared → Prop} (I : Inv X pins σ H s) (TB : LamX.TabB X.base X.mg c P) (hcode : X.env.code = .ref c) (hq : q = X.env.qual ++ "<lambda>")
    (hT : LamX.TabS H P q) (hdef : defaultsOf params X.env = ([], [])) (hfree : ∀ y ∈ scope.names, y.2 = .free → ∃ c, X.env.cells.lookup y.1 = some c)
    (h : ∀ (f c' : Addr) (pm ctv : Value) (H1 : Hp) (s' : Shared), Inv X pins σ H1 s' → (∀ b o, b ≠ P → H b = some o → H1 b = some o) → LamX.TabS H1 P q → H f = none →
      H1 f = some (LamO f (lamObj q params body scope (cloFrom X.env.cells scope.names []) pm c' ctv)) → H1 c' = some (LamX.CodeO c' q) → Q (.ref f) s') :
    wpAny (model X.prog X.w) X.A (eval (.Lambda params body scope pos) X.env) Q E s := by
  subst hq
  obtain ⟨ps, hP, ht, ha⟩ := hT
  have tabAt : s.heap.get? P = some { cls := .none, data := .fields ps } := I.hok P _ hP
  refine PySem.W.kla_eval hdef ?_
  cases hc : codeAmong pos ps.toList with
  | some cv =>
    obtain ⟨c', rfl, hco⟩ := ha pos cv hc
    refine PySem.W.kla_makeFunctionHit (mg := X.mg) (c := c) (P := P) (ps := ps) (closure_ok hfree) I.ok.glob (I.mod.glob.keeps I.bk) hcode (TB.code.keeps I.bk) tabAt ht hc (TB.bm.keeps I.bk) fun ctv h' tk hx _ => ?_
    have J : Inv X pins σ H { s with heap := h', toks := tk } := I.kept hx
    have nF : H h'.objs.size = none := J.hok.fresh (Nat.le_refl _)
    have k : ∀ {b : Addr} {o o2 : HO}, H b = some o → upd H h'.objs.size o2 b = some o := fun e => by rw [upd_ne (ne_of_none e nF)]; exact e
    exact h h'.objs.size c' ((X.mg "__name__").getD .none) ctv _ _ (laid_lam (t' := tk) J) (fun b o _ e => k e) (LamX.TabS.ext ⟨ps, hP, ht, ha⟩ fun b o e => k e) nF upd_same (k hco)
  | none =>
    refine PySem.W.kla_makeFunction (mg := X.mg) (c := c) (P := P) (ps := ps) (closure_ok hfree) I.ok.glob (I.mod.glob.keeps I.bk) hcode (TB.code.keeps I.bk) tabAt ht hc TB.gP (TB.bm.keeps I.bk) fun c' ctv h' tk hx hge hlt hrec htb => ?_
    obtain ⟨c2, oc, vs, t, e2, hoc, hd, hv⟩ := hrec
    cases e2
    have nC : H c' = none := I.hok.fresh hge
    have J := LamX.inv_table (t' := tk) (q := X.env.qual ++ "<lambda>") (more := #[rawInt pos.line, rawInt pos.col, .ref c']) (h' := h') I hP (fun b o hb e => hx b o hb e) htb hge ⟨oc, vs, t, hoc, hd, hv⟩
    generalize hH : upd (upd H P (.tbl (ps ++ #[rawInt pos.line, rawInt pos.col, .ref c']))) c' (LamX.CodeO c' (X.env.qual ++ "<lambda>")) = H2 at J
    have nF : H2 h'.objs.size = none := J.hok.fresh (Nat.le_refl _)
    have k2 : ∀ {b : Addr} {o : HO}, b ≠ P → H b = some o → H2 b = some o := fun {b o} hb e => by rw [← hH, upd_ne (ne_of_none e nC), upd_ne hb]; exact e
    have c2 : H2 c' = some (LamX.CodeO c' (X.env.qual ++ "<lambda>")) := by rw [← hH]; exact upd_same
    have p2 : H2 P = some (.tbl (ps ++ #[rawInt pos.line, rawInt pos.col, .ref c'])) := by rw [← hH, upd_ne (ne_of_none hP nC)]; exact upd_same
    have k : ∀ {b : Addr} {o o2 : HO}, H2 b = some o → upd H2 h'.objs.size o2 b = some o := fun e => by rw [upd_ne (ne_of_none e nF)]; exact e
    have T2 : LamX.TabS H2 P (X.env.qual ++ "<lambda>") := by
      have eL : (ps ++ #[rawInt pos.line, rawInt pos.col, .ref c']).toList = ps.toList ++ [rawInt pos.line, rawInt pos.col, .ref c'] := by simp
      refine ⟨_, p2, by rw [eL]; exact PySem.TriplesOk_snoc _ _ _ _ ht, fun p' cv hcv => ?_⟩
      rw [eL] at hcv
      rcases LamX.among_app _ ht hcv with z | z
      · obtain ⟨c0, e1, e3⟩ := ha p' cv z
        exact ⟨c0, e1, k2 (fun w => by rw [w, hP] at e3; exact LamX.codeO_ne ps (Option.some.inj e3).symm) e3⟩
      · exact ⟨c', z, c2⟩
    refine h h'.objs.size c' ((X.mg "__name__").getD .none) ctv _ _ (laid_lam (t' := tk) J) (fun b o hb e => k (k2 hb e)) (T2.ext fun b o e => k e) (I.hok.fresh (Nat.le_trans hge (Nat.le_of_lt hlt))) upd_same (k c2)
end
/-- the reading of a lambda -/
def tLam (P : Addr) (q : Str) (ob : Addr → Value → Value → Obj) : TE := fun _ H Q => LamX.TabS H P q ∧ ∀ (f c' : Addr) (pm ctv : Value) (H1 : Hp), (∀ b o, b ≠ P → H b = some o → H1 b = some o) → LamX.TabS H1 P q → H f = none → H1 f = some (LamO f (ob c' pm ctv)) → H1 c' = some (LamX.CodeO c' q) → Q (.ref f) H1
theorem pe_lam {X : Cx} {c P : Addr} {params : Arguments} {body : Expr} {scope : Scope} {pos : Pos} {q : Str} (TB : LamX.TabB X.base X.mg c P) (hcode : X.env.code = .ref c) (hq : q = X.env.qual ++ "<lambda>") (hdef : defaultsOf params X.env = ([], []))
    (hfree : ∀ y ∈ scope.names, y.2 = .free → X.env.scope.names.lookup y.1 = some .cell ∨ X.env.scope.names.lookup y.1 = some .free) :
    PE X (.Lambda params body scope pos) (tLam P q fun c' pm ctv => lamObj q params body scope (cloFrom X.env.cells scope.names []) pm c' ctv) := by
  refine ⟨fun pins s σ H Q I h => ?_⟩
  obtain ⟨hT, h⟩ := h
  exact lam_mk I TB hcode hq hT hdef (fun y hy e => (hfree y hy e).elim (fun z => I.ok.has _ (.inl z)) fun z => I.ok.has _ (.inr z)) fun f c' pm ctv H1 s' I1 k t f0 f1 c1 => ⟨.ref f, H1, I1, rfl, h f c' pm ctv H1 k t f0 f1 c1⟩
/-- the words of the lambda, as its frame sees them -/
abbrev lamNF (q : Str) (params : Arguments) (scope : Scope) (cl : List (Str × Addr)) (c' : Addr) : NdefX.NF := ⟨"<lambda>", q, params, [], scope, cl, c'⟩
abbrev lamY (X : Cx) (x t q : Str) (params : Arguments) (scope : Scope) (cl : List (Str × Addr)) (c' f : Addr) (s : Shared) (H : Hp) : Cx :=
  NdefX.ncx (L2.CX X.prog X.w) X.prog X.w X.K X.mg X.base [x, t] (lamNF q params scope cl c') f X.A.in1.in1 X.stack s H fun _ _ _ => False
/-- a call of the lambda -/
theorem kfn_lam {X : Cx} {σ : L2.St} {f c' a : Addr} {q x t fn : Str} {params : Arguments} {scope : Scope} {p1 p2 p3 p4 : Pos} {pm ctv : Value} {i j : Nat} {fd : FuncData} {ps : List Str} {sp : Sp}
    (F : FnOk X.prog X.w X.K X.mg X.base (L2.CX X.prog X.w) j a fd ps sp) (b : Binds X.K fd ps []) (m : X.mg fn = some (.ref a)) (kp : PySem.W.keepIn X.K (.ref a) = true) (hr : Room (j + 3) X.A)
    (S : NdefX.NScope [x, t] [x] [t] scope) (hfree : ∀ y ∈ scope.names, y.2 = .free → X.env.scope.names.lookup y.1 = some .cell ∨ X.env.scope.names.lookup y.1 = some .free) (hfr : (t, NameKind.free) ∈ scope.names) (hN : X.N[i]? = some t)
    (hb : ∀ (cl : List (Str × Addr)) (c' : Addr) (pm ctv : Value) (u : Value), bindArgs (PySem.W.kla_fn "<lambda>" q params (.Call (.Name fn p1) [.Name x p2, .Name t p3] [] p4) scope cl pm (.ref c') ctv) ⟨[u], []⟩ = pure [(x, u)])
    (hgl : scope.names.lookup fn = some .globalImplicit) (hl : scope.names.lookup x = some .local) (hf : scope.names.lookup t = some .free)
    (hd : (fn == ("__debug__" : Str)) = false ∧ (x == ("__debug__" : Str)) = false ∧ (t == ("__debug__" : Str)) = false ∧ (x == ("__classdict__" : Str)) = false ∧ (t == ("__classdict__" : Str)) = false := by decide) :
    KFn X f σ fun v H Q => ∃ tv, σ[i]? = some (some tv) ∧ H f = some (LamO f (lamObj q params (.Call (.Name fn p1) [.Name x p2, .Name t p3] [] p4) scope (cloFrom X.env.cells scope.names []) pm c' ctv)) ∧ H c' = some (LamX.CodeO c' q) ∧ sp [v, tv] H Q fun _ _ _ => False := by
  intro pins s H u v Q I r h
  obtain ⟨tv, hs, hO, hC, hsp⟩ := h
  have of1 := lamO_at I.hok hO
  obtain ⟨⟨oc, vs, t0, hoc, hdc, hvc⟩, _, _⟩ := I.hok c' _ hC
  have e0 : Env0 X.prog X.w X.K X.mg X.base X.A.in1.in1 X.stack s H := I.env0.in1.in1
  have hr2 : Room (j + 1) X.A.in1.in1 := hr.in1.in1
  have C : NdefX.CellsAt (cloFrom X.env.cells scope.names []) [t] ([i].map (NdefX.slotAt σ)) s.heap H := NdefX.cells_of I (NdefX.Caps.made I.ok hfree (fun y hy => by rw [List.mem_singleton.mp hy]; exact hfr) (by simp [hN]))
  have rc : codeAny (model X.prog X.w) X.A.in1.in1 (.call (.ref f) ⟨[u], []⟩) (CR (L2.CX X.prog X.w) X.stack X.prog X.w H s Q fun _ _ _ => False) s := by
   refine PySem.W.kla_callFunE hr2.depth of1 rfl S.co S.gen rfl ⟨c', oc, vs, t0, rfl, hoc, hdc, hvc⟩ ?_
   rw [hb]
   refine wpAny_pure (wpAny_newFunctionEnv S.nocell (fun y hy => by rw [List.mem_singleton.mp hy]; exact hl) (fun h₁ hns hsb => ⟨I.nolimit.fresh _ hsb, ?_⟩) S.kind)
   have kpp : ∀ b o, s.heap.get? b = some o → h₁.get? b = some o := fun b o e => hsb.extBut b o (Nat.ne_of_lt (Heap.lt_size e)) (Heap.get?_push_of_some _ e)
   have J : Inv (lamY X x t q params scope (cloFrom X.env.cells scope.names []) c' f s H) [] (NdefX.startF [x, t] [v] ([i].map (NdefX.slotAt σ))) H { s with heap := h₁, toks := s.toks + 1 } :=
     NdefX.inv_startN S hr2.hd e0 rfl (.cons r .nil) C hns kpp
   have sl : NdefX.slotAt σ i = some tv := NdefX.slotAt_of hs
   have st : NdefX.startF [x, t] [v] ([i].map (NdefX.slotAt σ)) = [some v, some tv] := by
     unfold NdefX.startF
     simp [sl]
   rw [st] at J
   have P0 : PE (lamY X x t q params scope (cloFrom X.env.cells scope.names []) c' f s H) (.Name x p2) (tVar 0) := pe_var rfl (.inl hl) hd.2.1 hd.2.2.2.1
   have P1 : PE (lamY X x t q params scope (cloFrom X.env.cells scope.names []) c' f s H) (.Name t p3) (tVar 1) := pe_var rfl (.inr (.inr hf)) hd.2.2.1 hd.2.2.2.2
   have PC := pe_call (X := lamY X x t q params scope (cloFrom X.env.cells scope.names []) c' f s H) (E := fun _ _ _ => False) (p := p1) (pos := p4) (x := fn) (dvs := []) F (hr2.deeper _) hgl m kp b .nil (fun pins σ H s e s' _ z => by
     obtain ⟨_, _, _, _, _, _, _, _, _, _, _, _, z⟩ := z
     exact z.elim) (pa_cons P0 (pa_cons P1 pa_nil)) hd.1
   refine PySem.W.kla_codeExpr (wpAny_mono (PC.run [] _ _ H Q J ⟨v, rfl, tv, rfl, hsp⟩) (fun w s' hq => ?_) fun e s' hq => ?_)
   · obtain ⟨w', H', J', rv, qq⟩ := hq
     exact ⟨w', H', J'.os, J'.bare, J'.base, J'.hok, rv, qq⟩
   · exact hq
  refine wpAny_call (codeAny_mono rc fun r s' hq => ?_)
  cases r with
  | error e =>
    obtain ⟨_, _, _, _, _, _, _, _, _, _, _, _, z⟩ := (show L2.CX X.prog X.w X.stack H s (fun _ _ _ => False) e s' from hq)
    exact z.elim
  | ok fl =>
    cases fl with
    | ret u => exact hq
    | next => exact False.elim hq
    | brk => exact False.elim hq
    | cont => exact False.elim hq
/-! ### as a rule -/
theorem lam_step {K : PySem.W.Frag} {mg : Str → Option Value} {F : Addr → Prop} {ι : List Addr} {mh : List O} {H H1 : Hp} {P : Addr} {q : Str} (sr : SR K mg F ι mh H) (hP : LamX.TabS H P q) (k : ∀ b o, b ≠ P → H b = some o → H1 b = some o) (t : LamX.TabS H1 P q)
    (hu : ∀ q', (P, q') ∈ lamTabs K → q' = q) : SR K mg F ι mh H1 ∧ Step F ι H F ι H1 := by
  obtain ⟨ps, hp, _, _⟩ := hP
  obtain ⟨ps1, hp1, _, _⟩ := id t
  have nP : ∀ {b : Addr} {o : HO}, H b = some o → (∀ ps, o ≠ .tbl ps) → b ≠ P := fun {b o} e nt z => by rw [z, hp] at e; exact nt ps (Option.some.inj e).symm
  have live : ∀ a o, H a = some o → ∃ o', H1 a = some o' := fun a o e => by
    by_cases ha : a = P
    · exact ⟨_, by rw [ha]; exact hp1⟩
    · exact ⟨o, k a o ha e⟩
  have st : Step F ι H F ι H1 := ⟨List.prefix_refl _, fun _ h => h, fun _ h => .inl h, fun _ h => .inl h, fun a o h _ nt => k a o (nP h nt) h, fun a vs h => by
    rcases h with h | ⟨ob, h⟩
    · exact .inl (k _ _ (nP h fun _ z => nomatch z) h)
    · exact .inr ⟨ob, k _ _ (nP h fun _ z => nomatch z) h⟩, live⟩
  refine ⟨⟨sr.len, sr.nd, fun n o a e1 e2 => ?_, sr.sub, fun a h => ?_, fun p hpm => ?_⟩, st⟩
  · cases sr.ob n o a e1 e2 with
    | lst h r => exact .lst (k _ _ (nP h fun _ z => nomatch z) h) (DVs.to sr.sub st _ _ r)
    | dic h e r => exact .dic (k _ _ (nP h fun _ z => nomatch z) h) e (DVs.to sr.sub st _ _ r)
    | dct h e r => exact .dct (k _ _ (nP h fun _ z => nomatch z) h) e (DVs.to sr.sub st _ _ r)
    | ins h m e r => exact .ins (k _ _ (nP h fun _ z => nomatch z) h) m e (DVs.to sr.sub st _ _ r)
  · cases e : H a with
    | none => exact absurd e (sr.old a h)
    | some u =>
      obtain ⟨o', z⟩ := live a u e
      rw [z]
      exact fun z => nomatch z
  · obtain ⟨P', q'⟩ := p
    by_cases hb : P' = P
    · subst hb
      rw [show q' = q from hu q' hpm]
      exact t
    · obtain ⟨ps', a1, a2, a3⟩ := sr.tabs _ hpm
      refine ⟨ps', k _ _ hb a1, a2, fun pos cv hc => ?_⟩
      obtain ⟨c0, e1, e2⟩ := a3 pos cv hc
      exact ⟨c0, e1, k _ _ (nP e2 fun ps => LamX.codeO_ne ps) e2⟩
/-- a def that holds a lambda: its code object and its table -/
structure LamH (X : Cx) (c P : Addr) : Prop where
  tb : LamX.TabB X.base X.mg c P
  code : X.env.code = .ref c
  mem : (P, X.env.qual ++ "<lambda>") ∈ lamTabs X.K
  one : ∀ q', (P, q') ∈ lamTabs X.K → q' = X.env.qual ++ "<lambda>"
def lamF (f : Fn) (tv : D) : Fn := fun xs m => if noRef tv = true then f (xs ++ [tv]) m else .stuck
theorem oP_lam {f : Fn} {d tv e : D} {mh m : List O} (h : oP (lamF f tv) [d] mh = .ok e m) : oP f [d, tv] mh = .ok e m := by
  unfold oP at h ⊢
  split at h
  · rename_i hr
    by_cases ht : noRef tv = true
    · have hr2 : noRefs [d, tv] = true := by
        unfold noRefs at hr ⊢
        rw [Bool.and_eq_true] at hr ⊢
        refine ⟨hr.1, ?_⟩
        unfold noRefs
        rw [ht]
        rfl
      rw [if_pos hr2]
      unfold lamF at h
      rw [if_pos ht] at h
      exact h
    · unfold lamF at h
      rw [if_neg ht] at h
      cases h
  · cases h
/-- sorted(.., key=lambda x: f(x, t)), t the i-th name -/
def cSortL (f : Fn) (i : Nat) (g : CA) : CE := fun ρ mh => (g ρ mh).bind fun ds m => (cVar i ρ m).bind fun tv m' => oSortK (lamF f tv) ds m'
section
variable {X : Cx} {W : WX} {k j : Nat} {pos p p1 p2 p3 p4 p5 kpos : Pos} {x t fn : Str} {f : Fn} {e : Expr} {es : List Expr} {g : CA} {params : Arguments} {scope : Scope} {i : Nat}
theorem j_sortLam (d : Def X.prog X.w X.K X.mg X.base j fn 2 f) (c : Cc k X W) (hm : X.mg "sorted" = none) (lh : ∃ c P, LamH X c P) (ha : JA X W (e :: es) g) (S : NdefX.NScope [x, t] [x] [t] scope)
    (hfr : (t, NameKind.free) ∈ scope.names) (hgl : scope.names.lookup fn = some .globalImplicit) (hl : scope.names.lookup x = some .local) (hf : scope.names.lookup t = some .free)
    (hb : ∀ (q : Str) (cl : List (Str × Addr)) (c' : Addr) (pm ctv : Value) (u : Value), bindArgs (PySem.W.kla_fn "<lambda>" q params (.Call (.Name fn p1) [.Name x p2, .Name t p3] [] p4) scope cl pm (.ref c') ctv) ⟨[u], []⟩ = pure [(x, u)])
    {sc : Scope} (hfree : ∀ y ∈ scope.names, y.2 = .free → sc.names.lookup y.1 = some .cell ∨ sc.names.lookup y.1 = some .free) (hsc : X.env.scope = sc := by rfl) (hdef : defaultsOf params X.env = ([], []) := by rfl) (hN : X.N[i]? = some t := by rfl) (hk : j + 3 ≤ k := by omega) (hg : Gl X "sorted" := by rfl)
    (hd : (fn == ("__debug__" : Str)) = false ∧ (x == ("__debug__" : Str)) = false ∧ (t == ("__debug__" : Str)) = false ∧ (x == ("__classdict__" : Str)) = false ∧ (t == ("__classdict__" : Str)) = false := by decide)
    (he : backTo pos (starEach (e :: es) X.env) = (false, eval e X.env) :: backTo pos (starEach es X.env) := by rfl) (hpl : (backTo pos (starEach (e :: es) X.env)).any (·.1) = false := by rfl)
    (hall : (backToKw pos (keywordEach [⟨some "key", .Lambda params (.Call (.Name fn p1) [.Name x p2, .Name t p3] [] p4) scope p5, kpos⟩] X.env)).all (·.1.isSome) = true := by rfl) (hnone : (backToKw pos (keywordEach [⟨some "key", .Lambda params (.Call (.Name fn p1) [.Name x p2, .Name t p3] [] p4) scope p5, kpos⟩] X.env)).any (·.1.isNone) = false := by rfl)
    (hks : (backToKw pos (keywordEach [⟨some "key", .Lambda params (.Call (.Name fn p1) [.Name x p2, .Name t p3] [] p4) scope p5, kpos⟩] X.env)).filterMap (·.1) = [Str.ofString "key"] := by rfl) :
    JE X W (.Call (.Name "sorted" p) (e :: es) [⟨some "key", .Lambda params (.Call (.Name fn p1) [.Name x p2, .Name t p3] [] p4) scope p5, kpos⟩] pos) (cSortL f i g) := by
  subst hsc
  obtain ⟨co, P, LH⟩ := lh
  obtain ⟨a, fd, ps, m, kp, b, hlp, Fn⟩ := d.ex
  obtain ⟨ta, pa, q⟩ := ha.ex
  have hA : X.A.units + 10 < cLine := by have := c.hr.units; omega
  refine ⟨_, pe_sortK hA hm pa (pk_cons (pe_lam (pos := p5) LH.tb LH.code rfl hdef hfree) pk_nil) hg he hpl hall hnone hks, fun ρ mh F ι σ H Q sr er h => ?_⟩
  unfold cSortL at h
  refine q ρ mh F ι σ H _ sr er (h.bind.mono fun xs H1 ⟨F1, ι1, d1, m1, st1, sr1, r1, h1⟩ => ?_)
  refine ⟨sr1.tabs _ LH.mem, fun fa c' pm ctv H2 kk tab f0 f1 c1 => ?_⟩
  show rSortK X σ xs [.ref fa] H2 Q
  obtain ⟨sr2, st2⟩ := lam_step sr1 (sr1.tabs _ LH.mem) kk tab LH.one
  have er2 := (er.to sr.sub st1).to sr1.sub st2
  have h2 := Post.at h1 st2
  unfold cVar at h2
  split at h2
  · rename_i dt hρ
    obtain ⟨tv, hs, rt⟩ := er2.2 i dt hρ
    have h3 : Post X.K X.mg (DR X) W σ F1 ι1 H2 (oSortK (lamF f dt) d1 m1) Q := h2
    have nf : fa ∉ ι1 := fun z => sr1.old fa (sr1.sub fa z) f0
    have nc : c' ∉ ι1 := fun z => by
      obtain ⟨n, hn⟩ := List.mem_iff_getElem?.mp z
      have hlt := (List.getElem?_eq_some_iff.mp hn).1
      rw [sr2.len] at hlt
      have ho := sr2.ob n _ c' (List.getElem?_eq_getElem hlt) hn
      generalize m1[n] = ob at ho
      unfold LamX.CodeO at c1
      cases ho with
      | lst h _ => rw [h] at c1; cases c1
      | dic h _ _ => rw [h] at c1; cases c1
      | dct h _ _ => rw [h] at c1; cases c1
      | ins h _ _ _ => rw [h] at c1; cases c1
    have kf := kfn_lam (X := X) (σ := σ) (f := fa) (c' := c') (pm := pm) (ctv := ctv) (p1 := p1) (p2 := p2) (p3 := p3) (p4 := p4) (q := X.env.qual ++ "<lambda>") (params := params) Fn b m kp (c.hr.mono hk) S hfree hfr hN (hb _) hgl hl hf hd
    refine vo_sortK (Γ := fun H' => Step F1 ι1 H2 F1 ι1 H') kf Step.refl (fun _ _ s1 s2 => s1.trans s2) (fun H' d0 e0 v Q' hG srx rd heq hq => ?_) sr2 (DVs.to sr1.sub st2 _ _ r1) h3
    refine ⟨tv, hs, hG.keep _ _ f1 nf (fun ps z => by unfold LamO at z; cases z), hG.keep _ _ c1 nc (fun ps => LamX.codeO_ne ps), ?_⟩
    exact sp_callP2 rfl srx (.cons rd (.cons (DV.to sr2.sub hG _ _ rt) .nil)) (oP_lam heq) hq
  · exact h2.elim
end
/-- a def that holds a lambda, by its body -/
theorem fn_okL {P : Program} {w : World} {K : PySem.W.Frag} {mg : Str → Option Value} {base : Heap} {x : Str} {st : Stmt} {f c tb : Addr} {fd : FuncData} {N ps : List Str} {k : Nat} (Fu : Fun K x x st f fd) (a : PySem.W.nsIn K mainGlobals x = some (some (.ref f))) (ht : tabOf K x = some (c, tb)) (hx : x ∈ lamDefs) (TB : TabBs K base mg)
    (one : ∀ y c', y ∈ lamDefs → tabOf K y = some (c', tb) → y = x) (S : FnScope N ps (defScope st)) {b : CS}
    (hb : ∀ (cdv : Value) (A : Around) (outer : List Env) (s : Shared) (H : Hp) (E : XK), Cc k (cxG P w K mg base N x st f cdv A outer s H E) (WD E) → (∃ c P', LamH (cxG P w K mg base N x st f cdv A outer s H E) c P') → JSs (cxG P w K mg base N x st f cdv A outer s H E) (WD E) (defBody st) b) :
    FnOk P w K mg base (L2.CX P w) (k + 1) f fd ps (spG K mg ps.length (defn N.length ps.length b)) := by
  obtain ⟨f', oc, od, fd', sl, e, dd, vs, sl', h1, h2, h3, h4, h5⟩ := tabOf_some ht
  rw [a] at h1
  cases h1
  have hcode : fd.code = .ref c := by
    obtain ⟨_, _, _, _, _, _, _, _, _, hfd, lk, _⟩ := Fu.ex
    rw [h2] at lk
    cases lk
    exact h3
  have Fu2 : ∃ oc od kV doc pm an ct osl, fd = PySem.W.fnOf x x (defArgs st) (defBody st) (defScope st) .none kV doc pm an (.ref c) ct ∧ K.lookup f = some ⟨oc, od, .func fd, osl⟩ ∧ PySem.W.codeIn K (.ref c) x = true := by
    obtain ⟨oc, od, kV, doc, pm, an, cdv, ct, osl, hfd, lk, hc⟩ := Fu.ex
    have hz : cdv = .ref c := by rw [hfd] at hcode; exact hcode
    subst hz
    exact ⟨oc, od, kV, doc, pm, an, ct, osl, hfd, lk, hc⟩
  obtain ⟨oc, od, kV, doc, pm, an, ct, osl, rfl, lk, hcd⟩ := Fu2
  refine fn_of lk hcd S (fun vs H Q E h => h.1) fun A outer s H vs Q E hr h => ?_
  obtain ⟨hl, ds, F, ι, mh, sr, r, h⟩ := h
  have cc : Cc k (cxG P w K mg base N x st f (.ref c) A outer s H E) (WD E) := ⟨rfl, S.nd, takes_of rfl rfl rfl rfl, hr, passes_of rfl⟩
  have LH : LamH (cxG P w K mg base N x st f (.ref c) A outer s H E) c tb := ⟨TB x c tb hx ht, rfl, List.mem_filterMap.mpr ⟨x, hx, by show Option.map _ (tabOf K x) = _; rw [ht]; rfl⟩, fun q' hq => by
    obtain ⟨y, hy, hz⟩ := List.mem_filterMap.mp hq
    obtain ⟨⟨cy, py⟩, hy2, hy3⟩ := Option.map_eq_some_iff.mp hz
    have e1 : py = tb := congrArg Prod.fst hy3
    have e2 : y ++ ".<locals>." ++ "<lambda>" = q' := congrArg Prod.snd hy3
    rw [e1] at hy2
    rw [← e2, one y cy hy hy2]
    rfl⟩
  obtain ⟨t, p, q⟩ := (hb (.ref c) A outer s H E cc ⟨c, tb, LH⟩).ex
  refine ⟨t, p, q _ mh F ι _ H _ sr (er_start r hl) ?_⟩
  unfold defn at h
  revert h
  generalize b (ds.map some ++ List.replicate (N.length - ps.length) none) mh = o
  intro h
  cases o with
  | nx ρ m => exact fun F' ι' H' σ' s x _ => h F' ι' H' .non s x .non
  | rt d m => exact h
  | err c es ρ m => exact fun F' ι' H' cls dx σ' s x _ z => h F' ι' H' cls dx s x z
  | bk ρ m => exact h.elim
  | ct ρ m => exact h.elim
  | stuck => exact h.elim
/-! ### list.index of an int -/
def dInts : List D → Option (List Int)
  | [] => some []
  | .int i :: ds => (dInts ds).map (i :: ·)
  | _ => none
theorem dInts_some : ∀ {ds : List D} {ns : List Int}, dInts ds = some ns → ds = ns.map D.int
  | [], ns, h => by cases h; rfl
  | d :: ds, ns, h => by
    cases d with
    | int i =>
      obtain ⟨ms, h1, rfl⟩ := Option.map_eq_some_iff.mp (show (dInts ds).map (i :: ·) = some ns from h)
      rw [dInts_some h1]
      rfl
    | _ => exact nomatch (show (none : Option (List Int)) = some ns from h)
theorem dInts_map : ∀ ns : List Int, dInts (ns.map D.int) = some ns
  | [] => rfl
  | n :: ns => by
    show (dInts (ns.map D.int)).map (n :: ·) = _
    rw [dInts_map ns]
    rfl
def ixI (i : Int) : List Int → Option Nat
  | [] => none
  | x :: xs => if x = i then some 0 else (ixI i xs).map (· + 1)
theorem ixI_some {i : Int} : ∀ {ns : List Int} {j : Nat}, ixI i ns = some j → ns[j]? = some i ∧ ∀ (m : Nat) (z : Int), m < j → ns[m]? = some z → z ≠ i
  | [], j, h => by cases h
  | x :: xs, j, h => by
    unfold ixI at h
    split at h
    · rename_i e
      cases h
      exact ⟨by rw [e]; rfl, fun m z hm => absurd hm (Nat.not_lt_zero _)⟩
    · rename_i ne
      obtain ⟨j', h1, rfl⟩ := Option.map_eq_some_iff.mp h
      obtain ⟨k1, k2⟩ := ixI_some h1
      refine ⟨by simpa using k1, fun m z hm hz => ?_⟩
      cases m with
      | zero => simp at hz; rw [← hz]; exact ne
      | succ m => exact k2 m z (by omega) (by simpa using hz)
def oIndex (d : D) (ds : List D) (mh : List O) : Res D := match lstOf mh d, ds with
  | some xs, [.int i] => match dInts xs with
    | some ns => match ixI i ns with
      | some j => .ok (.int j) mh
      | none => .stuck
    | none => .stuck
  | _, _ => .stuck
theorem vo_index {X : Cx} : VOM X (rIndex X.K) oIndex := by
  intro W σ F ι mh H d ds v vs Q sr r rs h
  unfold oIndex at h
  split at h
  · rename_i xs i e
    split at h
    · rename_i ns e2
      split at h
      · rename_i j e3
        obtain ⟨a, ws, rfl, sq, rx⟩ := lstOf_ok sr r e
        cases rs with
        | cons r1 r2 =>
          cases r2
          cases r1
          obtain ⟨k1, k2⟩ := ixI_some e3
          have hx := dInts_some e2
          subst hx
          have hw : ws = ns.map V.int := by
            clear e e2 e3 sq k1 k2 h
            induction ns generalizing ws with
            | nil => cases rx; rfl
            | cons n ns ih =>
              cases rx with
              | cons h t =>
                cases h
                rw [ih _ t]; rfl
          subst hw
          refine ⟨a, _, .int i, j, .int i, rfl, rfl, sq, rfl, ?_, ?_, ?_, fun m z hm hz => ?_, h.ok sr (.int _)⟩
          · rw [List.all_eq_true]
            intro z hz
            obtain ⟨n, _, rfl⟩ := List.mem_map.mp hz
            rfl
          · rw [List.getElem?_map, k1]; rfl
          · show (i == i) = true
            simp
          · rw [List.getElem?_map] at hz
            obtain ⟨n, hn, rfl⟩ := Option.map_eq_some_iff.mp hz
            show (n == i) = false
            simpa using k2 m n hm hn
      · exact h.elim
    · exact h.elim
  · exact h.elim
end G

/-! Part HB: dicts by ints and texts, live ones. -/
namespace G
open PySem PySem.Spec PyProof.Rows L2
def getK : List Key → List D → Key → Option D
  | k' :: ks, d :: ds, k => if k' = k then some d else getK ks ds k
  | _, _, _ => none
def setK : List Key → List D → Key → D → List D
  | k' :: ks, x :: ds, k, d => (if k' = k then d else x) :: setK ks ds k d
  | _, ds, _, _ => ds
def hasK (ks : List Key) (k : Key) : Bool := ks.any fun j => decide (j = k)
def putKs (ks : List Key) (k : Key) : List Key := if hasK ks k = true then ks else ks ++ [k]
def putDs (ks : List Key) (ds : List D) (k : Key) (d : D) : List D := if hasK ks k = true then setK ks ds k d else ds ++ [d]
section
variable {K : PySem.W.Frag} {mg : Str → Option Value} {F : Addr → Prop} {ι : List Addr} {H : Hp}
theorem getK_ok {k : Key} : ∀ {kvs : List (Key × V)} {ds : List D}, DVs K mg F ι H ds (kvs.map (·.2)) → (∀ d, getK (kvs.map (·.1)) ds k = some d → ∃ v, valV kvs k = some v ∧ DV K mg F ι H d v) ∧ (getK (kvs.map (·.1)) ds k = none → valV kvs k = none)
  | [], ds, r => by
    cases r
    exact ⟨fun d h => by simp [getK] at h, fun _ => rfl⟩
  | kv :: kvs, ds, r => by
    cases r with
    | cons h t =>
      rename_i d0 ds
      obtain ⟨ih1, ih2⟩ := getK_ok (k := k) t
      refine ⟨fun d hg => ?_, fun hg => ?_⟩
      · simp only [List.map_cons, getK] at hg
        split at hg
        · rename_i e
          cases hg
          exact ⟨kv.2, valV_pos e, h⟩
        · rename_i ne
          obtain ⟨v, h1, h2⟩ := ih1 d hg
          exact ⟨v, by rw [valV_neg ne]; exact h1, h2⟩
      · simp only [List.map_cons, getK] at hg
        split at hg
        · cases hg
        · rename_i ne
          rw [valV_neg ne]
          exact ih2 hg
theorem any_mem {kvs : List (Key × V)} {k : Key} : (kvs.any fun kv => decide (kv.1 = k)) = hasK (kvs.map (·.1)) k := by
  unfold hasK
  rw [List.any_map]
  rfl
theorem setK_ok {k : Key} {d : D} {v : V} (rd : DV K mg F ι H d v) : ∀ {kvs : List (Key × V)} {ds : List D}, DVs K mg F ι H ds (kvs.map (·.2)) → DVs K mg F ι H (setK (kvs.map (·.1)) ds k d) ((kvs.map fun kv => if kv.1 = k then (kv.1, v) else kv).map (·.2))
  | [], _, r => by cases r; exact .nil
  | kv :: kvs, _, r => by
    cases r with
    | cons h t =>
      simp only [List.map_cons, setK]
      refine .cons ?_ (setK_ok rd t)
      by_cases e : kv.1 = k
      · rw [if_pos e, if_pos e]; exact rd
      · rw [if_neg e, if_neg e]; exact h
theorem putK_ok {k : Key} {d : D} {v : V} {kvs : List (Key × V)} {ds : List D} (rd : DV K mg F ι H d v) (r : DVs K mg F ι H ds (kvs.map (·.2))) : (putK kvs k v).map (·.1) = putKs (kvs.map (·.1)) k ∧ DVs K mg F ι H (putDs (kvs.map (·.1)) ds k d) ((putK kvs k v).map (·.2)) := by
  unfold putK putKs putDs
  rw [any_mem]
  by_cases h : hasK (kvs.map (·.1)) k = true
  · rw [if_pos h, if_pos h, if_pos h]
    refine ⟨?_, setK_ok rd r⟩
    rw [List.map_map]
    refine List.map_congr_left fun kv _ => ?_
    show (if kv.1 = k then (kv.1, v) else kv).1 = kv.1
    split <;> rfl
  · rw [if_neg h, if_neg h, if_neg h]
    refine ⟨by simp, ?_⟩
    rw [List.map_append]
    exact r.append (.cons rd .nil)
end
/-- a live dict -/
def liveD (mh : List O) (d : D) : Option (Nat × List Key × List D) := match d with
  | .ref n => match mh[n]? with
    | some (.dic ks ds) => some (n, ks, ds)
    | _ => none
  | _ => none
/-- a dict, live or not -/
def dicOf (mh : List O) (d : D) : Option (List Key × List D) := match d with
  | .dic ks ds => some (ks, ds)
  | d => (liveD mh d).map (·.2)
section
variable {X : Cx} {W : WX} {k : Nat} {pos : Pos} {F : Addr → Prop} {ι : List Addr} {mh : List O} {σ : L2.St} {H : Hp} {a b e e2 : Expr} {fa fb fc : CE}
theorem liveD_ok {d : D} {v : V} {n : Nat} {ks : List Key} {ds : List D} (sr : SR X.K X.mg F ι mh H) (r : DV X.K X.mg F ι H d v) (e : liveD mh d = some (n, ks, ds)) : ∃ a kvs, v = .ref a ∧ ι[n]? = some a ∧ H a = some (.dK kvs) ∧ kvs.map (·.1) = ks ∧ DVs X.K X.mg F ι H ds (kvs.map (·.2)) := by
  unfold liveD at e
  split at e
  · split at e
    · rename_i hm
      cases e
      cases r with
      | ref ea =>
        cases sr.ob _ _ _ hm ea with
        | dic h q r => exact ⟨_, _, rfl, ea, h, q, r⟩
    · cases e
  · cases e
theorem dicOf_ok {d : D} {v : V} {ks : List Key} {ds : List D} (sr : SR X.K X.mg F ι mh H) (r : DV X.K X.mg F ι H d v) (e : dicOf mh d = some (ks, ds)) : ∃ a kvs, v = .ref a ∧ Rd H a (.dK kvs) ∧ kvs.map (·.1) = ks ∧ DVs X.K X.mg F ι H ds (kvs.map (·.2)) := by
  unfold dicOf at e
  split at e
  · cases e
    cases r with
    | dic h n q r => exact ⟨_, _, rfl, h, q, r⟩
  · obtain ⟨⟨n, x⟩, h1, rfl⟩ := Option.map_eq_some_iff.mp e
    obtain ⟨a, kvs, rfl, _, hH, q, rr⟩ := liveD_ok sr r h1
    exact ⟨a, kvs, rfl, .inl hH, q, rr⟩
/-- {} -/
def cDNew : CE := fun _ mh => .ok (.ref mh.length) (mh ++ [.dic [] []])
theorem j_dnew : JE X W (.Dict [] [] pos) cDNew := by
  refine ⟨_, pe_dnewK, fun ρ mh F ι σ H Q sr er h => fun p hp => ?_⟩
  obtain ⟨st, sr'⟩ := alloc (o := .dic [] []) (u := .dK []) sr hp fun F' ι' st => .dic upd_same rfl .nil
  exact h _ _ _ _ st sr' (.ref (by rw [← sr.len]; simp))
/-- {} that is only read -/
def cDNil : CE := fun _ mh => .ok (.dic [] []) mh
theorem j_dnil : JE X W (.Dict [] [] pos) cDNil := by
  refine ⟨_, pe_dnewK, fun ρ mh F ι σ H Q sr er h => fun p hp => ?_⟩
  exact h F ι _ _ (step_new hp) (sr.fresh hp) (.dic (.inl upd_same) (sr.notNew hp) rfl .nil)
/-- d[k] -/
def oDGet (d y : D) (mh : List O) : Res D := match dicOf mh d, keyD y with
  | some (ks, ds), some k => match getK ks ds k with
    | some x => .ok x mh
    | none => .stuck
  | _, _ => .stuck
theorem j_dget (c : Cc k X W) (ha : JE X W a fa) (hb : JE X W b fb) (hs : NoSl b := by exact fun _ _ => rfl) : JE X W (.Subscript a b pos) (c2 oDGet fa fb) := by
  obtain ⟨ta, pa, qa⟩ := ha.ex
  obtain ⟨tb, pb, qb⟩ := hb.ex
  refine ⟨_, pe_dget (by have := c.hr.units; omega) pa pb hs, fun ρ mh F ι σ H Q sr er h => ?_⟩
  refine qa ρ mh F ι σ H _ sr er (h.bind.mono fun x H1 ⟨F1, ι1, d1, m1, st1, sr1, r1, h1⟩ => ?_)
  refine qb ρ m1 F1 ι1 σ H1 _ sr1 (er.to sr.sub st1) (h1.bind.mono fun y H2 ⟨F2, ι2, d2, m2, st2, sr2, r2, h2⟩ => ?_)
  unfold oDGet at h2
  split at h2
  · rename_i e1 e2
    split at h2
    · rename_i e3
      obtain ⟨p, kvs, rfl, hH, rfl, rr⟩ := dicOf_ok sr2 (DV.to sr1.sub st2 _ _ r1) e1
      obtain ⟨v, hv, rv⟩ := (getK_ok rr).1 _ e3
      exact ⟨p, v, rfl, .inl ⟨kvs, _, hH, keyD_ok r2 e2, hv.symm⟩, h2.ok sr2 rv⟩
    · exact h2.elim
  · exact h2.elim
/-- d.get(k) -/
def oDGet1 (d y : D) (mh : List O) : Res D := match dicOf mh d, keyD y with
  | some (ks, ds), some k => .ok ((getK ks ds k).getD .non) mh
  | _, _ => .stuck
def cDGet1 (f g : CE) : CE := fun ρ mh => (f ρ mh).bind fun x m => if (dicOf m x).isSome = true then (g ρ m).bind fun y m' => oDGet1 x y m' else .stuck
theorem isD_of {d : D} {v : V} (sr : SR X.K X.mg F ι mh H) (r : DV X.K X.mg F ι H d v) (e : (dicOf mh d).isSome = true) : ∃ a, v = .ref a ∧ IsD H a := by
  obtain ⟨⟨ks, ds⟩, h⟩ := Option.isSome_iff_exists.mp e
  obtain ⟨a, kvs, rfl, hH, _, _⟩ := dicOf_ok sr r h
  exact ⟨a, rfl, .inl ⟨kvs, hH⟩⟩
theorem j_dget1 {apos cpos : Pos} (c : Cc k X W) (ha : JE X W a fa) (hb : JE X W e fb) (m : M1 X a "get" apos e cpos := by exact ⟨rfl, rfl, rfl, rfl⟩) : JE X W (.Call (.Attribute a "get" apos) [e] [] cpos) (cDGet1 fa fb) := by
  obtain ⟨ta, pa, qa⟩ := ha.ex
  obtain ⟨tb, pb, qb⟩ := hb.ex
  refine ⟨_, pe_dget1 (by have := c.hr.units; omega) pa pb m, fun ρ mh F ι σ H Q sr er h => ?_⟩
  unfold cDGet1 at h
  refine qa ρ mh F ι σ H _ sr er (h.bind.mono fun x H1 ⟨F1, ι1, d1, m1, st1, sr1, r1, h1⟩ => ?_)
  split at h1
  · rename_i hd
    obtain ⟨p, rfl, isd⟩ := isD_of sr1 r1 hd
    refine ⟨p, rfl, isd, qb ρ m1 F1 ι1 σ H1 _ sr1 (er.to sr.sub st1) (h1.bind.mono fun y H2 ⟨F2, ι2, d2, m2, st2, sr2, r2, h2⟩ => ?_)⟩
    unfold oDGet1 at h2
    split at h2
    · rename_i e1 e2
      obtain ⟨p', kvs, hp, hH, rfl, rr⟩ := dicOf_ok sr2 (DV.to sr1.sub st2 _ _ r1) e1
      cases hp
      rename_i ds kk
      obtain ⟨g1, g2⟩ := getK_ok (k := kk) rr
      refine ⟨valV kvs kk, .inl ⟨kvs, kk, hH, keyD_ok r2 e2, rfl⟩, ?_⟩
      cases hg : getK (kvs.map (·.1)) ds kk with
      | none =>
        rw [hg] at h2
        rw [g2 hg]
        exact h2.ok sr2 .non
      | some d =>
        rw [hg] at h2
        obtain ⟨v, hv, rv⟩ := g1 d hg
        rw [hv]
        exact h2.ok sr2 rv
    · exact h2.elim
  · exact h1.elim
/-- d.get(k, x) -/
def cDGet2 (f g g2 : CE) : CE := fun ρ mh => (f ρ mh).bind fun x m => if (dicOf m x).isSome = true then (g ρ m).bind fun y m' => (g2 ρ m').bind fun z m2 => (match dicOf m2 x, keyD y with
  | some (ks, ds), some k => Res.ok ((getK ks ds k).getD z) m2
  | _, _ => .stuck) else .stuck
theorem j_dget2 {apos cpos : Pos} (c : Cc k X W) (ha : JE X W a fa) (hb : JE X W e fb) (hc : JE X W e2 fc) (m : M2 X a "get" apos e e2 cpos := by exact ⟨rfl, rfl, rfl, rfl⟩) : JE X W (.Call (.Attribute a "get" apos) [e, e2] [] cpos) (cDGet2 fa fb fc) := by
  obtain ⟨ta, pa, qa⟩ := ha.ex
  obtain ⟨tb, pb, qb⟩ := hb.ex
  obtain ⟨tc, pc, qc⟩ := hc.ex
  refine ⟨_, pe_dget2 (by have := c.hr.units; omega) pa pb pc m, fun ρ mh F ι σ H Q sr er h => ?_⟩
  unfold cDGet2 at h
  refine qa ρ mh F ι σ H _ sr er (h.bind.mono fun x H1 ⟨F1, ι1, d1, m1, st1, sr1, r1, h1⟩ => ?_)
  split at h1
  · rename_i hd
    obtain ⟨p, rfl, isd⟩ := isD_of sr1 r1 hd
    refine ⟨p, rfl, isd, qb ρ m1 F1 ι1 σ H1 _ sr1 (er.to sr.sub st1) (h1.bind.mono fun y H2 ⟨F2, ι2, d2, m2, st2, sr2, r2, h2⟩ => ?_)⟩
    refine qc ρ m2 F2 ι2 σ H2 _ sr2 (er.to sr.sub (st1.trans st2)) (h2.bind.mono fun z H3 ⟨F3, ι3, d3, m3, st3, sr3, r3, h3⟩ => ?_)
    split at h3
    · rename_i e1 e2
      obtain ⟨p', kvs, hp, hH, rfl, rr⟩ := dicOf_ok sr3 (DV.to sr1.sub (st2.trans st3) _ _ r1) e1
      cases hp
      rename_i ds kk
      obtain ⟨g1, g2⟩ := getK_ok (k := kk) rr
      refine ⟨valV kvs kk, .inl ⟨kvs, kk, hH, keyD_ok r2 e2, rfl⟩, ?_⟩
      cases hg : getK (kvs.map (·.1)) ds kk with
      | none =>
        rw [hg] at h3
        rw [g2 hg]
        exact h3.ok sr3 r3
      | some d =>
        rw [hg] at h3
        obtain ⟨v, hv, rv⟩ := g1 d hg
        rw [hv]
        exact h3.ok sr3 rv
    · exact h3.elim
  · exact h1.elim
/-- len(d) -/
def oDLen (ds : List D) (mh : List O) : Res D := match ds with
  | [d] => match liveD mh d with
    | some (_, ks, _) => .ok (.int ks.length) mh
    | none => .stuck
  | _ => .stuck
theorem vo_dlen : VOL X (fun xs H Q => ∃ a kvs, xs = [V.ref a] ∧ H a = some (.dK kvs) ∧ Q (.int (kvs.length : Nat)) H) oDLen := by
  intro W σ F ι mh H ds vs Q sr r h
  unfold oDLen at h
  split at h
  · split at h
    · rename_i e
      cases r with
      | cons r1 r2 =>
        cases r2
        obtain ⟨a, kvs, rfl, _, hH, hk, _⟩ := liveD_ok sr r1 e
        refine ⟨a, kvs, rfl, hH, ?_⟩
        rw [← hk, List.length_map] at h
        exact h.ok sr (.int _)
    · exact h.elim
  · exact h.elim
/-- d[k] = v -/
def oDPut (d y v : D) (mh : List O) : Option (List O) := match liveD mh d, keyD y with
  | some (n, ks, ds), some k => if ks.length < sizeLine then some (mh.set n (.dic (putKs ks k) (putDs ks ds k v))) else none
  | _, _ => none
def gKx (f g : CE) : CG := fun d ρ mh => match f ρ mh with
  | .ok x m => match g ρ m with
    | .ok i m' => match oDPut x i d m' with
      | some m2 => .nx ρ m2
      | none => .stuck
    | _ => .stuck
  | _ => .stuck
theorem g_kx (c : Cc k X W) (ha : JE X W a fa) (hb : JE X W b fb) (hx : ∀ v, assign (.Subscript a b pos) X.env v = (do
      let ov ← holding [v] (eval a X.env)
      let iv ← holding [v, ov] (eval b X.env)
      standAt pos
      holding [v, ov, iv] (setItem ov iv v)
      release [v, ov, iv] []) := by intro _; rfl) : JG X W (.Subscript a b pos) [] (gKx fa fb) := by
  obtain ⟨ta, pa, qa⟩ := ha.ex
  obtain ⟨tb, pb, qb⟩ := hb.ex
  refine ⟨⟨_, pg_sub pa pb (set_dict (by have := c.hr.units; omega)) hx, fun d v ρ mh F ι σ H Q Q' sr er r h kq => ?_⟩, fun d ρ mh => ?_⟩
  · unfold gKx at h
    split at h
    · rename_i x m ea
      split at h
      · rename_i i m' eb
        split at h
        · rename_i m2 es
          refine qa ρ mh F ι σ H _ sr er ?_
          rw [ea]
          intro F1 ι1 H1 xv st1 sr1 r1
          refine qb ρ m F1 ι1 σ H1 _ sr1 (er.to sr.sub st1) ?_
          rw [eb]
          intro F2 ι2 H2 iv st2 sr2 r2
          unfold oDPut at es
          split at es
          · rename_i el ek
            split at es
            · rename_i hl
              cases es
              obtain ⟨p, kvs, rfl, ep, hH, rfl, rx⟩ := liveD_ok sr2 (DV.to sr1.sub st2 _ _ r1) el
              have dv := DV.to sr.sub (st1.trans st2) _ _ r
              rename_i kk
              obtain ⟨pk1, pk2⟩ := putK_ok (k := kk) dv rx
              obtain ⟨st3, sr3⟩ := sr2.write (u := .dK (putK kvs kk v)) ep hH (fun vs => ⟨(by intro z; cases z), (by intro ob z; cases z)⟩) fun st => .dic upd_same pk1 (DVs.to sr2.sub st _ _ pk2)
              have st := (st1.trans st2).trans st3
              rw [List.length_map] at hl
              exact ⟨p, _, rfl, .inl ⟨kvs, kk, hH, keyD_ok r2 ek, hl, rfl⟩, kq _ _ ⟨rfl, fun _ _ => rfl⟩ (h F2 ι2 _ σ st sr3 (er.to sr.sub st))⟩
            · cases es
          · cases es
        · exact h.elim
      · exact h.elim
    · exact h.elim
  · unfold gKx
    split
    · split
      · split
        · exact .inl ⟨_, _, rfl⟩
        · exact .inr rfl
      · exact .inr rfl
    · exact .inr rfl
/-- what is not reached -/
def cNever : CE := fun _ _ => .stuck
theorem j_never : JE X W e cNever := ⟨fun _ _ _ => False, ⟨fun _ _ _ _ _ _ h => h.elim⟩, fun ρ mh F ι σ H Q sr er h => h.elim⟩
end
end G

/-! Part HC: defs whose last parameter has the default None. -/
namespace G
open PySem PySem.Spec PyProof.Rows L2
section
variable {P : Program} {w : World} {K : PySem.W.Frag} {mg : Str → Option Value} {base : Heap}
theorem fn_okN {x qual : Str} {st : Stmt} {dvs : List V} {kws : List (Str × V)} {f : Addr} {fd : FuncData} {N ps : List Str} {k : Nat} (Fu : FunD K x qual (defArgs st) (defBody st) (defScope st) dvs kws f fd) (S : FnScope N ps (defScope st)) {b : CS}
    (hb : ∀ (cdv : Value) (A : Around) (outer : List Env) (s : Shared) (H : Hp) (E : XK), Cc k (cxG P w K mg base N qual st f cdv A outer s H E) (WD E) → JSs (cxG P w K mg base N qual st f cdv A outer s H E) (WD E) (defBody st) b) :
    FnOk P w K mg base (L2.CX P w) (k + 1) f fd ps (spG K mg ps.length (defn N.length ps.length b)) := by
  refine Fu.ok S (fun vs H Q E h => h.1) (fun cdv A outer s H vs Q E hr h => ?_)
  obtain ⟨hl, ds, F, ι, mh, sr, r, h⟩ := h
  have c : Cc k (cxG P w K mg base N qual st f cdv A outer s H E) (WD E) := ⟨rfl, S.nd, takes_of rfl rfl rfl rfl, hr, passes_of rfl⟩
  obtain ⟨t, p, q⟩ := (hb cdv A outer s H E c).ex
  refine ⟨t, p, q _ mh F ι _ H _ sr (er_start r hl) ?_⟩
  unfold defn at h
  revert h
  generalize b (ds.map some ++ List.replicate (N.length - ps.length) none) mh = o
  intro h
  cases o with
  | nx ρ m => exact fun F' ι' H' σ' s x _ => h F' ι' H' .non s x .non
  | rt d m => exact h
  | err c es ρ m => exact fun F' ι' H' cls dx σ' s x _ z => h F' ι' H' cls dx s x z
  | bk ρ m => exact h.elim
  | ct ρ m => exact h.elim
  | stuck => exact h.elim
structure DefN (P : Program) (w : World) (K : PySem.W.Frag) (mg : Str → Option Value) (base : Heap) (k : Nat) (x : Str) (n : Nat) (f : Fn) : Prop where
  ex : ∃ (a : Addr) (fd : FuncData) (ps : List Str) (ds : List Value), mg x = some (.ref a) ∧ PySem.W.keepIn K (.ref a) = true ∧ Binds K fd ps [] ∧ Vals [.non] ds ∧ Binds K fd ps ds ∧ ps.length = n + 1 ∧ FnOk P w K mg base (L2.CX P w) k a fd ps (spG K mg (n + 1) f)
theorem DefN.full {k n : Nat} {x : Str} {f : Fn} (d : DefN P w K mg base k x n f) : Def P w K mg base k x (n + 1) f := by
  obtain ⟨a, fd, ps, ds, m, kp, b, _, _, hl, F⟩ := d.ex
  exact ⟨a, fd, ps, m, kp, b, hl, F⟩
theorem funN_mk {x qual : Str} {st : Stmt} {f T : Addr} {oc eT : Value} {od an oT : Option Addr} {osl sT : Array (Option Value)} {kV doc pm cdv ct : Value} {nT : Nat} (l : K.lookup f = some ⟨oc, od, .func (PySem.W.fnOf x qual (defArgs st) (defBody st) (defScope st) (.ref T) kV doc pm an cdv ct), osl⟩)
    (c : PySem.W.codeIn K cdv qual = true) (k : PySem.W.keepIn K (.ref f) = true) (t : K.lookup T = some ⟨eT, oT, .seq #[.none] nT, sT⟩) : FunD K x qual (defArgs st) (defBody st) (defScope st) [.non] [] f (PySem.W.fnOf x qual (defArgs st) (defBody st) (defScope st) (.ref T) kV doc pm an cdv ct) :=
  ⟨⟨oc, od, .ref T, kV, doc, pm, an, cdv, ct, osl, rfl, l, c, .inr ⟨by simp, T, _, [.none], nT, rfl, t, rfl, .cons rfl .nil⟩, .inl rfl⟩, k⟩
theorem defN_mk {x qual : Str} {st : Stmt} {f : Addr} {fd : FuncData} {ps : List Str} {k n : Nat} {fn : Fn} (Fu : FunD K x qual (defArgs st) (defBody st) (defScope st) [.non] [] f fd) (b1 : ∃ ds, Vals ([V.non].drop 1) ds ∧ Binds K fd ps ds) (b0 : ∃ ds, Vals ([V.non].drop 0) ds ∧ Binds K fd ps ds) (m : mg x = some (.ref f))
    (h : FnOk P w K mg base (L2.CX P w) k f fd ps (spG K mg (n + 1) fn)) (hn : ps.length = n + 1 := by rfl) : DefN P w K mg base k x n fn := by
  obtain ⟨ds, v, b⟩ := b0
  obtain ⟨ds1, v1, b1⟩ := b1
  cases v1
  exact ⟨f, fd, ps, ds, m, Fu.kp, b1, v, b, hn, h⟩
end
section
variable {X : Cx} {W : WX} {k j : Nat} {pos p : Pos} {x : Str} {n : Nat} {f : Fn} {e : Expr} {es : List Expr}
theorem DVs.snoc {K : PySem.W.Frag} {mg : Str → Option Value} {F : Addr → Prop} {ι : List Addr} {H : Hp} {d : D} {v : V} (r : DV K mg F ι H d v) : ∀ {ds : List D} {vs : List V}, DVs K mg F ι H ds vs → DVs K mg F ι H (ds ++ [d]) (vs ++ [v])
  | [], _, h => by cases h; exact .cons r .nil
  | a :: ds, _, h => by
    cases h with
    | cons h t => exact .cons h (DVs.snoc r t)
/-- f(e, ..), the last parameter left out -/
def arN (n : Nat) (f : Fn) : Fn := fun ds mh => if ds.length = n then f (ds ++ [.non]) mh else .stuck
theorem j_callNAny {g : CA} {f' : Fn} (d : DefN X.prog X.w X.K X.mg X.base j x n f) (c : Cc k X W) (hk : j ≤ k) (ha : JA X W (e :: es) g)
    (hsp : ∀ (F : Addr → Prop) (ι : List Addr) (mh : List O) (σ : L2.St) (H : Hp) (ds : List D) (vs : List V) (Q : VK), vs.length = n → SR X.K X.mg F ι mh H → DVs X.K X.mg F ι H ds vs → Post X.K X.mg (DR X) W σ F ι H (f' ds mh) Q → spG X.K X.mg (n + 1) f (vs ++ [.non]) H Q (WE W σ))
    (hn : ∀ ds mh, ds.length ≠ n → f' ds mh = .stuck) (hg : Gl X x := by rfl)
    (hdb : (x == ("__debug__" : Str)) = false := by decide) (he : starEach (e :: es) X.env = (false, eval e X.env) :: starEach es X.env := by rfl) (hpl : (backTo pos (starEach es X.env)).any (·.1) = false := by rfl) :
    JE X W (.Call (.Name x p) (e :: es) [] pos) (cL f' g) := by
  obtain ⟨a, fd, ps, ds, m, kp, _, v, b, hl, F⟩ := d.ex
  obtain ⟨t, pa, q⟩ := ha.ex
  refine ⟨_, pe_callSD F (c.hr.mono hk) hg m kp b v (fun σ => passAt c.tk σ) pa hdb he hpl, fun ρ mh F ι σ H Q sr er h => ?_⟩
  refine q ρ mh F ι σ H _ sr er (h.bind.mono fun xs H1 ⟨F1, ι1, d1, m1, st1, sr1, r1, h1⟩ => ?_)
  by_cases hx : xs.length = n
  · exact hsp F1 ι1 m1 σ H1 d1 xs Q hx sr1 r1 h1
  · rw [hn d1 m1 (by rw [DVs.length r1]; exact hx)] at h1
    exact h1.elim
theorem j_callN {g : CA} (d : DefN X.prog X.w X.K X.mg X.base j x n f) (c : Cc k X W) (ha : JA X W (e :: es) g) (hk : j ≤ k := by omega) (hg : Gl X x := by rfl)
    (hdb : (x == ("__debug__" : Str)) = false := by decide) (he : starEach (e :: es) X.env = (false, eval e X.env) :: starEach es X.env := by rfl) (hpl : (backTo pos (starEach es X.env)).any (·.1) = false := by rfl) :
    JE X W (.Call (.Name x p) (e :: es) [] pos) (cL (arN n f) g) :=
  j_callNAny d c hk ha (fun F ι mh σ H ds vs Q hn sr r h => sp_call (by simp [hn]) sr (DVs.snoc .non r) (by unfold arN at h; rw [if_pos (by rw [DVs.length r]; exact hn)] at h; exact h)) (fun ds mh hx => if_neg hx) hg hdb he hpl
end
end G

/-! Part HD: a dict walked by its keys in a comprehension (locked), in and not in of dicts, equal dicts. -/
namespace G
open PySem PySem.Spec PyProof.Rows L2
/-- the dict at d, locked or not -/
structure Lk (d : Addr) (kvs : List (Key × V)) (H H' : Hp) : Prop where
  same : ∀ a, a ≠ d → H' a = H a
  l : Rd H d (.dK kvs)
  r : Rd H' d (.dK kvs)
section
variable {K : PySem.W.Frag} {mg : Str → Option Value} {F F' : Addr → Prop} {ι ι' : List Addr} {H H' : Hp} {d : Addr} {kvs : List (Key × V)}
theorem Lk.ne (h : Lk d kvs H H') {a : Addr} {o : HO} (e : H a = some o) (h1 : ∀ k, o ≠ .dK k) (h2 : ∀ ob k, o ≠ .frz ob (.dK k)) : a ≠ d := fun z => by
  subst z
  rcases h.l with q | ⟨ob, q⟩
  · rw [e] at q; exact h1 _ (Option.some.inj q)
  · rw [e] at q; exact h2 _ _ (Option.some.inj q)
theorem Lk.rd (h : Lk d kvs H H') {a : Addr} {u : HO} (r : Rd H a u) (h1 : ∀ k, u ≠ .dK k) (h2 : ∀ ob v, u ≠ .frz ob v) : a ≠ d := by
  rcases r with q | ⟨ob, q⟩
  · exact h.ne q h1 fun ob k => h2 ob _
  · refine h.ne q (fun k z => nomatch z) fun ob' k z => ?_
    injection z with _ z
    exact h1 _ z
theorem Lk.rd_to (h : Lk d kvs H H') {a : Addr} {u : HO} (r : Rd H a u) (h1 : ∀ k, u ≠ .dK k) (h2 : ∀ ob v, u ≠ .frz ob v) : Rd H' a u := by
  have := h.same a (h.rd r h1 h2)
  unfold Rd at r ⊢
  rw [this]; exact r
theorem Lk.dk (h : Lk d kvs H H') {a : Addr} {k : List (Key × V)} (r : Rd H a (.dK k)) : Rd H' a (.dK k) := by
  by_cases z : a = d
  · subst z
    have : k = kvs := by
      rcases r with q | ⟨o, q⟩ <;> rcases h.l with q2 | ⟨o2, q2⟩ <;> rw [q] at q2 <;> cases q2 <;> rfl
    rw [this]; exact h.r
  · unfold Rd at r ⊢
    rw [h.same a z]; exact r
theorem Lk.obj (h : Lk d kvs H H') {a C : Addr} {x : Str} {fs : List (Str × V)} (q : ObjAt F H a C x fs) : ObjAt F H' a C x fs := by
  obtain ⟨n, ⟨dx, e⟩ | ⟨dd, hxc, e, q⟩⟩ := q
  · exact ⟨n, .inl ⟨dx, by rw [h.same a (h.ne e (fun _ z => nomatch z) fun _ _ z => nomatch z)]; exact e⟩⟩
  · refine ⟨n, .inr ⟨dd, hxc, by rw [h.same a (h.ne e (fun _ z => (by unfold xob at z; cases z)) (fun _ _ z => (by unfold xob at z; cases z)))]; exact e, ?_⟩⟩
    rcases q with q | ⟨d2, e2, nd, hd⟩
    · exact .inl q
    · exact .inr ⟨d2, e2, nd, by rw [h.same d2 (h.ne hd (fun _ z => nomatch z) fun _ _ z => nomatch z)]; exact hd⟩
theorem Lk.clo (h : Lk d kvs H H') {f c' : Addr} {y : Syn} {cl : List (Str × Addr)} {pm ctv : Value} {vs : List V} (q : CloAt F H f y cl c' pm ctv vs) : CloAt F H' f y cl c' pm ctv vs := by
  have k : ∀ {a : Addr} {o : HO}, H a = some o → (∀ k, o ≠ .dK k) → (∀ ob k, o ≠ .frz ob (.dK k)) → H' a = some o := fun {a o} e h1 h2 => by rw [h.same a (h.ne e h1 h2)]; exact e
  have kc : ∀ {a : Addr} {o : Obj}, H a = some (cellO o) → H' a = some (cellO o) := fun {a o} e => k e (fun _ z => nomatch z) fun _ _ z => by injection z with _ z; cases z
  refine ⟨q.nf, q.nc, k q.hf (fun _ z => by unfold LamO at z; cases z) (fun _ _ z => by unfold LamO at z; cases z), k q.hc (fun _ z => by unfold LamX.CodeO at z; cases z) (fun _ _ z => by unfold LamX.CodeO at z; cases z), q.cells.len, fun y c e => ?_, q.cells.inj, fun i y e => ?_⟩
  · obtain ⟨n, o, v, e1, e2⟩ := q.cells.all y c e
    exact ⟨n, o, v, kc e1, e2⟩
  · obtain ⟨c, o, u, v, e0, e1, e2⟩ := q.cells.has i y e
    exact ⟨c, o, u, v, e0, kc e1, e2⟩
mutual
theorem DV.lk (h : Lk d kvs H H') : ∀ (x : D) (v : V), DV K mg F ι H x v → DV K mg F ι H' x v
  | .non, _, q => by cases q; exact .non
  | .bl b, _, q => by cases q; exact .bl b
  | .int i, _, q => by cases q; exact .int i
  | .str x, _, q => by cases q; exact .str x
  | .ty n, _, q => by cases q; exact .ty n
  | .glb x, _, q => by
    cases q with
    | glb m r => exact .glb m r
  | .ref n, _, q => by
    cases q with
    | ref e => exact .ref e
  | .tup ds, _, q => by
    cases q with
    | tup e r => exact .tup (h.rd_to e (fun _ z => nomatch z) fun _ _ z => nomatch z) (DVs.lk h ds _ r)
  | .lst ds, _, q => by
    cases q with
    | lst e r =>
      refine .lst ?_ (DVs.lk h ds _ r)
      rcases e with ⟨e, n⟩ | e
      · exact .inl ⟨h.rd_to e (fun _ z => nomatch z) (fun _ _ z => nomatch z), n⟩
      · exact .inr e
  | .dic ks ds, _, q => by
    cases q with
    | dic e n k r => exact .dic (h.dk e) n k (DVs.lk h ds _ r)
  | .obj x ns ds, _, q => by
    cases q with
    | obj e m k r => exact .obj (h.obj e) m k (DVs.lk h ds _ r)
  | .clo y ds, _, q => by
    cases q with
    | clo e r => exact .clo (h.clo e) (DVs.lk h ds _ r)
theorem DVs.lk (h : Lk d kvs H H') : ∀ (xs : List D) (vs : List V), DVs K mg F ι H xs vs → DVs K mg F ι H' xs vs
  | [], _, q => by cases q; exact .nil
  | x :: xs, _, q => by
    cases q with
    | cons a t => exact .cons (DV.lk h x _ a) (DVs.lk h xs _ t)
end
theorem SR.lk {mh : List O} (sr : SR K mg F ι mh H) (h : Lk d kvs H H') (nF : ¬ F d) (tb : LamX.Tabs (lamTabs K) H') : SR K mg F ι mh H' := by
  have nι : d ∉ ι := fun z => nF (sr.sub d z)
  refine ⟨sr.len, sr.nd, fun n o a e1 e2 => ?_, sr.sub, fun a z => ?_, tb⟩
  · have na : a ≠ d := fun z => nι (z ▸ List.mem_of_getElem? e2)
    cases sr.ob n o a e1 e2 with
    | lst e r => exact .lst ((h.same a na).trans e) (DVs.lk h _ _ r)
    | dic e k r => exact .dic ((h.same a na).trans e) k (DVs.lk h _ _ r)
    | dct e k r => exact .dct ((h.same a na).trans e) k (DVs.lk h _ _ r)
    | ins e m k r => exact .ins ((h.same a na).trans e) m k (DVs.lk h _ _ r)
  · have na : a ≠ d := fun y => nF (y ▸ z)
    rw [h.same a na]; exact sr.old a z
theorem ER.lk {ρ : En} {σ : L2.St} (er : ER K mg F ι H ρ σ) (h : Lk d kvs H H') : ER K mg F ι H' ρ σ :=
  ⟨er.1, fun i x e => by
    obtain ⟨v, q, r⟩ := er.2 i x e
    exact ⟨v, q, DV.lk h _ _ r⟩⟩
end
def dKey : Key → D
  | .inl i => .int i
  | .inr x => .str x
theorem dKey_ok {K : PySem.W.Frag} {mg : Str → Option Value} {F : Addr → Prop} {ι : List Addr} {H : Hp} (k : Key) : DV K mg F ι H (dKey k) (kV k) := by
  cases k with
  | inl i => exact .int i
  | inr x => exact .str x
/-- the keys of a dict that is a value in a slot -/
def cKeys (i : Nat) : CI := fun ρ mh => match ρ[i]? with
  | some (some (.dic ks _)) => .ok (ks.map dKey, none) mh
  | _ => .stuck
/-- what runs while that dict is locked -/
def cLock (i : Nat) (f : CE) : CE := fun ρ mh => match ρ[i]? with
  | some (some (.dic _ _)) => (match f ρ mh with
    | .ok a m => .ok a m
    | _ => .stuck)
  | _ => .stuck
def Locked (i : Nat) (σ : L2.St) (H : Hp) : Prop := ∃ d o kvs, σ[i]? = some (some (.ref d)) ∧ H d = some (.frz o (.dK kvs))
structure JEL (X : Cx) (W : WX) (i : Nat) (e : Expr) (f : CE) : Prop where
  ex : ∃ t, PE X e t ∧ ∀ (ρ : En) (mh : List O) (F : Addr → Prop) (ι : List Addr) (σ : L2.St) (H : Hp) (Q : VK), SR X.K X.mg F ι mh H → ER X.K X.mg F ι H ρ σ → Locked i σ H → Post X.K X.mg (DR X) W σ F ι H (f ρ mh) Q → t σ H Q
section
variable {X : Cx} {W : WX} {k : Nat} {pos : Pos}
theorem j_lock {i : Nat} {e : Expr} {f : CE} (h : JEL X W i e f) : JE X W e (cLock i f) := by
  obtain ⟨t, p, q⟩ := h.ex
  refine ⟨fun σ H Q => tLockE t σ H Q ∨ t σ H Q, ⟨fun pins s σ H Q I z => z.elim ((pe_lock p).run pins s σ H Q I) (p.run pins s σ H Q I)⟩, fun ρ mh F ι σ H Q sr er hp => ?_⟩
  unfold cLock at hp
  split at hp
  · rename_i ks ds ei
    obtain ⟨v, ev, rv⟩ := er.2 i _ ei
    cases rv with
    | @dic d _ _ kvs hd nF ek rr =>
      split at hp
      · rename_i a m ef
        rcases hd with hd | ⟨o, hd⟩
        · refine .inl ⟨d, .dK kvs, hd, trivial, fun od => ?_⟩
          have L : Lk d kvs H (upd H d (.frz od (.dK kvs))) := ⟨fun a na => upd_ne na, .inl hd, .inr ⟨od, upd_same⟩⟩
          have nι : d ∉ ι := fun z => nF (sr.sub d z)
          refine q ρ mh F ι σ _ _ (sr.lk L nF (tabs_upd sr.tabs hd fun _ _ => ⟨(fun z => nomatch z), fun z => nomatch z⟩)) (er.lk L) ⟨d, od, kvs, ev, upd_same⟩ ?_
          rw [ef]
          intro F1 ι1 H1 b st1 sr1 rb
          have hl : (upd H d (.frz od (.dK kvs))) d = some (.frz od (.dK kvs)) := upd_same
          have h1 : H1 d = some (.frz od (.dK kvs)) := st1.keep d _ hl nι fun _ z => nomatch z
          have L1 : Lk d kvs H1 (upd H1 d (.dK kvs)) := ⟨fun a na => upd_ne na, .inr ⟨od, h1⟩, .inl upd_same⟩
          have nF1 : ¬ F1 d := fun z => (st1.new d z).elim nF fun y => by rw [hl] at y; cases y
          have lv : ∀ a, upd H d (.frz od (.dK kvs)) a = none → H a = none := fun a z => by
            by_cases y : a = d
            · rw [y, hl] at z; cases z
            · rw [upd_ne y] at z; exact z
          refine ⟨h1, hp F1 ι1 _ b ⟨st1.pre, st1.up, fun a z => (st1.new a z).imp_right (lv a), fun a z => (st1.inew a z).imp_right (lv a), fun a u e n nt => ?_, fun a vs r => ?_, fun a u e => ?_⟩
            (sr1.lk L1 nF1 (tabs_upd sr1.tabs h1 fun _ _ => ⟨(fun z => nomatch z), fun z => nomatch z⟩)) (DV.lk L1 _ _ rb)⟩
          · by_cases y : a = d
            · subst y
              rw [hd] at e
              cases e
              exact upd_same
            · rw [upd_ne y]
              exact st1.keep a u (by rw [upd_ne y]; exact e) n nt
          · exact L1.rd_to (st1.tups a vs (L.rd_to r (fun _ z => nomatch z) fun _ _ z => nomatch z)) (fun _ z => nomatch z) fun _ _ z => nomatch z
          · by_cases y : a = d
            · exact ⟨_, by rw [y]; exact upd_same⟩
            · obtain ⟨u', e'⟩ := st1.live a u (by rw [upd_ne y]; exact e)
              exact ⟨u', by rw [upd_ne y]; exact e'⟩
        · refine .inr (q ρ mh F ι σ H Q sr er ⟨d, o, kvs, ev, hd⟩ ?_)
          rw [ef]; exact hp
      · exact hp.elim
  · exact hp.elim
theorem keys_ok {i : Nat} {ρ : En} {mh : List O} {F : Addr → Prop} {ι : List Addr} {σ : L2.St} {H : Hp} {R : It → Hp → Prop} (sr : SR X.K X.mg F ι mh H) (er : ER X.K X.mg F ι H ρ σ) (lk : Locked i σ H) (h : Post X.K X.mg (RI X) W σ F ι H (cKeys i ρ mh) R) : iKeys (tVar i) σ H R := by
  unfold cKeys at h
  split at h
  · rename_i ks ds ei
    obtain ⟨v, ev, rv⟩ := er.2 i _ ei
    obtain ⟨d, o, kvs, ed, hd⟩ := lk
    rw [ev] at ed
    cases ed
    cases rv with
    | @dic _ _ _ kvs' hd' nF ek rr =>
      have : kvs' = kvs := by
        rcases hd' with z | ⟨o2, z⟩ <;> rw [hd] at z <;> cases z <;> rfl
      subst this
      have nι : d ∉ ι := fun z => nF (sr.sub d z)
      refine ⟨_, ev, d, o, rfl, .inl ⟨kvs', hd, h.ok sr ?_⟩⟩
      intro F' ι' H' mh' st sr' gd j
      have h' : H' d = some (.frz o (.dK kvs')) := st.keep d _ hd nι fun _ z => nomatch z
      have hl : (ks.map dKey).length = kvs'.length := by rw [← ek, List.length_map, List.length_map]
      refine ⟨fun x hx => ?_, fun hj => ⟨h', by show kvs'.length ≤ j; rw [← hl]; exact hj⟩⟩
      rw [← ek, List.map_map, List.getElem?_map] at hx
      obtain ⟨kv, e1, e2⟩ := Option.map_eq_some_iff.mp hx
      refine ⟨⟨h', (List.getElem?_eq_some_iff.mp e1).1⟩, fun y H2 ⟨e3, k', v', e4, e5⟩ => ?_⟩
      subst e3 e5
      rw [e1] at e4
      cases e4
      refine ⟨fun _ _ z => z, ?_⟩
      rw [← e2]
      exact dKey_ok _
  · exact h.elim
section
variable {elt tg : Expr} {ifs : List Expr} {scope : Scope} {own : List (Str × Nat)} {ix : List Nat} {fg : CG} {ft : CT} {fe : CE} {p1 : Pos} {x : Str}
theorem j_lcK (c : Cc k X W) (w : Bool) (i : Nat) (ok : BlkOk X.N X.env.scope scope own)
    (hg : ∀ (s : Shared) (H : Hp) (C : Addr) (cl : List (Str × Addr)) (fp : List Addr), Cc k (X.blk s H scope (compEnvC scope cl C X.env) fp) W0 → JG (X.blk s H scope (compEnvC scope cl C X.env) fp) W0 tg ix fg)
    (ht : ∀ (s : Shared) (H : Hp) (C : Addr) (cl : List (Str × Addr)) (fp : List Addr), Cc k (X.blk s H scope (compEnvC scope cl C X.env) fp) W0 → JTs (X.blk s H scope (compEnvC scope cl C X.env) fp) W0 ifs ft)
    (he : ∀ (s : Shared) (H : Hp) (C : Addr) (cl : List (Str × Addr)) (fp : List Addr), Cc k (X.blk s H scope (compEnvC scope cl C X.env) fp) W0 → JE (X.blk s H scope (compEnvC scope cl C X.env) fp) W0 elt fe)
    (hN : X.N[i]? = some x := by rfl) (hv : Vis X.env.scope x := by first | exact Or.inl rfl | exact Or.inr (Or.inl rfl) | exact Or.inr (Or.inr rfl)) (hd : (x == ("__debug__" : Str)) = false := by decide)
    (hcd : (x == ("__classdict__" : Str)) = false := by decide)
    (hix : ∀ i ∈ ix, i ∈ own.map (·.2) := by decide) (hs : ∀ y, foldedSetIterable (.Name x p1) X.env y = pure y := by intro _; rfl) :
    JE X W (.ListComp elt [⟨tg, .Name x p1, ifs, 0⟩] scope pos) (cLock i (cLcX w (cKeys i) fg ft fe (own.map (·.2)))) := by
  have og := (hg {} (fun _ => none) 0 [] [] c.blk).only
  have pi : PI X tg (.Name x p1) (iKeys (tVar i)) := pi_keys (pe_var hN hv hd hcd)
  refine j_lock ⟨_, pe_lc (g := canG X ix fg) (tt := canT X W0 ft) (te := canE X W0 fe) c.calm c.nd pi ok (fun s H C cl fp => (hg s H C cl fp c.blk).can) (fun s H C cl fp => (ht s H C cl fp c.blk).can) (fun s H C cl fp => (he s H C cl fp c.blk).can) hs, fun ρ mh F ι σ H Q sr er lk h => ?_⟩
  have := lcx (X := X) (W := W) (ix := ix) (fi := cKeys i) (fg := fg) (ft := ft) (fe := fe) (w := w) (wi := fun σ H R => Locked i σ H → iKeys (tVar i) σ H R) (fun ρ mh F ι σ H R sr er hp lk => keys_ok sr er lk hp) og hix sr er h
  exact this lk
end
/-! ### in, not in -/
variable {a b : Expr} {fa fb : CE}
def oInD (neg : Bool) (y d : D) (mh : List O) : Res D := match dicOf mh d, keyD y with
  | some (ks, _), some k => .ok (.bl (if neg = true then !hasK ks k else hasK ks k)) mh
  | _, _ => .stuck
theorem valV_some (k : Key) : ∀ kvs : List (Key × V), (valV kvs k).isSome = hasK (kvs.map (·.1)) k
  | [] => rfl
  | p :: kvs => by
    have ih := valV_some k kvs
    unfold valV hasK at ih ⊢
    by_cases z : p.1 = k <;> simp_all
theorem inD_ok {y d : D} {v u : V} {F : Addr → Prop} {ι : List Addr} {mh : List O} {H : Hp} {ks : List Key} {ds : List D} {kk : Key} (sr : SR X.K X.mg F ι mh H) (r1 : DV X.K X.mg F ι H y v) (r2 : DV X.K X.mg F ι H d u) (e : dicOf mh d = some (ks, ds)) (ek : keyD y = some kk) :
    ∃ p o, u = .ref p ∧ DGet H p v o ∧ o.isSome = hasK ks kk := by
  obtain ⟨p, kvs, rfl, hH, hk, rr⟩ := dicOf_ok sr r2 e
  subst hk
  exact ⟨p, valV kvs kk, rfl, .inl ⟨kvs, kk, hH, keyD_ok r1 ek, rfl⟩, valV_some _ _⟩
theorem inD_two {ta tb : TE} {σ : L2.St} {r : R2} {neg : Bool} {fa fb : CE}
    (qa : ∀ (ρ : En) (mh : List O) (F : Addr → Prop) (ι : List Addr) (σ : L2.St) (H : Hp) (Q : VK), SR X.K X.mg F ι mh H → ER X.K X.mg F ι H ρ σ → Post X.K X.mg (DR X) W σ F ι H (fa ρ mh) Q → ta σ H Q)
    (qb : ∀ (ρ : En) (mh : List O) (F : Addr → Prop) (ι : List Addr) (σ : L2.St) (H : Hp) (Q : VK), SR X.K X.mg F ι mh H → ER X.K X.mg F ι H ρ σ → Post X.K X.mg (DR X) W σ F ι H (fb ρ mh) Q → tb σ H Q)
    {ρ : En} {mh : List O} {F : Addr → Prop} {ι : List Addr} {H : Hp} {Q : VK} (sr : SR X.K X.mg F ι mh H) (er : ER X.K X.mg F ι H ρ σ) (h : Post X.K X.mg (DR X) W σ F ι H (c2 (oInD neg) fa fb ρ mh) Q) :
    ta σ H fun y H1 => tb σ H1 fun x H2 => ∃ a o, x = .ref a ∧ DGet H2 a y o ∧ Q (.bl (if neg = true then !o.isSome else o.isSome)) H2 :=
  two (r := fun y x H Q => ∃ a o, x = .ref a ∧ DGet H a y o ∧ Q (.bl (if neg = true then !o.isSome else o.isSome)) H) qa qb (fun W σ F ι mh H d e v u Q sr r1 r2 h => by
    unfold oInD at h
    split at h
    · rename_i ks ds kk e1 e2
      obtain ⟨p, o, e3, e4, e5⟩ := inD_ok sr r1 r2 e1 e2
      refine ⟨p, o, e3, e4, ?_⟩
      rw [e5]
      exact h.ok sr (.bl _)
    · exact h.elim) sr er h
theorem j_inD (c : Cc k X W) (ha : JE X W a fa) (hb : JE X W b fb) (hm : behindInMarks .In b = false := by first | exact nomark _ | with_unfolding_all rfl) : JE X W (.Compare a [.In] [b] pos) (c2 (oInD false) fa fb) := by
  obtain ⟨ta, pa, qa⟩ := ha.ex
  obtain ⟨tb, pb, qb⟩ := hb.ex
  exact ⟨_, pe_cmp (pc_din (by have := c.hr.units; omega) pa pb) hm, fun ρ mh F ι σ H Q sr er h => inD_two (r := fun _ _ _ _ => True) (neg := false) qa qb sr er h⟩
theorem j_notInD (c : Cc k X W) (ha : JE X W a fa) (hb : JE X W b fb) (hm : behindInMarks .NotIn b = false := by first | exact nomark _ | with_unfolding_all rfl) : JE X W (.Compare a [.NotIn] [b] pos) (c2 (oInD true) fa fb) := by
  obtain ⟨ta, pa, qa⟩ := ha.ex
  obtain ⟨tb, pb, qb⟩ := hb.ex
  exact ⟨_, pe_cmp (pc_dnotin (by have := c.hr.units; omega) pa pb) hm, fun ρ mh F ι σ H Q sr er h => inD_two (r := fun _ _ _ _ => True) (neg := true) qa qb sr er h⟩
theorem inD_tst {ta tb : TE} {σ : L2.St} {neg : Bool} {fa fb : CE}
    (qa : ∀ (ρ : En) (mh : List O) (F : Addr → Prop) (ι : List Addr) (σ : L2.St) (H : Hp) (Q : VK), SR X.K X.mg F ι mh H → ER X.K X.mg F ι H ρ σ → Post X.K X.mg (DR X) W σ F ι H (fa ρ mh) Q → ta σ H Q)
    (qb : ∀ (ρ : En) (mh : List O) (F : Addr → Prop) (ι : List Addr) (σ : L2.St) (H : Hp) (Q : VK), SR X.K X.mg F ι mh H → ER X.K X.mg F ι H ρ σ → Post X.K X.mg (DR X) W σ F ι H (fb ρ mh) Q → tb σ H Q)
    {ρ : En} {mh : List O} {F : Addr → Prop} {ι : List Addr} {H : Hp} {Q : Bool → Hp → Prop} (sr : SR X.K X.mg F ι mh H) (er : ER X.K X.mg F ι H ρ σ) (h : Post X.K X.mg BR W σ F ι H (cB (c2 (oInD neg) fa fb) ρ mh) Q) :
    ta σ H fun y H1 => tb σ H1 fun x H2 => ∃ a o, x = .ref a ∧ DGet H2 a y o ∧ ∃ b, V.bl (if neg = true then !o.isSome else o.isSome) = .bl b ∧ Q b H2 := by
  have h' : Post X.K X.mg (DR X) W σ F ι H (c2 (oInD neg) fa fb ρ mh) _ := Post.bind (R := DR X) h
  exact inD_two (r := fun _ _ _ _ => True) (neg := neg) qa qb sr er (h'.mono fun x H1 ⟨F1, ι1, d1, m1, st1, sr1, r1, h1⟩ => post_isB sr1 r1 h1)
theorem t_inD (c : Cc k X W) (ha : JE X W a fa) (hb : JE X W b fb) (hm : behindInMarks .In b = false := by first | exact nomark _ | with_unfolding_all rfl) : JT X W (.Compare a [.In] [b] pos) (cB (c2 (oInD false) fa fb)) := by
  obtain ⟨ta, pa, qa⟩ := ha.ex
  obtain ⟨tb, pb, qb⟩ := hb.ex
  exact ⟨_, pt_cmp (pc_din (by have := c.hr.units; omega) pa pb) hm, fun ρ mh F ι σ H Q sr er h => inD_tst (neg := false) qa qb sr er h⟩
theorem t_notInD (c : Cc k X W) (ha : JE X W a fa) (hb : JE X W b fb) (hm : behindInMarks .NotIn b = false := by first | exact nomark _ | with_unfolding_all rfl) : JT X W (.Compare a [.NotIn] [b] pos) (cB (c2 (oInD true) fa fb)) := by
  obtain ⟨ta, pa, qa⟩ := ha.ex
  obtain ⟨tb, pb, qb⟩ := hb.ex
  exact ⟨_, pt_cmp (pc_dnotin (by have := c.hr.units; omega) pa pb) hm, fun ρ mh F ι σ H Q sr er h => inD_tst (neg := true) qa qb sr er h⟩
/-! ### equal dicts -/
def rEqR (b : Bool) : R2 := fun x y H Q => ∃ p q ks ls, x = .ref p ∧ y = .ref q ∧ Rd H p (.dK ks) ∧ Rd H q (.dK ls) ∧ ks.length = ls.length ∧ (∀ z ∈ ks, valV ls z.1 = some z.2 ∧ flatB z.2 = true) ∧ Q (.bl b) H
theorem rd_dk {p : Addr} {ks : List (Key × V)} {pins : List (Addr × Obj)} {σ : L2.St} {H : Hp} {s : Shared} (I : Inv X pins σ H s) (h : Rd H p (.dK ks)) : ObjOk X.prog X.w H s.heap p (.dK ks) := by
  rcases h with h | ⟨o, h⟩
  · exact I.hok p _ h
  · exact (show ObjOk X.prog X.w H s.heap p (.frz o (.dK ks)) from I.hok p _ h).2
theorem op_eq_dR (hu : X.A.units < cLine) : OpR X (compareOp .Eq) (rEqR true) := by
  intro pins s σ H x y v u Q I rx ry h
  obtain ⟨p, q, ks, ls, rfl, rfl, ea, eb, hlen, hp, hq⟩ := h
  obtain rfl : v = Value.ref p := rx
  obtain rfl : u = Value.ref q := ry
  obtain ⟨_, ya, va, ra, da⟩ := rd_dk I ea
  obtain ⟨_, yb, vb, rb, db⟩ := rd_dk I eb
  have hl : va.length = vb.length := by rw [← ra.length, ← rb.length]; exact hlen
  exact PySem.W.keq_eq (knd := mixKind X.prog X.w) (r := true) ya yb da db hu (fun _ => hits_all rb ra hp) (fin_bl I hq (by simp [hl]))
theorem op_ne_dR (hu : X.A.units < cLine) : OpR X (compareOp .NotEq) (rEqR false) := by
  intro pins s σ H x y v u Q I rx ry h
  obtain ⟨p, q, ks, ls, rfl, rfl, ea, eb, hlen, hp, hq⟩ := h
  obtain rfl : v = Value.ref p := rx
  obtain rfl : u = Value.ref q := ry
  obtain ⟨_, ya, va, ra, da⟩ := rd_dk I ea
  obtain ⟨_, yb, vb, rb, db⟩ := rd_dk I eb
  have hl : va.length = vb.length := by rw [← ra.length, ← rb.length]; exact hlen
  exact PySem.W.keq_ne (knd := mixKind X.prog X.w) (r := true) ya yb da db hu (fun _ => hits_all rb ra hp) (fin_bl I hq (by simp [hl]))
/-- the same entries (numbers, texts, truths) -/
def sameE (ks : List Key) (ds : List D) (ls : List Key) (es : List D) : Prop := ks.length = ls.length ∧ ∀ (i : Nat) (kk : Key) (d : D), ks[i]? = some kk → ds[i]? = some d → ∃ v, flatD d = some v ∧ (getK ls es kk).bind flatD = some v
open Classical in
noncomputable def oEqDA (b : Bool) (x y : D) (mh : List O) : Res D := match dicOf mh x, dicOf mh y with
  | some (ks, ds), some (ls, es) => if sameE ks ds ls es then .ok (.bl b) mh else .stuck
  | _, _ => .stuck
theorem flatD_B {d : D} {v u : V} {F : Addr → Prop} {ι : List Addr} {H : Hp} (r : DV X.K X.mg F ι H d v) (e : flatD d = some u) : flatB u = true := by
  cases r <;> cases e <;> rfl
theorem vo_eqDA (b : Bool) : VO2 X (rEqR b) (oEqDA b) := by
  intro W σ F ι mh H x y v u Q sr r1 r2 h
  unfold oEqDA at h
  split at h
  · rename_i ks ds ls es e1 e2
    split at h
    · rename_i sm
      obtain ⟨p, kvs, rfl, hp, hk, rk⟩ := dicOf_ok sr r1 e1
      obtain ⟨q, lvs, rfl, hq, hl, rl⟩ := dicOf_ok sr r2 e2
      subst hk hl
      refine ⟨p, q, kvs, lvs, rfl, rfl, hp, hq, by simpa using sm.1, fun z hz => ?_, h.ok sr (.bl b)⟩
      obtain ⟨i, hi⟩ := List.mem_iff_getElem?.mp hz
      obtain ⟨d, hd, rd⟩ := rk.getV (i := i) (v := z.2) (by rw [List.getElem?_map, hi]; rfl)
      obtain ⟨w, w1, w2⟩ := sm.2 i z.1 d (by rw [List.getElem?_map, hi]; rfl) hd
      have := (flatD_ok rd w1).1
      rw [this]
      refine ⟨?_, flatD_B rd w1⟩
      obtain ⟨g1, _⟩ := getK_ok (k := z.1) rl
      cases hg : getK (lvs.map (·.1)) es z.1 with
      | none => rw [hg] at w2; cases w2
      | some d2 =>
        rw [hg] at w2
        obtain ⟨w3, h3, r3⟩ := g1 d2 hg
        rw [h3, (flatD_ok r3 w2).1]
    · exact h.elim
  · exact h.elim
end
end G

/-! Part HE: a call whose live arguments are handed as values (what the callee tells is new). -/
namespace G
open PySem PySem.Spec PyProof.Rows L2
def fzN (mh : List O) : Nat → D → Option D
  | 0, _ => none
  | n + 1, d => match d with
    | .non => some .non
    | .bl b => some (.bl b)
    | .int i => some (.int i)
    | .str x => some (.str x)
    | .tup ds => (fzl (fzN mh n) ds).map .tup
    | .ref m => match mh[m]? with
      | some (.lst ds) => (fzl (fzN mh n) ds).map .lst
      | some (.dic ks ds) => (fzl (fzN mh n) ds).map (.dic ks)
      | _ => none
    | _ => none
section
variable {K : PySem.W.Frag} {mg : Str → Option Value} {F F' : Addr → Prop} {ι ι' : List Addr} {H H' : Hp} {mh' : List O}
theorem fzN_ok (sr : SR K mg F' ι' mh' H') (nf : ∀ a, a ∈ ι' → ¬ F a) : ∀ (n : Nat) (d d' : D) (v : V), DV K mg F' ι' H' d v → fzN mh' n d = some d' → DV K mg F ι H' d' v := by
  intro n
  induction n with
  | zero => intro d d' v _ e; cases e
  | succ n ih =>
    have all : ∀ (ds ds' : List D) (vs : List V), DVs K mg F' ι' H' ds vs → fzl (fzN mh' n) ds = some ds' → DVs K mg F ι H' ds' vs := by
      intro ds
      induction ds with
      | nil => intro ds' vs h e; cases h; cases e; exact .nil
      | cons d ds ihl =>
        intro ds' vs h e
        cases h with
        | cons h t =>
          unfold fzl at e
          split at e
          · rename_i x xs e1 e2
            cases e
            exact .cons (ih _ _ _ h e1) (ihl _ _ t e2)
          · cases e
    intro d d' v h e
    cases h with
    | non => cases e; exact .non
    | bl b => cases e; exact .bl b
    | int i => cases e; exact .int i
    | str x => cases e; exact .str x
    | ty n => cases e
    | glb m r => cases e
    | tup h r =>
      obtain ⟨ds', e1, rfl⟩ := Option.map_eq_some_iff.mp e
      exact .tup h (all _ _ _ r e1)
    | lst h r => cases e
    | dic h n e0 r => cases e
    | obj h m e0 r => cases e
    | clo h r => cases e
    | @ref m a ea =>
      have e : (match mh'[m]? with
        | some (.lst ds) => (fzl (fzN mh' n) ds).map .lst
        | some (.dic ks ds) => (fzl (fzN mh' n) ds).map (.dic ks)
        | _ => none) = some d' := e
      have na := nf a (List.mem_of_getElem? ea)
      split at e
      · rename_i ds q
        obtain ⟨ds', e1, rfl⟩ := Option.map_eq_some_iff.mp e
        cases sr.ob _ _ _ q ea with
        | lst h r => exact .lst (.inl ⟨.inl h, na⟩) (all _ _ _ r e1)
      · rename_i ks ds q
        obtain ⟨ds', e1, rfl⟩ := Option.map_eq_some_iff.mp e
        cases sr.ob _ _ _ q ea with
        | dic h e0 r => exact .dic (.inl h) na e0 (all _ _ _ r e1)
      · cases e
theorem fzls_all (sr : SR K mg F' ι' mh' H') (nf : ∀ a, a ∈ ι' → ¬ F a) (up : ∀ a, F a → F' a) : ∀ (ds ds' : List D) (vs : List V), DVs K mg F' ι' H' ds vs → fzl (fz mh' 12) ds = some ds' → DVs K mg F ι H' ds' vs := by
  intro ds
  induction ds with
  | nil => intro ds' vs h e; cases h; cases e; exact .nil
  | cons d ds ihl =>
    intro ds' vs h e
    cases h with
    | cons h t =>
      unfold fzl at e
      split at e
      · rename_i x xs e1 e2
        cases e
        exact .cons (fz_ok sr nf up 12 _ _ _ h e1) (ihl _ _ t e2)
      · cases e
end
/-- live arguments handed as values, the callee in a heap of its own, what it tells is new -/
def oPF (f : Fn) : Fn := fun ds mh => match fzl (fz mh 12) ds with
  | some es => if noRefs es = true then (match f es [] with
    | .ok d m => (match fzN m 12 d with
      | some d' => .ok d' mh
      | none => .stuck)
    | _ => .stuck) else .stuck
  | none => .stuck
section
variable {X : Cx} {W : WX} {k j : Nat} {pos p : Pos} {x : Str} {n : Nat} {f : Fn} {e : Expr} {es : List Expr}
theorem sp_callF {K : PySem.W.Frag} {mg : Str → Option Value} {F : Addr → Prop} {ι : List Addr} {mh : List O} {σ : L2.St} {H : Hp} {ds : List D} {vs : List V} {Q : VK} (hn : vs.length = n) (sr : SR K mg F ι mh H) (r : DVs K mg F ι H ds vs)
    (h : Post K mg (fun F ι H d v => DV K mg F ι H d v) W σ F ι H (oPF f ds mh) Q) : spG K mg n f vs H Q (WE W σ) := by
  unfold oPF at h
  split at h
  · rename_i es ef
    split at h
    · rename_i hr
      have r0 : DVs K mg (fun _ => False) ι H es vs := fzls_all sr (fun _ _ z => z) (fun _ z => z.elim) ds es vs r ef
      have sr0 : SR K mg (fun _ => False) [] [] H := ⟨rfl, List.nodup_nil, fun n o a e => by simp at e, fun a z => by simp at z, fun a z => z.elim, sr.tabs⟩
      refine ⟨hn, es, (fun _ => False), [], [], sr0, DVs.own es _ hr r0, ?_⟩
      revert h
      generalize f es [] = o
      intro h
      cases o with
      | ok d m =>
        intro F' ι' H' b st sr' rb
        have st1 : Step F [] H (fun a => F a ∨ F' a) ι' H' := ⟨st.pre, fun a z => .inl z, fun a z => z.elim .inl fun y => (st.new a y).elim (fun w => w.elim) .inr, st.inew, st.keep, st.tups, st.live⟩
        obtain ⟨sr2, st2⟩ := sr.own st1 sr'.tabs
        have nf : ∀ a, a ∈ ι' → ¬ F a := fun a ha z => by
          rcases st.inew a ha with q | q
          · simp at q
          · exact sr.old a z q
        dsimp only at h
        split at h
        · rename_i d' e
          exact h F ι H' b st2 sr2 (fzN_ok sr' nf 12 _ _ _ rb e)
        · exact h.elim
      | err c es m => exact h.elim
      | stuck => exact h.elim
    · exact h.elim
  · exact h.elim
theorem j_callF {g : CA} (d : Def X.prog X.w X.K X.mg X.base j x n f) (c : Cc k X W) (ha : JA X W (e :: es) g) (hk : j ≤ k := by omega) (hg : Gl X x := by rfl)
    (hdb : (x == ("__debug__" : Str)) = false := by decide) (he : starEach (e :: es) X.env = (false, eval e X.env) :: starEach es X.env := by rfl) (hpl : (backTo pos (starEach es X.env)).any (·.1) = false := by rfl) :
    JE X W (.Call (.Name x p) (e :: es) [] pos) (cL (ar n (oPF f)) g) :=
  j_callAny d c hk ha (fun F ι mh σ H ds vs Q hn sr r h => sp_callF hn sr r (by unfold ar at h; rw [if_pos (by rw [DVs.length r]; exact hn)] at h; exact h)) (fun ds mh hx => if_neg hx) hg hdb he hpl
end
end G

/-! Part HF: sorted(xs), xs any list of tuples of ints. -/
namespace G
open PySem PySem.Spec PyProof.Rows L2
def rSortD (X : Cx) : List V → Hp → VK → Prop := fun vs H Q => ∃ (a : Addr) (xs : List V) (gs : List (List Int)), vs = [.ref a] ∧ SqL X.K H a xs ∧ gs.length = xs.length ∧ (∀ g ∈ gs, g ≠ []) ∧
  (∀ (i : Nat) (v : V) (g : List Int), xs[i]? = some v → gs[i]? = some g → TupI X.K H v g) ∧ ∀ p, H p = none → Q (.ref p) (upd H p (.lst (srtK xs gs)))
theorem each_reads {X : Cx} {pins : List (Addr × Obj)} {σ : L2.St} {H : Hp} {s : Shared} (I : Inv X pins σ H s) : ∀ {vs : List V} {us : List Value} {gs : List (List Int)}, Vals vs us → gs.length = vs.length → (∀ (i : Nat) (v : V) (g : List Int), vs[i]? = some v → gs[i]? = some g → TupI X.K H v g) →
    PySem.W.EachIs (fun u (b : V × List Int) => ∃ as, Reads s.heap u (kd b.2) as) us (vs.zip gs)
  | _, _, [], h, hl, _ => by
    cases h with
    | nil => exact .nil
    | cons _ _ => simp at hl
  | _, _, g :: gs, h, hl, ht => by
    cases h with
    | nil => simp at hl
    | cons r t => exact .cons ⟨[], tup_reads I (ht 0 _ g rfl rfl) r⟩ (each_reads I t (by simpa using hl) fun i v g' h1 h2 => ht (i + 1) v g' (by simpa using h1) (by simpa using h2))
theorem zip_enc (vs : List V) (gs : List (List Int)) (hl : gs.length = vs.length) : (vs.zip gs).map (fun b => kd b.2) = gs.map kd := by
  have : ((vs.zip gs).map Prod.snd).map kd = gs.map kd := by rw [List.map_snd_zip (by omega)]
  rw [← this, List.map_map]
  rfl
theorem cr_sortD {X : Cx} (hA : X.A.units + 10 < cLine) : CallR X (.builtin "sorted") (rSortD X) := by
  intro pins s σ H vs us Q I r h
  obtain ⟨a, xs, gs, rfl, hs, hl, hne, ht, q⟩ := h
  obtain ⟨its, rv, p, hz⟩ := I.list hs
  have lv := rv.length
  rw [Vals.ref1 r]
  refine PySem.W.sorted_data (R := fun u (b : V × List Int) => RelV b.1 u) (enc := fun b : V × List Int => kd b.2) (bs := xs.zip gs) p.isList (each_zip rv hl) (each_reads I rv hl ht)
    (by rw [zip_enc xs gs hl]; exact kd_alike gs) (by rw [zip_enc xs gs hl]; exact kd_sortable gs hne) (by rw [List.length_zip]; omega) (fun b _ => by have := kd_depth b.2; show X.A.units + 2 + (kd b.2).depth < cLine; omega) fun out ho ev => ?_
  rw [lek_data] at ev
  have rv' := vals_each ev
  have hlen : (srtK xs gs).length ≤ sizeLine := by
    unfold srtK
    rw [List.length_map, List.length_mergeSort, List.length_zip]
    omega
  obtain ⟨ep, he'⟩ := PyProof.Rows.sortedAll_at s.heap its out.toArray
  exact ⟨.ref _, upd H (s.heap.objs.size + 1) (.lst (srtK xs gs)), I.laid (t' := s.toks) (fun _ _ => PyProof.Rows.sortedAll_old) (Nat.le_succ _) ⟨hlen, out, ep, rv', he'⟩, rfl, q _ (I.hok.fresh (Nat.le_succ _))⟩
def idF : Fn := fun ds mh => match ds with
  | [d] => .ok d mh
  | _ => .stuck
/-- sorted(xs): tuples of ints, any number of them -/
def oSortD (ds : List D) (mh : List O) : Res D := oSortK idF ds mh
theorem idF_key {d : D} {ns : List Int} (h : keyOf idF d = some ns) : d = tI ns ∧ ns ≠ [] := by
  unfold keyOf at h
  by_cases hr : noRefs [d] = true
  · have e : oP idF [d] [] = .ok d [] := by
      unfold oP
      rw [if_pos hr]
      rfl
    rw [e] at h
    dsimp only at h
    cases ht : tIs d with
    | none => rw [ht] at h; cases h
    | some ms =>
      rw [ht] at h
      cases ms with
      | nil => cases h
      | cons m ms =>
        cases h
        exact ⟨tIs_some ht, by simp⟩
  · have e : oP idF [d] [] = .stuck := by
      unfold oP
      rw [if_neg hr]
    rw [e] at h
    cases h
theorem mapM_all {f : D → Option (List Int)} : ∀ {es : List D} {ks : List (List Int)}, es.mapM f = some ks → ks.length = es.length ∧ (∀ (i : Nat) (d : D) (k : List Int), es[i]? = some d → ks[i]? = some k → f d = some k) ∧ ∀ k ∈ ks, ∃ d ∈ es, f d = some k
  | [], ks, h => by
    simp at h
    subst h
    exact ⟨rfl, fun i d k h1 => by simp at h1, fun k hk => by simp at hk⟩
  | e :: es, ks, h => by
    rw [List.mapM_cons] at h
    cases h1 : f e with
    | none => rw [h1] at h; cases h
    | some k0 =>
      rw [h1] at h
      cases h2 : es.mapM f with
      | none => simp [h2] at h
      | some ks0 =>
        simp [h2] at h
        subst h
        obtain ⟨a, b, c⟩ := mapM_all h2
        refine ⟨by simp [a], fun i d k g1 g2 => ?_, fun k hk => ?_⟩
        · cases i with
          | zero => simp at g1 g2; subst g1 g2; exact h1
          | succ i => exact b i d k (by simpa using g1) (by simpa using g2)
        · rcases List.mem_cons.mp hk with rfl | hk
          · exact ⟨e, List.mem_cons_self, h1⟩
          · obtain ⟨d, hd, e2⟩ := c k hk
            exact ⟨d, List.mem_cons_of_mem _ hd, e2⟩
theorem vo_sortD {X : Cx} : VOL X (rSortD X) oSortD := by
  intro W σ F ι mh H ds vs Q sr r h
  unfold oSortD oSortK at h
  split at h
  · split at h
    · rename_i es e1
      split at h
      · rename_i ks em
        cases r with
        | cons r1 r2 =>
          cases r2
          obtain ⟨a, xs, rfl, s1, q1⟩ := lstOf_ok sr r1 e1
          obtain ⟨hl, hk, hm⟩ := mapM_all em
          have lx := q1.length
          refine ⟨a, xs, ks, rfl, s1, by omega, fun g hg => ?_, fun i v g h1 h2 => ?_, fun p hp => ?_⟩
          · obtain ⟨d, _, e⟩ := hm g hg
            exact (idF_key e).2
          · obtain ⟨d, hd, rd⟩ := q1.getV h1
            rw [(idF_key (hk i d g hd h2)).1] at rd
            exact dv_tI rd
          · have st : Step F ι H F ι (upd H p (.lst (srtK xs ks))) := step_new hp
            exact h F ι _ _ st (sr.fresh hp) (.lst (.inl ⟨.inl upd_same, sr.notNew hp⟩) (DVs.to sr.sub st _ _ (dvs_srtK q1 hl)))
      · exact h.elim
    · exact h.elim
  · exact h.elim
theorem sortD_eq {α : Type} {h : α → D} {g : α → List Int} {x : D} {xs : List α} {mh : List O} (hx : lstOf mh x = some (xs.map h)) (hg : ∀ a ∈ xs, g a ≠ [] ∧ h a = tI (g a)) : oSortD [x] mh = .ok (.lst ((srtL g xs).map h)) mh := by
  refine sortK_eq (f := idF) hx (fun a ha => ?_) (fun a ha => (hg a ha).1) fun a ha => ?_
  · rw [(hg a ha).2]
    unfold tI noRef
    exact noRefs_map fun _ _ => by unfold noRef; rfl
  · rw [(hg a ha).2]; rfl
end G

/-! Part HG: dicts by tuples of ints and texts, live ones: new, in, not in, put. -/
namespace G
open PySem PySem.Spec PyProof.Rows L2
def keysT : List D → Option (List Key)
  | [] => some []
  | d :: ds => match keyD d, keysT ds with
    | some k, some ks => some (k :: ks)
    | _, _ => none
def hasT (ks : List (List Key)) (k : List Key) : Bool := ks.any fun j => decide (j = k)
def setT : List (List Key) → List D → List Key → D → List D
  | k' :: ks, x :: ds, k, d => (if k' = k then d else x) :: setT ks ds k d
  | _, ds, _, _ => ds
def putTs (ks : List (List Key)) (k : List Key) : List (List Key) := if hasT ks k = true then ks else ks ++ [k]
def putTd (ks : List (List Key)) (ds : List D) (k : List Key) (d : D) : List D := if hasT ks k = true then setT ks ds k d else ds ++ [d]
section
variable {K : PySem.W.Frag} {mg : Str → Option Value} {F : Addr → Prop} {ι : List Addr} {H : Hp}
theorem keysT_ok : ∀ {ds : List D} {vs : List V} {k : List Key}, DVs K mg F ι H ds vs → keysT ds = some k → vs = k.map kV
  | [], _, _, r, e => by cases r; cases e; rfl
  | d :: ds, _, k, r, e => by
    cases r with
    | cons h t =>
      unfold keysT at e
      split at e
      · rename_i k0 ks e1 e2
        cases e
        rw [keyD_ok h e1, keysT_ok t e2]
        rfl
      · cases e
theorem any_memT {kvs : List (List Key × V)} {k : List Key} : (kvs.any fun kv => decide (kv.1 = k)) = hasT (kvs.map (·.1)) k := by
  unfold hasT
  rw [List.any_map]
  rfl
theorem setT_ok {k : List Key} {d : D} {v : V} (rd : DV K mg F ι H d v) : ∀ {kvs : List (List Key × V)} {ds : List D}, DVs K mg F ι H ds (kvs.map (·.2)) → DVs K mg F ι H (setT (kvs.map (·.1)) ds k d) ((kvs.map fun kv => if kv.1 = k then (kv.1, v) else kv).map (·.2))
  | [], _, r => by cases r; exact .nil
  | kv :: kvs, _, r => by
    cases r with
    | cons h t =>
      simp only [List.map_cons, setT]
      refine .cons ?_ (setT_ok rd t)
      by_cases e : kv.1 = k
      · rw [if_pos e, if_pos e]; exact rd
      · rw [if_neg e, if_neg e]; exact h
theorem putT_ok {k : List Key} {d : D} {v : V} {kvs : List (List Key × V)} {ds : List D} (rd : DV K mg F ι H d v) (r : DVs K mg F ι H ds (kvs.map (·.2))) : (putK kvs k v).map (·.1) = putTs (kvs.map (·.1)) k ∧ DVs K mg F ι H (putTd (kvs.map (·.1)) ds k d) ((putK kvs k v).map (·.2)) := by
  unfold putK putTs putTd
  rw [any_memT]
  by_cases h : hasT (kvs.map (·.1)) k = true
  · rw [if_pos h, if_pos h, if_pos h]
    refine ⟨?_, setT_ok rd r⟩
    rw [List.map_map]
    refine List.map_congr_left fun kv _ => ?_
    show (if kv.1 = k then (kv.1, v) else kv).1 = kv.1
    split <;> rfl
  · rw [if_neg h, if_neg h, if_neg h]
    refine ⟨by simp, ?_⟩
    rw [List.map_append]
    exact r.append (.cons rd .nil)
end
def liveT (mh : List O) (d : D) : Option (Nat × List (List Key) × List D) := match d with
  | .ref n => match mh[n]? with
    | some (.dct ks ds) => some (n, ks, ds)
    | _ => none
  | _ => none
theorem valV_someT (k : List Key) : ∀ kvs : List (List Key × V), (valV kvs k).isSome = hasT (kvs.map (·.1)) k
  | [] => rfl
  | p :: kvs => by
    have ih := valV_someT k kvs
    unfold valV hasT at ih ⊢
    by_cases z : p.1 = k <;> simp_all
/-- (a, b) in d, not in -/
def cInT (neg : Bool) (fa : CA) (fb : CE) : CE := fun ρ mh => (fa ρ mh).bind fun xs m => if xs.length ≤ sizeLine then (match keysT xs with
  | some k => (fb ρ m).bind fun d m' => (match liveT m' d with
    | some (_, ks, _) => .ok (.bl (if neg = true then !hasT ks k else hasT ks k)) m'
    | none => .stuck)
  | none => .stuck) else .stuck
/-- d[(a, b)] = v -/
def oTPut (d : D) (k : List Key) (v : D) (mh : List O) : Option (List O) := match liveT mh d with
  | some (n, ks, ds) => if ks.length < sizeLine then some (mh.set n (.dct (putTs ks k) (putTd ks ds k v))) else none
  | none => none
def gKt (f : CE) (g : CA) : CG := fun d ρ mh => match f ρ mh with
  | .ok x m => match g ρ m with
    | .ok xs m' => (match keysT xs with
      | some k => if xs.length ≤ sizeLine then (match oTPut x k d m' with
        | some m2 => .nx ρ m2
        | none => .stuck) else .stuck
      | none => .stuck)
    | _ => .stuck
  | _ => .stuck
/-- {} for keys that are tuples -/
def cDNewT : CE := fun _ mh => .ok (.ref mh.length) (mh ++ [.dct [] []])
section
variable {X : Cx} {W : WX} {k : Nat} {pos p2 : Pos} {p1 : Nat} {F : Addr → Prop} {ι : List Addr} {mh : List O} {σ : L2.St} {H : Hp} {a b : Expr} {es : List Expr} {fa : CA} {fb : CE}
theorem liveT_ok {d : D} {v : V} {n : Nat} {ks : List (List Key)} {ds : List D} (sr : SR X.K X.mg F ι mh H) (r : DV X.K X.mg F ι H d v) (e : liveT mh d = some (n, ks, ds)) : ∃ a kvs, v = .ref a ∧ ι[n]? = some a ∧ H a = some (.dT kvs) ∧ kvs.map (·.1) = ks ∧ DVs X.K X.mg F ι H ds (kvs.map (·.2)) := by
  unfold liveT at e
  split at e
  · split at e
    · rename_i hm
      cases e
      cases r with
      | ref ea =>
        cases sr.ob _ _ _ hm ea with
        | dct h q r => exact ⟨_, _, rfl, ea, h, q, r⟩
    · cases e
  · cases e
theorem j_dnewT : JE X W (.Dict [] [] pos) cDNewT := by
  refine ⟨_, pe_dnewT, fun ρ mh F ι σ H Q sr er h => fun p hp => ?_⟩
  obtain ⟨st, sr'⟩ := alloc (o := .dct [] []) (u := .dT []) sr hp fun F' ι' st => .dct upd_same rfl .nil
  exact h _ _ _ _ st sr' (.ref (by rw [← sr.len]; simp))
theorem inT_two {ta : L2.St → Hp → (List V → Hp → Prop) → Prop} {tb : TE} {σ : L2.St} {neg : Bool}
    (qa : ∀ (ρ : En) (mh : List O) (F : Addr → Prop) (ι : List Addr) (σ : L2.St) (H : Hp) (Q : List V → Hp → Prop), SR X.K X.mg F ι mh H → ER X.K X.mg F ι H ρ σ → Post X.K X.mg (DRs X) W σ F ι H (fa ρ mh) Q → ta σ H Q)
    (qb : ∀ (ρ : En) (mh : List O) (F : Addr → Prop) (ι : List Addr) (σ : L2.St) (H : Hp) (Q : VK), SR X.K X.mg F ι mh H → ER X.K X.mg F ι H ρ σ → Post X.K X.mg (DR X) W σ F ι H (fb ρ mh) Q → tb σ H Q)
    {ρ : En} {mh : List O} {F : Addr → Prop} {ι : List Addr} {H : Hp} {Q : VK} (sr : SR X.K X.mg F ι mh H) (er : ER X.K X.mg F ι H ρ σ) (h : Post X.K X.mg (DR X) W σ F ι H (cInT neg fa fb ρ mh) Q) :
    ta σ H fun xs H1 => xs.length ≤ sizeLine ∧ ∀ p, H1 p = none → tb σ (upd H1 p (.tup xs)) fun x H2 => ∃ a o, x = .ref a ∧ DGet H2 a (.ref p) o ∧ Q (.bl (if neg = true then !o.isSome else o.isSome)) H2 := by
  unfold cInT at h
  refine qa ρ mh F ι σ H _ sr er (h.bind.mono fun xs H1 ⟨F1, ι1, d1, m1, st1, sr1, r1, h1⟩ => ?_)
  split at h1
  · rename_i hl
    split at h1
    · rename_i kk ek
      refine ⟨by rw [← (show DVs X.K X.mg F1 ι1 H1 d1 xs from r1).length]; exact hl, fun p hp => ?_⟩
      have stp : Step F1 ι1 H1 F1 ι1 (upd H1 p (.tup xs)) := step_new hp
      have srp : SR X.K X.mg F1 ι1 m1 (upd H1 p (.tup xs)) := sr1.fresh hp
      refine qb ρ m1 F1 ι1 σ _ _ srp ((er.to sr.sub st1).to sr1.sub stp) ((h1.at stp).bind.mono fun y H2 ⟨F2, ι2, d2, m2, st2, sr2, r2, h2⟩ => ?_)
      split at h2
      · rename_i n ks ds el
        obtain ⟨q, kvs, rfl, _, hH, hk, _⟩ := liveT_ok sr2 r2 el
        have ht : H2 p = some (.tup (kk.map kV)) := by
          rw [← keysT_ok r1 ek]
          exact st2.keep p _ upd_same (fun z => sr1.notNew hp (sr1.sub p z)) fun _ z => nomatch z
        refine ⟨q, valV kvs kk, rfl, .inr ⟨kvs, kk, p, .inl hH, rfl, ht, rfl⟩, ?_⟩
        rw [valV_someT, hk]
        exact h2.ok sr2 (.bl _)
      · exact h2.elim
    · exact h1.elim
  · exact h1.elim
theorem j_inT (c : Cc k X W) (ha : JA X W es fa) (hb : JE X W b fb) (hm : behindInMarks .In b = false := by first | exact nomark _ | with_unfolding_all rfl) : JE X W (.Compare (.Tuple es p1 p2) [.In] [b] pos) (cInT false fa fb) := by
  obtain ⟨ta, pa, qa⟩ := ha.ex
  obtain ⟨tb, pb, qb⟩ := hb.ex
  exact ⟨_, pe_cmp (pc_din (by have := c.hr.units; omega) (pe_tup pa) pb) hm, fun ρ mh F ι σ H Q sr er h => inT_two (neg := false) qa qb sr er h⟩
theorem j_notInT (c : Cc k X W) (ha : JA X W es fa) (hb : JE X W b fb) (hm : behindInMarks .NotIn b = false := by first | exact nomark _ | with_unfolding_all rfl) : JE X W (.Compare (.Tuple es p1 p2) [.NotIn] [b] pos) (cInT true fa fb) := by
  obtain ⟨ta, pa, qa⟩ := ha.ex
  obtain ⟨tb, pb, qb⟩ := hb.ex
  exact ⟨_, pe_cmp (pc_dnotin (by have := c.hr.units; omega) (pe_tup pa) pb) hm, fun ρ mh F ι σ H Q sr er h => inT_two (neg := true) qa qb sr er h⟩
theorem inT_tst {ta : L2.St → Hp → (List V → Hp → Prop) → Prop} {tb : TE} {σ : L2.St} {neg : Bool}
    (qa : ∀ (ρ : En) (mh : List O) (F : Addr → Prop) (ι : List Addr) (σ : L2.St) (H : Hp) (Q : List V → Hp → Prop), SR X.K X.mg F ι mh H → ER X.K X.mg F ι H ρ σ → Post X.K X.mg (DRs X) W σ F ι H (fa ρ mh) Q → ta σ H Q)
    (qb : ∀ (ρ : En) (mh : List O) (F : Addr → Prop) (ι : List Addr) (σ : L2.St) (H : Hp) (Q : VK), SR X.K X.mg F ι mh H → ER X.K X.mg F ι H ρ σ → Post X.K X.mg (DR X) W σ F ι H (fb ρ mh) Q → tb σ H Q)
    {ρ : En} {mh : List O} {F : Addr → Prop} {ι : List Addr} {H : Hp} {Q : Bool → Hp → Prop} (sr : SR X.K X.mg F ι mh H) (er : ER X.K X.mg F ι H ρ σ) (h : Post X.K X.mg BR W σ F ι H (cB (cInT neg fa fb) ρ mh) Q) :
    ta σ H fun xs H1 => xs.length ≤ sizeLine ∧ ∀ p, H1 p = none → tb σ (upd H1 p (.tup xs)) fun x H2 => ∃ a o, x = .ref a ∧ DGet H2 a (.ref p) o ∧ ∃ b, V.bl (if neg = true then !o.isSome else o.isSome) = .bl b ∧ Q b H2 := by
  have h' : Post X.K X.mg (DR X) W σ F ι H (cInT neg fa fb ρ mh) _ := Post.bind (R := DR X) h
  exact inT_two (neg := neg) qa qb sr er (h'.mono fun x H1 ⟨F1, ι1, d1, m1, st1, sr1, r1, h1⟩ => post_isB sr1 r1 h1)
theorem t_inT (c : Cc k X W) (ha : JA X W es fa) (hb : JE X W b fb) (hm : behindInMarks .In b = false := by first | exact nomark _ | with_unfolding_all rfl) : JT X W (.Compare (.Tuple es p1 p2) [.In] [b] pos) (cB (cInT false fa fb)) := by
  obtain ⟨ta, pa, qa⟩ := ha.ex
  obtain ⟨tb, pb, qb⟩ := hb.ex
  exact ⟨_, pt_cmp (pc_din (by have := c.hr.units; omega) (pe_tup pa) pb) hm, fun ρ mh F ι σ H Q sr er h => inT_tst (neg := false) qa qb sr er h⟩
theorem t_notInT (c : Cc k X W) (ha : JA X W es fa) (hb : JE X W b fb) (hm : behindInMarks .NotIn b = false := by first | exact nomark _ | with_unfolding_all rfl) : JT X W (.Compare (.Tuple es p1 p2) [.NotIn] [b] pos) (cB (cInT true fa fb)) := by
  obtain ⟨ta, pa, qa⟩ := ha.ex
  obtain ⟨tb, pb, qb⟩ := hb.ex
  exact ⟨_, pt_cmp (pc_dnotin (by have := c.hr.units; omega) (pe_tup pa) pb) hm, fun ρ mh F ι σ H Q sr er h => inT_tst (neg := true) qa qb sr er h⟩
theorem g_kt {fb : CE} (c : Cc k X W) (hb : JE X W b fb) (ha : JA X W es fa) (hx : ∀ v, assign (.Subscript b (.Tuple es p1 p2) pos) X.env v = (do
      let ov ← holding [v] (eval b X.env)
      let iv ← holding [v, ov] (eval (.Tuple es p1 p2) X.env)
      standAt pos
      holding [v, ov, iv] (setItem ov iv v)
      release [v, ov, iv] []) := by intro _; rfl) : JG X W (.Subscript b (.Tuple es p1 p2) pos) [] (gKt fb fa) := by
  obtain ⟨ta, pa, qa⟩ := ha.ex
  obtain ⟨tb, pb, qb⟩ := hb.ex
  refine ⟨⟨_, pg_sub pb (pe_tup pa) (set_dict (by have := c.hr.units; omega)) hx, fun d v ρ mh F ι σ H Q Q' sr er r h kq => ?_⟩, fun d ρ mh => ?_⟩
  · unfold gKt at h
    split at h
    · rename_i x m ea
      split at h
      · rename_i xs m' eb
        split at h
        · rename_i kk ek
          split at h
          · rename_i hl
            split at h
            · rename_i m2 es
              refine qb ρ mh F ι σ H _ sr er ?_
              rw [ea]
              intro F1 ι1 H1 xv st1 sr1 r1
              refine qa ρ m F1 ι1 σ H1 _ sr1 (er.to sr.sub st1) ?_
              rw [eb]
              intro F2 ι2 H2 ys st2 sr2 r2
              refine ⟨by rw [← (show DVs X.K X.mg F2 ι2 H2 xs ys from r2).length]; exact hl, fun p hp => ?_⟩
              have stp : Step F2 ι2 H2 F2 ι2 (upd H2 p (.tup ys)) := step_new hp
              have srp : SR X.K X.mg F2 ι2 m' (upd H2 p (.tup ys)) := sr2.fresh hp
              unfold oTPut at es
              split at es
              · rename_i n ks ds el
                split at es
                · rename_i hl2
                  cases es
                  obtain ⟨q, kvs, rfl, ep, hH, rfl, rx⟩ := liveT_ok srp (DV.to sr1.sub (st2.trans stp) _ _ r1) el
                  have dv := DV.to sr.sub ((st1.trans st2).trans stp) _ _ r
                  obtain ⟨pk1, pk2⟩ := putT_ok (k := kk) dv rx
                  obtain ⟨st3, sr3⟩ := srp.write (u := .dT (putK kvs kk v)) ep hH (fun vs => ⟨(by intro z; cases z), (by intro ob z; cases z)⟩) fun st => .dct upd_same pk1 (DVs.to srp.sub st _ _ pk2)
                  have st := ((st1.trans st2).trans stp).trans st3
                  rw [List.length_map] at hl2
                  have ht : (upd H2 p (.tup ys)) p = some (.tup (kk.map kV)) := by rw [upd_same, keysT_ok r2 ek]
                  exact ⟨q, _, rfl, .inr ⟨kvs, kk, p, hH, rfl, ht, hl2, rfl⟩, kq _ _ ⟨rfl, fun _ _ => rfl⟩ (h F2 ι2 _ σ st sr3 (er.to sr.sub st))⟩
                · cases es
              · cases es
            · exact h.elim
          · exact h.elim
        · exact h.elim
      · exact h.elim
    · exact h.elim
  · unfold gKt
    split
    · split
      · split
        · split
          · split
            · exact .inl ⟨_, _, rfl⟩
            · exact .inr rfl
          · exact .inr rfl
        · exact .inr rfl
      · exact .inr rfl
    · exact .inr rfl
end
end G

/-! Part HH: list(reversed(xs)), xs a list; a list times an int. -/
namespace G
open PySem PySem.Spec PyProof.Rows L2
section
variable {prog : Program} {w : World} {A : Around} {E : Value → Shared → Prop} {s : Shared}
theorem wpAny_extend_rev {R : Result → Shared → Prop} {it l : Addr} {items : Array Value} (hh : A.handled = none) (hit : s.heap.IsRevIter it l ((items.size : Int) - 1)) (hl : s.heap.IsList l items) (hne : l ≠ it) (hn : items.size ≤ sizeLine) (S : Addr) (res : Value) (c₀ : Nat)
    (hS : s.heap.get? S = some { cls := .type "list", data := .seq #[] c₀ }) (hSl : S ≠ l)
    (hR : ∀ h' tk acc' c', (∀ b o, b ≠ S → b ≠ it → s.heap.get? b = some o → h'.get? b = some o) → h'.get? S = some { cls := .type "list", dict := none, data := .seq acc' c', slots := #[] } →
      ItemsOf (fun i v => items[items.size - 1 - i]? = some v) acc' items.size → R (.ok (.ret res)) { s with heap := h', toks := tk }) :
    wpAny (model prog w) A.in1 (Builtin.List.listExtendWith (.ref S) (.ref it) res)
      (fun fin s' => match fin with | .done f => R (.ok f) s' | .again c' => c'.quiet = true ∧ codeAny (model prog w) A c' R s') (fun e s' => R (.error e) s') s := by
  have W := (Walks.listRev (prog := prog) (w := w) (A := A.in1) hh it l hne items).toS
  have hT : s.TypeIs (.ref it) "list_reverseiterator" := hit.typeIs
  have hSi : S ≠ it := fun e => by
    obtain ⟨o, ho, hc, _⟩ := hit
    rw [← e, hS] at ho
    cases ho
    injection hc with hc
    exact absurd hc (by decide)
  have hSf : S ∉ [it, l] := by simp only [List.mem_cons, List.not_mem_nil, or_false, not_or]; exact ⟨hSi, hSl⟩
  have h1 : Builtin.List.listSameRef (.ref S) (.ref it) = false := by simp [Builtin.List.listSameRef, hSi]
  unfold Builtin.List.listExtendWith
  refine wpAny_bind (wpAny_typeOf hT ?_)
  rw [if_neg (by rw [h1]; decide)]
  refine wpAny_bind (wpAny_pyIter_revIter hit ?_)
  refine wpAny_bind (wpAny_holding ?_)
  unfold Builtin.List.listLengthHint
  refine wpAny_bind (wpAny_specialOf hT RT.nolen_lri ?_)
  show wpAny _ A.in1 (specialOf (Value.ref it) (Str.ofString "__length_hint__") >>= _) _ _ _
  refine wpAny_bind (wpAny_specialOf hT RT.hint_lri ?_)
  generalize hid : ("list_reverseiterator.__length_hint__" : String) = id0
  wp_delta
  rw [show splitId id0 = some ("list_reverseiterator", "__length_hint__") from by subst hid; decide +kernel]
  subst hid
  refine wpAny_bind (wpAny_isInstance (b := true) hT (by rw [isSubtype_type]; kernel_rfl) ?_)
  refine wpAny_pure ?_
  rw [if_neg (by decide)]
  have e0 : ((items.size : Nat) : Int) - 1 - ((0 : Nat) : Int) = (items.size : Int) - 1 := by omega
  refine wpAny_pure ⟨plainId_quiet F.plain_extend_loop _, codeAny_extend_loopS W hn S hSf res items.size 0 _ #[] c₀ rfl (Nat.zero_le _) ⟨Nat.zero_le _, by rw [e0]; exact hit, hl⟩ hS (ItemsOf.nil _) fun s' acc' c' hm hS' hacc => ?_⟩
  rw [Moved.eq_with hm]
  refine hR s'.heap s'.toks acc' c' (fun b o hb hb2 e => hm.heap b o (fun hmem => ?_) e) hS' hacc
  rcases List.mem_cons.mp hmem with e' | hmem
  · exact hb e'
  · exact hb2 (List.mem_singleton.mp hmem)
theorem wpAny_list_init_rev {R : Result → Shared → Prop} {it l : Addr} {items : Array Value} (hh : A.handled = none) (hit : s.heap.IsRevIter it l ((items.size : Int) - 1)) (hl : s.heap.IsList l items) (hne : l ≠ it) (hn : items.size ≤ sizeLine) (S : Addr)
    (hS : s.heap.get? S = some { cls := .type "list", data := .seq #[] }) (hSl : S ≠ l)
    (hR : ∀ h' tk acc' c', (∀ b o, b ≠ S → b ≠ it → s.heap.get? b = some o → h'.get? b = some o) → h'.get? S = some { cls := .type "list", dict := none, data := .seq acc' c', slots := #[] } →
      ItemsOf (fun i v => items[items.size - 1 - i]? = some v) acc' items.size → R (.ok (.ret .none)) { s with heap := h', toks := tk }) :
    wpAny (model prog w) A.in1 (Builtin.«list.__init__» ⟨[.ref S, .ref it], []⟩)
      (fun fin s' => match fin with | .done f => R (.ok f) s' | .again c' => c'.quiet = true ∧ codeAny (model prog w) A c' R s') (fun e s' => R (.error e) s') s := by
  have hSi : S ≠ it := fun e => by
    obtain ⟨o, ho, hc, _⟩ := hit
    rw [← e, hS] at ho
    cases ho
    injection hc with hc
    exact absurd hc (by decide)
  show wpAny _ _ (do let old ← Builtin.List.listItems (.ref S); Builtin.List.listUpdate (.ref S) (fun _ => #[]); letGo old.toList.reverse; Builtin.List.listExtendWith (.ref S) (.ref it) .none) _ _ s
  refine wpAny_bind ?_
  unfold Builtin.List.listItems
  refine wpAny_bind (wpAny_seqItems hS rfl (wpAny_pure ?_))
  show wpAny _ _ (updateSeq S (fun _ => #[]) >>= fun _ => letGo (#[] : Array Value).toList.reverse >>= fun _ => Builtin.List.listExtendWith (.ref S) (.ref it) .none) _ _ s
  refine wpAny_bind (wpAny_updateSeq hS rfl ?_)
  have hS₂ := Heap.get?_update_self (Obj.mapSeq (fun _ => (#[] : Array Value))) hS rfl
  have oth : ∀ b o, b ≠ S → s.heap.get? b = some o → (s.heap.update S (Obj.mapSeq (fun _ => (#[] : Array Value)))).get? b = some o :=
    fun b o hb e => (Heap.get?_update_other _ _ (Ne.symm hb)).trans e
  refine wpAny_bind (wpAny_letGo ?_)
  refine wpAny_extend_rev hh (hit.at fun o e => oth it o (Ne.symm hSi) e) (let ⟨o, ho, r⟩ := hl; ⟨o, oth l o (Ne.symm hSl) ho, r⟩) hne hn S .none _ hS₂ hSl fun h' tk acc' c' hk hS' hacc => ?_
  exact hR h' tk acc' c' (fun b o hb hb2 e => hk b o hb hb2 (oth b o hb e)) hS' hacc
theorem call_list_rev {Q : Value → Shared → Prop} {it l : Addr} {items : Array Value} (hh : A.handled = none) (hit : s.heap.IsRevIter it l ((items.size : Int) - 1)) (hl : s.heap.IsList l items) (hne : l ≠ it) (hn : items.size ≤ sizeLine)
    (hQ : ∀ h' tk acc' c', (∀ b o, b ≠ it → s.heap.get? b = some o → h'.get? b = some o) →
      h'.get? s.heap.objs.size = some { cls := .type "list", dict := none, data := .seq acc' c', slots := #[] } → ItemsOf (fun i v => items[items.size - 1 - i]? = some v) acc' items.size → Q (.ref s.heap.objs.size) { s with heap := h', toks := tk }) :
    wpAny (model prog w) A (call (.type "list") [.ref it]) Q E s := by
  refine callType_codes (Q₁ := fun obj s₁ => obj = .ref s.heap.objs.size ∧ s₁ = { s with heap := s.heap.push { cls := .type "list", data := .seq #[] } }) F.called_list (F.typeCall_list_1 _) F.entry_list_init
    (code_list_new _ ⟨rfl, rfl⟩) fun obj s₁ h₁ => ?_
  obtain ⟨rfl, rfl⟩ := h₁
  have hS : (s.heap.push { cls := .type "list", data := .seq #[] }).get? s.heap.objs.size = some { cls := .type "list", data := .seq #[] } := Heap.get?_push_size _ rfl
  obtain ⟨ol, hol, hr⟩ := hl
  refine ⟨⟨_, hS, rfl⟩, F.args_list_init_2 _ _, wpAny_list_init_rev (A := A.in1) hh (hit.at fun o e => Heap.get?_push_of_some _ e) ⟨ol, Heap.get?_push_of_some _ hol, hr⟩ hne hn _ hS (Nat.ne_of_gt (Heap.lt_size hol)) fun h' tk acc' c' hk hS' hacc => ?_⟩
  exact ⟨rfl, hQ h' tk acc' c' (fun b o hb e => hk b o (Nat.ne_of_lt (Heap.lt_size e)) hb (Heap.get?_push_of_some _ e)) hS' hacc⟩
end
def tLstRev (K : PySem.W.Frag) (te : TE) : TE := fun σ H Q => te σ H fun v H1 => ∃ (a : Addr) (xs : List V), v = .ref a ∧ SqL K H1 a xs ∧ ∀ q, H1 q = none → Q (.ref q) (upd H1 q (.lst xs.reverse))
section
variable {X : Cx} {W : WX} {k : Nat} {pos : Pos}
theorem pe_lstRev {e : Expr} {te : TE} {p p2 pos pos2 : Pos} (hc : X.calm = true) (hg : Gl X "list") (hm : X.mg "list" = none) (hg2 : Gl X "reversed") (hm2 : X.mg "reversed" = none) (he : PE X e te)
    (hs : starEach [e] X.env = (false, eval e X.env) :: starEach [] X.env := by rfl)
    (hs2 : starEach [.Call (.Name "reversed" p2) [e] [] pos2] X.env = (false, eval (.Call (.Name "reversed" p2) [e] [] pos2) X.env) :: starEach [] X.env := by rfl) :
    PE X (.Call (.Name "list" p) [.Call (.Name "reversed" p2) [e] [] pos2] [] pos) (tLstRev X.K te) := by
  refine ⟨fun pins s σ H Q I h => ?_⟩
  refine Call_ (ld_blt I hg hm boot_list (PyProof.Rows.callWith_type1 (args_cons (Call_ (ld_blt I hg2 hm2 PyProof.Rows.boot_reversed (PyProof.Rows.callWith_type1 (args_cons (thn (he.run pins s σ H _ I h) fun u s1 ⟨v, H1, I1, r1, q1⟩ => args_nil ?_) hs) hs rfl))) hs2) hs2 rfl))
  obtain ⟨a, xs, ev, hq, q⟩ := q1
  subst ev
  obtain rfl : u = Value.ref a := r1
  obtain ⟨its, rv, p', hz⟩ := I1.list hq
  refine call_reversed_list p'.isList (args_nil ?_)
  have k0 : ∀ b o, s1.heap.get? b = some o → (s1.heap.push (revObj a ((its.toArray.size : Int) - 1))).get? b = some o := fun b o e => Heap.get?_push_of_some _ e
  have I2 : Inv X pins σ H1 { s1 with heap := s1.heap.push (revObj a ((its.toArray.size : Int) - 1)) } := I1.kept (t' := s1.toks) k0
  obtain ⟨f0, f1, f2, f3, f4, f5⟩ := I1.fpOk (H' := H1) (b := s1.heap.objs.size) (Nat.le_refl _) (I1.hok.fresh (Nat.le_refl _))
  have hl := p'.isList
  obtain ⟨ol, hol, _⟩ := id hl
  have hne : a ≠ s1.heap.objs.size := Nat.ne_of_lt (Heap.lt_size hol)
  have hn : its.toArray.size ≤ sizeLine := by rw [List.size_toArray, ← rv.length]; exact hz
  refine call_list_rev (s := { s1 with heap := s1.heap.push (revObj a ((its.toArray.size : Int) - 1)) }) (I1.ok.hd hc) ⟨_, Heap.get?_push_size _ rfl, rfl, rfl⟩ (hl.push _) hne hn fun h' tk acc c' hk hS hi => ?_
  have fp := I1.fpOk (H' := H1) (b := s1.heap.objs.size) (Nat.le_refl _) (I1.hok.fresh (Nat.le_refl _))
  refine ⟨.ref _, upd H1 (s1.heap.push (revObj a ((its.toArray.size : Int) - 1))).objs.size (.lst xs.reverse), I2.turnedNew (t' := tk) (ch := [s1.heap.objs.size]) (fun b o hb e => hk b o (fun z => hb (by rw [z]; exact List.mem_singleton.mpr rfl)) e) (fun b hb => by rw [List.mem_singleton.mp hb]; exact fp) (Nat.le_refl _)
    (show ObjOk X.prog X.w _ _ _ (.lst xs.reverse) from ⟨by rw [List.length_reverse]; exact hz, acc.toList, c', RT.vals_rev rv hi, by rw [Array.toArray_toList]; exact hS⟩), rfl, q _ (I2.hok.fresh (Nat.le_refl _))⟩
/-- list(reversed(xs)) -/
def oLstRev (w : Bool) (d : D) (mh : List O) : Res D := match lstOf mh d with
  | some ds => oLw w ds.reverse mh
  | none => .stuck
theorem j_lstRev (c : Cc k X W) {w : Bool} {e : Expr} {f : CE} {p p2 pos2 : Pos} (hm : X.mg "list" = none) (hm2 : X.mg "reversed" = none) (he : JE X W e f) (hg : Gl X "list" := by rfl) (hg2 : Gl X "reversed" := by rfl)
    (hs : starEach [e] X.env = (false, eval e X.env) :: starEach [] X.env := by rfl)
    (hs2 : starEach [.Call (.Name "reversed" p2) [e] [] pos2] X.env = (false, eval (.Call (.Name "reversed" p2) [e] [] pos2) X.env) :: starEach [] X.env := by rfl) :
    JE X W (.Call (.Name "list" p) [.Call (.Name "reversed" p2) [e] [] pos2] [] pos) (c1 (oLstRev w) f) := by
  obtain ⟨t, pe, q⟩ := he.ex
  refine ⟨_, pe_lstRev c.calm hg hm hg2 hm2 pe hs hs2, fun ρ mh F ι σ H Q sr er h => ?_⟩
  refine q ρ mh F ι σ H _ sr er (h.bind.mono fun x H1 ⟨F1, ι1, d1, m1, st1, sr1, r1, h1⟩ => ?_)
  unfold oLstRev at h1
  split at h1
  · rename_i ds e1
    obtain ⟨a, xs, rfl, s1, q1⟩ := lstOf_ok sr1 r1 e1
    exact ⟨a, xs, rfl, s1, (post_lw sr1 q1.reverse h1).2⟩
  · exact h1.elim
theorem dvs_rep {K : PySem.W.Frag} {mg : Str → Option Value} {F : Addr → Prop} {ι : List Addr} {H : Hp} {ds : List D} {vs : List V} (r : DVs K mg F ι H ds vs) : ∀ n : Nat, DVs K mg F ι H (List.replicate n ds).flatten (List.replicate n vs).flatten
  | 0 => .nil
  | n + 1 => by
    rw [List.replicate_succ, List.replicate_succ, List.flatten_cons, List.flatten_cons]
    exact r.append (dvs_rep r n)
/-- a written list times an int -/
def cRep (w : Bool) (fa : CA) (fb : CE) : CE := fun ρ mh => (fa ρ mh).bind fun xs m => if xs.length ≤ sizeLine then (fb ρ m).bind fun y m' => (match y with
  | .int k => if -(2 ^ 63) ≤ k ∧ k < 2 ^ 63 ∧ xs.length * k.toNat ≤ sizeLine then oLw w (List.replicate k.toNat xs).flatten m' else .stuck
  | _ => .stuck) else .stuck
theorem j_rep {w : Bool} {es : List Expr} {b : Expr} {fa : CA} {fb : CE} {p1 : Pos} (ha : JA X W es fa) (hb : JE X W b fb) : JE X W (.BinOp (.List es p1) .Mult b pos) (cRep w fa fb) := by
  obtain ⟨ta, pa, qa⟩ := ha.ex
  obtain ⟨tb, pb, qb⟩ := hb.ex
  refine ⟨_, pe_op op_rep (pe_lst pa) pb, fun ρ mh F ι σ H Q sr er h => ?_⟩
  unfold cRep at h
  refine qa ρ mh F ι σ H _ sr er (h.bind.mono fun xs H1 ⟨F1, ι1, d1, m1, st1, sr1, r1, h1⟩ => ?_)
  split at h1
  · rename_i hl
    have r1 : DVs X.K X.mg F1 ι1 H1 d1 xs := r1
    refine ⟨by rw [← r1.length]; exact hl, fun p hp => ?_⟩
    have stp : Step F1 ι1 H1 F1 ι1 (upd H1 p (.lst xs)) := step_new hp
    have srp : SR X.K X.mg F1 ι1 m1 (upd H1 p (.lst xs)) := sr1.fresh hp
    refine qb ρ m1 F1 ι1 σ _ _ srp ((er.to sr.sub st1).to sr1.sub stp) ((h1.at stp).bind.mono fun y H2 ⟨F2, ι2, d2, m2, st2, sr2, r2, h2⟩ => ?_)
    split at h2
    · split at h2
      · rename_i k hk
        cases r2
        have hH : H2 p = some (.lst xs) := st2.keep p _ upd_same (fun z => sr1.notNew hp (sr1.sub p z)) fun _ z => nomatch z
        have rr := dvs_rep (DVs.to srp.sub st2 _ _ (DVs.to sr1.sub stp _ _ r1)) k.toNat
        exact ⟨p, k, xs, rfl, rfl, hH, hk.1, hk.2.1, by rw [← r1.length]; exact hk.2.2, (post_lw sr2 rr h2).2⟩
      · exact h2.elim
    · exact h2.elim
  · exact h1.elim
end
end G

/-! Part HI: a lambda handed to a def of the module, which calls it. -/
namespace G
open PySem PySem.Spec PyProof.Rows L2
abbrev Cell (cl : List (Str × Addr)) (a : Addr) : Prop := ∃ y, cl.lookup y = some a
open Classical in
/-- the cells are not told -/
noncomputable def eraC (H : Hp) (cl : List (Str × Addr)) : Hp := fun a => if Cell cl a then none else H a
open Classical in
/-- .. and told again -/
noncomputable def reC (H' H : Hp) (cl : List (Str × Addr)) : Hp := fun a => if Cell cl a then H a else H' a
section
variable {H H' : Hp} {cl : List (Str × Addr)} {a : Addr}
theorem era_at (h : Cell cl a) : eraC H cl a = none := by unfold eraC; exact if_pos h
theorem era_ne (h : ¬ Cell cl a) : eraC H cl a = H a := by unfold eraC; exact if_neg h
theorem re_at (h : Cell cl a) : reC H' H cl a = H a := by unfold reC; exact if_pos h
theorem re_ne (h : ¬ Cell cl a) : reC H' H cl a = H' a := by unfold reC; exact if_neg h
theorem era_some {o : HO} (h : eraC H cl a = some o) : ¬ Cell cl a ∧ H a = some o := by
  by_cases c : Cell cl a
  · rw [era_at c] at h; cases h
  · rw [era_ne c] at h; exact ⟨c, h⟩
end
section
variable {K : PySem.W.Frag} {mg : Str → Option Value} {F F' : Addr → Prop} {ι : List Addr} {H H' : Hp}
mutual
/-- what holds nothing live and no lambda leans on no cell -/
theorem DV.flat (k : ∀ a o, H a = some o → (∀ ob, o ≠ cellO ob) → H' a = some o) (up : ∀ a, F' a → F a) : ∀ (d : D) (v : V), noRef d = true → DV K mg F ι H d v → DV K mg F' [] H' d v
  | .non, _, _, h => by cases h; exact .non
  | .bl b, _, _, h => by cases h; exact .bl b
  | .int i, _, _, h => by cases h; exact .int i
  | .str x, _, _, h => by cases h; exact .str x
  | .ty n, _, _, h => by cases h; exact .ty n
  | .glb x, _, _, h => by
    cases h with
    | glb m r => exact .glb m r
  | .ref n, _, q, _ => by
    unfold noRef at q; cases q
  | .clo y ds, _, q, _ => by
    unfold noRef at q; cases q
  | .tup ds, _, q, h => by
    unfold noRef at q
    cases h with
    | tup h r =>
      refine .tup ?_ (DVs.flat k up ds _ q r)
      rcases h with h | ⟨o, h⟩
      · exact .inl (k _ _ h fun _ z => nomatch z)
      · exact .inr ⟨o, k _ _ h fun _ z => by injection z with _ z; cases z⟩
  | .lst ds, _, q, h => by
    unfold noRef at q
    cases h with
    | lst h r =>
      refine .lst ?_ (DVs.flat k up ds _ q r)
      rcases h with ⟨h, n⟩ | h
      · refine .inl ⟨?_, fun z => n (up _ z)⟩
        rcases h with h | ⟨o, h⟩
        · exact .inl (k _ _ h fun _ z => nomatch z)
        · exact .inr ⟨o, k _ _ h fun _ z => by injection z with _ z; cases z⟩
      · exact .inr h
  | .dic ks ds, _, q, h => by
    unfold noRef at q
    cases h with
    | dic h n e r =>
      refine .dic ?_ (fun z => n (up _ z)) e (DVs.flat k up ds _ q r)
      rcases h with h | ⟨o, h⟩
      · exact .inl (k _ _ h fun _ z => nomatch z)
      · exact .inr ⟨o, k _ _ h fun _ z => by injection z with _ z; cases z⟩
  | .obj x ns ds, _, q, h => by
    unfold noRef at q
    cases h with
    | obj h m e r =>
      refine .obj ?_ m e (DVs.flat k up ds _ q r)
      obtain ⟨n, ⟨dx, h⟩ | ⟨d, hxc, h, q2⟩⟩ := h
      · exact ⟨fun z => n (up _ z), .inl ⟨dx, k _ _ h fun _ z => nomatch z⟩⟩
      · refine ⟨fun z => n (up _ z), .inr ⟨d, hxc, k _ _ h (fun _ z => by unfold xob at z; cases z), ?_⟩⟩
        rcases q2 with q2 | ⟨dd, e1, nd, hd⟩
        · exact .inl q2
        · exact .inr ⟨dd, e1, fun z => nd (up _ z), k _ _ hd fun _ z => nomatch z⟩
theorem DVs.flat (k : ∀ a o, H a = some o → (∀ ob, o ≠ cellO ob) → H' a = some o) (up : ∀ a, F' a → F a) : ∀ (ds : List D) (vs : List V), noRefs ds = true → DVs K mg F ι H ds vs → DVs K mg F' [] H' ds vs
  | [], _, _, h => by cases h; exact .nil
  | d :: ds, _, q, h => by
    unfold noRefs at q
    rw [Bool.and_eq_true] at q
    cases h with
    | cons h t => exact .cons (DV.flat k up d _ q.1 h) (DVs.flat k up ds _ q.2 t)
end
theorem tabS_flat {P : Addr} {q : Str} (k : ∀ a o, H a = some o → (∀ ob, o ≠ cellO ob) → H' a = some o) (t : LamX.TabS H P q) : LamX.TabS H' P q := by
  obtain ⟨ps, h1, h2, h3⟩ := t
  refine ⟨ps, k _ _ h1 (fun _ z => nomatch z), h2, fun pos cv hc => ?_⟩
  obtain ⟨c, e1, e2⟩ := h3 pos cv hc
  exact ⟨c, e1, k _ _ e2 fun _ z => by unfold LamX.CodeO at z; cases z⟩
theorem tabs_flat {T : List (Addr × Str)} (k : ∀ a o, H a = some o → (∀ ob, o ≠ cellO ob) → H' a = some o) (t : LamX.Tabs T H) : LamX.Tabs T H' := fun p hp => tabS_flat k (t p hp)
theorem rd_tup_flat {a : Addr} {vs : List V} (k : ∀ a o, H a = some o → (∀ ob, o ≠ cellO ob) → H' a = some o) (h : Rd H a (.tup vs)) : Rd H' a (.tup vs) := by
  rcases h with h | ⟨o, h⟩
  · exact .inl (k _ _ h fun _ z => nomatch z)
  · exact .inr ⟨o, k _ _ h fun _ z => by injection z with _ z; cases z⟩
theorem CloAt.to {ι' : List Addr} {f c' : Addr} {y : Syn} {cl : List (Str × Addr)} {pm ctv : Value} {vs : List V} (h : CloAt F H f y cl c' pm ctv vs) (sub : ∀ a, a ∈ ι → F a) (st : Step F ι H F' ι' H') : CloAt F' H' f y cl c' pm ctv vs :=
  h.upto fun b o e n nt => ⟨fun z => (st.new _ z).elim n (fun q => by rw [q] at e; cases e), st.keep _ _ e (fun z => n (sub _ z)) nt⟩
end
/-! ### the heap below -/
section
variable {P : Program} {w : World} {H H' : Hp} {h : Heap} {cl : List (Str × Addr)}
theorem hok_era (hok : HOk P w H h) (hc : ∀ a, Cell cl a → (∃ o, H a = some (cellO o)) ∨ H a = none) : HOk P w (eraC H cl) h := fun a o e => by
  obtain ⟨nc, e1⟩ := era_some e
  refine (hok a o e1).stay (fun b u _ e => e) (fun b e => ?_) fun b xs e => ?_
  · rw [era_ne fun c => ?_]; exact e
    rcases hc b c with ⟨o, z⟩ | z <;> rw [z] at e <;> cases e
  · rw [era_ne fun c => ?_]; exact e
    rcases hc b c with ⟨o, z⟩ | z <;> rw [z] at e <;> cases e
theorem hok_re (hok : HOk P w H' h) (hn : ∀ a, Cell cl a → H' a = none) (hc : ∀ a, Cell cl a → ∃ o, H a = some (cellO o) ∧ h.get? a = some o) : HOk P w (reC H' H cl) h := fun a o e => by
  by_cases c : Cell cl a
  · obtain ⟨o2, e2, e3⟩ := hc a c
    rw [re_at c, e2] at e
    cases e
    exact ⟨e3, o2, e3⟩
  · rw [re_ne c] at e
    refine (hok a o e).stay (fun b u _ e => e) (fun b e => ?_) fun b xs e => ?_
    · rw [re_ne fun c => ?_]; exact e
      rw [hn b c] at e; cases e
    · rw [re_ne fun c => ?_]; exact e
      rw [hn b c] at e; cases e
theorem cell_heap (hok : HOk P w H h) {a : Addr} {o : Obj} (e : H a = some (cellO o)) : h.get? a = some o := (hok a _ e).1
end
/-! ### the lambda's promise -/
abbrev cxL (P : Program) (w : World) (K : PySem.W.Frag) (mg : Str → Option Value) (base : Heap) (N : List Str) (y : Syn) (cl : List (Str × Addr)) (c' f : Addr) (A : Around) (outer : List Env) (s : Shared) (H : Hp) (E : XK) : Cx :=
  NdefX.ncx (L2.CX P w) P w K mg base N (⟨"<lambda>", y.q, y.params, [], y.scope, cl, c'⟩ : NdefX.NF) f A outer s H E
structure LamFn (P : Program) (w : World) (K : PySem.W.Frag) (mg : Str → Option Value) (base : Heap) (j : Nat) (y : Syn) (N : List Str) (x : Str) (fb : CE) : Prop where
  S : NdefX.NScope N [x] y.fr y.scope
  bind : ∀ (cl : List (Str × Addr)) (c' : Addr) (pm ctv : Value) (u : Value), bindArgs (PySem.W.kla_fn "<lambda>" y.q y.params y.body y.scope cl pm (.ref c') ctv) ⟨[u], []⟩ = pure [(x, u)]
  body : ∀ (cl : List (Str × Addr)) (c' f : Addr) (A : Around) (outer : List Env) (s : Shared) (H : Hp) (E : XK), Cc j (cxL P w K mg base N y cl c' f A outer s H E) (WD E) → JE (cxL P w K mg base N y cl c' f A outer s H E) (WD E) y.body fb
def spL (K : PySem.W.Frag) (mg : Str → Option Value) (n : Nat) (fb : CE) (ws : List V) (v : V) (H : Hp) (Q : VK) : Prop :=
  ∃ d ds F ι mh, SR K mg F ι mh H ∧ DV K mg F ι H d v ∧ DVs K mg F ι H ds ws ∧ Post K mg (fun F ι H d v => DV K mg F ι H d v) (fun _ _ _ _ => False) [] F ι H (fb (some d :: (ds.map some ++ List.replicate (n - 1 - ds.length) none)) mh) Q
theorem post_false {α β : Type} {K : PySem.W.Frag} {mg : Str → Option Value} {R : Rel α β} {W : WX} {σ σ' : L2.St} {F : Addr → Prop} {ι : List Addr} {H : Hp} {r : Res α} {Q : β → Hp → Prop} (h : Post K mg R (fun _ _ _ _ => False) σ F ι H r Q) : Post K mg R W σ' F ι H r Q := by
  cases r with
  | ok a mh => exact h
  | err c ds mh => exact fun F' ι' H' cls dx s x y => (h F' ι' H' cls dx s x y).elim
  | stuck => exact h
section
variable {P : Program} {w : World} {K : PySem.W.Frag} {mg : Str → Option Value} {base : Heap}
theorem er_lam {F : Addr → Prop} {ι : List Addr} {H : Hp} {d : D} {v : V} {ds : List D} {ws : List V} {N : List Str} (r : DV K mg F ι H d v) (rs : DVs K mg F ι H ds ws) : ER K mg F ι H (some d :: (ds.map some ++ List.replicate (N.length - 1 - ds.length) none)) (NdefX.startF N [v] (ws.map some)) := by
  have hl := rs.length
  have e : NdefX.startF N [v] (ws.map some) = some v :: (ws.map some ++ List.replicate (N.length - 1 - ds.length) none) := by
    unfold NdefX.startF
    rw [List.length_map, ← hl]
    rfl
  rw [e]
  refine ⟨by simp [hl], fun i x hx => ?_⟩
  cases i with
  | zero =>
    simp at hx
    subst hx
    exact ⟨v, rfl, r⟩
  | succ i =>
    rw [List.getElem?_cons_succ] at hx ⊢
    by_cases hi : i < ds.length
    · rw [List.getElem?_append_left (by simpa using hi), List.getElem?_map] at hx
      cases q : ds[i]? with
      | none => rw [q] at hx; cases hx
      | some d0 =>
        rw [q] at hx
        cases hx
        obtain ⟨v, hv, rv⟩ := rs.get q
        exact ⟨v, by rw [List.getElem?_append_left (by rw [List.length_map, ← hl]; exact hi), List.getElem?_map, hv]; rfl, rv⟩
    · rw [List.getElem?_append_right (by simpa using hi), List.getElem?_replicate] at hx
      split at hx <;> cases hx
theorem lam_run {j : Nat} {y : Syn} {N : List Str} {x : Str} {fb : CE} (L : LamFn P w K mg base j y N x fb) {A : Around} {outer : List Env} {s : Shared} {H : Hp} {f c' : Addr} {cl : List (Str × Addr)} {pm ctv u : Value} {v : V} {ws : List V} {Q : VK} (hr : Room (j + 1) A) (e0 : Env0 P w K mg base A outer s H)
    (hf : s.heap.get? f = some (lamObj y.q y.params y.body y.scope cl pm c' ctv)) (hcd : s.heap.CodeRec (.ref c') y.q) (C : NdefX.CellsAt cl y.fr (ws.map some) s.heap H) (r : RelV v u) (h : spL K mg N.length fb ws v H Q) :
    codeAny (model P w) A (.call (.ref f) ⟨[u], []⟩) (CR (L2.CX P w) outer P w H s Q fun _ _ _ => False) s := by
  have lim : s.heap.NoLimit := e0.mod.nolimit.keeps fun b o e => (e0.bs b o e).1
  refine PySem.W.kla_callFunE hr.depth hf rfl L.S.co L.S.gen rfl hcd ?_
  rw [L.bind]
  refine wpAny_pure (wpAny_newFunctionEnv L.S.nocell (fun y hy => by rw [List.mem_singleton.mp hy]; exact L.S.par x (by simp)) (fun h₁ hns hsb => ⟨lim.fresh _ hsb, ?_⟩) L.S.kind)
  have kpp : ∀ b o, s.heap.get? b = some o → h₁.get? b = some o := fun b o e => hsb.extBut b o (Nat.ne_of_lt (Heap.lt_size e)) (Heap.get?_push_of_some _ e)
  have J : Inv (cxL P w K mg base N y cl c' f A outer s H fun _ _ _ => False) [] (NdefX.startF N [v] (ws.map some)) H { s with heap := h₁, toks := s.toks + 1 } :=
    NdefX.inv_startN L.S hr.hd e0 rfl (.cons r .nil) C hns kpp
  have cc : Cc j (cxL P w K mg base N y cl c' f A outer s H fun _ _ _ => False) (WD fun _ _ _ => False) := ⟨rfl, L.S.nd, takes_of rfl rfl rfl rfl, hr.deeper _, passes_of rfl⟩
  obtain ⟨t, p, q⟩ := (L.body cl c' f A outer s H (fun _ _ _ => False) cc).ex
  obtain ⟨d, ds, F, ι, mh, sr, rd, rs, hp⟩ := h
  refine PySem.W.kla_codeExpr (wpAny_mono (p.run [] _ _ H Q J (q _ mh F ι _ H Q sr (er_lam rd rs) (post_false hp))) (fun w s' hq => ?_) fun e s' hq => ?_)
  · obtain ⟨w', H', J', rv, qq⟩ := hq
    exact ⟨w', H', J'.os, J'.bare, J'.base, J'.hok, rv, qq⟩
  · exact hq
end
/-! ### the call of what a slot holds -/
section
variable {X : Cx} {pins : List (Addr × Obj)} {σ : L2.St} {H H5 : Hp} {s s' : Shared} {cl : List (Str × Addr)} {fr : List Str} {ws : List V} {F : Addr → Prop}
theorem env0_era (I : Inv X pins σ H s) (hc : ∀ a, Cell cl a → ∃ o, H a = some (cellO o)) : Env0 X.prog X.w X.K X.mg X.base X.A X.stack s (eraC H cl) := by
  have e0 := I.env0
  refine ⟨e0.frames, e0.mod, fun b o e => ⟨(e0.bs b o e).1, ?_⟩, e0.bsz, e0.funs, fun b hb => ?_, hok_era e0.hok fun a c => .inl (hc a c), e0.bare⟩
  · by_cases c : Cell cl b
    · exact era_at c
    · rw [era_ne c]; exact (e0.bs b o e).2
  · by_cases c : Cell cl b
    · exact era_at c
    · rw [era_ne c]; exact e0.frf b hb
theorem cells_era (I : Inv X pins σ H s) (C : CapsAt F H cl fr ws) : NdefX.CellsAt cl fr (ws.map some) s.heap (eraC H cl) := by
  refine ⟨by rw [List.length_map]; exact C.len, fun y c e => ⟨era_at ⟨y, e⟩, ?_⟩, C.inj, fun i y e => ?_⟩
  · obtain ⟨_, o, v, e1, e2⟩ := C.all y c e
    exact ⟨v, o, cell_heap I.hok e1, e2⟩
  · obtain ⟨c, o, u, v, e0, e1, e2, e3, e4⟩ := C.has i y e
    refine ⟨c, e0, fun v' hv => ?_⟩
    rw [List.getElem?_map, e3] at hv
    cases hv
    exact ⟨u, e4, o, cell_heap I.hok e1, e2⟩
theorem ce_re (I : Inv X pins σ H s) (C : CapsAt F H cl fr ws) {Q : VK} {u : Value} (h : L2.CE X.stack X.prog X.w (eraC H cl) s (fun v H' => (∀ a, Cell cl a → H' a = none) → Q v (reC H' H cl)) u s') : L2.CE X.stack X.prog X.w H s Q u s' := by
  obtain ⟨v, H', os, bare, un, hok, r, q⟩ := h
  have cc : ∀ a, Cell cl a → ∃ o, H a = some (cellO o) ∧ s.heap.get? a = some o := fun a ⟨y, e⟩ => let ⟨_, o, v, e1, _⟩ := C.all y a e; ⟨o, e1, cell_heap I.hok e1⟩
  have nf : ∀ a, Cell cl a → a ∉ frs X.stack := fun a c hb => by obtain ⟨o, e, _⟩ := cc a c; rw [I.stkFree a hb] at e; cases e
  have hn : ∀ a, Cell cl a → H' a = none := fun a c => by obtain ⟨o, _, e⟩ := cc a c; exact un.free a o e (era_at c) (by simp)
  have e0 : ∀ {b o}, H b = some o → (∀ ob, o ≠ cellO ob) → ¬ Cell cl b := fun e n c => by obtain ⟨o, e1, _⟩ := cc _ c; rw [e1] at e; exact n _ (Option.some.inj e).symm
  have en : ∀ {b}, H b = none → ¬ Cell cl b := fun e c => by obtain ⟨o, e1, _⟩ := cc _ c; rw [e1] at e; cases e
  refine ⟨v, reC H' H cl, os, bare, ⟨fun b o g n nfb nx => un.keep b o g (by rw [era_ne (en n)]; exact n) nfb nx, fun b o g n hb nx => un.slot b o g (by rw [era_ne (en n)]; exact n) hb nx, fun b o g n nx => by rw [re_ne (en n)]; exact un.free b o g (by rw [era_ne (en n)]; exact n) nx, un.there, fun b xs e => ?_, fun b o u e => ?_, fun b ps e => ?_⟩, hok_re hok hn fun a c => ?_, r, q hn⟩
  · have c := e0 e fun _ z => nomatch z
    rw [re_ne c]; exact un.tups b xs (by rw [era_ne c]; exact e)
  · by_cases c : Cell cl b
    · rw [re_at c]; exact e
    · rw [re_ne c]; exact un.frzs b o u (by rw [era_ne c]; exact e)
  · have c := e0 e fun _ z => nomatch z
    obtain ⟨more, z⟩ := un.tbls b ps (by rw [era_ne c]; exact e)
    exact ⟨more, by rw [re_ne c]; exact z⟩
  · obtain ⟨o, e1, e2⟩ := cc a c
    exact ⟨o, e1, un.keep a o e2 (era_at c) (nf a c) (by simp)⟩
def tCallV (K : PySem.W.Frag) (mg : Str → Option Value) (i : Nat) (y : Syn) (n : Nat) (fb : CE) (te : TE) : TE := fun σ H Q => ∃ f cl c' pm ctv ws, σ[i]? = some (some (.ref f)) ∧ H f = some (LamO f (lamObj y.q y.params y.body y.scope cl pm c' ctv)) ∧
  te σ H fun x H1 => ∃ v, [x] = [v] ∧ H1 f = some (LamO f (lamObj y.q y.params y.body y.scope cl pm c' ctv)) ∧ H1 c' = some (LamX.CodeO c' y.q) ∧ CapsAt (fun _ => False) H1 cl y.fr ws ∧ spL K mg n fb ws v (eraC H1 cl) fun v' H' => (∀ a, Cell cl a → H' a = none) → Q v' (reC H' H1 cl)
theorem pe_callV {y : Syn} {N : List Str} {x a : Str} {fb : CE} {i j : Nat} {e : Expr} {te : TE} {p pos : Pos} (L : LamFn X.prog X.w X.K X.mg X.base j y N x fb) (hr : Room (j + 1) X.A) (hN : X.N[i]? = some a) (hv : Vis X.env.scope a) (he : PE X e te)
    (hd : (a == ("__debug__" : Str)) = false := by decide) (hcd : (a == ("__classdict__" : Str)) = false := by decide)
    (hst : starEach [e] X.env = (false, eval e X.env) :: starEach [] X.env := by rfl) (hpl : (backTo pos (starEach [] X.env)).any (·.1) = false := by rfl) : PE X (.Call (.Name a p) [e] [] pos) (tCallV X.K X.mg i y N.length fb te) := by
  refine ⟨fun pins s σ H Q I h => ?_⟩
  obtain ⟨f, cl, c', pm, ctv, ws, hs, hf, ht⟩ := h
  refine wpAny_Call_Name_kw (thn ((pe_var (pos := p) hN hv hd hcd).run pins s σ H (fun v H1 => v = .ref f ∧ H1 = H) I ⟨.ref f, hs, rfl, rfl⟩) fun u s1 ⟨v, H1, I1, r1, q1⟩ => ?_)
  obtain ⟨ev, eH⟩ := q1
  subst ev
  rw [eH] at I1
  obtain rfl : u = Value.ref f := r1
  have ht' : tCons te tNil σ H (fun vs H1 => ∃ v, vs = [v] ∧ H1 f = some (LamO f (lamObj y.q y.params y.body y.scope cl pm c' ctv)) ∧ H1 c' = some (LamX.CodeO c' y.q) ∧ CapsAt (fun _ => False) H1 cl y.fr ws ∧ spL X.K X.mg N.length fb ws v (eraC H1 cl) fun v' H' => (∀ a, Cell cl a → H' a = none) → Q v' (reC H' H1 cl)) := ht
  refine PySem.W.callWith_F (first := []) ⟨_, _, _, _, lamO_at I1.hok hf⟩ (thn ((pa_cons he pa_nil hst).run pos pins s1 σ H _ I1 ht') fun us s2 ⟨vs, H2, I2, r, v, ev, h1, h2, C, hsp⟩ => ⟨⟨_, _, _, _, lamO_at I2.hok h1⟩, ?_⟩) hst hpl
  subst ev
  cases r with
  | @cons v0 u0 vs0 us0 r rn =>
    cases rn
    show wpAny _ _ (call (.ref f) [u0]) _ _ _
    have cc : ∀ a, Cell cl a → ∃ o, H2 a = some (cellO o) := fun a ⟨y, e⟩ => let ⟨_, o, v, e1, _⟩ := C.all y a e; ⟨o, e1⟩
    refine wpAny_call (codeAny_mono (lam_run L hr (env0_era I2 cc) (lamO_at I2.hok h1) (NdefX.codeO_at I2.hok h2) (cells_era I2 C) r hsp) fun r s' hq => ?_)
    cases r with
    | error e =>
      obtain ⟨_, _, _, _, _, _, _, _, _, _, _, _, z⟩ := (show L2.CX X.prog X.w X.stack (eraC H2 cl) s2 (fun _ _ _ => False) e s' from hq)
      exact z.elim
    | ok fl =>
      cases fl with
      | ret u => exact I2.after (ce_re I2 C hq)
      | next => exact False.elim hq
      | brk => exact False.elim hq
      | cont => exact False.elim hq
end
open Classical in
/-- a(e), a the i-th name, which holds the lambda y -/
noncomputable def cCallV (i : Nat) (y : Syn) (n : Nat) (fb : CE) (g : CE) : CE := fun ρ mh => match ρ[i]? with
  | some (some (.clo y' caps)) => if y' = y then (g ρ mh).bind fun d m => if noRef d = true ∧ noRefs caps = true then (match fb (some d :: (caps.map some ++ List.replicate (n - 1 - caps.length) none)) [] with
    | .ok e m' => (match fzN m' 12 e with
      | some e' => if noRef e' = true then .ok e' m else .stuck
      | none => .stuck)
    | _ => .stuck) else .stuck else .stuck
  | _ => .stuck
section
variable {X : Cx} {W : WX} {k j : Nat} {pos p : Pos}
theorem j_callV {y : Syn} {N : List Str} {x a : Str} {fb g : CE} {e : Expr} (i : Nat) (L : LamFn X.prog X.w X.K X.mg X.base j y N x fb) (c : Cc k X W) (he : JE X W e g) (hj : j + 1 ≤ k := by omega) (hN : X.N[i]? = some a := by rfl) (hv : Vis X.env.scope a := by first | exact Or.inl rfl | exact Or.inr (Or.inl rfl) | exact Or.inr (Or.inr rfl))
    (hd : (a == ("__debug__" : Str)) = false := by decide) (hcd : (a == ("__classdict__" : Str)) = false := by decide)
    (hst : starEach [e] X.env = (false, eval e X.env) :: starEach [] X.env := by rfl) (hpl : (backTo pos (starEach [] X.env)).any (·.1) = false := by rfl) : JE X W (.Call (.Name a p) [e] [] pos) (cCallV i y N.length fb g) := by
  obtain ⟨t, pe, q⟩ := he.ex
  refine ⟨_, pe_callV L (c.hr.mono hj) hN hv pe hd hcd hst hpl, fun ρ mh F ι σ H Q sr er h => ?_⟩
  unfold cCallV at h
  split at h
  · rename_i y' caps hρ
    obtain ⟨v, hs, dv⟩ := er.2 i _ hρ
    cases dv with
    | @clo f c' _ _ cl pm ctv ws ca rc =>
      split at h
      · rename_i hy
        subst hy
        refine ⟨f, cl, c', pm, ctv, ws, hs, ca.hf, q ρ mh F ι σ H _ sr er (h.bind.mono fun u H1 ⟨F1, ι1, d1, m1, st1, sr1, r1, h1⟩ => ?_)⟩
        have ca1 := ca.to sr.sub st1
        have rc1 := DVs.to sr.sub st1 _ _ rc
        split at h1
        · rename_i hh
          obtain ⟨n1, n2⟩ := hh
          have kE : ∀ a o, H1 a = some o → (∀ ob, o ≠ cellO ob) → eraC H1 cl a = some o := fun a o e n => by
            have hc : ¬ Cell cl a := fun ⟨z, e1⟩ => by
              obtain ⟨_, ob, _, e2, _⟩ := ca1.cells.all z a e1
              rw [e2] at e
              exact n _ (Option.some.inj e).symm
            rw [era_ne hc]; exact e
          have Cf : CapsAt (fun _ => False) H1 cl y'.fr ws := ca1.cells.upto fun b o e _ _ => ⟨fun z => z, e⟩
          have cc : ∀ a, Cell cl a → ∃ o, H1 a = some (cellO o) := fun a ⟨y, e⟩ => let ⟨_, o, v, e1, _⟩ := Cf.all y a e; ⟨o, e1⟩
          have sr0 : SR X.K X.mg (fun _ => False) [] [] (eraC H1 cl) := ⟨rfl, List.nodup_nil, fun n o a e => by simp at e, fun a z => by simp at z, fun a z => z.elim, tabs_flat kE sr1.tabs⟩
          refine ⟨u, rfl, ca1.hf, ca1.hc, Cf, d1, caps, fun _ => False, [], [], sr0, DV.flat kE (fun _ z => z.elim) _ _ n1 r1, DVs.flat kE (fun _ z => z.elim) _ _ n2 rc1, ?_⟩
          revert h1
          generalize fb (some d1 :: (caps.map some ++ List.replicate (N.length - 1 - caps.length) none)) [] = o
          intro h1
          cases o with
          | ok e m =>
            intro F' ι' H' b st sr' rb hn
            dsimp only at h1
            split at h1
            · rename_i e' ee
              split at h1
              · rename_i ne
                have hz : ∀ a, F' a → ¬ Cell cl a := fun a z c => sr'.old a z (hn a c)
                have back : ∀ a, ¬ Cell cl a → eraC H1 cl a = none → H1 a = none := fun a c e => by rw [era_ne c] at e; exact e
                have kR : ∀ a o, H' a = some o → (∀ ob, o ≠ cellO ob) → reC H' H1 cl a = some o := fun a o e _ => by
                  rw [re_ne fun c => ?_]; exact e
                  rw [hn a c] at e; cases e
                have stA : Step F1 [] H1 (fun a => F1 a ∨ F' a) ι' (reC H' H1 cl) := by
                  refine ⟨st.pre, fun a z => .inl z, fun a z => ?_, fun a z => ?_, fun a o e n nt => ?_, fun a vs e => rd_tup_flat kR (st.tups a vs (rd_tup_flat kE e)), fun a o e => ?_⟩
                  · rcases z with z | z
                    · exact .inl z
                    · rcases st.new a z with w | w
                      · exact w.elim
                      · exact .inr (back a (hz a z) w)
                  · rcases st.inew a z with w | w
                    · exact .inl w
                    · exact .inr (back a (hz a (sr'.sub a z)) w)
                  · by_cases c : Cell cl a
                    · rw [re_at c]; exact e
                    · rw [re_ne c]; exact st.keep a o (by rw [era_ne c]; exact e) n nt
                  · by_cases c : Cell cl a
                    · exact ⟨o, by rw [re_at c]; exact e⟩
                    · obtain ⟨o', z⟩ := st.live a o (by rw [era_ne c]; exact e)
                      exact ⟨o', by rw [re_ne c]; exact z⟩
                have nf : ∀ a, a ∈ ι' → ¬ F1 a := fun a ha z => by
                  rcases st.inew a ha with w | w
                  · simp at w
                  · exact sr1.old a z (back a (hz a (sr'.sub a ha)) w)
                obtain ⟨sr2, st2⟩ := sr1.own stA (tabs_flat kR sr'.tabs)
                have rz : DV X.K X.mg F1 ι1 H' e' b := fzN_ok sr' nf 12 _ _ _ rb ee
                exact h1 F1 ι1 _ b st2 sr2 (DV.more ⟨ι1, rfl⟩ _ _ (DV.flat (F' := F1) kR (fun _ z => z) _ _ ne rz))
              · exact h1.elim
            · exact h1.elim
          | err c es m => exact h1.elim
          | stuck => exact h1.elim
        · exact h1.elim
      · exact h.elim
  · exact h.elim
end
/-! ### the call that hands a lambda -/
/-- H5 tells the cells, too -/
structure Trk (cl : List (Str × Addr)) (fr : List Str) (ws : List V) (H H5 : Hp) : Prop where
  same : ∀ a, ¬ Cell cl a → H5 a = H a
  free : ∀ a, Cell cl a → H a = none
  caps : CapsAt (fun _ => False) H5 cl fr ws
open Classical in
noncomputable def trkH (h : Heap) (H : Hp) (cl : List (Str × Addr)) : Hp := fun a => if Cell cl a then (h.get? a).map cellO else H a
theorem trk_at {h : Heap} {H : Hp} {cl : List (Str × Addr)} {a : Addr} (c : Cell cl a) : trkH h H cl a = (h.get? a).map cellO := by unfold trkH; exact if_pos c
theorem trk_ne {h : Heap} {H : Hp} {cl : List (Str × Addr)} {a : Addr} (c : ¬ Cell cl a) : trkH h H cl a = H a := by unfold trkH; exact if_neg c
section
variable {X : Cx} {pins : List (Addr × Obj)} {σ : L2.St} {H H5 : Hp} {s s' : Shared} {cl : List (Str × Addr)} {fr : List Str} {ws : List V} {js : List Nat}
theorem trk_of (I : Inv X pins σ H s) (cp : NdefX.Caps X cl fr js) (hσ : js.map (NdefX.slotAt σ) = ws.map some) : ∃ H5, Trk cl fr ws H H5 ∧ ∀ a, Cell cl a → ∃ o, H5 a = some (cellO o) ∧ s.heap.get? a = some o := by
  have C := NdefX.cells_of I cp
  rw [hσ] at C
  refine ⟨trkH s.heap H cl, ⟨fun a c => trk_ne c, fun a ⟨y, e⟩ => (C.all y a e).1, ?_, fun y a e => ?_, C.inj, fun i y e => ?_⟩, fun a c => ?_⟩
  · have := C.len
    rw [List.length_map] at this; exact this
  · obtain ⟨_, v, o, h1, h2⟩ := C.all y a e
    refine ⟨fun z => z, o, v, ?_, h2⟩
    rw [trk_at ⟨y, e⟩, h1]; rfl
  · obtain ⟨c, e0, hv⟩ := C.has i y e
    have hi : i < ws.length := by
      have h1 := C.len
      rw [List.length_map] at h1
      have h2 := (List.getElem?_eq_some_iff.mp e).1
      omega
    obtain ⟨u, r, o, h1, h2⟩ := hv ws[i] (by rw [List.getElem?_map, List.getElem?_eq_getElem hi]; rfl)
    refine ⟨c, o, u, ws[i], e0, ?_, h2, List.getElem?_eq_getElem hi, r⟩
    rw [trk_at ⟨y, e0⟩, h1]; rfl
  · obtain ⟨y, e⟩ := c
    obtain ⟨_, v, o, h1, h2⟩ := C.all y a e
    refine ⟨o, ?_, h1⟩
    rw [trk_at ⟨y, e⟩, h1]; rfl
/-- the cells are the frame's own -/
theorem cell_own (I : Inv X pins σ H s) (cp : NdefX.Caps X cl fr js) (hfn : ∀ y, X.fn y = true) {a : Addr} (c : Cell cl a) : X.base.get? a = none ∧ a ∉ frs X.stack := by
  obtain ⟨y, e⟩ := c
  have h1 := cp.sub y a e
  have h2 := I.ok.cab y a (hfn y) h1
  refine ⟨Heap.get?_none_of_le (Nat.le_trans I.ok.bsz h2), fun hb => ?_⟩
  rcases List.mem_cons.mp (I.stkSub a hb) with z | z
  · exact I.cne y a h1 z
  · obtain ⟨_, o, ho, _⟩ := I.ok.funs.mem z
    exact absurd (Nat.lt_of_lt_of_le (Heap.lt_size ho) h2) (Nat.lt_irrefl _)
theorem env0_trk (I : Inv X pins σ H s) (cp : NdefX.Caps X cl fr js) (hfn : ∀ y, X.fn y = true) (T : Trk cl fr ws H H5) (hc : ∀ a, Cell cl a → ∃ o, H5 a = some (cellO o) ∧ s.heap.get? a = some o) : Env0 X.prog X.w X.K X.mg X.base X.A X.stack s H5 := by
  have e0 := I.env0
  refine ⟨e0.frames, e0.mod, fun b o e => ⟨(e0.bs b o e).1, ?_⟩, e0.bsz, e0.funs, fun b hb => ?_, fun a o e => ?_, e0.bare⟩
  · have c : ¬ Cell cl b := fun c => by rw [(cell_own I cp hfn c).1] at e; cases e
    rw [T.same b c]; exact (e0.bs b o e).2
  · have c : ¬ Cell cl b := fun c => (cell_own I cp hfn c).2 hb
    rw [T.same b c]; exact e0.frf b hb
  · by_cases c : Cell cl a
    · obtain ⟨o2, e2, e3⟩ := hc a c
      rw [e2] at e
      cases e
      exact ⟨e3, o2, e3⟩
    · rw [T.same a c] at e
      have nc : ∀ {b u}, H b = some u → ¬ Cell cl b := fun e c => by rw [T.free _ c] at e; cases e
      exact (e0.hok a o e).stay (fun b u _ e => e) (fun b e => by rw [T.same b (nc e)]; exact e) fun b xs e => by rw [T.same b (nc e)]; exact e
theorem ce_era (I : Inv X pins σ H s) (cp : NdefX.Caps X cl fr js) (hfn : ∀ y, X.fn y = true) (T : Trk cl fr ws H H5) (hc : ∀ a, Cell cl a → ∃ o, H5 a = some (cellO o) ∧ s.heap.get? a = some o) {Q : VK} {u : Value}
    (h : L2.CE X.stack X.prog X.w H5 s (fun v H' => (∀ a, Cell cl a → ∃ o, H' a = some (cellO o)) → Q v (eraC H' cl)) u s') : L2.CE X.stack X.prog X.w H s Q u s' := by
  obtain ⟨v, H', os, bare, un, hok, r, q⟩ := h
  have hn : ∀ a, Cell cl a → ∃ o, H' a = some (cellO o) ∧ s.heap.get? a = some o := fun a c => by
    obtain ⟨o, e1, e2⟩ := hc a c
    exact ⟨o, un.frzs a _ _ e1, e2⟩
  have nc : ∀ {b u}, H b = some u → ¬ Cell cl b := fun e c => by rw [T.free _ c] at e; cases e
  refine ⟨v, eraC H' cl, os, bare, ⟨fun b o g n nfb nx => ?_, fun b o g n hb nx => ?_, fun b o g n nx => ?_, un.there, fun b xs e => ?_, fun b o u e => ?_, fun b ps e => ?_⟩, hok_era hok fun a c => let ⟨o, e, _⟩ := hn a c; .inl ⟨o, e⟩, r, q fun a c => let ⟨o, e, _⟩ := hn a c; ⟨o, e⟩⟩
  · by_cases c : Cell cl b
    · obtain ⟨o2, e2, e3⟩ := hn b c
      rw [g] at e3
      cases e3
      exact cell_heap hok e2
    · exact un.keep b o g (by rw [T.same b c]; exact n) nfb nx
  · have c : ¬ Cell cl b := fun c => (cell_own I cp hfn c).2 hb
    exact un.slot b o g (by rw [T.same b c]; exact n) hb nx
  · by_cases c : Cell cl b
    · exact era_at c
    · rw [era_ne c]; exact un.free b o g (by rw [T.same b c]; exact n) nx
  · rw [era_ne (nc e)]; exact un.tups b xs (by rw [T.same b (nc e)]; exact e)
  · rw [era_ne (nc e)]; exact un.frzs b o u (by rw [T.same b (nc e)]; exact e)
  · obtain ⟨more, z⟩ := un.tbls b ps (by rw [T.same b (nc e)]; exact e)
    exact ⟨more, by rw [era_ne (nc e)]; exact z⟩
def tCallTr (cl : List (Str × Addr)) (fr : List Str) (js : List Nat) (sp : Sp) (t : TA) : TE := fun σ H Q => t σ H fun vs H1 => ∃ ws : List V, js.map (NdefX.slotAt σ) = ws.map some ∧ ∀ H5, Trk cl fr ws H1 H5 → sp vs H5 (fun v H' => (∀ a, Cell cl a → ∃ o, H' a = some (cellO o)) → Q v (eraC H' cl)) fun _ _ _ => False
theorem pe_callTr {k : Nat} {f : Addr} {fd : FuncData} {ps : List Str} {sp : Sp} {x : Str} {p pos : Pos} {e : Expr} {es : List Expr} {t : TA} (F : FnOk X.prog X.w X.K X.mg X.base (L2.CX X.prog X.w) k f fd ps sp) (hr : Room k X.A) (hg : Gl X x) (hm : X.mg x = some (.ref f)) (hk : PySem.W.keepIn X.K (.ref f) = true) (hb : Binds X.K fd ps [])
    (cp : X.Ok → NdefX.Caps X cl fr js) (hfn : ∀ y, X.fn y = true) (ha : PA X (e :: es) t) (hdb : (x == ("__debug__" : Str)) = false := by decide) (he : starEach (e :: es) X.env = (false, eval e X.env) :: starEach es X.env := by rfl) (hpl : (backTo pos (starEach es X.env)).any (·.1) = false := by rfl) :
    PE X (.Call (.Name x p) (e :: es) [] pos) (tCallTr cl fr js sp t) := by
  refine ⟨fun pins s σ H Q I h => ?_⟩
  refine wpAny_Call_Name_kw (ld_glob I hg hm ?_ hdb)
  refine PySem.W.callWith_K (h₀ := X.base) I.ok.mod.kin hk (thn (ha.run pos pins s σ H _ I h) fun us s1 ⟨vs, H1, I1, r, ws, hσ, q⟩ => ⟨I1.kIn, ?_⟩) he hpl
  have cp1 := cp I1.ok
  obtain ⟨H5, T, hc⟩ := trk_of I1 cp1 hσ
  have q5 := q H5 T
  have hl : us.length = ps.length := by rw [← r.length]; exact F.len _ _ _ _ q5
  have b := hb s1 us I1.kIn (by rw [List.append_nil]; exact hl)
  rw [List.append_nil] at b
  refine wpAny_call (codeAny_mono (F.run X.A X.stack s1 H5 ⟨us, []⟩ us vs _ _ hr (env0_trk I1 cp1 hfn T hc) b r q5) fun r s' hq => ?_)
  cases r with
  | error e =>
    obtain ⟨_, _, _, _, _, _, _, _, _, _, _, _, z⟩ := (show L2.CX X.prog X.w X.stack H5 s1 (fun _ _ _ => False) e s' from hq)
    exact z.elim
  | ok fl =>
    cases fl with
    | ret u => exact I1.after (ce_era I1 cp1 hfn T hc hq)
    | next => exact False.elim hq
    | brk => exact False.elim hq
    | cont => exact False.elim hq
end
/-- what the slots hold -/
def capsE (ρ : En) : List Nat → Option (List D)
  | [] => some []
  | j :: js => match ρ[j]?, capsE ρ js with
    | some (some d), some ds => some (d :: ds)
    | _, _ => none
theorem caps_at {K : PySem.W.Frag} {mg : Str → Option Value} {F : Addr → Prop} {ι : List Addr} {H : Hp} {ρ : En} {σ : L2.St} (er : ER K mg F ι H ρ σ) : ∀ {js : List Nat} {ds : List D}, capsE ρ js = some ds → ∃ ws, js.map (NdefX.slotAt σ) = ws.map some ∧ DVs K mg F ι H ds ws
  | [], ds, h => by cases h; exact ⟨[], rfl, .nil⟩
  | j :: js, ds, h => by
    unfold capsE at h
    split at h
    · rename_i d ds' e1 e2
      cases h
      obtain ⟨v, hv, r⟩ := er.2 j d e1
      obtain ⟨ws, e3, rs⟩ := caps_at er e2
      exact ⟨v :: ws, by rw [List.map_cons, List.map_cons, e3, NdefX.slotAt_of hv], .cons r rs⟩
    · cases h
/-- f(.., lambda ..), f called in a heap of its own, what it tells is new -/
def cloC (f : Fn) (y : Syn) (js : List Nat) (ρ : En) (ds : List D) (m : List O) : Res D := match capsE ρ js with
  | some cs => if noRefs ds = true ∧ noRefs cs = true then (match f (ds ++ [.clo y cs]) [] with
    | .ok d m' => (match fzN m' 12 d with
      | some d' => if noRef d' = true then .ok d' m else .stuck
      | none => .stuck)
    | _ => .stuck) else .stuck
  | none => .stuck
def cCallL3 (f : Fn) (y : Syn) (js : List Nat) (fa fb fc : CE) : CE := fun ρ mh => (fa ρ mh).bind fun d1 m1 => (fb ρ m1).bind fun d2 m2 => (fc ρ m2).bind fun d3 m3 => cloC f y js ρ [d1, d2, d3] m3
section
variable {X : Cx} {W : WX} {k j : Nat} {pos p lpos : Pos} {x : Str} {f : Fn} {a b d : Expr} {fa fb fc : CE}
theorem j_callLam3 (D0 : Def X.prog X.w X.K X.mg X.base j x 4 f) (c : Cc k X W) (lh : ∃ c P, LamH X c P) {y : Syn} {params : Arguments} {body : Expr} {scope sc : Scope} (js : List Nat) (hy : y = ⟨X.env.qual ++ "<lambda>", params, body, scope, y.fr⟩) (ha : JE X W a fa) (hb : JE X W b fb) (hd : JE X W d fc)
    (hfree : ∀ z ∈ scope.names, z.2 = .free → sc.names.lookup z.1 = some .cell ∨ sc.names.lookup z.1 = some .free) (hfr : ∀ z ∈ y.fr, (z, NameKind.free) ∈ scope.names) (hsc : X.env.scope = sc := by rfl) (hjs : js.map (fun j => X.N[j]?) = y.fr.map some := by rfl) (hdef : defaultsOf params X.env = ([], []) := by rfl)
    (hfn : ∀ y, X.fn y = true := by intro _; rfl) (hk : j ≤ k := by omega) (hg : Gl X x := by rfl) (hdb : (x == ("__debug__" : Str)) = false := by decide)
    (he0 : starEach [a, b, d, .Lambda params body scope lpos] X.env = (false, eval a X.env) :: starEach [b, d, .Lambda params body scope lpos] X.env := by rfl)
    (he1 : starEach [b, d, .Lambda params body scope lpos] X.env = (false, eval b X.env) :: starEach [d, .Lambda params body scope lpos] X.env := by rfl)
    (he2 : starEach [d, .Lambda params body scope lpos] X.env = (false, eval d X.env) :: starEach [.Lambda params body scope lpos] X.env := by rfl)
    (he3 : starEach [.Lambda params body scope lpos] X.env = (false, eval (.Lambda params body scope lpos) X.env) :: starEach [] X.env := by rfl)
    (hpl : (backTo pos (starEach [b, d, .Lambda params body scope lpos] X.env)).any (·.1) = false := by rfl) :
    JE X W (.Call (.Name x p) [a, b, d, .Lambda params body scope lpos] [] pos) (cCallL3 f y js fa fb fc) := by
  subst hsc
  obtain ⟨co, P, LH⟩ := lh
  obtain ⟨fA, fd, ps, m, kp, bi, hl, F⟩ := D0.ex
  obtain ⟨t1, p1, q1⟩ := ha.ex
  obtain ⟨t2, p2, q2⟩ := hb.ex
  obtain ⟨t3, p3, q3⟩ := hd.ex
  have PL := pe_lam (body := body) (pos := lpos) LH.tb LH.code (rfl : X.env.qual ++ "<lambda>" = _) hdef hfree
  refine ⟨_, pe_callTr (cl := cloFrom X.env.cells scope.names []) (fr := y.fr) (js := js) F (c.hr.mono hk) hg m kp bi (fun ok => NdefX.Caps.made ok hfree hfr hjs) hfn (pa_cons p1 (pa_cons p2 (pa_cons p3 (pa_cons PL pa_nil he3) he2) he1) he0) hdb he0 hpl, fun ρ mh F0 ι σ H Q sr er h => ?_⟩
  unfold cCallL3 at h
  refine q1 ρ mh F0 ι σ H _ sr er (h.bind.mono fun x1 H1 ⟨F1, ι1, d1, m1, st1, sr1, r1, h1⟩ => ?_)
  have er1 := er.to sr.sub st1
  refine q2 ρ m1 F1 ι1 σ H1 _ sr1 er1 (h1.bind.mono fun x2 H2 ⟨F2, ι2, d2, m2, st2, sr2, r2, h2⟩ => ?_)
  have er2 := er1.to sr1.sub st2
  refine q3 ρ m2 F2 ι2 σ H2 _ sr2 er2 (h2.bind.mono fun x3 H3 ⟨F3, ι3, d3, m3, st3, sr3, r3, h3⟩ => ?_)
  have er3 := er2.to sr2.sub st3
  refine ⟨sr3.tabs _ LH.mem, fun fL c' pm ctv H4 kk tab f0 f1 c1 => ?_⟩
  obtain ⟨sr4, st4⟩ := lam_step sr3 (sr3.tabs _ LH.mem) kk tab LH.one
  have er4 := er3.to sr3.sub st4
  have h4 := Post.at h3 st4
  unfold cloC at h4
  split at h4
  · rename_i cs ec
    split at h4
    · rename_i hh
      obtain ⟨n1, n2⟩ := hh
      obtain ⟨ws, hσ, rcs⟩ := caps_at er4 ec
      refine ⟨ws, hσ, fun H5 T => ?_⟩
      have k5 : ∀ a o, H4 a = some o → H5 a = some o := fun a o e => by
        have c : ¬ Cell (cloFrom X.env.cells scope.names []) a := fun c => by rw [T.free a c] at e; cases e
        rw [T.same a c]; exact e
      have kf : ∀ a o, H4 a = some o → (∀ ob, o ≠ cellO ob) → H5 a = some o := fun a o e _ => k5 a o e
      have sr5 : SR X.K X.mg (fun _ => False) [] [] H5 := ⟨rfl, List.nodup_nil, fun n o a e => by simp at e, fun a z => by simp at z, fun a z => z.elim, tabs_flat kf sr4.tabs⟩
      have ra : DVs X.K X.mg F3 ι3 H4 [d1, d2, d3] [x1, x2, x3] := .cons (DV.to sr1.sub ((st2.trans st3).trans st4) _ _ r1) (.cons (DV.to sr2.sub (st3.trans st4) _ _ r2) (.cons (DV.to sr3.sub st4 _ _ r3) .nil))
      have ra5 : DVs X.K X.mg (fun _ => False) [] H5 [d1, d2, d3] [x1, x2, x3] := DVs.flat kf (fun _ z => z.elim) _ _ n1 ra
      have rc5 : DVs X.K X.mg (fun _ => False) [] H5 cs ws := DVs.flat kf (fun _ z => z.elim) _ _ n2 rcs
      have rL : DV X.K X.mg (fun _ => False) [] H5 (.clo y cs) (.ref fL) := by
        have e1 : y.q = X.env.qual ++ "<lambda>" := by rw [hy]
        have e2 : y.params = params := by rw [hy]
        have e3 : y.body = body := by rw [hy]
        have e4 : y.scope = scope := by rw [hy]
        refine .clo (c' := c') (pm := pm) (ctv := ctv) ⟨fun z => z, fun z => z, ?_, ?_, T.caps⟩ rc5
        · rw [e1, e2, e3, e4]; exact k5 _ _ f1
        · rw [e1]; exact k5 _ _ c1
      refine ⟨rfl, [d1, d2, d3, .clo y cs], fun _ => False, [], [], sr5, DVs.snoc rL ra5, ?_⟩
      revert h4
      show Post _ _ _ _ _ _ _ _ (match f [d1, d2, d3, .clo y cs] [] with | .ok d m' => _ | _ => _) Q → _
      generalize f [d1, d2, d3, .clo y cs] [] = o
      intro h4
      cases o with
      | ok d m =>
        intro F' ι' H' v st sr' rb hcell
        dsimp only at h4
        split at h4
        · rename_i d' ed
          split at h4
          · rename_i nd
            have nc4 : ∀ {a o}, H4 a = some o → ¬ Cell (cloFrom X.env.cells scope.names []) a := fun e c => by rw [T.free _ c] at e; cases e
            have kE : ∀ a o, H' a = some o → (∀ ob, o ≠ cellO ob) → eraC H' (cloFrom X.env.cells scope.names []) a = some o := fun a o e n => by
              have hc : ¬ Cell (cloFrom X.env.cells scope.names []) a := fun c => by
                obtain ⟨ob, z⟩ := hcell a c
                rw [z] at e
                exact n _ (Option.some.inj e).symm
              rw [era_ne hc]; exact e
            have back : ∀ a, H5 a = none → H4 a = none := fun a e => by
              have hc : ¬ Cell (cloFrom X.env.cells scope.names []) a := fun ⟨z, e1⟩ => by
                obtain ⟨_, ob, _, e2, _⟩ := T.caps.all z a e1
                rw [e2] at e; cases e
              rw [T.same a hc] at e; exact e
            have stA : Step F3 [] H4 (fun a => F3 a ∨ F' a) ι' (eraC H' (cloFrom X.env.cells scope.names [])) := by
              refine ⟨st.pre, fun a z => .inl z, fun a z => ?_, fun a z => ?_, fun a o e n nt => ?_, fun a vs e => rd_tup_flat kE (st.tups a vs (rd_tup_flat kf e)), fun a o e => ?_⟩
              · rcases z with z | z
                · exact .inl z
                · exact (st.new a z).elim (fun w => w.elim) fun w => .inr (back a w)
              · exact (st.inew a z).elim .inl fun w => .inr (back a w)
              · rw [era_ne (nc4 e)]; exact st.keep a o (k5 a o e) n nt
              · obtain ⟨o', z⟩ := st.live a o (k5 a o e)
                exact ⟨o', by rw [era_ne (nc4 e)]; exact z⟩
            have nf : ∀ a, a ∈ ι' → ¬ F3 a := fun a ha z => by
              rcases st.inew a ha with w | w
              · simp at w
              · exact sr4.old a z (back a w)
            obtain ⟨sr6, st6⟩ := sr4.own stA (tabs_flat kE sr'.tabs)
            have rz : DV X.K X.mg F3 ι3 H' d' v := fzN_ok sr' nf 12 _ _ _ rb ed
            exact h4 F3 ι3 _ v st6 sr6 (DV.more ⟨ι3, rfl⟩ _ _ (DV.flat (F' := F3) kE (fun _ z => z) _ _ nd rz))
          · exact h4.elim
        · exact h4.elim
      | err c es m => exact h4.elim
      | stuck => exact h4.elim
    · exact h4.elim
  · exact h4.elim
end
/-! ### where a lambda is written -/
def aNo : Expr := .Constant .none 0 ⟨0, 0, 0, 0⟩
def aPass : Stmt := .Pass ⟨0, 0, 0, 0⟩
def aIf (s : Stmt) (i : Nat) : Stmt := match s with
  | .If _ b _ _ => b.getD i aPass
  | .For _ _ b _ _ => b.getD i aPass
  | _ => aPass
def aVal (s : Stmt) : Expr := match s with
  | .Assign _ v _ => v
  | .Return (some v) _ => v
  | _ => aNo
def aArg (i : Nat) (e : Expr) : Expr := match e with
  | .Call _ xs _ _ => xs.getD i aNo
  | _ => aNo
def aLeft (e : Expr) : Expr := match e with
  | .Compare l _ _ _ => l
  | _ => aNo
def lamPs (e : Expr) : Arguments := match e with
  | .Lambda a _ _ _ => a
  | _ => { posonlyargs := [], args := [], vararg := none, kwonlyargs := [], kw_defaults := [], kwarg := none, defaults := [] }
def lamBd (e : Expr) : Expr := match e with
  | .Lambda _ b _ _ => b
  | _ => aNo
def lamSc (e : Expr) : Scope := match e with
  | .Lambda _ _ s _ => s
  | _ => { kind := .function, names := [], isGenerator := false, isCoroutine := false }
/-- two defs hold lambdas -/
theorem lamOk_2 {q : Program} {K : PySem.W.Frag} {f tc P f2 tc2 P2 : Addr} {oc oc2 : Value} {od od2 : Option Addr} {fd fd2 : FuncData} {sl sl' sl2 sl2' : Array (Option Value)} {e e2 : Value} {dd dd2 : Option Addr} {vs vs2 : Array Value} {x y : Str} (hxy : ∀ z ∈ lamDefs, z = x ∨ z = y)
    (r : ((recsOf q).any fun e => e.name == x) = true) (a : PySem.W.nsIn K mainGlobals x = some (some (.ref f))) (l : K.lookup f = some ⟨oc, od, .func fd, sl⟩) (hc : fd.code = .ref tc)
    (c : K.lookup tc = some ⟨e, dd, .fields vs, sl'⟩) (v : vs[11]? = some (.ref P)) (n : K.lookup P = none)
    (r2 : ((recsOf q).any fun e => e.name == y) = true) (a2 : PySem.W.nsIn K mainGlobals y = some (some (.ref f2))) (l2 : K.lookup f2 = some ⟨oc2, od2, .func fd2, sl2⟩) (hc2 : fd2.code = .ref tc2)
    (c2 : K.lookup tc2 = some ⟨e2, dd2, .fields vs2, sl2'⟩) (v2 : vs2[11]? = some (.ref P2)) (n2 : K.lookup P2 = none) (ne : P ≠ P2) : LamOk q K := by
  have ht := tab_of a l hc c v
  have ht2 := tab_of a2 l2 hc2 c2 v2
  refine ⟨fun z hz => ?_, fun z c P hz h => ?_, fun z w c c' P hz hw h h' => ?_⟩
  · rcases hxy z hz with e | e
    · rw [e]; exact .inr r
    · rw [e]; exact .inr r2
  · rcases hxy z hz with e | e
    · rw [e, ht] at h; cases h; exact n
    · rw [e, ht2] at h; cases h; exact n2
  · rcases hxy z hz with e | e
    · rcases hxy w hw with e' | e'
      · rw [e, e']
      · rw [e, ht] at h; rw [e', ht2] at h'; cases h; cases h'; exact absurd rfl ne
    · rcases hxy w hw with e' | e'
      · rw [e, ht2] at h; rw [e', ht] at h'; cases h; cases h'; exact absurd rfl ne
      · rw [e, e']
end G

/-! Part HJ: d.clear() of a live dict. -/
namespace G
open PySem PySem.Spec PyProof.Rows L2
section
variable {X : Cx} {W : WX} {k : Nat} {a : Expr} {fa : CE} {apos cpos : Pos}
def oDClear (d : D) (mh : List O) : Res D := match liveD mh d with
  | some (n, _, _) => .ok .non (mh.set n (.dic [] []))
  | none => .stuck
theorem j_dclear (ha : JE X W a fa) (hbase : attributeBase a "clear" X.env (eval a X.env) = eval a X.env := by rfl) (hline : (apos.endLine == cpos.line) = true := by rfl) : JE X W (.Call (.Attribute a "clear" apos) [] [] cpos) (c1 oDClear fa) := by
  obtain ⟨ta, pa, qa⟩ := ha.ex
  refine ⟨_, pe_dclear pa hbase hline, fun ρ mh F ι σ H Q sr er h => ?_⟩
  refine qa ρ mh F ι σ H _ sr er (h.bind.mono fun x H1 ⟨F1, ι1, d1, m1, st1, sr1, r1, h1⟩ => ?_)
  unfold oDClear at h1
  split at h1
  · rename_i n ks ds el
    obtain ⟨p, kvs, rfl, ep, hH, rfl, rx⟩ := liveD_ok sr1 r1 el
    obtain ⟨st3, sr3⟩ := sr1.write (u := .dK []) (o := .dic [] []) ep hH (fun vs => ⟨(by intro z; cases z), (by intro ob z; cases z)⟩) fun st => .dic upd_same rfl .nil
    exact ⟨.inr (.inr (.inl ⟨rfl, .inl ⟨kvs, hH⟩⟩)), p, kvs, rfl, rfl, hH, h1 F1 ι1 _ .non st3 sr3 .non⟩
  · exact h1.elim
end
section
variable {X : Cx} {W : WX} {k j : Nat} {pos p : Pos} {x : Str} {n : Nat} {f : Fn} {e : Expr} {es : List Expr}
/-- f(e, ..), the last parameter left out, live arguments as values, what it tells is new -/
def arNF (n : Nat) (f : Fn) : Fn := fun ds mh => if ds.length = n then oPF f (ds ++ [.non]) mh else .stuck
theorem j_callNF {g : CA} (d : DefN X.prog X.w X.K X.mg X.base j x n f) (c : Cc k X W) (ha : JA X W (e :: es) g) (hk : j ≤ k := by omega) (hg : Gl X x := by rfl)
    (hdb : (x == ("__debug__" : Str)) = false := by decide) (he : starEach (e :: es) X.env = (false, eval e X.env) :: starEach es X.env := by rfl) (hpl : (backTo pos (starEach es X.env)).any (·.1) = false := by rfl) :
    JE X W (.Call (.Name x p) (e :: es) [] pos) (cL (arNF n f) g) :=
  j_callNAny d c hk ha (fun F ι mh σ H ds vs Q hn sr r h => sp_callF (by simp [hn]) sr (DVs.snoc .non r) (by unfold arNF at h; rw [if_pos (by rw [DVs.length r]; exact hn)] at h; exact h)) (fun ds mh hx => if_neg hx) hg hdb he hpl
end
/-! ### sorted(d), a dict by ints -/
def keysI : List Key → Option (List Int)
  | [] => some []
  | .inl i :: ks => (keysI ks).map (i :: ·)
  | .inr _ :: _ => none
theorem keysI_some : ∀ {ks : List Key} {ns : List Int}, keysI ks = some ns → ks = ns.map Sum.inl
  | [], ns, h => by cases h; rfl
  | .inl i :: ks, ns, h => by
    obtain ⟨ms, h1, rfl⟩ := Option.map_eq_some_iff.mp (show (keysI ks).map (i :: ·) = some ns from h)
    rw [keysI_some h1]; rfl
  | .inr _ :: _, _, h => by cases h
theorem keysI_map : ∀ ns : List Int, keysI (ns.map Sum.inl) = some ns
  | [] => rfl
  | n :: ns => by
    show (keysI (ns.map Sum.inl)).map (n :: ·) = _
    rw [keysI_map ns]; rfl
def oSortDI (ds : List D) (mh : List O) : Res D := match ds with
  | [d] => match dicOf mh d with
    | some (ks, _) => match keysI ks with
      | some ns => if ns.length < 64 then .ok (.lst ((srt (fun i : Int => i) ns).map D.int)) mh else .stuck
      | none => .stuck
    | none => .stuck
  | _ => .stuck
theorem vo_sortDI {X : Cx} : VOL X (fun xs H Q => ∃ (a : Addr) (kvs : List (Key × V)) (ks : List Int), xs = [.ref a] ∧ Rd H a (.dK kvs) ∧ kvs.map (·.1) = ks.map Sum.inl ∧ ks.length < 64 ∧
    ∀ (ys : List Int) (p : Addr), ys.Perm ks → ys.Pairwise (· ≤ ·) → H p = none → Q (.ref p) (upd H p (.lst (ys.map V.int)))) oSortDI := by
  intro W σ F ι mh H ds vs Q sr r h
  unfold oSortDI at h
  split at h
  · rename_i d
    split at h
    · rename_i ks ds' e1
      split at h
      · rename_i ns e2
        split at h
        · rename_i hl
          cases r with
          | cons r1 r2 =>
            cases r2
            obtain ⟨a, kvs, rfl, hH, rfl, _⟩ := dicOf_ok sr r1 e1
            refine ⟨a, kvs, ns, rfl, hH, keysI_some e2, hl, fun ys p hp hw hn => ?_⟩
            have e : ys = srt (fun i : Int => i) ns := pw_uniq (fun i : Int => i) ys _ (hp.trans (srt_perm _ ns).symm) hw (srt_pw _ ns) fun a _ b _ z => z
            subst e
            exact h F ι _ (.ref p) (step_new hn) (sr.fresh hn) (.lst (.inl ⟨.inl upd_same, sr.notNew hn⟩) (dvs_ints _))
        · exact h.elim
      · exact h.elim
    · exact h.elim
  · exact h.elim
/-! ### x = [.. for k in d ..] -/
section
variable {X : Cx} {W : WX} {k : Nat} {pos : Pos}
theorem lock_ok {i : Nat} {f : CE} {t : TE} (q : ∀ (ρ : En) (mh : List O) (F : Addr → Prop) (ι : List Addr) (σ : L2.St) (H : Hp) (Q : VK), SR X.K X.mg F ι mh H → ER X.K X.mg F ι H ρ σ → Locked i σ H → Post X.K X.mg (DR X) W σ F ι H (f ρ mh) Q → t σ H Q)
    {ρ : En} {mh : List O} {F : Addr → Prop} {ι : List Addr} {σ : L2.St} {H : Hp} {Q : VK} (sr : SR X.K X.mg F ι mh H) (er : ER X.K X.mg F ι H ρ σ) (hp : Post X.K X.mg (DR X) W σ F ι H (cLock i f ρ mh) Q) : tLockE t σ H Q ∨ t σ H Q := by
  unfold cLock at hp
  split at hp
  · rename_i ks ds ei
    obtain ⟨v, ev, rv⟩ := er.2 i _ ei
    cases rv with
    | @dic d _ _ kvs hd nF ek rr =>
      split at hp
      · rename_i a m ef
        rcases hd with hd | ⟨o, hd⟩
        · refine .inl ⟨d, .dK kvs, hd, trivial, fun od => ?_⟩
          have L : Lk d kvs H (upd H d (.frz od (.dK kvs))) := ⟨fun a na => upd_ne na, .inl hd, .inr ⟨od, upd_same⟩⟩
          have nι : d ∉ ι := fun z => nF (sr.sub d z)
          refine q ρ mh F ι σ _ _ (sr.lk L nF (tabs_upd sr.tabs hd fun _ _ => ⟨(fun z => nomatch z), fun z => nomatch z⟩)) (er.lk L) ⟨d, od, kvs, ev, upd_same⟩ ?_
          rw [ef]
          intro F1 ι1 H1 b st1 sr1 rb
          have hl : (upd H d (.frz od (.dK kvs))) d = some (.frz od (.dK kvs)) := upd_same
          have h1 : H1 d = some (.frz od (.dK kvs)) := st1.keep d _ hl nι fun _ z => nomatch z
          have L1 : Lk d kvs H1 (upd H1 d (.dK kvs)) := ⟨fun a na => upd_ne na, .inr ⟨od, h1⟩, .inl upd_same⟩
          have nF1 : ¬ F1 d := fun z => (st1.new d z).elim nF fun y => by rw [hl] at y; cases y
          have lv : ∀ a, upd H d (.frz od (.dK kvs)) a = none → H a = none := fun a z => by
            by_cases y : a = d
            · rw [y, hl] at z; cases z
            · rw [upd_ne y] at z; exact z
          refine ⟨h1, hp F1 ι1 _ b ⟨st1.pre, st1.up, fun a z => (st1.new a z).imp_right (lv a), fun a z => (st1.inew a z).imp_right (lv a), fun a u e n nt => ?_, fun a vs r => ?_, fun a u e => ?_⟩
            (sr1.lk L1 nF1 (tabs_upd sr1.tabs h1 fun _ _ => ⟨(fun z => nomatch z), fun z => nomatch z⟩)) (DV.lk L1 _ _ rb)⟩
          · by_cases y : a = d
            · subst y
              rw [hd] at e
              cases e
              exact upd_same
            · rw [upd_ne y]
              exact st1.keep a u (by rw [upd_ne y]; exact e) n nt
          · exact L1.rd_to (st1.tups a vs (L.rd_to r (fun _ z => nomatch z) fun _ _ z => nomatch z)) (fun _ z => nomatch z) fun _ _ z => nomatch z
          · by_cases y : a = d
            · exact ⟨_, by rw [y]; exact upd_same⟩
            · obtain ⟨u', e'⟩ := st1.live a u (by rw [upd_ne y]; exact e)
              exact ⟨u', by rw [upd_ne y]; exact e'⟩
        · refine .inr (q ρ mh F ι σ H Q sr er ⟨d, o, kvs, ev, hd⟩ ?_)
          rw [ef]; exact hp
      · exact hp.elim
  · exact hp.elim
variable {elt tg : Expr} {ifs : List Expr} {scope : Scope} {own : List (Str × Nat)} {ix : List Nat} {fg : CG} {ft : CT} {fe : CE} {p1 : Pos} {x : Str}
theorem s_setLcK (c : Cc k X W) (w : Bool) (i : Nat) {j : Nat} {y : Str} {py spos : Pos} (ok : BlkOk X.N X.env.scope scope own)
    (hg : ∀ (s : Shared) (H : Hp) (C : Addr) (cl : List (Str × Addr)) (fp : List Addr), Cc k (X.blk s H scope (compEnvC scope cl C X.env) fp) W0 → JG (X.blk s H scope (compEnvC scope cl C X.env) fp) W0 tg ix fg)
    (ht : ∀ (s : Shared) (H : Hp) (C : Addr) (cl : List (Str × Addr)) (fp : List Addr), Cc k (X.blk s H scope (compEnvC scope cl C X.env) fp) W0 → JTs (X.blk s H scope (compEnvC scope cl C X.env) fp) W0 ifs ft)
    (he : ∀ (s : Shared) (H : Hp) (C : Addr) (cl : List (Str × Addr)) (fp : List Addr), Cc k (X.blk s H scope (compEnvC scope cl C X.env) fp) W0 → JE (X.blk s H scope (compEnvC scope cl C X.env) fp) W0 elt fe)
    (hsw : swapsWith (.ListComp elt [⟨tg, .Name x p1, ifs, 0⟩] scope pos) (some (.Name y py)) spos.line X.env = pure true) (hy : X.N[j]? = some y := by rfl) (hyl : X.env.scope.names.lookup y = some .local := by rfl)
    (hN : X.N[i]? = some x := by rfl) (hv : Vis X.env.scope x := by first | exact Or.inl rfl | exact Or.inr (Or.inl rfl) | exact Or.inr (Or.inr rfl)) (hd : (x == ("__debug__" : Str)) = false := by decide)
    (hcd : (x == ("__classdict__" : Str)) = false := by decide)
    (hix : ∀ i ∈ ix, i ∈ own.map (·.2) := by decide) (hs : ∀ y, foldedSetIterable (.Name x p1) X.env y = pure y := by intro _; rfl) :
    JS X W (.Assign [.Name y py] (.ListComp elt [⟨tg, .Name x p1, ifs, 0⟩] scope pos) spos) (sSet j (cLock i (cLcX w (cKeys i) fg ft fe (own.map (·.2))))) := by
  have og := (hg {} (fun _ => none) 0 [] [] c.blk).only
  have pi : PI X tg (.Name x p1) (iKeys (tVar i)) := pi_keys (pe_var hN hv hd hcd)
  have ps := ps_setLc (g := canG X ix fg) (tt := canT X W0 ft) (te := canE X W0 fe) c.calm c.nd hy hyl hsw pi ok (fun s H C cl fp => (hg s H C cl fp c.blk).can) (fun s H C cl fp => (ht s H C cl fp c.blk).can) (fun s H C cl fp => (he s H C cl fp c.blk).can) hs
  refine ⟨fun D σ H => tLock _ D σ H ∨ _, ⟨fun pins s σ H D I z => z.elim ((ps_lock ps).run pins s σ H D I) (ps.run pins s σ H D I)⟩, fun ρ mh F ι σ H T sr er h => ?_⟩
  have q : ∀ (ρ : En) (mh : List O) (F : Addr → Prop) (ι : List Addr) (σ : L2.St) (H : Hp) (Q : VK), SR X.K X.mg F ι mh H → ER X.K X.mg F ι H ρ σ → Locked i σ H → Post X.K X.mg (DR X) W σ F ι H (cLcX w (cKeys i) fg ft fe (own.map (·.2)) ρ mh) Q → tLc (iKeys (tVar i)) (canG X ix fg) (canT X W0 ft) (canE X W0 fe) (own.map (·.2)) σ H Q := fun ρ mh F ι σ H Q sr er lk h => by
    have := lcx (X := X) (W := W) (ix := ix) (fi := cKeys i) (fg := fg) (ft := ft) (fe := fe) (w := w) (wi := fun σ H R => Locked i σ H → iKeys (tVar i) σ H R) (fun ρ mh F ι σ H R sr er hp lk => keys_ok sr er lk hp) og hix sr er h
    exact this lk
  exact lock_ok q sr er ((PostS.bindE (R := DR X) sr er h).mono fun v H1 ⟨F1, ι1, d, m1, st1, sr1, r1, er1, h1⟩ => h1 F1 ι1 H1 _ Step.refl sr1 (er1.set r1))
end
end G

/-! Part HK: lists that hold dicts, held against one another; dict(d); sorted of ints; a tuple's slice. -/
namespace PySem.SeqAt
open AutoSeq1 (wpAny_loadPart')
open MeetsSeq MeetsSeq2 MeetsSeq3 SeqRoads2
section
variable {prog : Program} {w : World}
theorem gNeLoop (p q : Addr) (xs ys : Array Value) (m1 m2 : Nat) (e1 e2 : Option Addr) (f1 f2 : Array (Option Value)) (ez : xs.size = ys.size) (k : Nat) :
    ∀ i : Nat, xs.size - i = k → MeetsIn prog w (Builtin.«list.__eq__.loop» ⟨[.ref p, .ref q, rawInt i, rawInt 3], []⟩)
      (fun A R s => s.heap.get? p = some { cls := .type "list", dict := e1, data := .seq xs m1, slots := f1 } ∧ s.heap.get? q = some { cls := .type "list", dict := e2, data := .seq ys m2, slots := f2 } ∧
        (∀ j (g1 : j < xs.size) (g2 : j < ys.size), EqP prog w A.in1 s xs[j] ys[j] true) ∧ R (.ok (.ret (.bool false))) s) := by
  induction k with
  | zero =>
    intro i hk A R s ⟨gp, gq, he, hR⟩
    obtain ⟨hp, g, d, tk, os⟩ := s
    wp_walk using wpAny_loadPart' gp, wpAny_loadPart' gq
    have n1 : xs[((i : Nat) : Int).toNat]? = none := by simp; omega
    have n2 : ys[((i : Nat) : Int).toNat]? = none := by simp; omega
    rw [n1, n2]
    wp_walk using wpAny_loadPart' gp, wpAny_loadPart' gq
    show R (.ok (.ret (.bool (xs.size != ys.size)))) _
    rw [ez]
    simpa using hR
  | succ k ih =>
    intro i hk A R s ⟨gp, gq, he, hR⟩
    obtain ⟨hp, g, d, tk, os⟩ := s
    wp_walk using wpAny_loadPart' gp, wpAny_loadPart' gq
    have g1 : i < xs.size := by omega
    have g2 : i < ys.size := by omega
    have n1 : xs[((i : Nat) : Int).toNat]? = some xs[i] := by simp [g1]
    have n2 : ys[((i : Nat) : Int).toNat]? = some ys[i] := by simp [g2]
    have up : ((i : Int) + 1) = ((i + 1 : Nat) : Int) := by push_cast; rfl
    rw [n1, n2]
    refine wpAny_bind (he i g1 g2 _ _ ?_)
    wp_walk
    rw [up]
    exact ⟨plainId_quiet plain_eq_loop _, codeAny_builtin entry_eq_loop (by
      rw [Around.under_plainId plain_eq_loop _]
      exact ih (i + 1) (by omega) A R _ ⟨gp, gq, he, hR⟩)⟩
theorem gNe (p q : Addr) (xs ys : Array Value) (m1 m2 : Nat) (e1 e2 : Option Addr) (f1 f2 : Array (Option Value)) (ez : xs.size = ys.size) :
    MeetsIn prog w (Builtin.«list.__ne__» ⟨[.ref p, .ref q], []⟩)
      (fun A R s => s.heap.get? p = some { cls := .type "list", dict := e1, data := .seq xs m1, slots := f1 } ∧ s.heap.get? q = some { cls := .type "list", dict := e2, data := .seq ys m2, slots := f2 } ∧
        (∀ j (g1 : j < xs.size) (g2 : j < ys.size), EqP prog w A.in1 s xs[j] ys[j] true) ∧ R (.ok (.ret (.bool false))) s) := by
  intro A R s ⟨gp, gq, he, hR⟩
  obtain ⟨hp, g, d, tk, os⟩ := s
  have sub := AutoSeq1.sub_list_list
  have same : ¬ (xs.size != ys.size) = true := by simp [ez]
  wp_walk using wpAny_loadPart' gp, wpAny_loadPart' gq
  exact ⟨plainId_quiet plain_eq_loop _, codeAny_builtin entry_eq_loop (by
    rw [Around.under_plainId plain_eq_loop _]
    exact gNeLoop p q xs ys m1 m2 e1 e2 f1 f2 ez _ 0 rfl A R _ ⟨gp, gq, he, hR⟩)⟩
theorem gNeLists {A : Around} {s : Shared} {p q : Addr} {xs ys : Array Value} (gp : s.heap.IsList p xs) (gq : s.heap.IsList q ys) (ez : xs.size = ys.size) (hu : A.units < cLine)
    (he : ∀ j (g1 : j < xs.size) (g2 : j < ys.size), EqP prog w A.in1 s xs[j] ys[j] true) (E Q : Value → Shared → Prop) (h : Q (.bool false) s) : wpAny (model prog w) A (richCompare .NotEq (.ref p) (.ref q)) Q E s := by
  obtain ⟨⟨c1, e1, b1, f1⟩, o1, k1, m1, t1⟩ := id gp
  obtain ⟨⟨c2, e2, b2, f2⟩, o2, k2, m2, t2⟩ := id gq
  simp only at k1 t1 k2 t2
  subst k1 t1 k2 t2
  have tp : s.TypeIs (.ref p) "list" := ⟨_, o1, rfl⟩
  have tq : s.TypeIs (.ref q) "list" := ⟨_, o2, rfl⟩
  exact wpAny_richCompare_same_room (op := .NotEq) tp tq F.slot_list_ne (call_meetsIn F.slot_list_ne tp F.entry_list_ne (F.args_list_ne_2 _ _) (gNe p q xs ys m1 m2 e1 e2 f1 f2 ez)
    ⟨o1, o2, he, show Value.bool false ≠ Value.notImplemented ∧ Q (.bool false) s from ⟨(fun x => nomatch x), h⟩⟩) hu
end
end PySem.SeqAt
namespace G
open PySem PySem.Spec PyProof.Rows L2
/-- two lists of equal items; two dicts of the same keys, their values equal -/
def EqSR (K : PySem.W.Frag) (H : Hp) (E : V → V → Prop) (x y : V) : Prop :=
  (∃ a b xs ys, x = .ref a ∧ y = .ref b ∧ SqL K H a xs ∧ SqL K H b ys ∧ Paired E xs ys) ∨
    ∃ a b ks ls, x = .ref a ∧ y = .ref b ∧ Rd H a (.dK ks) ∧ Rd H b (.dK ls) ∧ ks.length = ls.length ∧ ∀ p ∈ ks, ∃ u, valV ls p.1 = some u ∧ E p.2 u
def EqS (K : PySem.W.Frag) (H : Hp) : Nat → V → V → Prop
  | 0 => fun _ _ => False
  | n + 1 => fun x y => (∃ d, Dp K H x d ∧ Dp K H y d ∧ PyData.canLay0 d = true ∧ d.depth ≤ 12) ∨ EqSR K H (EqS K H n) x y
section
variable {X : Cx} {pins : List (Addr × Obj)} {σ : L2.St} {H : Hp} {s : Shared}
theorem eqSL_items (I : Inv X pins σ H s) {A : Around} {E : V → V → Prop} (ih : ∀ x y v u, E x y → RelV x v → RelV y u → SeqAt.EqP X.prog X.w A s v u true) {a b : Addr} {xs ys : List V} (ha : SqL X.K H a xs) (hb : SqL X.K H b ys) (hp : Paired E xs ys) :
    ∃ us ws : List Value, s.heap.IsList a us.toArray ∧ s.heap.IsList b ws.toArray ∧ us.toArray.size = ws.toArray.size ∧ ∀ j (g1 : j < us.toArray.size) (g2 : j < ws.toArray.size), SeqAt.EqP X.prog X.w A s us.toArray[j] ws.toArray[j] true := by
  obtain ⟨us, r1, p1, _⟩ := I.list ha
  obtain ⟨ws, r2, p2, _⟩ := I.list hb
  refine ⟨us, ws, p1.isList, p2.isList, ?_, fun j g1 g2 => ?_⟩
  · rw [List.size_toArray, List.size_toArray, ← r1.length, ← r2.length]
    exact Paired.length hp
  · have k := items_run ih hp r1 r2 j (by simpa using g1) (by simpa using g2)
    simpa using k
theorem eqSR_run (I : Inv X pins σ H s) {A : Around} {E : V → V → Prop} (hu : A.units < cLine) (ih : ∀ x y v u, E x y → RelV x v → RelV y u → SeqAt.EqP X.prog X.w A.in1 s v u true) {x y : V} {v u : Value} (h : EqSR X.K H E x y) (rx : RelV x v) (ry : RelV y u)
    (Er Q : Value → Shared → Prop) (q : Q (.bool true) s) : wpAny (model X.prog X.w) A (richCompare .Eq v u) Q Er s := by
  rcases h with ⟨a, b, xs, ys, rfl, rfl, ha, hb, hp⟩ | ⟨a, b, ks, ls, rfl, rfl, ha, hb, hl, hp⟩
  · cases (show v = Value.ref a from rx)
    cases (show u = Value.ref b from ry)
    obtain ⟨us, ws, p1, p2, ez, he⟩ := eqSL_items I ih ha hb hp
    refine SeqAt.rcP_lists (e := fun _ => true) p1 p2 ez hu he Er Q ?_
    rw [List.all_eq_true.mpr fun _ _ => rfl]
    exact q
  · cases (show v = Value.ref a from rx)
    cases (show u = Value.ref b from ry)
    obtain ⟨_, ya, va, ra, da⟩ := rd_dk I ha
    obtain ⟨_, yb, vb, rb, db⟩ := rd_dk I hb
    have e : va.length = vb.length := by rw [← ra.length, ← rb.length]; exact hl
    refine PySem.W.rcP_dicts (knd := mixKind X.prog X.w) (r := true) ya yb da db hu (fun _ => hits_run ih rb ra hp) Er Q ?_
    simpa [e] using q
theorem eqS_run (I : Inv X pins σ H s) : ∀ (n : Nat) (A : Around), A.units + n + 16 < cLine → ∀ (x y : V) (v u : Value), EqS X.K H n x y → RelV x v → RelV y u → SeqAt.EqP X.prog X.w A s v u true
  | 0, _, _, _, _, _, _, h, _, _ => (show False from h).elim
  | n + 1, A, hu, x, y, v, u, h, rx, ry => by
    rcases h with ⟨d, h1, h2, h3, h4⟩ | h
    · obtain ⟨as, r1⟩ := Dp.reads I d x v h1 rx
      obtain ⟨bs, r2⟩ := Dp.reads I d y u h2 ry
      have := SeqAt.eqAt_reads d d A s v u as bs r1 r2 h3 h3 (by rw [Nat.min_self]; omega)
      rw [SeqAt.eqv_refl d h3] at this
      exact this.eqP
    · have step := eqSR_run I (A := A) (by omega) (eqS_run I n A.in1 (by show A.units + 1 + n + 16 < cLine; omega)) h rx ry
      obtain ⟨a, b, rfl, rfl⟩ : ∃ a b, x = .ref a ∧ y = .ref b := by
        rcases h with ⟨a, b, _, _, e1, e2, _⟩ | ⟨a, b, _, _, e1, e2, _⟩
        · exact ⟨a, b, e1, e2⟩
        · exact ⟨a, b, e1, e2⟩
      cases (show v = Value.ref a from rx)
      cases (show u = Value.ref b from ry)
      by_cases e : a = b
      · subst e
        exact (SeqAt.EqAt.same _).eqP
      · exact SeqAt.eqP_refs e step
end
section
variable {X : Cx}
/-- two lists of equal things -/
def rEqSL (K : PySem.W.Frag) (c : Bool) : R2 := fun x y H Q => ∃ a b xs ys, x = .ref a ∧ y = .ref b ∧ SqL K H a xs ∧ SqL K H b ys ∧ Paired (EqS K H 6) xs ys ∧ Q (.bl c) H
theorem op_eqSL (hu : X.A.units + 64 < cLine) : OpR X (compareOp .Eq) (rEqSL X.K true) := by
  intro pins s σ H x y v u Q I rx ry ⟨a, b, xs, ys, e1, e2, ha, hb, hp, q⟩
  exact eqSR_run I (A := X.A) (by omega) (eqS_run I 6 X.A.in1 (by show X.A.units + 1 + 6 + 16 < cLine; omega)) (.inl ⟨a, b, xs, ys, e1, e2, ha, hb, hp⟩) rx ry _ _ ⟨.bl true, H, I, rfl, q⟩
theorem op_neSL (hu : X.A.units + 64 < cLine) : OpR X (compareOp .NotEq) (rEqSL X.K false) := by
  intro pins s σ H x y v u Q I rx ry ⟨a, b, xs, ys, e1, e2, ha, hb, hp, q⟩
  subst e1 e2
  cases (show v = Value.ref a from rx)
  cases (show u = Value.ref b from ry)
  obtain ⟨us, ws, p1, p2, ez, he⟩ := eqSL_items I (A := X.A.in1) (eqS_run I 6 X.A.in1 (by show X.A.units + 1 + 6 + 16 < cLine; omega)) ha hb hp
  exact SeqAt.gNeLists p1 p2 ez (by omega) he _ _ ⟨.bl false, H, I, rfl, q⟩
/-- the same, as values -/
def sameS (mh : List O) : Nat → D → D → Prop
  | 0, _, _ => False
  | n + 1, x, y => (∃ p, toP mh 12 x = some p ∧ toP mh 12 y = some p) ∨ (∃ ds es, lstOf mh x = some ds ∧ lstOf mh y = some es ∧ Paired (sameS mh n) ds es) ∨
      ∃ ks ds ls es, dicOf mh x = some (ks, ds) ∧ dicOf mh y = some (ls, es) ∧ ks.length = ls.length ∧ ∀ (i : Nat) (kk : Key) (d : D), ks[i]? = some kk → ds[i]? = some d → ∃ e, getK ls es kk = some e ∧ sameS mh n d e
variable {F : Addr → Prop} {ι : List Addr} {mh : List O} {H : Hp}
theorem paired_dvs {E : D → D → Prop} {E' : V → V → Prop} (h : ∀ d e v u, E d e → DV X.K X.mg F ι H d v → DV X.K X.mg F ι H e u → E' v u) : ∀ {ds es : List D} {vs us : List V}, Paired E ds es → DVs X.K X.mg F ι H ds vs → DVs X.K X.mg F ι H es us → Paired E' vs us
  | _, _, _, _, .nil, r1, r2 => by cases r1; cases r2; exact .nil
  | _, _, _, _, .cons a b, r1, r2 => by
    cases r1 with
    | cons a1 b1 =>
      cases r2 with
      | cons a2 b2 => exact .cons (h _ _ _ _ a a1 a2) (paired_dvs h b b1 b2)
theorem sameS_ok (sr : SR X.K X.mg F ι mh H) : ∀ (n : Nat) (x y : D) (v u : V), sameS mh n x y → DV X.K X.mg F ι H x v → DV X.K X.mg F ι H y u → EqS X.K H n v u
  | 0, _, _, _, _, h, _, _ => (show False from h).elim
  | n + 1, x, y, v, u, h, r1, r2 => by
    rcases h with ⟨p, h1, h2⟩ | ⟨ds, es, h1, h2, hp⟩ | ⟨ks, ds, ls, es, h1, h2, hl, hp⟩
    · obtain ⟨a1, a2, a3⟩ := toP_ok sr _ _ _ _ r1 h1
      obtain ⟨b1, _, _⟩ := toP_ok sr _ _ _ _ r2 h2
      exact .inl ⟨p, a1, b1, a2, a3⟩
    · obtain ⟨a, vs, e1, s1, q1⟩ := lstOf_ok sr r1 h1
      obtain ⟨b, us, e2, s2, q2⟩ := lstOf_ok sr r2 h2
      exact .inr (.inl ⟨a, b, vs, us, e1, e2, s1, s2, paired_dvs (sameS_ok sr n) hp q1 q2⟩)
    · obtain ⟨p, kvs, e1, g1, k1, q1⟩ := dicOf_ok sr r1 h1
      obtain ⟨q, lvs, e2, g2, k2, q2⟩ := dicOf_ok sr r2 h2
      subst k1 k2
      refine .inr (.inr ⟨p, q, kvs, lvs, e1, e2, g1, g2, by simpa using hl, fun z hz => ?_⟩)
      obtain ⟨i, hi⟩ := List.mem_iff_getElem?.mp hz
      obtain ⟨d, hd, rd⟩ := q1.getV (i := i) (v := z.2) (by rw [List.getElem?_map, hi]; rfl)
      obtain ⟨e, e3, e4⟩ := hp i z.1 d (by rw [List.getElem?_map, hi]; rfl) hd
      obtain ⟨w, e5, e6⟩ := (getK_ok (k := z.1) q2).1 e e3
      exact ⟨w, e5, sameS_ok sr n _ _ _ _ e4 rd e6⟩
open Classical in
noncomputable def oSame (c : Bool) (x y : D) (mh : List O) : Res D := match lstOf mh x, lstOf mh y with
  | some ds, some es => if Paired (sameS mh 6) ds es then .ok (.bl c) mh else .stuck
  | _, _ => .stuck
theorem vo_same (c : Bool) : VO2 X (rEqSL X.K c) (oSame c) := by
  intro W σ F ι mh H x y v u Q sr r1 r2 h
  unfold oSame at h
  split at h
  · rename_i ds es e1 e2
    split at h
    · rename_i hp
      obtain ⟨a, vs, z1, s1, q1⟩ := lstOf_ok sr r1 e1
      obtain ⟨b, us, z2, s2, q2⟩ := lstOf_ok sr r2 e2
      exact ⟨a, b, vs, us, z1, z2, s1, s2, paired_dvs (sameS_ok sr 6) hp q1 q2, h.ok sr (.bl c)⟩
    · exact h.elim
  · exact h.elim
theorem oSame_eq {c : Bool} {x y : D} {mh : List O} {ds es : List D} (e1 : lstOf mh x = some ds) (e2 : lstOf mh y = some es) (h : Paired (sameS mh 6) ds es) : oSame c x y mh = .ok (.bl c) mh := by
  unfold oSame
  rw [e1, e2]
  exact if_pos h
/-! ### dict(d) -/
def oDictOf (ds : List D) (mh : List O) : Res D := match ds with
  | [d] => match dicOf mh d with
    | some (ks, es) => .ok (.dic ks es) mh
    | none => .stuck
  | _ => .stuck
theorem vo_dictOf : VOL X (fun xs H Q => ∃ (a : Addr) (kvs : List (Key × V)), xs = [.ref a] ∧ Rd H a (.dK kvs) ∧ ∀ p, H p = none → Q (.ref p) (upd H p (.dK kvs))) oDictOf := by
  intro W σ F ι mh H ds vs Q sr r h
  unfold oDictOf at h
  split at h
  · split at h
    · rename_i ks es e1
      cases r with
      | cons r1 r2 =>
        cases r2
        obtain ⟨a, kvs, rfl, hH, rfl, q1⟩ := dicOf_ok sr r1 e1
        refine ⟨a, kvs, rfl, hH, fun p hp => ?_⟩
        have st : Step F ι H F ι (upd H p (.dK kvs)) := step_new hp
        exact h F ι _ _ st (sr.fresh hp) (.dic (.inl upd_same) (sr.notNew hp) rfl (DVs.to sr.sub st _ _ q1))
    · exact h.elim
  · exact h.elim
/-! ### sorted(xs), ints -/
def intsD : List D → Option (List Int)
  | [] => some []
  | .int i :: ds => (intsD ds).map (i :: ·)
  | _ :: _ => none
theorem intsD_map : ∀ ns : List Int, intsD (ns.map D.int) = some ns
  | [] => rfl
  | n :: ns => by
    show (intsD (ns.map D.int)).map (n :: ·) = _
    rw [intsD_map ns]; rfl
theorem intsD_some : ∀ {ds : List D} {ns : List Int}, intsD ds = some ns → ds = ns.map D.int := by
  intro ds
  induction ds with
  | nil => intro ns h; cases h; rfl
  | cons d ds ih =>
    intro ns h
    cases d <;> first | (cases h; done) | skip
    obtain ⟨ms, h1, rfl⟩ := Option.map_eq_some_iff.mp (show (intsD ds).map (_ :: ·) = some ns from h)
    rw [ih h1]; rfl
theorem dvs_ints_inv : ∀ {ns : List Int} {vs : List V}, DVs X.K X.mg F ι H (ns.map D.int) vs → vs = ns.map V.int
  | [], _, r => by cases r; rfl
  | n :: ns, _, r => by
    cases r with
    | cons a b =>
      cases a
      rw [dvs_ints_inv b]; rfl
def oSortI (ds : List D) (mh : List O) : Res D := match ds with
  | [d] => match (lstOf mh d).bind intsD with
    | some ns => .ok (.lst ((srt (fun i : Int => i) ns).map D.int)) mh
    | none => .stuck
  | _ => .stuck
theorem vo_sortI : VOL X (rSortedI X.K) oSortI := by
  intro W σ F ι mh H ds vs Q sr r h
  unfold oSortI at h
  split at h
  · rename_i d
    split at h
    · rename_i ns e1
      obtain ⟨es, e2, e3⟩ := Option.bind_eq_some_iff.mp e1
      cases r with
      | cons r1 r2 =>
        cases r2
        obtain ⟨a, us, rfl, s1, q1⟩ := lstOf_ok sr r1 e2
        rw [intsD_some e3] at q1
        rw [dvs_ints_inv q1] at s1
        refine ⟨a, ns, rfl, s1, fun ys p hp hw hn => ?_⟩
        have e : ys = srt (fun i : Int => i) ns := pw_uniq (fun i : Int => i) ys _ (hp.trans (srt_perm _ ns).symm) hw (srt_pw _ ns) fun a _ b _ z => z
        subst e
        exact h F ι _ (.ref p) (step_new hn) (sr.fresh hn) (.lst (.inl ⟨.inl upd_same, sr.notNew hn⟩) (dvs_ints _))
    · exact h.elim
  · exact h.elim
/-! ### a slice of a tuple -/
variable {W : WX} {pos : Pos}
def oSlT (d : D) (lo hi : Option Int) (mh : List O) : Res D := match d with
  | .tup xs => if HT.sIx xs.length 0 lo = 0 ∧ HT.sIx xs.length xs.length hi = xs.length then .stuck else oTup (cutD xs lo hi) mh
  | _ => .stuck
theorem j_slT {e : Expr} {lo hi : Option Expr} {p2 : Pos} {f : CE} {l u : CO} (he : JE X W e f) (hl : JO X W lo l) (hu : JO X W hi u) : JE X W (.Subscript e (.Slice lo hi none p2) pos) (cSl oSlT f l u) := by
  obtain ⟨te, pe, qe⟩ := he.ex
  obtain ⟨tl, pl, ql⟩ := hl.ex
  obtain ⟨tu, pu, qu⟩ := hu.ex
  refine ⟨_, pe_slice sl_tup pe pl pu, fun ρ mh F ι σ H Q sr er h => ?_⟩
  refine qe ρ mh F ι σ H _ sr er (h.bind.mono fun x H1 ⟨F1, ι1, d1, m1, st1, sr1, r1, h1⟩ => ?_)
  refine ql ρ m1 F1 ι1 σ H1 _ sr1 (er.to sr.sub st1) (h1.bind.mono fun lo' H2 ⟨F2, ι2, d2, m2, st2, sr2, r2, h2⟩ => ?_)
  refine qu ρ m2 F2 ι2 σ H2 _ sr2 (er.to sr.sub (st1.trans st2)) (h2.bind.mono fun hi' H3 ⟨F3, ι3, d3, m3, st3, sr3, r3, h3⟩ => ?_)
  have e2 : d2 = lo' := r2
  have e3 : d3 = hi' := r3
  subst e2 e3
  unfold oSlT at h3
  split at h3
  · rename_i xs
    split at h3
    · exact h3.elim
    · rename_i nw
      have r1' := DV.to sr1.sub (st2.trans st3) _ _ r1
      cases r1' with
      | tup hr rr =>
        refine ⟨_, _, rfl, .inl hr, by rw [← rr.length]; exact nw, (post_tup sr3 (vs := cutV _ d2 d3) ?_ h3).2⟩
        unfold cutD cutV
        rw [rr.length]
        exact (rr.drop _).take _
  · exact h3.elim
end
end G

/-! Part HL: for over zip of two lists; for over a dict's keys (locked); sum(d.values()). -/
namespace G
open PySem PySem.Spec PyProof.Rows L2
/-! ### zip -/
def zipD : List D → List D → List D
  | x :: xs, y :: ys => .tup [x, y] :: zipD xs ys
  | _, _ => []
theorem zipD_get : ∀ (xs ys : List D) (i : Nat) (d : D), (zipD xs ys)[i]? = some d → ∃ x y, xs[i]? = some x ∧ ys[i]? = some y ∧ d = .tup [x, y]
  | [], _, i, d, h => by simp [zipD] at h
  | _ :: _, [], i, d, h => by simp [zipD] at h
  | x :: xs, y :: ys, 0, d, h => by
    refine ⟨x, y, rfl, rfl, ?_⟩
    unfold zipD at h
    exact (Option.some.inj h).symm
  | x :: xs, y :: ys, i + 1, d, h => by
    obtain ⟨a, b, h1, h2, h3⟩ := zipD_get xs ys i d (by unfold zipD at h; simpa using h)
    exact ⟨a, b, by simpa using h1, by simpa using h2, h3⟩
theorem zipD_len : ∀ (xs ys : List D), (zipD xs ys).length = min xs.length ys.length
  | [], _ => by simp [zipD]
  | _ :: _, [] => by simp [zipD]
  | x :: xs, y :: ys => by
    unfold zipD
    rw [List.length_cons, zipD_len xs ys, List.length_cons, List.length_cons]
    omega
def oZip (ds : List D) (mh : List O) : Res Its := match ds with
  | [a, b] => match a, b with
    | .lst xs, .lst ys => .ok (zipD xs ys, none) mh
    | _, _ => .stuck
  | _ => .stuck
def iZip (f : CA) : CI := fun ρ mh => (f ρ mh).bind oZip
section
variable {X : Cx} {W : WX} {k : Nat} {pos : Pos}
theorem ri_zip {ds es : List D} {vs us : List V} {F' : Addr → Prop} {ι' : List Addr} {H' : Hp} {a b : Addr} {mh' : List O} (sr' : SR X.K X.mg F' ι' mh' H') (s1 : SqL X.K H' a vs) (s2 : SqL X.K H' b us) (r1 : DVs X.K X.mg F' ι' H' ds vs) (r2 : DVs X.K X.mg F' ι' H' es us) (i : Nat) :
    (∀ d, (zipD ds es)[i]? = some d → (Itz X.K a b).go i H' ∧ ∀ x H'', (Itz X.K a b).yld i H' x H'' → (∀ a o, H' a = some o → H'' a = some o) ∧ DV X.K X.mg F' ι' H'' d x) ∧ ((zipD ds es).length ≤ i → (Itz X.K a b).stop i H') := by
  refine ⟨fun d hd => ?_, fun hi => ⟨vs, us, s1, s2, by rw [zipD_len, r1.length, r2.length] at hi; omega⟩⟩
  obtain ⟨x, y, h1, h2, rfl⟩ := zipD_get ds es i d hd
  obtain ⟨v, hv, rv⟩ := r1.get h1
  obtain ⟨u, hu, ru⟩ := r2.get h2
  refine ⟨⟨vs, us, v, u, s1, s2, hv, hu⟩, fun z H'' q => ?_⟩
  obtain ⟨T, x', y', rfl, hT, rfl, q1, q2⟩ := q
  have e1 := q1 vs s1
  have e2 := q2 us s2
  rw [hv] at e1; cases e1
  rw [hu] at e2; cases e2
  have st : Step F' ι' H' F' ι' (upd H' T (.tup [v, u])) := step_new hT
  exact ⟨fun c o w => by rw [upd_ne (ne_of_none w hT)]; exact w, .tup (.inl upd_same) (.cons (DV.to sr'.sub st _ _ rv) (.cons (DV.to sr'.sub st _ _ ru) .nil))⟩
theorem i_zip {e e2 : Expr} {f : CA} {p tpos : Pos} {elts : List Expr} {kk : Nat} (hm : X.mg "zip" = none) (h : JA X W [e, e2] f) (hg : Gl X "zip" := by rfl)
    (hs : starEach [e, e2] X.env = (false, eval e X.env) :: starEach [e2] X.env := by rfl) (hpl : (backTo pos (starEach [e2] X.env)).any (·.1) = false := by rfl) :
    JI X W (.Tuple elts kk tpos) (.Call (.Name "zip" p) [e, e2] [] pos) (iZip f) := by
  obtain ⟨t, pa, q⟩ := h.ex
  refine ⟨_, RZ.pi_zipA hg hm pa hs hpl, fun ρ mh F ι σ H R sr er h => ?_⟩
  refine q ρ mh F ι σ H _ sr er (h.bind.mono fun vs H1 ⟨F1, ι1, ds, m1, st1, sr1, r1, h1⟩ => ?_)
  unfold oZip at h1
  split at h1
  · split at h1
    · cases r1 with
      | cons ra rr =>
        cases rr with
        | cons rb rr =>
          cases rr
          cases ra with
          | lst ha qa =>
            cases rb with
            | lst hb qb =>
              refine ⟨_, _, _, _, rfl, .inl ⟨SqL_of ha, SqL_of hb, h1 F1 ι1 H1 _ Step.refl sr1 fun F' ι' H' mh' s x gd i => ?_⟩⟩
              exact ri_zip x (SqL_of (ha.to sr1.sub s)) (SqL_of (hb.to sr1.sub s)) (DVs.to sr1.sub s _ _ qa) (DVs.to sr1.sub s _ _ qb) i
    · exact h1.elim
  · exact h1.elim
/-! ### for over the keys of a dict -/
theorem lock_back {F F1 : Addr → Prop} {ι ι1 : List Addr} {H H1 : Hp} {d : Addr} {od : Obj} {kvs : List (Key × V)} (hd : H d = some (.dK kvs)) (nF : ¬ F d) (sub : ∀ a, a ∈ ι → F a) (st1 : Step F ι (upd H d (.frz od (.dK kvs))) F1 ι1 H1) :
    H1 d = some (.frz od (.dK kvs)) ∧ ¬ F1 d ∧ Step F ι H F1 ι1 (upd H1 d (.dK kvs)) ∧ Lk d kvs H1 (upd H1 d (.dK kvs)) := by
  have nι : d ∉ ι := fun z => nF (sub d z)
  have L : Lk d kvs H (upd H d (.frz od (.dK kvs))) := ⟨fun a na => upd_ne na, .inl hd, .inr ⟨od, upd_same⟩⟩
  have hl : (upd H d (.frz od (.dK kvs))) d = some (.frz od (.dK kvs)) := upd_same
  have h1 : H1 d = some (.frz od (.dK kvs)) := st1.keep d _ hl nι fun _ z => nomatch z
  have L1 : Lk d kvs H1 (upd H1 d (.dK kvs)) := ⟨fun a na => upd_ne na, .inr ⟨od, h1⟩, .inl upd_same⟩
  have lv : ∀ a, upd H d (.frz od (.dK kvs)) a = none → H a = none := fun a z => by
    by_cases y : a = d
    · rw [y, hl] at z; cases z
    · rw [upd_ne y] at z; exact z
  refine ⟨h1, (fun z => (st1.new d z).elim nF fun y => by rw [hl] at y; cases y), ⟨st1.pre, st1.up, fun a z => (st1.new a z).imp_right (lv a), fun a z => (st1.inew a z).imp_right (lv a), fun a u e n nt => ?_, fun a vs r => ?_, fun a u e => ?_⟩, L1⟩
  · by_cases y : a = d
    · subst y
      rw [hd] at e
      cases e
      exact upd_same
    · rw [upd_ne y]
      exact st1.keep a u (by rw [upd_ne y]; exact e) n nt
  · exact L1.rd_to (st1.tups a vs (L.rd_to r (fun _ z => nomatch z) fun _ _ z => nomatch z)) (fun _ z => nomatch z) fun _ _ z => nomatch z
  · by_cases y : a = d
    · exact ⟨_, by rw [y]; exact upd_same⟩
    · obtain ⟨u', e'⟩ := st1.live a u (by rw [upd_ne y]; exact e)
      exact ⟨u', by rw [upd_ne y]; exact e'⟩
/-- a statement that runs while a dict is locked -/
def sLock (i : Nat) (f : CS) : CS := fun ρ mh => match ρ[i]? with
  | some (some (.dic _ _)) => (match f ρ mh with
    | .err _ _ _ _ => .stuck
    | o => o)
  | _ => .stuck
theorem lock_okS {i : Nat} {f : CS} {t : TS} (q : ∀ (ρ : En) (mh : List O) (F : Addr → Prop) (ι : List Addr) (σ : L2.St) (H : Hp) (T : Ends), SR X.K X.mg F ι mh H → ER X.K X.mg F ι H ρ σ → Locked i σ H → PostS X W F ι H (f ρ mh) T → t T σ H)
    {ρ : En} {mh : List O} {F : Addr → Prop} {ι : List Addr} {σ : L2.St} {H : Hp} {T : Ends} (sr : SR X.K X.mg F ι mh H) (er : ER X.K X.mg F ι H ρ σ) (hp : PostS X W F ι H (sLock i f ρ mh) T) : tLock t T σ H ∨ t T σ H := by
  unfold sLock at hp
  split at hp
  · rename_i ks ds ei
    obtain ⟨v, ev, rv⟩ := er.2 i _ ei
    cases rv with
    | @dic d _ _ kvs hd nF ek rr =>
      rcases hd with hd | ⟨o, hd⟩
      · refine .inl ⟨d, .dK kvs, hd, trivial, fun od => ?_⟩
        have L : Lk d kvs H (upd H d (.frz od (.dK kvs))) := ⟨fun a na => upd_ne na, .inl hd, .inr ⟨od, upd_same⟩⟩
        refine q ρ mh F ι σ _ _ (sr.lk L nF (tabs_upd sr.tabs hd fun _ _ => ⟨(fun z => nomatch z), fun z => nomatch z⟩)) (er.lk L) ⟨d, od, kvs, ev, upd_same⟩ ?_
        have tb : ∀ {F1 : Addr → Prop} {ι1 : List Addr} {mh1 : List O} {H1 : Hp}, SR X.K X.mg F1 ι1 mh1 H1 → H1 d = some (.frz od (.dK kvs)) → ¬ F1 d → Lk d kvs H1 (upd H1 d (.dK kvs)) → SR X.K X.mg F1 ι1 mh1 (upd H1 d (.dK kvs)) := fun s e n l => s.lk l n (tabs_upd s.tabs e fun _ _ => ⟨(fun z => nomatch z), fun z => nomatch z⟩)
        revert hp
        generalize f ρ mh = r
        intro hp
        cases r with
        | nx ρ' m =>
          intro F1 ι1 H1 σ1 st1 sr1 er1
          obtain ⟨h1, n1, st, l1⟩ := lock_back hd nF sr.sub st1
          exact ⟨h1, hp F1 ι1 _ σ1 st (tb sr1 h1 n1 l1) (er1.lk l1)⟩
        | bk ρ' m =>
          intro F1 ι1 H1 σ1 st1 sr1 er1
          obtain ⟨h1, n1, st, l1⟩ := lock_back hd nF sr.sub st1
          exact ⟨h1, hp F1 ι1 _ σ1 st (tb sr1 h1 n1 l1) (er1.lk l1)⟩
        | ct ρ' m =>
          intro F1 ι1 H1 σ1 st1 sr1 er1
          obtain ⟨h1, n1, st, l1⟩ := lock_back hd nF sr.sub st1
          exact ⟨h1, hp F1 ι1 _ σ1 st (tb sr1 h1 n1 l1) (er1.lk l1)⟩
        | rt z m =>
          intro F1 ι1 H1 v1 st1 sr1 r1
          obtain ⟨h1, n1, st, l1⟩ := lock_back hd nF sr.sub st1
          exact ⟨h1, hp F1 ι1 _ v1 st (tb sr1 h1 n1 l1) (DV.lk l1 _ _ r1)⟩
        | err x es ρ' m => exact hp.elim
        | stuck => exact hp.elim
      · refine .inr (q ρ mh F ι σ H T sr er ⟨d, o, kvs, ev, hd⟩ ?_)
        revert hp
        generalize f ρ mh = r
        intro hp
        cases r <;> first | exact hp | exact hp.elim
  · exact hp.elim
noncomputable def sForK (i : Nat) (tg : CG) (b : CS) : CS := sLock i fun ρ mh => (cKeys i ρ mh).toS ρ fun g m => forL g tg b g.1 ρ m
theorem s_forK (c : Cc k X W) {tg : Expr} {body : List Stmt} {fg : CG} {fb : CS} {ix : List Nat} {x : Str} {p1 : Pos} (i : Nat) (hg : JG X W tg ix fg) (hb : JSs X W body fb)
    (hN : X.N[i]? = some x := by rfl) (hv : Vis X.env.scope x := by first | exact Or.inl rfl | exact Or.inr (Or.inl rfl) | exact Or.inr (Or.inr rfl)) (hd : (x == ("__debug__" : Str)) = false := by decide)
    (hcd : (x == ("__classdict__" : Str)) = false := by decide)
    (hs : ∀ y, foldedSetIterable (.Name x p1) X.env y = pure y := by intro _; rfl) : JS X W (.For tg (.Name x p1) body [] pos) (sForK i fg fb) := by
  have pi : PI X tg (.Name x p1) (iKeys (tVar i)) := pi_keys (pe_var hN hv hd hcd)
  obtain ⟨tg', pg, qg⟩ := hg.ex
  obtain ⟨tb, pb, qb⟩ := hb.ex
  have ps := ps_for (pos := pos) c.po c.calm pi pg pb hs
  refine ⟨fun D σ H => tLock _ D σ H ∨ _, ⟨fun pins s σ H D I z => z.elim ((ps_lock ps).run pins s σ H D I) (ps.run pins s σ H D I)⟩, fun ρ mh F ι σ H T sr er h => ?_⟩
  refine lock_okS (fun ρ mh F ι σ H T sr er lk h => ?_) sr er h
  refine keys_ok sr er lk ((PostS.bindE (R := RI X) sr er h).mono fun J H1 ⟨F1, ι1, g, m1, st1, sr1, r1, er1, h1⟩ => ?_)
  have h1 : PostS X W F1 ι1 H1 (forL g fg fb (g.1.drop 0) ρ m1) T := h1
  let Go : Nat → L2.St → Hp → Prop := fun j σ' H' => ∃ F2 ι2 ρ2 mh2, Step F1 ι1 H1 F2 ι2 H' ∧ SR X.K X.mg F2 ι2 mh2 H' ∧ ER X.K X.mg F2 ι2 H' ρ2 σ' ∧ PostS X W F2 ι2 H' (forL g fg fb (g.1.drop j) ρ2 mh2) T
  refine ⟨fun j m σ2 H2 => m = g.1.length - j ∧ Go j σ2 H2, ⟨_, rfl, F1, ι1, ρ, m1, Step.refl, sr1, er1, h1⟩, ?_⟩
  rintro j m σ2 H2 ⟨rfl, F2, ι2, ρ2, mh2, st2, sr2, er2, h2⟩
  by_cases hl : j < g.1.length
  · have ed : g.1.drop j = g.1[j] :: g.1.drop (j + 1) := List.drop_eq_getElem_cons hl
    rw [ed] at h2
    unfold forL at h2
    split at h2
    · rename_i hgd
      obtain ⟨hgo, hy⟩ := (r1 F2 ι2 H2 mh2 st2 sr2 hgd j).1 _ (List.getElem?_eq_getElem hl)
      refine .inr ⟨hgo, Go (j + 1), fun σ' H' z => ⟨_, by omega, rfl, z⟩, fun x H3 y => ?_⟩
      obtain ⟨kp, dv⟩ := hy x H3 y
      obtain ⟨sr3, st3⟩ := sr2.same kp
      have only := hg.only g.1[j] ρ2 mh2
      have body : ∀ (ρ3 : En) (mh3 : List O) (F3 : Addr → Prop) (ι3 : List Addr) (σ3 : L2.St) (H4 : Hp), Step F1 ι1 H1 F3 ι3 H4 → SR X.K X.mg F3 ι3 mh3 H4 → ER X.K X.mg F3 ι3 H4 ρ3 σ3 →
          PostS X W F3 ι3 H4 (match fb ρ3 mh3 with
            | .nx ρ' m' => forL g fg fb (g.1.drop (j + 1)) ρ' m'
            | .ct ρ' m' => forL g fg fb (g.1.drop (j + 1)) ρ' m'
            | .bk ρ' m' => .nx ρ' m'
            | o => o) T → tb { nx := Go (j + 1), rt := T.rt, bk := T.nx, ct := Go (j + 1) } σ3 H4 := by
        intro ρ3 mh3 F3 ι3 σ3 H4 s x y z
        refine qb ρ3 mh3 F3 ι3 σ3 H4 _ x y ?_
        revert z
        generalize fb ρ3 mh3 = o
        intro z
        cases o with
        | nx ρ' m' => exact fun F' ι' H' σ' s' x' y' => ⟨F', ι', ρ', m', s.trans s', x', y', PostS.at (r := forL g fg fb (g.1.drop (j + 1)) ρ' m') z s'⟩
        | ct ρ' m' => exact fun F' ι' H' σ' s' x' y' => ⟨F', ι', ρ', m', s.trans s', x', y', PostS.at (r := forL g fg fb (g.1.drop (j + 1)) ρ' m') z s'⟩
        | bk ρ' m' => exact z
        | rt d mh => exact z
        | err x ds r mh => exact z
        | stuck => exact z
      rcases only with ⟨ρ', mh', e⟩ | e
      · rw [e] at h2
        refine qg g.1[j] x ρ2 mh2 F2 ι2 σ2 H3 (fun σ' H' => ∃ F' ι', Step F2 ι2 H3 F' ι' H' ∧ SR X.K X.mg F' ι' mh' H' ∧ ER X.K X.mg F' ι' H' ρ' σ') _ sr3 (er2.to sr2.sub st3) dv (by rw [e]; exact fun F' ι' H' σ' s x y => ⟨F', ι', s, x, y⟩) fun σ' H' _ ⟨F', ι', s, x, y⟩ => ?_
        exact body ρ' mh' F' ι' σ' H' ((st2.trans st3).trans s) x y (PostS.at h2 (st3.trans s))
      · rw [e] at h2
        exact h2.elim
    · exact h2.elim
  · have ed : g.1.drop j = [] := List.drop_eq_nil_of_le (by omega)
    rw [ed] at h2
    unfold forL at h2
    split at h2
    · rename_i hgd
      exact .inl ⟨(r1 F2 ι2 H2 mh2 st2 sr2 hgd j).2 (by omega), h2 F2 ι2 H2 σ2 Step.refl sr2 er2⟩
    · exact h2.elim
end
/-! ### sum(d.values()) -/
theorem preSum_take (l : List Int) : ∀ n, n ≤ l.length → preSum (fun i => l.getD i 0) n = (l.take n).sum
  | 0, _ => rfl
  | n + 1, h => by
    have ih := preSum_take l n (by omega)
    have hn : n < l.length := by omega
    show preSum (fun i => l.getD i 0) n + l.getD n 0 = _
    rw [ih, List.take_succ, List.sum_append, List.getD_eq_getElem?_getD, List.getElem?_eq_getElem hn]
    simp
theorem sum_small : ∀ l : List Int, (∀ i ∈ l, 0 ≤ i ∧ i ≤ 1000000) → 0 ≤ l.sum ∧ l.sum ≤ 1000000 * (l.length : Int)
  | [], _ => by simp
  | x :: l, h => by
    have ih := sum_small l fun i hi => h i (List.mem_cons_of_mem _ hi)
    have hx := h x List.mem_cons_self
    rw [List.sum_cons, List.length_cons]
    push_cast
    omega
def tSumV (td : TE) : TE := fun σ H Q => td σ H fun x J => ∃ (a : Addr) (kvs : List (Key × V)) (ns : List Int), x = V.ref a ∧ J a = some (.dK kvs) ∧ kvs.map (·.2) = ns.map V.int ∧ (∀ i ∈ ns, 0 ≤ i ∧ i ≤ 1000000) ∧ ns.length ≤ 1000 ∧ Q (.int ns.sum) J
section
variable {X : Cx} {W : WX} {k : Nat} {o : Expr} {p pos apos mpos : Pos} {td : TE}
theorem pe_sumV (hc : X.calm = true) (hg : Gl X "sum") (hm : X.mg "sum" = none) (hd : PE X o td) (hb : attributeBase o "values" X.env (eval o X.env) = eval o X.env) (hl : (apos.endLine == mpos.line) = true)
    (hse : starEach [Expr.Call (.Attribute o "values" apos) [] [] mpos] X.env = [(false, eval (Expr.Call (.Attribute o "values" apos) [] [] mpos) X.env)]) :
    PE X (.Call (.Name "sum" p) [.Call (.Attribute o "values" apos) [] [] mpos] [] pos) (tSumV td) := by
  refine ⟨fun pins s σ H Q I h => ?_⟩
  refine wpAny_Call_Name_kw (ld_blt I hg hm (u := .builtin "sum") bt_sum ?_ (by decide) (by decide))
  rw [hse]
  refine PySem.callWith_builtin1 (wpAny_Call_method0_late hb hl (thn (hd.run pins s σ H _ I h) fun v t ⟨x, J, IJ, rx, a, kvs, ns, ex, ha, hv, hr, hn, q⟩ => ?_))
  subst ex
  cases (show v = Value.ref a from rx)
  obtain ⟨_, nsys, ws, rel, dof⟩ := dk_of IJ.hok ha
  obtain ⟨ep, dat⟩ := dof.dictAt
  obtain ⟨ob, es, ho, hx, _, _, _, _⟩ := id dat
  have lt : a < t.heap.objs.size := Heap.lt_size ho
  refine ⟨"dict", "dict.values", F.plainAttrs_dict, F.slot_dict_values, F.type_dict_values, ⟨ob, ho, hx.1⟩, fun b e => ⟨ob, by cases e; exact ho, hx.2.1⟩, Calls.callWith_builtin rfl (PySem.evalArgs_none ?_)⟩
  refine call_meetsIn F.slot_dict_values ⟨ob, ho, hx.1⟩ F.entry_dict_values (F.args_dict_values_1 _) (meets_dict_values (mixKind X.prog X.w) a nsys) ⟨⟨ws, dof⟩, ?_⟩
  let hp1 := t.heap.push { cls := .type "dict_values", data := .fields #[.ref a] }
  have old : ∀ b u, t.heap.get? b = some u → hp1.get? b = some u := fun b u e => Heap.get?_push_of_some _ e
  have dat1 : hp1.DictAt (mixKind X.prog X.w) a ws ep := dat.keep old
  have sz : hp1.objs.size = t.heap.objs.size + 1 := Heap.size_push _ _
  have lw : ws.length = ns.length := by
    have e := congrArg List.length hv
    rw [List.length_map, List.length_map] at e
    rw [← e, KV.length rel]
  refine call_sum_walk (wpAny_pyIter_values (v := t.heap.objs.size) (d := a) ⟨_, Heap.get?_push_size _ rfl, rfl, rfl⟩ dat1 ?_)
  refine ⟨hp1.objs.size, _, _, ws.length, _, _, fun i => ns.getD i 0, rfl, Walks.dictValues (knd := mixKind X.prog X.w) (A := X.A.in1) (IJ.ok.hd hc) hp1.objs.size a (Nat.ne_of_lt (by rw [sz]; exact Nat.lt_succ_of_lt lt)) ws ep, ⟨⟨_, Heap.get?_push_size _ rfl, rfl, rfl⟩, dat1.keep fun b u e => Heap.get?_push_of_some _ e⟩, fun b hb => ?_, fun i v hi => ?_, fun j hj => ?_, fun h' tk u hk => ?_⟩
  · show b < (hp1.push _).objs.size
    rw [Heap.size_push]
    rcases List.mem_cons.mp hb with e | hb
    · rw [e]; exact Nat.lt_succ_self _
    · rw [List.mem_singleton.mp hb, sz]; exact Nat.lt_succ_of_lt (Nat.lt_succ_of_lt lt)
  · obtain ⟨kk, hi⟩ := hi
    obtain ⟨x, z1, z2⟩ := KV.at' rel hi
    have e1 : (kvs.map (·.2))[i]? = some x := by rw [List.getElem?_map, z1]; rfl
    rw [hv, List.getElem?_map] at e1
    obtain ⟨n, hn', rfl⟩ := Option.map_eq_some_iff.mp e1
    obtain ⟨tok, e3⟩ := z2
    refine ⟨tok, ?_⟩
    show v = Value.int (ns.getD i 0) tok
    rw [e3, List.getD_eq_getElem?_getD, hn']; rfl
  · have hj' : j < ns.length := by omega
    have m1 : ns.getD j 0 ∈ ns := by
      rw [List.getD_eq_getElem?_getD, List.getElem?_eq_getElem hj']
      exact List.getElem_mem hj'
    have b1 := hr _ m1
    have b2 := sum_small (ns.take (j + 1)) fun i hi => hr i (List.mem_of_mem_take hi)
    have b3 : (ns.take (j + 1)).length ≤ 1000 := by rw [List.length_take]; omega
    rw [preSum_take ns (j + 1) (by omega)]
    unfold InLong
    show (-(2 ^ 63) ≤ ns.getD j 0 ∧ ns.getD j 0 < 2 ^ 63) ∧ _
    generalize ns.getD j 0 = z at *
    generalize (ns.take (j + 1)).sum = y at *
    omega
  · rw [lw, preSum_take ns ns.length (Nat.le_refl _), List.take_length]
    refine ⟨.int ns.sum, J, IJ.kept (t' := tk) fun b w e => hk b w (fun hmem => ?_) (Heap.get?_push_of_some _ (old b w e)), ⟨u, rfl⟩, q⟩
    have e1 := List.mem_singleton.mp hmem
    have e2 : b < t.heap.objs.size := Heap.lt_size e
    rw [e1, sz] at e2
    exact Nat.lt_irrefl _ (Nat.lt_of_succ_lt e2)
def oSumV (d : D) (mh : List O) : Res D := match liveD mh d with
  | some (_, _, ds) => match intsD ds with
    | some ns => if ns.length ≤ 1000 ∧ ns.all (fun i => decide (0 ≤ i) && decide (i ≤ 1000000)) = true then .ok (.int ns.sum) mh else .stuck
    | none => .stuck
  | none => .stuck
theorem j_sumV {f : CE} (c : Cc k X W) (hm : X.mg "sum" = none) (ha : JE X W o f) (hg : Gl X "sum" := by rfl) (hb : attributeBase o "values" X.env (eval o X.env) = eval o X.env := by rfl) (hl : (apos.endLine == mpos.line) = true := by rfl)
    (hse : starEach [Expr.Call (.Attribute o "values" apos) [] [] mpos] X.env = [(false, eval (Expr.Call (.Attribute o "values" apos) [] [] mpos) X.env)] := by rfl) :
    JE X W (.Call (.Name "sum" p) [.Call (.Attribute o "values" apos) [] [] mpos] [] pos) (c1 oSumV f) := by
  obtain ⟨ta, pa, qa⟩ := ha.ex
  refine ⟨_, pe_sumV c.calm hg hm pa hb hl hse, fun ρ mh F ι σ H Q sr er h => ?_⟩
  refine qa ρ mh F ι σ H _ sr er (h.bind.mono fun x H1 ⟨F1, ι1, d1, m1, st1, sr1, r1, h1⟩ => ?_)
  unfold oSumV at h1
  split at h1
  · rename_i n ks ds el
    split at h1
    · rename_i ns en
      split at h1
      · rename_i hh
        obtain ⟨a, kvs, rfl, ea, hH, rfl, rx⟩ := liveD_ok sr1 r1 el
        rw [intsD_some en] at rx
        refine ⟨a, kvs, ns, rfl, hH, dvs_ints_inv rx, fun i hi => ?_, hh.1, h1.ok sr1 (.int _)⟩
        have := List.all_eq_true.mp hh.2 i hi
        simp only [Bool.and_eq_true, decide_eq_true_eq] at this
        exact this
      · exact h1.elim
    · exact h1.elim
  · exact h1.elim
end
end G

/-! Part HM: a def that hands back a lambda over its one parameter, called as an argument of a def that calls it. -/
namespace G
open PySem PySem.Spec PyProof.Rows L2
section
variable {X : Cx} {pins : List (Addr × Obj)} {σ : L2.St} {H H5 : Hp} {s : Shared} {cl : List (Str × Addr)} {fr : List Str} {ws : List V} {js : List Nat}
theorem un_trk (I : Inv X pins σ H s) (cp : NdefX.Caps X cl fr js) (hfn : ∀ y, X.fn y = true) (T : Trk cl fr ws H H5) : Un X.fs X.ex X.H_0 H5 X.s_0.heap s.heap := by
  have un := I.base
  have nc : ∀ {b o}, X.s_0.heap.get? b = some o → ¬ Cell cl b := fun {b o} g ⟨y, e⟩ => by
    have h2 := I.ok.cab y b (hfn y) (cp.sub y b e)
    exact absurd (Nat.lt_of_lt_of_le (Heap.lt_size g) h2) (Nat.lt_irrefl _)
  have nh : ∀ {b u}, H b = some u → ¬ Cell cl b := fun e c => by rw [T.free _ c] at e; cases e
  refine ⟨un.keep, un.slot, fun b o g n nx => ?_, un.there, fun b xs e => ?_, fun b o u e => ?_, fun b ps e => ?_⟩
  · rw [T.same b (nc g)]; exact un.free b o g n nx
  · have z := un.tups b xs e
    rw [T.same b (nh z)]; exact z
  · have z := un.frzs b o u e
    rw [T.same b (nh z)]; exact z
  · obtain ⟨more, z⟩ := un.tbls b ps e
    exact ⟨more, by rw [T.same b (nh z)]; exact z⟩
end
def spT (K : PySem.W.Frag) (mg : Str → Option Value) (y : Syn) : Sp := fun vs H Q _ => ∃ (v : V) (d : D), vs = [v] ∧ DV K mg (fun _ => False) [] H d v ∧ LamX.Tabs (lamTabs K) H ∧
  ∀ H' b, Step (fun _ => False) [] H (fun _ => False) [] H' → LamX.Tabs (lamTabs K) H' → DV K mg (fun _ => False) [] H' (.clo y [d]) b → Q b H'
section
variable {P : Program} {w : World} {K : PySem.W.Frag} {mg : Str → Option Value} {base : Heap}
theorem fn_tell {x a : Str} {st : Stmt} {f c tb : Addr} {fd : FuncData} {k : Nat} (Fu : Fun K x x st f fd) (a0 : PySem.W.nsIn K mainGlobals x = some (some (.ref f))) (ht : tabOf K x = some (c, tb)) (hx : x ∈ lamDefs) (TB : TabBs K base mg)
    (one : ∀ y c', y ∈ lamDefs → tabOf K y = some (c', tb) → y = x) {y : Syn} {params : Arguments} {body : Expr} {scope : Scope} {lpos rpos : Pos} (S : FnScope [a] [a] (defScope st)) (hbody : defBody st = [.Return (some (.Lambda params body scope lpos)) rpos])
    (hy : y = ⟨x ++ ".<locals>." ++ "<lambda>", params, body, scope, [a]⟩) (hfree : ∀ z ∈ scope.names, z.2 = .free → (defScope st).names.lookup z.1 = some .cell ∨ (defScope st).names.lookup z.1 = some .free) (hfr : (a, NameKind.free) ∈ scope.names)
    (hdef : ∀ env, defaultsOf params env = ([], [])) : FnOk P w K mg base (L2.CX P w) (k + 1) f fd [a] (spT K mg y) := by
  obtain ⟨f', oc, od, fd', sl, e, dd, vs, sl', h1, h2, h3, h4, h5⟩ := tabOf_some ht
  rw [a0] at h1
  cases h1
  have hcode : fd.code = .ref c := by
    obtain ⟨_, _, _, _, _, _, _, _, _, hfd, lk, _⟩ := Fu.ex
    rw [h2] at lk
    cases lk
    exact h3
  have Fu2 : ∃ oc od kV doc pm an ct osl, fd = PySem.W.fnOf x x (defArgs st) (defBody st) (defScope st) .none kV doc pm an (.ref c) ct ∧ K.lookup f = some ⟨oc, od, .func fd, osl⟩ ∧ PySem.W.codeIn K (.ref c) x = true := by
    obtain ⟨oc, od, kV, doc, pm, an, cdv, ct, osl, hfd, lk, hc⟩ := Fu.ex
    have hz : cdv = .ref c := by rw [hfd] at hcode; exact hcode
    subst hz
    exact ⟨oc, od, kV, doc, pm, an, ct, osl, hfd, lk, hc⟩
  obtain ⟨oc, od, kV, doc, pm, an, ct, osl, rfl, lk, hcd⟩ := Fu2
  refine ⟨fun vs H Q E h => ?_, fun A outer s H args us vs Q E hr e0 hb r h => ?_⟩
  · obtain ⟨v, d, e, _⟩ := h
    rw [e]; rfl
  obtain ⟨v, d, ev, rd, tabs, h⟩ := h
  subst ev
  have KX : K.In s.heap := e0.mod.kin.keeps fun b o e => (e0.bs b o e).1
  have lim : s.heap.NoLimit := e0.mod.nolimit.keeps fun b o e => (e0.bs b o e).1
  have hkind : ∀ y ∈ [a].zip us, (defScope st).names.lookup y.1 = some .local ∨ ((defScope st).names.lookup y.1 = some .cell ∧ ((cellsFrom (s.heap.objs.size + 1) (defScope st).names []).lookup y.1).isSome = true) := fun ⟨n, v⟩ hy => by
    rcases S.par n (List.of_mem_zip hy).1 with q | q
    · exact .inl q
    · exact .inr ⟨q, PySem.W.cellsFrom_some _ _ _ (.inl q)⟩
  refine codeAny_call_function hr.depth (KX _ _ lk) rfl S.co S.gen rfl (PySem.W.codeRec_of KX hcd) (hb _ _ _ _ ?_)
  refine wpAny_newFunctionEnv_cells S.kind hkind fun env he s1 xx => ?_
  subst he
  refine ⟨lim.keeps xx.toInCall.keep, codeAny_func ?_⟩
  have I : Inv (cxG P w K mg base [a] x st f (.ref c) A outer s H E) [] (L2.start [a] [v]) H s1 := inv_start S hr.hd e0 rfl r xx
  have LH : LamH (cxG P w K mg base [a] x st f (.ref c) A outer s H E) c tb := ⟨TB x c tb hx ht, rfl, List.mem_filterMap.mpr ⟨x, hx, by show Option.map _ (tabOf K x) = _; rw [ht]; rfl⟩, fun q' hq => by
    obtain ⟨y, hy, hz⟩ := List.mem_filterMap.mp hq
    obtain ⟨⟨cy, py⟩, hy2, hy3⟩ := Option.map_eq_some_iff.mp hz
    have e1 : py = tb := congrArg Prod.fst hy3
    have e2 : y ++ ".<locals>." ++ "<lambda>" = q' := congrArg Prod.snd hy3
    rw [e1] at hy2
    rw [← e2, one y cy hy hy2]
    rfl⟩
  have PL := pe_lam (X := cxG P w K mg base [a] x st f (.ref c) A outer s H E) (body := body) (pos := lpos) LH.tb LH.code (rfl : x ++ ".<locals>." ++ "<lambda>" = _) (hdef _) hfree
  have sr0 : SR K mg (fun _ => False) [] [] H := ⟨rfl, List.nodup_nil, fun n o a e => by simp at e, fun a z => by simp at z, fun a z => z.elim, tabs⟩
  have hp := PL.run [] s1 _ H (fun b H1 => ∃ fL c' pm ctv, b = .ref fL ∧ SR K mg (fun _ => False) [] [] H1 ∧ Step (fun _ => False) [] H (fun _ => False) [] H1 ∧
    H1 fL = some (LamO fL (lamObj (x ++ ".<locals>." ++ "<lambda>") params body scope (cloFrom (envOfC x (defScope st) s.heap.objs.size f (.ref c)).cells scope.names []) pm c' ctv)) ∧ H1 c' = some (LamX.CodeO c' (x ++ ".<locals>." ++ "<lambda>"))) I
    ⟨tabs _ LH.mem, fun fL c' pm ctv H1 kk tab f0 f1 c1 => let ⟨sr1, st1⟩ := lam_step sr0 (tabs _ LH.mem) kk tab LH.one; ⟨fL, c', pm, ctv, rfl, sr1, st1, f1, c1⟩⟩
  rw [hbody]
  have fin : ∀ (u : Value) (s2 : Shared), EP (cxG P w K mg base [a] x st f (.ref c) A outer s H E) [] (L2.start [a] [v]) (fun b H1 => ∃ fL c' pm ctv, b = .ref fL ∧ SR K mg (fun _ => False) [] [] H1 ∧ Step (fun _ => False) [] H (fun _ => False) [] H1 ∧
    H1 fL = some (LamO fL (lamObj (x ++ ".<locals>." ++ "<lambda>") params body scope (cloFrom (envOfC x (defScope st) s.heap.objs.size f (.ref c)).cells scope.names []) pm c' ctv)) ∧ H1 c' = some (LamX.CodeO c' (x ++ ".<locals>." ++ "<lambda>"))) u s2 → L2.CE outer P w H s Q u s2 := by
    rintro u s2 ⟨b, H1, J, rv, fL, c', pm, ctv, eb, sr1, st1, f1, c1⟩
    have cp : NdefX.Caps (cxG P w K mg base [a] x st f (.ref c) A outer s H E) (cloFrom (envOfC x (defScope st) s.heap.objs.size f (.ref c)).cells scope.names []) [a] [0] :=
      NdefX.Caps.made J.ok hfree (fun y hy => by rw [List.mem_singleton.mp hy]; exact hfr) rfl
    have hσ : [0].map (NdefX.slotAt (L2.start [a] [v])) = [v].map some := rfl
    obtain ⟨H5, T, hc⟩ := trk_of J cp hσ
    have k5 : ∀ a o, H1 a = some o → H5 a = some o := fun a o e => by
      rw [T.same a (fun c => by rw [T.free a c] at e; cases e)]; exact e
    obtain ⟨sr5, st5⟩ := sr1.same k5
    have r5 : DVs K mg (fun _ => False) [] H5 [d] [v] := .cons (DV.to (fun _ z => by simp at z) (st1.trans st5) _ _ rd) .nil
    refine ⟨b, H5, J.os, J.bare, un_trk J cp (fun _ => rfl) T, (env0_trk J cp (fun _ => rfl) T hc).hok, rv, h H5 b (st1.trans st5) sr5.tabs ?_⟩
    subst eb hy
    exact .clo (c' := c') (pm := pm) (ctv := ctv) ⟨fun z => z, fun z => z, k5 _ _ f1, k5 _ _ c1, T.caps⟩ r5
  refine wpAny_mono (wpAny_execs_cons (Q := fun fl s' => ∃ u, fl = Flow.ret u ∧ L2.CE outer P w H s Q u s') (wpAny_Return_some (thn hp fun u s2 z => ⟨u, rfl, fin u s2 z⟩))) (fun fl s' z => ?_) fun e s' hs => hs
  obtain ⟨u, e, ce⟩ := z
  subst e
  exact ce
structure DefT (P : Program) (w : World) (K : PySem.W.Frag) (mg : Str → Option Value) (base : Heap) (k : Nat) (x : Str) (y : Syn) : Prop where
  ex : ∃ (a : Addr) (fd : FuncData) (ps : List Str), mg x = some (.ref a) ∧ PySem.W.keepIn K (.ref a) = true ∧ Binds K fd ps [] ∧ FnOk P w K mg base (L2.CX P w) k a fd ps (spT K mg y)
end
/-- f(.., t(e)), t a def that hands back a lambda -/
def cloT (f : Fn) (y : Syn) (ds : List D) (m : List O) : Res D := match fzl (fz m 12) ds with
  | some [e1, e2, e3, e4] => if noRefs [e1, e2, e3, e4] = true then (match f [e1, e2, e3, .clo y [e4]] [] with
    | .ok d m' => (match fzN m' 12 d with
      | some d' => .ok d' m
      | none => .stuck)
    | _ => .stuck) else .stuck
  | _ => .stuck
def cCallT (f : Fn) (y : Syn) (fa fb fc fe : CE) : CE := fun ρ mh => (fa ρ mh).bind fun d1 m1 => (fb ρ m1).bind fun d2 m2 => (fc ρ m2).bind fun d3 m3 => (fe ρ m3).bind fun d4 m4 => cloT f y [d1, d2, d3, d4] m4
section
variable {X : Cx} {W : WX} {k j i : Nat} {pos p pos' p' : Pos} {x tx : Str} {f : Fn} {a b d e : Expr} {fa fb fc fe : CE}
theorem j_callT {y : Syn} (D0 : Def X.prog X.w X.K X.mg X.base j x 4 f) (DT : DefT X.prog X.w X.K X.mg X.base i tx y) (c : Cc k X W) (ha : JE X W a fa) (hb : JE X W b fb) (hd : JE X W d fc) (he : JE X W e fe) (hk : j ≤ k := by omega) (hi : i ≤ k := by omega) (hg : Gl X x := by rfl) (hgt : Gl X tx := by rfl)
    (hdb : (x == ("__debug__" : Str)) = false := by decide) (hdt : (tx == ("__debug__" : Str)) = false := by decide)
    (he0 : starEach [a, b, d, .Call (.Name tx p') [e] [] pos'] X.env = (false, eval a X.env) :: starEach [b, d, .Call (.Name tx p') [e] [] pos'] X.env := by rfl)
    (he1 : starEach [b, d, .Call (.Name tx p') [e] [] pos'] X.env = (false, eval b X.env) :: starEach [d, .Call (.Name tx p') [e] [] pos'] X.env := by rfl)
    (he2 : starEach [d, .Call (.Name tx p') [e] [] pos'] X.env = (false, eval d X.env) :: starEach [.Call (.Name tx p') [e] [] pos'] X.env := by rfl)
    (he3 : starEach [.Call (.Name tx p') [e] [] pos'] X.env = (false, eval (.Call (.Name tx p') [e] [] pos') X.env) :: starEach [] X.env := by rfl)
    (he4 : starEach [e] X.env = (false, eval e X.env) :: starEach [] X.env := by rfl)
    (hpl : (backTo pos (starEach [b, d, .Call (.Name tx p') [e] [] pos'] X.env)).any (·.1) = false := by rfl) (hpl4 : (backTo pos' (starEach [] X.env)).any (·.1) = false := by rfl) :
    JE X W (.Call (.Name x p) [a, b, d, .Call (.Name tx p') [e] [] pos'] [] pos) (cCallT f y fa fb fc fe) := by
  obtain ⟨fA, fd, ps, m, kp, bi, hl, F⟩ := D0.ex
  obtain ⟨fT, fdT, psT, mT, kpT, biT, FT⟩ := DT.ex
  obtain ⟨t1, p1, q1⟩ := ha.ex
  obtain ⟨t2, p2, q2⟩ := hb.ex
  obtain ⟨t3, p3, q3⟩ := hd.ex
  obtain ⟨t4, p4, q4⟩ := he.ex
  have PT := pe_callS (p := p') (pos := pos') FT (c.hr.mono hi) hgt mT kpT biT (fun σ => passAt c.tk σ) (pa_cons p4 pa_nil he4) hdt he4 hpl4
  refine ⟨_, pe_callS F (c.hr.mono hk) hg m kp bi (fun σ => passAt c.tk σ) (pa_cons p1 (pa_cons p2 (pa_cons p3 (pa_cons PT pa_nil he3) he2) he1) he0) hdb he0 hpl, fun ρ mh F0 ι σ H Q sr er h => ?_⟩
  unfold cCallT at h
  refine q1 ρ mh F0 ι σ H _ sr er (h.bind.mono fun x1 H1 ⟨F1, ι1, d1, m1, st1, sr1, r1, h1⟩ => ?_)
  have er1 := er.to sr.sub st1
  refine q2 ρ m1 F1 ι1 σ H1 _ sr1 er1 (h1.bind.mono fun x2 H2 ⟨F2, ι2, d2, m2, st2, sr2, r2, h2⟩ => ?_)
  have er2 := er1.to sr1.sub st2
  refine q3 ρ m2 F2 ι2 σ H2 _ sr2 er2 (h2.bind.mono fun x3 H3 ⟨F3, ι3, d3, m3, st3, sr3, r3, h3⟩ => ?_)
  have er3 := er2.to sr2.sub st3
  refine q4 ρ m3 F3 ι3 σ H3 _ sr3 er3 (h3.bind.mono fun x4 H4 ⟨F4, ι4, d4, m4, st4, sr4, r4, h4⟩ => ?_)
  have ra : DVs X.K X.mg F4 ι4 H4 [d1, d2, d3, d4] [x1, x2, x3, x4] := .cons (DV.to sr1.sub ((st2.trans st3).trans st4) _ _ r1) (.cons (DV.to sr2.sub (st3.trans st4) _ _ r2) (.cons (DV.to sr3.sub st4 _ _ r3) (.cons r4 .nil)))
  unfold cloT at h4
  split at h4
  · rename_i e1 e2 e3 e4 ef
    split at h4
    · rename_i hr
      have r0 : DVs X.K X.mg (fun _ => False) ι4 H4 [e1, e2, e3, e4] [x1, x2, x3, x4] := fzls_all sr4 (fun _ _ z => z) (fun _ z => z.elim) _ _ _ ra ef
      have r00 := DVs.own _ _ hr r0
      cases r00 with
      | cons a1 r00 =>
      cases r00 with
      | cons a2 r00 =>
      cases r00 with
      | cons a3 r00 =>
      cases r00 with
      | cons a4 r00 =>
      refine ⟨x4, e4, rfl, a4, sr4.tabs, fun H5 b st5 tb5 dv5 => ?_⟩
      have no : ∀ a, a ∈ ([] : List Addr) → (fun _ : Addr => False) a := fun a z => by simp at z
      have sr5 : SR X.K X.mg (fun _ => False) [] [] H5 := ⟨rfl, List.nodup_nil, fun n o a e => by simp at e, fun a z => by simp at z, fun a z => z.elim, tb5⟩
      refine ⟨rfl, [e1, e2, e3, .clo y [e4]], (fun _ => False), [], [], sr5, .cons (DV.to no st5 _ _ a1) (.cons (DV.to no st5 _ _ a2) (.cons (DV.to no st5 _ _ a3) (.cons dv5 .nil))), ?_⟩
      revert h4
      generalize f [e1, e2, e3, .clo y [e4]] [] = o
      intro h4
      cases o with
      | ok d m =>
        intro F' ι' H' v st sr' rb
        have st0 := st5.trans st
        have stA : Step F4 [] H4 (fun a => F4 a ∨ F' a) ι' H' := ⟨st0.pre, fun a z => .inl z, fun a z => z.elim .inl fun y => (st0.new a y).elim (fun w => w.elim) .inr, st0.inew, st0.keep, st0.tups, st0.live⟩
        obtain ⟨sr6, st6⟩ := sr4.own stA sr'.tabs
        have nf : ∀ a, a ∈ ι' → ¬ F4 a := fun a ha z => by
          rcases st0.inew a ha with q | q
          · simp at q
          · exact sr4.old a z q
        dsimp only at h4
        split at h4
        · rename_i d' ed
          exact h4 F4 ι4 H' v st6 sr6 (fzN_ok sr' nf 12 _ _ _ rb ed)
        · exact h4.elim
      | err c es m => exact h4.elim
      | stuck => exact h4.elim
    · exact h4.elim
  · exact h4.elim
end
end G

/-! Part IA: own classes: fields read and stored, methods by the object's class, new instances. -/
namespace G
open PySem PySem.Spec PyProof.Rows L2
def look : List Str → List D → Str → Option D
  | g :: ns, d :: ds, f => if g = f then some d else look ns ds f
  | _, _, _ => none
def putNs (f : Str) : List Str → List Str
  | [] => [f]
  | g :: r => if g = f then g :: r else g :: putNs f r
def putVs (f : Str) (d : D) : List Str → List D → List D
  | g :: ns, x :: ds => if g = f then d :: ds else x :: putVs f d ns ds
  | _, _ => [d]
/-- an instance: its class, fields, values -/
def objOf (mh : List O) : D → Option (Str × List Str × List D)
  | .obj x ns ds => some (x, ns, ds)
  | .ref n => match mh[n]? with
    | some (.ins x ns ds) => some (x, ns, ds)
    | _ => none
  | _ => none
section
variable {K : PySem.W.Frag} {mg : Str → Option Value} {F : Addr → Prop} {ι : List Addr} {H : Hp} {mh : List O}
theorem look_ok {f : Str} : ∀ {ns : List Str} {ds : List D} {fs : List (Str × V)} {d : D}, fs.map (·.1) = ns → DVs K mg F ι H ds (fs.map (·.2)) → look ns ds f = some d → ∃ v, fs.lookup f = some v ∧ DV K mg F ι H d v
  | [], _, _, _, _, _, h => by unfold look at h; cases h
  | g :: ns, [], _, _, _, _, h => by unfold look at h; cases h
  | g :: ns, x :: ds, [], _, e, _, _ => by cases e
  | g :: ns, x :: ds, (g', v) :: fs, d, e, r, h => by
    rw [List.map_cons] at e r
    injection e with e1 e2
    have e1 : g' = g := e1
    subst e1
    cases r with
    | cons r1 r2 =>
      unfold look at h
      by_cases z : g' = f
      · rw [if_pos z] at h
        cases h
        refine ⟨v, ?_, r1⟩
        rw [z]
        show (match f == f with | true => some v | false => List.lookup f fs) = some v
        rw [beq_self_eq_true]
      · rw [if_neg z] at h
        obtain ⟨w, h1, h2⟩ := look_ok e2 r2 h
        refine ⟨w, ?_, h2⟩
        show (match f == g' with | true => some v | false => List.lookup f fs) = some w
        rw [show (f == g') = false from beq_eq_false_iff_ne.mpr fun y => z y.symm]
        exact h1
theorem putF_ok {f : Str} {d : D} {v : V} (rd : DV K mg F ι H d v) : ∀ {ns : List Str} {ds : List D} {fs : List (Str × V)}, fs.map (·.1) = ns → DVs K mg F ι H ds (fs.map (·.2)) → (putF f v fs).map (·.1) = putNs f ns ∧ DVs K mg F ι H (putVs f d ns ds) ((putF f v fs).map (·.2))
  | _, _, [], e, r => by
    cases e
    cases r
    exact ⟨rfl, .cons rd .nil⟩
  | _, _, (g, x) :: fs, e, r => by
    cases e
    rw [List.map_cons] at r
    cases r with
    | @cons d0 ds _ _ r1 r2 =>
      obtain ⟨i1, i2⟩ := putF_ok rd (rfl : fs.map (·.1) = fs.map (·.1)) r2
      unfold putF
      show _ = putNs f (g :: fs.map (·.1)) ∧ DVs K mg F ι H (putVs f d (g :: fs.map (·.1)) (d0 :: ds)) _
      unfold putNs putVs
      by_cases z : g = f
      · rw [if_pos z, if_pos z, if_pos z]
        exact ⟨rfl, .cons rd r2⟩
      · rw [if_neg z, if_neg z, if_neg z, List.map_cons, List.map_cons, i1]
        exact ⟨rfl, .cons r1 i2⟩
theorem objOf_ok {d : D} {v : V} {x : Str} {ns : List Str} {ds : List D} (sr : SR K mg F ι mh H) (r : DV K mg F ι H d v) (h : objOf mh d = some (x, ns, ds)) (hx : isExc x = false) :
    ∃ (a C dx : Addr) (fs : List (Str × V)), v = .ref a ∧ H a = some (.ins C dx fs) ∧ mg x = some (.ref C) ∧ fs.map (·.1) = ns ∧ DVs K mg F ι H ds (fs.map (·.2)) := by
  unfold objOf at h
  split at h
  · cases h
    cases r with
    | @obj a C _ _ _ fs ho m e rr =>
      obtain ⟨_, ⟨dx, z⟩ | ⟨d, z, _⟩⟩ := ho
      · exact ⟨a, C, dx, fs, rfl, z, m, e, rr⟩
      · rw [hx] at z; cases z
  · split at h
    · rename_i hn
      cases h
      cases r with
      | ref e =>
        cases sr.ob _ _ _ hn e with
        | ins z m e rr => exact ⟨_, _, _, _, rfl, z, m, e, rr⟩
    · cases h
  · cases h
end
/-! ### fields -/
/-- the field f of instances of the classes cs -/
structure FldI (K : PySem.W.Frag) (mg : Str → Option Value) (f : Str) (cs : List Str) : Prop where
  all : ∀ c ∈ cs, isExc c = false ∧ ∃ C, mg c = some (.ref C) ∧ Cls K C ∧ NoAttr K C f
theorem fldI_nil {K : PySem.W.Frag} {mg : Str → Option Value} {f : Str} : FldI K mg f [] := ⟨fun _ h => by simp at h⟩
theorem fldI_cons {K : PySem.W.Frag} {mg : Str → Option Value} {f c : Str} {C : Addr} {cs : List Str} (m : mg c = some (.ref C)) (T : Cls K C) (h : PySem.W.findIn K (.ref C) f = some none) (t : FldI K mg f cs) (hx : isExc c = false := by decide) : FldI K mg f (c :: cs) := ⟨fun q hq => by
  rcases List.mem_cons.mp hq with e | e
  · rw [e]; exact ⟨hx, C, m, T, h⟩
  · exact t.all q e⟩
def oFldI (cs : List Str) (f : Str) (d : D) (mh : List O) : Res D := match objOf mh d with
  | some (x, ns, ds) => if x ∈ cs then (match look ns ds f with
    | some y => .ok y mh
    | none => .stuck) else .stuck
  | none => .stuck
/-- o.f = value -/
def sSetF (cs : List Str) (f : Str) (fo fe : CE) : CS := fun ρ mh => (fe ρ mh).toS ρ fun y m => (fo ρ m).toS ρ fun o m1 => match o with
  | .ref n => (match m1[n]? with
    | some (.ins x ns ds) => if x ∈ cs ∧ ns.length < 1000 then .nx ρ (m1.set n (.ins x (putNs f ns) (putVs f y ns ds))) else .stuck
    | _ => .stuck)
  | _ => .stuck
/-- o.f += value, whole numbers -/
def sAugF (cs : List Str) (f : Str) (fo fe : CE) : CS := fun ρ mh => (fo ρ mh).toS ρ fun o m => match o with
  | .ref n => (match m[n]? with
    | some (.ins x ns ds) => (match look ns ds f with
      | some (.int i) => (fe ρ m).toS ρ fun y m1 => (match y, m1[n]? with
        | .int j, some (.ins x' ns' ds') => if x ∈ cs ∧ x' = x ∧ ns'.length < 1000 then .nx ρ (m1.set n (.ins x' (putNs f ns') (putVs f (.int (i + j)) ns' ds'))) else .stuck
        | _, _ => .stuck)
      | _ => .stuck)
    | _ => .stuck)
  | _ => .stuck
section
variable {X : Cx} {W : WX} {k : Nat} {pos pos' : Pos} {e o : Expr} {fo fe : CE} {f : Str} {cs : List Str}
theorem j_fldI (T : FldI X.K X.mg f cs) (he : JE X W e fe) (hb : attributeBase e f X.env (eval e X.env) = eval e X.env := by rfl) : JE X W (.Attribute e f pos) (c1 (oFldI cs f) fe) := by
  obtain ⟨t, p, q⟩ := he.ex
  refine ⟨_, pe_fld p hb, fun ρ mh F ι σ H Q sr er h => ?_⟩
  refine q ρ mh F ι σ H _ sr er (h.bind.mono fun x H1 ⟨F1, ι1, d1, m1, st1, sr1, r1, h1⟩ => ?_)
  unfold oFldI at h1
  split at h1
  · rename_i xn ns ds ho
    split at h1
    · rename_i hc
      obtain ⟨hx, C, m, cl, na⟩ := T.all _ hc
      obtain ⟨a, C', dx, fs, rfl, ha, m', en, rr⟩ := objOf_ok sr1 r1 ho hx
      rw [m] at m'
      cases m'
      split at h1
      · rename_i y hy
        obtain ⟨v, hv, rv⟩ := look_ok en rr hy
        exact ⟨a, C, dx, fs, v, rfl, ha, cl, na, hv, h1.ok sr1 rv⟩
      · exact h1.elim
    · exact h1.elim
  · exact h1.elim
theorem fs_len {fs : List (Str × V)} {ns : List Str} (e : fs.map (·.1) = ns) : fs.length = ns.length := by rw [← e, List.length_map]
/-- an instance's fields are written -/
theorem ins_write {K : PySem.W.Frag} {mg : Str → Option Value} {F : Addr → Prop} {ι : List Addr} {mh : List O} {H : Hp} {n : Nat} {a C dx : Addr} {x : Str} {ns : List Str} {ds : List D} {fs : List (Str × V)} {y : D} {v : V} (sr : SR K mg F ι mh H) (hn : mh[n]? = some (.ins x ns ds)) (hi : ι[n]? = some a) (ha : H a = some (.ins C dx fs)) (m : mg x = some (.ref C)) (en : fs.map (·.1) = ns) (rr : DVs K mg F ι H ds (fs.map (·.2))) (ry : DV K mg F ι H y v) (f : Str) :
    Step F ι H F ι (upd H a (.ins C dx (putF f v fs))) ∧ SR K mg F ι (mh.set n (.ins x (putNs f ns) (putVs f y ns ds))) (upd H a (.ins C dx (putF f v fs))) :=
  sr.write hi ha (fun vs => ⟨(fun z => nomatch z), fun _ z => nomatch z⟩) fun st => by
    obtain ⟨e1, e2⟩ := putF_ok (f := f) (DV.to sr.sub st _ _ ry) en (DVs.to sr.sub st _ _ rr)
    exact .ins upd_same m e1 e2
theorem s_setF (T : FldI X.K X.mg f cs) (ho : JE X W o fo) (he : JE X W e fe) (hs : swapsWith e (some (.Attribute o f pos')) pos.line X.env = pure false := by rfl) : JS X W (.Assign [.Attribute o f pos'] e pos) (sSetF cs f fo fe) := by
  obtain ⟨to, po, qo⟩ := ho.ex
  obtain ⟨te, pe, qe⟩ := he.ex
  refine ⟨_, ps_fld po pe hs, fun ρ mh F ι σ H T' sr er h => ?_⟩
  refine qe ρ mh F ι σ H _ sr er ((PostS.bindE (R := DR X) sr er h).mono fun v H1 ⟨F1, ι1, y, m1, st1, sr1, r1, er1, h1⟩ => ?_)
  refine qo ρ m1 F1 ι1 σ H1 _ sr1 er1 ((PostS.bindE (R := DR X) sr1 er1 h1).mono fun u H2 ⟨F2, ι2, d2, m2, st2, sr2, r2, er2, h2⟩ => ?_)
  split at h2
  · rename_i n
    split at h2
    · rename_i xn ns ds hn
      split at h2
      · rename_i hc
        obtain ⟨hx, C, m, cl, na⟩ := T.all _ hc.1
        cases r2 with
        | ref ei =>
          cases sr2.ob _ _ _ hn ei with
          | ins ha m' en rr =>
            rw [m] at m'
            cases m'
            obtain ⟨st3, sr3⟩ := ins_write sr2 hn ei ha m en rr (DV.to sr1.sub st2 _ _ r1) f
            exact ⟨_, C, _, _, rfl, ha, cl, na, by rw [fs_len en]; exact hc.2, h2 F2 ι2 _ σ st3 sr3 (er2.to sr2.sub st3)⟩
      · exact h2.elim
    · exact h2.elim
  · exact h2.elim
end
/-! ### methods -/
/-- the method m of the class x, called with n things -/
structure MDef (P : Program) (w : World) (K : PySem.W.Frag) (mg : Str → Option Value) (base : Heap) (k : Nat) (x m : Str) (n : Nat) (f : Fn) : Prop where
  exc : isExc x = false
  ex : ∃ (C a : Addr) (fd : FuncData) (ps : List Str) (dvs : List V) (ds : List Value) (sp : Sp), mg x = some (.ref C) ∧ Cls K C ∧ Meth K C m a ∧ Vals dvs ds ∧ Binds K fd ps ds ∧ FnOk P w K mg base (L2.CX P w) k a fd ps sp ∧
    ∀ (W : WX) (σ : L2.St) (F : Addr → Prop) (ι : List Addr) (mh : List O) (H : Hp) (xs : List D) (vs : List V) (Q : VK), vs.length = n + 1 → SR K mg F ι mh H → DVs K mg F ι H xs vs → Post K mg (fun F ι H d v => DV K mg F ι H d v) W σ F ι H (f xs mh) Q → sp (vs ++ dvs) H Q (WE W σ)
section
variable {P : Program} {w : World} {K : PySem.W.Frag} {mg : Str → Option Value} {base : Heap} {j k n : Nat} {x m : Str} {f : Fn}
theorem MDef.mono (d : MDef P w K mg base j x m n f) (h : j ≤ k) : MDef P w K mg base k x m n f := by
  obtain ⟨e, C, a, fd, ps, dvs, ds, sp, h1, h2, h3, h4, h5, h6, h7⟩ := d
  exact ⟨e, C, a, fd, ps, dvs, ds, sp, h1, h2, h3, h4, h5, h6.mono h, h7⟩
theorem mdef_mk {C a : Addr} {fd : FuncData} {ps : List Str} (hm : mg x = some (.ref C)) (cl : Cls K C) (at_ : PySem.W.findIn K (.ref C) m = some (some (.ref a))) (fn : PySem.W.isFn K (.ref a) = true) (kp : PySem.W.keepIn K (.ref a) = true) (b : Binds K fd ps [])
    (h : FnOk P w K mg base (L2.CX P w) k a fd ps (spG K mg (n + 1) f)) (hx : isExc x = false := by decide) : MDef P w K mg base k x m n f :=
  ⟨hx, C, a, fd, ps, [], [], _, hm, cl, ⟨at_, fn, kp⟩, .nil, b, h, fun W σ F ι mh H xs vs Q hl sr r h => by rw [List.append_nil]; exact sp_call hl sr r h⟩
/-- .. in a heap of its own -/
theorem MDef.own (d : MDef P w K mg base k x m n f) : MDef P w K mg base k x m n (oP f) := by
  obtain ⟨e, C, a, fd, ps, dvs, ds, sp, h1, h2, h3, h4, h5, h6, h7⟩ := d
  refine ⟨e, C, a, fd, ps, dvs, ds, sp, h1, h2, h3, h4, h5, h6, fun W σ F ι mh H xs vs Q hl sr r h => ?_⟩
  unfold oP at h
  split at h
  · rename_i hr
    have sr0 : SR K mg F [] [] H := ⟨rfl, List.nodup_nil, fun n o a e => by simp at e, fun a z => by simp at z, sr.old, sr.tabs⟩
    have back : ∀ {F' : Addr → Prop} {ι' : List Addr} {H' : Hp}, Step F [] H F' ι' H' → LamX.Tabs (lamTabs K) H' → (SR K mg F ι mh H' ∧ Step F ι H F ι H') ∧ (∀ a, a ∈ ι' → ¬ F a) := fun {F' ι' H'} st tb => by
      refine ⟨sr.own st tb, fun a ha z => ?_⟩
      rcases st.inew a ha with q | q
      · simp at q
      · exact sr.old a z q
    refine h7 W σ F [] [] H xs vs Q hl sr0 (DVs.own xs _ hr r) ?_
    revert h
    generalize f xs [] = o
    intro h
    cases o with
    | ok d m =>
      intro F' ι' H' b st sr' rb
      obtain ⟨⟨sr2, st2⟩, nf⟩ := back st sr'.tabs
      dsimp only at h
      split at h
      · rename_i d' e
        exact h F ι H' b st2 sr2 (oFz_ok sr' nf st.up rb e)
      · exact h.elim
    | err c es m =>
      intro F' ι' H' cls dx st sr' ev
      obtain ⟨⟨sr2, st2⟩, nf⟩ := back st sr'.tabs
      dsimp only at h
      split at h
      · rename_i es' e
        refine h F ι H' cls dx st2 sr2 ?_
        obtain ⟨C, e1, e0, e2, e3⟩ := ev
        refine ⟨C, e1, e0, e2, ?_⟩
        rcases e3 with ⟨rfl, rfl⟩ | ⟨d, f, v, y, rfl, nd, e4, rfl, r4⟩
        · cases e
          exact .inl ⟨rfl, rfl⟩
        · have q : oFz m (.str f) = some (.str f) := by unfold oFz; cases m <;> rfl
          cases qy : oFz m y with
          | none => simp [fzl, q, qy] at e
          | some y' =>
            simp [fzl, q, qy] at e
            subst e
            exact .inr ⟨d, f, v, y', rfl, fun z => nd (st.up _ z), e4, rfl, oFz_ok sr' nf st.up r4 qy⟩
      · exact h.elim
    | stuck => exact h.elim
  · exact h.elim
/-- the method m of several classes -/
structure MTab (P : Program) (w : World) (K : PySem.W.Frag) (mg : Str → Option Value) (base : Heap) (k : Nat) (m : Str) (n : Nat) (tab : List (Str × Fn)) : Prop where
  all : ∀ x f, tab.lookup x = some f → MDef P w K mg base k x m n f
theorem mt_nil : MTab P w K mg base k m n [] := ⟨fun _ _ h => by cases h⟩
theorem mt_cons {tab : List (Str × Fn)} (d : MDef P w K mg base j x m n f) (t : MTab P w K mg base k m n tab) (hj : j ≤ k := by omega) : MTab P w K mg base k m n ((x, f) :: tab) := ⟨fun y g h => by
  by_cases e : y = x
  · subst e
    have : some f = some g := by
      rw [← h]
      show _ = (match y == y with | true => some f | false => tab.lookup y)
      rw [beq_self_eq_true]
    cases this
    exact d.mono hj
  · have : tab.lookup y = some g := by
      rw [← h]
      show _ = (match y == x with | true => some f | false => tab.lookup y)
      rw [show (y == x) = false from beq_eq_false_iff_ne.mpr e]
    exact t.all y g this⟩
end
/-- o.m(e, ..), by the class of o -/
def cMeth (m : Str) (n : Nat) (tab : List (Str × Fn)) (fo : CE) (fa : CA) : CE := fun ρ mh => (fo ρ mh).bind fun o m1 => match objOf m1 o with
  | some (x, ns, _) => if ns.contains m = true then .stuck else (match tab.lookup x with
    | some f => (fa ρ m1).bind fun ds m2 => if ds.length = n then f (o :: ds) m2 else .stuck
    | none => .stuck)
  | none => .stuck
section
variable {X : Cx} {W : WX} {k j n : Nat} {pos apos : Pos} {e o : Expr} {es : List Expr} {fo : CE} {fa : CA} {m : Str} {tab : List (Str × Fn)}
def tMethD (X : Cx) (m : Str) (E : L2.St → XK) (ta : TE) (t : TA) : TE := fun σ H Q => ta σ H fun x H1 => ∃ (a C dx g : Addr) (fs : List (Str × V)) (fd : FuncData) (ps : List Str) (dvs : List V) (ds : List Value) (sp : Sp) (k : Nat), x = .ref a ∧ H1 a = some (.ins C dx fs) ∧ fs.lookup m = none ∧ Cls X.K C ∧ Meth X.K C m g ∧ Vals dvs ds ∧ Binds X.K fd ps ds ∧
  FnOk X.prog X.w X.K X.mg X.base (L2.CX X.prog X.w) k g fd ps sp ∧ Room k X.A ∧ t σ H1 fun vs H2 => sp ((x :: vs) ++ dvs) H2 Q (E σ)
theorem pe_methD {pl : Sem Bool} {ta : TE} {t : TA} {E : L2.St → XK} (he : PE X o ta) (hx : ∀ σ, PassesAt (L2.CX X.prog X.w) X σ (E σ)) (ha : PA X (e :: es) t)
    (hst : starEach (e :: es) X.env = (false, eval e X.env) :: starEach es X.env) (hpl : (backTo pos (starEach es X.env)).any (·.1) = false)
    (ht : eval (.Call (.Attribute o m apos) (e :: es) [] pos) X.env = (do
      let ov ← eval o X.env
      standAt apos.atName
      let (f, first) ← holding [ov] (getMethod ov m pl)
      callWith pos f first (backTo pos (starEach (e :: es) X.env)) (backToKw pos (keywordEach [] X.env)))) :
    PE X (.Call (.Attribute o m apos) (e :: es) [] pos) (tMethD X m E ta t) := by
  refine ⟨fun pins s σ H Q I h => ?_⟩
  refine PySem.W.methodCall_KW (pl := pl) (thn (he.run pins s σ H _ I h) fun u s1 ⟨x, H1, I1, rx, a, C, dx, g, fs, fd, ps, dvs, ds, sp, k, ex, ea, l, c, hm, hd, hb, F, hr, q⟩ => ?_) ht
  subst ex
  obtain rfl : u = Value.ref a := rx
  refine getmeth_ok I1 ea c hm l ?_
  refine PySem.W.callWith_K (first := [.ref a]) (h₀ := X.base) I.ok.mod.kin hm.kp (thn (ha.run pos pins s1 σ H1 _ I1 q) fun us s2 ⟨vs, H2, I2, r, q2⟩ => ⟨I2.kIn, ?_⟩) hst hpl
  exact run_fnSD (us := .ref a :: us) (vs := .ref a :: vs) F hr hb hd (hx σ) I2 (.cons rfl r) q2
theorem pe_methD0 {pl : Sem Bool} {ta : TE} {E : L2.St → XK} (he : PE X o ta) (hx : ∀ σ, PassesAt (L2.CX X.prog X.w) X σ (E σ))
    (ht : eval (.Call (.Attribute o m apos) [] [] pos) X.env = (do
      let ov ← eval o X.env
      standAt apos.atName
      let (f, first) ← holding [ov] (getMethod ov m pl)
      callWith pos f first (backTo pos (starEach [] X.env)) (backToKw pos (keywordEach [] X.env)))) :
    PE X (.Call (.Attribute o m apos) [] [] pos) (tMethD X m E ta tNil) := by
  refine ⟨fun pins s σ H Q I h => ?_⟩
  refine PySem.W.methodCall_KW (pl := pl) (thn (he.run pins s σ H _ I h) fun u s1 ⟨x, H1, I1, rx, a, C, dx, g, fs, fd, ps, dvs, ds, sp, k, ex, ea, l, c, hm, hd, hb, F, hr, q⟩ => ?_) ht
  subst ex
  obtain rfl : u = Value.ref a := rx
  refine getmeth_ok I1 ea c hm l ?_
  exact PySem.W.callWith_K0 (first := [.ref a]) I1.kIn hm.kp (run_fnSD (us := [.ref a]) (vs := [.ref a]) F hr hb hd (hx σ) I1 (.cons rfl .nil) q)
theorem look_none {m : Str} : ∀ {ns : List Str} {fs : List (Str × V)}, fs.map (·.1) = ns → ns.contains m = false → fs.lookup m = none
  | _, [], _, _ => rfl
  | _, (g, v) :: fs, e, h => by
    cases e
    have h1 : (m == g) = false ∧ (fs.map (·.1)).contains m = false := by
      have : ((g :: fs.map (·.1)).contains m) = false := h
      rw [List.contains_cons, Bool.or_eq_false_iff] at this
      exact this
    show (match m == g with | true => some v | false => List.lookup m fs) = none
    rw [h1.1]
    exact look_none rfl h1.2
theorem meth_read {ta : TE} {t : TA} (T : MTab X.prog X.w X.K X.mg X.base j m n tab) (c : Cc k X W) (hk : j ≤ k)
    (qo : ∀ (ρ : En) (mh : List O) (F : Addr → Prop) (ι : List Addr) (σ : L2.St) (H : Hp) (Q : VK), SR X.K X.mg F ι mh H → ER X.K X.mg F ι H ρ σ → Post X.K X.mg (DR X) W σ F ι H (fo ρ mh) Q → ta σ H Q)
    (qa : ∀ (ρ : En) (mh : List O) (F : Addr → Prop) (ι : List Addr) (σ : L2.St) (H : Hp) (Q : List V → Hp → Prop), SR X.K X.mg F ι mh H → ER X.K X.mg F ι H ρ σ → Post X.K X.mg (DRs X) W σ F ι H (fa ρ mh) Q → t σ H Q)
    {ρ : En} {mh : List O} {F : Addr → Prop} {ι : List Addr} {σ : L2.St} {H : Hp} {Q : VK} (sr : SR X.K X.mg F ι mh H) (er : ER X.K X.mg F ι H ρ σ) (h : Post X.K X.mg (DR X) W σ F ι H (cMeth m n tab fo fa ρ mh) Q) : tMethD X m (WE W) ta t σ H Q := by
  unfold cMeth at h
  refine qo ρ mh F ι σ H _ sr er (h.bind.mono fun x H1 ⟨F1, ι1, d1, m1, st1, sr1, r1, h1⟩ => ?_)
  split at h1
  · rename_i xn ns ds ho
    split at h1
    · exact h1.elim
    · rename_i hns
      rw [Bool.not_eq_true] at hns
      split at h1
      · rename_i f hf
        obtain ⟨hx, C, a, fd, ps, dvs, dds, sp, e1, e2, e3, e4, e5, e6, e7⟩ := T.all _ _ hf
        obtain ⟨a', C', dx, fs, rfl, ha, m', en, rr⟩ := objOf_ok sr1 r1 ho hx
        rw [e1] at m'
        cases m'
        refine ⟨a', C, dx, a, fs, fd, ps, dvs, dds, sp, j, rfl, ha, look_none en hns, e2, e3, e4, e5, e6, c.hr.mono hk, ?_⟩
        refine qa ρ m1 F1 ι1 σ H1 _ sr1 (er.to sr.sub st1) (h1.bind.mono fun xs H2 ⟨F2, ι2, d2, m2, st2, sr2, r2, h2⟩ => ?_)
        split at h2
        · rename_i hl
          exact e7 W σ F2 ι2 m2 H2 (d1 :: d2) (.ref a' :: xs) Q (by rw [List.length_cons, ← DVs.length r2, hl]) sr2 (.cons (DV.to sr1.sub st2 _ _ r1) r2) h2
        · exact h2.elim
      · exact h1.elim
  · exact h1.elim
theorem j_meth {pl : Sem Bool} (T : MTab X.prog X.w X.K X.mg X.base j m n tab) (c : Cc k X W) (ho : JE X W o fo) (ha : JA X W (e :: es) fa) (hk : j ≤ k := by omega) (hst : starEach (e :: es) X.env = (false, eval e X.env) :: starEach es X.env := by rfl) (hpl : (backTo pos (starEach es X.env)).any (·.1) = false := by rfl)
    (ht : eval (.Call (.Attribute o m apos) (e :: es) [] pos) X.env = (do
      let ov ← eval o X.env
      standAt apos.atName
      let (f, first) ← holding [ov] (getMethod ov m pl)
      callWith pos f first (backTo pos (starEach (e :: es) X.env)) (backToKw pos (keywordEach [] X.env))) := by rfl) :
    JE X W (.Call (.Attribute o m apos) (e :: es) [] pos) (cMeth m n tab fo fa) := by
  obtain ⟨to, po, qo⟩ := ho.ex
  obtain ⟨ta, pa, qa⟩ := ha.ex
  exact ⟨_, pe_methD po (fun σ => passAt c.tk σ) pa hst hpl ht, fun ρ mh F ι σ H Q sr er h => meth_read T c hk qo qa sr er h⟩
theorem j_meth0 {pl : Sem Bool} (T : MTab X.prog X.w X.K X.mg X.base j m 0 tab) (c : Cc k X W) (ho : JE X W o fo) (hk : j ≤ k := by omega)
    (ht : eval (.Call (.Attribute o m apos) [] [] pos) X.env = (do
      let ov ← eval o X.env
      standAt apos.atName
      let (f, first) ← holding [ov] (getMethod ov m pl)
      callWith pos f first (backTo pos (starEach [] X.env)) (backToKw pos (keywordEach [] X.env))) := by rfl) :
    JE X W (.Call (.Attribute o m apos) [] [] pos) (cMeth m 0 tab fo cNil) := by
  obtain ⟨to, po, qo⟩ := ho.ex
  exact ⟨_, pe_methD0 po (fun σ => passAt c.tk σ) ht, fun ρ mh F ι σ H Q sr er h => meth_read (t := tNil) T c hk qo (fun ρ mh F ι σ H Q sr er h => h.ok sr .nil) sr er h⟩
end
end G

/-! Part IB: new instances; methods with defaults. -/
namespace G
open PySem PySem.Spec PyProof.Rows L2
/-- what is worth for a def with some defaults filled up -/
def arD (dds : List D) (f : Fn) : Fn := fun xs mh => f (xs ++ dds) mh
section
variable {P : Program} {w : World} {K : PySem.W.Frag} {mg : Str → Option Value} {base : Heap} {j k n : Nat} {x m : Str} {f : Fn}
theorem funD_mk {x qual : Str} {st : Stmt} {f T : Addr} {oc eT : Value} {od an oT : Option Addr} {osl sT : Array (Option Value)} {kV doc pm cdv ct : Value} {nT : Nat} {its : List Value} {dvs : List V} (l : K.lookup f = some ⟨oc, od, .func (PySem.W.fnOf x qual (defArgs st) (defBody st) (defScope st) (.ref T) kV doc pm an cdv ct), osl⟩)
    (c : PySem.W.codeIn K cdv qual = true) (k : PySem.W.keepIn K (.ref f) = true) (t : K.lookup T = some ⟨eT, oT, .seq its.toArray nT, sT⟩) (v : Vals dvs its) (hd : dvs ≠ [] := by simp) : FunD K x qual (defArgs st) (defBody st) (defScope st) dvs [] f (PySem.W.fnOf x qual (defArgs st) (defBody st) (defScope st) (.ref T) kV doc pm an cdv ct) :=
  ⟨⟨oc, od, .ref T, kV, doc, pm, an, cdv, ct, osl, rfl, l, c, .inr ⟨hd, T, _, its, nT, rfl, t, rfl, v⟩, .inl rfl⟩, k⟩
theorem DVs.plus {F : Addr → Prop} {ι : List Addr} {H : Hp} {ds es : List D} {vs ws : List V} (h : DVs K mg F ι H ds vs) (t : DVs K mg F ι H es ws) : DVs K mg F ι H (ds ++ es) (vs ++ ws) := h.append t
theorem post_dfl {dds : List D} {dvs : List V} {nn : Nat} (hl : n + 1 + dds.length = nn) (dv : ∀ (F : Addr → Prop) (ι : List Addr) (H : Hp), DVs K mg F ι H dds dvs) : ∀ (W : WX) (σ : L2.St) (F : Addr → Prop) (ι : List Addr) (mh : List O) (H : Hp) (xs : List D) (vs : List V) (Q : VK), vs.length = n + 1 → SR K mg F ι mh H → DVs K mg F ι H xs vs → Post K mg (fun F ι H d v => DV K mg F ι H d v) W σ F ι H (arD dds f xs mh) Q → spG K mg nn f (vs ++ dvs) H Q (WE W σ) := by
  intro W σ F ι mh H xs vs Q hv sr r h
  refine sp_call (ds := xs ++ dds) ?_ sr (r.append (dv F ι H)) h
  rw [List.length_append, hv, ← (dv F ι H).length, hl]
/-- a method with defaults, some of which fill up -/
theorem mdef_dfl {C a : Addr} {fd : FuncData} {ps : List Str} {dvs : List V} {dds : List D} {nn : Nat} (hm : mg x = some (.ref C)) (cl : Cls K C) (at_ : PySem.W.findIn K (.ref C) m = some (some (.ref a))) (fn : PySem.W.isFn K (.ref a) = true) (kp : PySem.W.keepIn K (.ref a) = true) (b : ∃ ds, Vals dvs ds ∧ Binds K fd ps ds)
    (h : FnOk P w K mg base (L2.CX P w) k a fd ps (spG K mg nn f)) (dv : ∀ (F : Addr → Prop) (ι : List Addr) (H : Hp), DVs K mg F ι H dds dvs) (hl : n + 1 + dds.length = nn := by rfl) (hx : isExc x = false := by decide) : MDef P w K mg base k x m n (arD dds f) := by
  obtain ⟨ds, v, b⟩ := b
  exact ⟨hx, C, a, fd, ps, dvs, ds, _, hm, cl, ⟨at_, fn, kp⟩, v, b, h, post_dfl hl dv⟩
/-! ### new instances -/
/-- a class x made of n things, its __init__ worth f -/
structure MkDef (P : Program) (w : World) (K : PySem.W.Frag) (mg : Str → Option Value) (base : Heap) (k : Nat) (x : Str) (n : Nat) (f : Fn) : Prop where
  exc : isExc x = false
  ex : ∃ (C a : Addr) (fd : FuncData) (ps : List Str) (dvs : List V) (ds : List Value) (sp : Sp), mg x = some (.ref C) ∧ Mk K C a ∧ Vals dvs ds ∧ Binds K fd ps ds ∧ FnOk P w K mg base (L2.CX P w) k a fd ps sp ∧
    ∀ (W : WX) (σ : L2.St) (F : Addr → Prop) (ι : List Addr) (mh : List O) (H : Hp) (xs : List D) (vs : List V) (Q : VK), vs.length = n + 1 → SR K mg F ι mh H → DVs K mg F ι H xs vs → Post K mg (fun F ι H d v => DV K mg F ι H d v) W σ F ι H (f xs mh) Q → sp (vs ++ dvs) H Q (WE W σ)
theorem MkDef.mono (d : MkDef P w K mg base j x n f) (h : j ≤ k) : MkDef P w K mg base k x n f := by
  obtain ⟨e, C, a, fd, ps, dvs, ds, sp, h1, h2, h4, h5, h6, h7⟩ := d
  exact ⟨e, C, a, fd, ps, dvs, ds, sp, h1, h2, h4, h5, h6.mono h, h7⟩
theorem mkdef_mk {C a : Addr} {fd : FuncData} {ps : List Str} (hm : mg x = some (.ref C)) (M : Mk K C a) (b : Binds K fd ps []) (h : FnOk P w K mg base (L2.CX P w) k a fd ps (spG K mg (n + 1) f)) (hx : isExc x = false := by decide) : MkDef P w K mg base k x n f :=
  ⟨hx, C, a, fd, ps, [], [], _, hm, M, .nil, b, h, fun W σ F ι mh H xs vs Q hl sr r h => by rw [List.append_nil]; exact sp_call hl sr r h⟩
theorem mkdef_dfl {C a : Addr} {fd : FuncData} {ps : List Str} {dvs : List V} {dds : List D} {nn : Nat} (hm : mg x = some (.ref C)) (M : Mk K C a) (b : ∃ ds, Vals dvs ds ∧ Binds K fd ps ds) (h : FnOk P w K mg base (L2.CX P w) k a fd ps (spG K mg nn f)) (dv : ∀ (F : Addr → Prop) (ι : List Addr) (H : Hp), DVs K mg F ι H dds dvs)
    (hl : n + 1 + dds.length = nn := by rfl) (hx : isExc x = false := by decide) : MkDef P w K mg base k x n (arD dds f) := by
  obtain ⟨ds, v, b⟩ := b
  exact ⟨hx, C, a, fd, ps, dvs, ds, _, hm, M, v, b, h, post_dfl hl dv⟩
end
/-- C(e, ..), a live instance -/
def cMake (x : Str) (n : Nat) (f : Fn) (fa : CA) : CE := fun ρ mh => (fa ρ mh).bind fun ds m => if ds.length = n then (match f (.ref m.length :: ds) (m ++ [.ins x [] []]) with
  | .ok .non m' => .ok (.ref m.length) m'
  | .err c es m' => .err c es m'
  | _ => .stuck) else .stuck
/-- .. taken as a value, its things hold nothing live -/
def cMakeV (x : Str) (n : Nat) (f : Fn) (fa : CA) : CE := fun ρ mh => (fa ρ mh).bind fun ds m => if ds.length = n ∧ noRefs ds = true then (match f (.ref 0 :: ds) [.ins x [] []] with
  | .ok .non m' => (match fz m' 12 (.ref 0) with
    | some d => .ok d m
    | none => .stuck)
  | .err c es m' => (match fzl (oFz m') es with
    | some es' => .err c es' m
    | none => .stuck)
  | _ => .stuck) else .stuck
/-- a value of which no list is one of the caller's -/
def fzM (mh : List O) : Nat → D → Option D
  | 0, _ => none
  | n + 1, d => match d with
    | .tup ds => (fzl (fzM mh n) ds).map .tup
    | .dic ks ds => (fzl (fzM mh n) ds).map (.dic ks)
    | .obj x ns ds => (fzl (fzM mh n) ds).map (.obj x ns)
    | .ref m => match mh[m]? with
      | some (.lst ds) => (fzl (fzM mh n) ds).map .lst
      | some (.dic ks ds) => (fzl (fzM mh n) ds).map (.dic ks)
      | some (.ins x ns ds) => (fzl (fzM mh n) ds).map (.obj x ns)
      | _ => none
    | .lst _ => none
    | .clo _ _ => none
    | d => some d
/-- live lists as values -/
def fzA (m : List O) : Nat → D → Option D
  | 0, _ => none
  | n + 1, d => match d with
    | .tup ds => (fzl (fzA m n) ds).map .tup
    | .lst ds => (fzl (fzA m n) ds).map .lst
    | .ref j => match m[j]? with
      | some (.lst ds) => (fzl (fzA m n) ds).map .lst
      | _ => none
    | .dic ks ds => (fzl (fzA m n) ds).map (.dic ks)
    | .obj x ns ds => (fzl (fzA m n) ds).map (.obj x ns)
    | .clo _ _ => none
    | d => some d
/-- .. its live lists handed as values -/
def cMakeL (x : Str) (n : Nat) (f : Fn) (fa : CA) : CE := fun ρ mh => (fa ρ mh).bind fun ds m => if ds.length = n then (match fzl (fzA m 12) ds with
  | some es => if noRefs es = true then (match f (.ref 0 :: es) [.ins x [] []] with
    | .ok .non m' => (match fzM m' 12 (.ref 0) with
      | some d => .ok d m
      | none => .stuck)
    | .err c es m' => (match fzl (fzM m' 12) es with
      | some es' => .err c es' m
      | none => .stuck)
    | _ => .stuck) else .stuck
  | none => .stuck) else .stuck
section
variable {X : Cx} {W : WX} {k j n : Nat} {pos p : Pos} {x : Str} {e : Expr} {es : List Expr} {fa : CA} {f : Fn}
def tMakeS (C : Addr) (sp : Sp) (dvs : List V) (E : L2.St → XK) (t : TA) : TE := fun σ H Q => t σ H fun vs H1 => ∀ x dx, H1 x = none → H1 dx = none → dx ≠ x →
  sp (.ref x :: (vs ++ dvs)) (upd (upd H1 dx (.own x)) x (.ins C dx [])) (fun v H2 => v = .non ∧ Q (.ref x) H2) (E σ)
theorem run_makeS {C a : Addr} {fd : FuncData} {ps : List Str} {sp : Sp} {dvs : List V} {ds : List Value} {E : L2.St → XK} {pins : List (Addr × Obj)} {σ : L2.St} {H : Hp} {s : Shared} {Q : VK} {us : List Value} {vs : List V} (M : Mk X.K C a) (F : FnOk X.prog X.w X.K X.mg X.base (L2.CX X.prog X.w) k a fd ps sp) (hr : Room (k + 1) X.A) (hb : Binds X.K fd ps ds) (hd : Vals dvs ds)
    (hx : PassesAt (L2.CX X.prog X.w) X σ (E σ)) (I : Inv X pins σ H s) (r : Vals vs us)
    (h : ∀ x dx, H x = none → H dx = none → dx ≠ x → sp (.ref x :: (vs ++ dvs)) (upd (upd H dx (.own x)) x (.ins C dx [])) (fun v H2 => v = .non ∧ Q (.ref x) H2) (E σ)) :
    wpAny (model X.prog X.w) X.A (call (.ref C) us) (EP X pins σ Q) X.xe s := by
  have hq := h (s.heap.objs.size + 1) s.heap.objs.size (I.hok.fresh (Nat.le_succ _)) (I.hok.fresh (Nat.le_refl _)) (Nat.ne_of_lt (Nat.lt_succ_self _))
  have I2 := Inv.made (C := C) I
  have r2 : Vals (V.ref (s.heap.objs.size + 1) :: (vs ++ dvs)) (Value.ref (s.heap.objs.size + 1) :: (us ++ ds)) := .cons rfl (r.append hd)
  have hl : (Value.ref (s.heap.objs.size + 1) :: us ++ ds).length = ps.length := by
    have e := r2.length
    rw [F.len _ _ _ _ hq] at e
    exact e.symm
  refine wpAny_call (make_map (f := a) I.kIn M.makes M.init (beq_iff_eq.mp M.fn) (codeAny_mono (F.run _ X.stack _ _ ⟨Value.ref (s.heap.objs.size + 1) :: us, []⟩ (Value.ref (s.heap.objs.size + 1) :: (us ++ ds)) _ _ (E σ) (hr.make C us [])
    (I2.env0.make C us []) (hb _ (Value.ref (s.heap.objs.size + 1) :: us) I2.kIn hl) r2 hq) fun r s' hq' => ?_))
  cases r with
  | error e => exact hx pins _ _ e s' I2 hq'
  | ok fl =>
    cases fl with
    | ret u =>
      obtain ⟨v, H', I3, rv, ev, q3⟩ := I2.after hq'
      subst ev
      exact ⟨rv, ⟨V.ref (s.heap.objs.size + 1), H', I3, rfl, q3⟩⟩
    | next => exact False.elim hq'
    | brk => exact False.elim hq'
    | cont => exact False.elim hq'
theorem pe_makeS {C a : Addr} {fd : FuncData} {ps : List Str} {sp : Sp} {dvs : List V} {ds : List Value} {E : L2.St → XK} {t : TA} (M : Mk X.K C a) (F : FnOk X.prog X.w X.K X.mg X.base (L2.CX X.prog X.w) k a fd ps sp) (hr : Room (k + 1) X.A) (hg : Gl X x) (hm : X.mg x = some (.ref C)) (hb : Binds X.K fd ps ds) (hd : Vals dvs ds) (hx : ∀ σ, PassesAt (L2.CX X.prog X.w) X σ (E σ))
    (ha : PA X (e :: es) t) (hdb : (x == ("__debug__" : Str)) = false) (he : starEach (e :: es) X.env = (false, eval e X.env) :: starEach es X.env) (hpl : (backTo pos (starEach es X.env)).any (·.1) = false) :
    PE X (.Call (.Name x p) (e :: es) [] pos) (tMakeS C sp dvs E t) := by
  refine ⟨fun pins s σ H Q I h => ?_⟩
  refine wpAny_Call_Name_kw (ld_glob I hg hm ?_ hdb)
  refine PySem.W.callWith_K (h₀ := X.base) I.ok.mod.kin M.kp (thn (ha.run pos pins s σ H _ I h) fun us s1 ⟨vs, H1, I1, r, q⟩ => ⟨I1.kIn, ?_⟩) he hpl
  exact run_makeS M F hr hb hd (hx σ) I1 r q
/-- the new instance, told -/
theorem made_sr {K : PySem.W.Frag} {mg : Str → Option Value} {F : Addr → Prop} {ι : List Addr} {mh : List O} {H : Hp} {C a dx : Addr} (sr : SR K mg F ι mh H) (h1 : H a = none) (h2 : H dx = none) (ne : dx ≠ a) (hm : mg x = some (.ref C)) :
    Step F ι H (fun b => F b ∨ b = a) (ι ++ [a]) (upd (upd H dx (.own a)) a (.ins C dx [])) ∧ SR K mg (fun b => F b ∨ b = a) (ι ++ [a]) (mh ++ [.ins x [] []]) (upd (upd H dx (.own a)) a (.ins C dx [])) := by
  have st1 : Step F ι H F ι (upd H dx (.own a)) := step_new h2
  have sr1 := sr.fresh (u := .own a) h2
  have h1' : upd H dx (.own a) a = none := by rw [upd_ne (fun z => ne z.symm)]; exact h1
  obtain ⟨st2, sr2⟩ := alloc (o := .ins x [] []) (u := .ins C dx []) sr1 h1' fun F' ι' st => .ins upd_same hm rfl .nil
  exact ⟨st1.trans st2, sr2⟩
theorem make_any {f' : List D → List O → Res D} (d : MkDef X.prog X.w X.K X.mg X.base j x n f) (c : Cc k X W) (hk : j + 1 ≤ k) (ha : JA X W (e :: es) fa)
    (hsp : ∀ (C : Addr) (dvs : List V) (sp : Sp), X.mg x = some (.ref C) → (∀ (W : WX) (σ : L2.St) (F : Addr → Prop) (ι : List Addr) (mh : List O) (H : Hp) (xs : List D) (vs : List V) (Q : VK), vs.length = n + 1 → SR X.K X.mg F ι mh H → DVs X.K X.mg F ι H xs vs → Post X.K X.mg (DR X) W σ F ι H (f xs mh) Q → sp (vs ++ dvs) H Q (WE W σ)) →
      ∀ (F : Addr → Prop) (ι : List Addr) (mh : List O) (σ : L2.St) (H : Hp) (ds : List D) (vs : List V) (Q : VK) (a dx : Addr), SR X.K X.mg F ι mh H → DVs X.K X.mg F ι H ds vs → Post X.K X.mg (DR X) W σ F ι H (f' ds mh) Q → H a = none → H dx = none → dx ≠ a →
        sp (.ref a :: (vs ++ dvs)) (upd (upd H dx (.own a)) a (.ins C dx [])) (fun v H2 => v = .non ∧ Q (.ref a) H2) (WE W σ)) (hg : Gl X x)
    (hdb : (x == ("__debug__" : Str)) = false) (he : starEach (e :: es) X.env = (false, eval e X.env) :: starEach es X.env) (hpl : (backTo pos (starEach es X.env)).any (·.1) = false) :
    JE X W (.Call (.Name x p) (e :: es) [] pos) (fun ρ mh => (fa ρ mh).bind f') := by
  obtain ⟨hx, C, a, fd, ps, dvs, ds, sp, e1, M, e4, e5, e6, e7⟩ := d
  obtain ⟨ta, pa, qa⟩ := ha.ex
  refine ⟨_, pe_makeS M (e6.mono (Nat.le_refl _)) (c.hr.mono hk) hg e1 e5 e4 (fun σ => passAt c.tk σ) pa hdb he hpl, fun ρ mh F ι σ H Q sr er h => ?_⟩
  refine qa ρ mh F ι σ H _ sr er (h.bind.mono fun xs H1 ⟨F1, ι1, d1, m1, st1, sr1, r1, h1⟩ => ?_)
  exact fun a dx n1 n2 ne => hsp C dvs sp e1 e7 F1 ι1 m1 σ H1 d1 xs Q a dx sr1 r1 h1 n1 n2 ne
theorem j_make (d : MkDef X.prog X.w X.K X.mg X.base j x n f) (c : Cc k X W) (ha : JA X W (e :: es) fa) (hk : j + 1 ≤ k := by omega) (hg : Gl X x := by rfl)
    (hdb : (x == ("__debug__" : Str)) = false := by decide) (he : starEach (e :: es) X.env = (false, eval e X.env) :: starEach es X.env := by rfl) (hpl : (backTo pos (starEach es X.env)).any (·.1) = false := by rfl) :
    JE X W (.Call (.Name x p) (e :: es) [] pos) (cMake x n f fa) := by
  refine make_any d c hk ha (fun C dvs sp hm e7 F ι mh σ H ds vs Q a dx sr r h n1 n2 ne => ?_) hg hdb he hpl
  split at h
  · rename_i hl
    obtain ⟨st, sr2⟩ := made_sr (x := x) sr n1 n2 ne hm
    have r2 : DVs X.K X.mg (fun b => F b ∨ b = a) (ι ++ [a]) (upd (upd H dx (.own a)) a (.ins C dx [])) (.ref mh.length :: ds) (.ref a :: vs) := .cons (.ref (by rw [← sr.len]; simp)) (DVs.to sr.sub st _ _ r)
    refine e7 W σ _ _ _ _ _ (.ref a :: vs) _ (by rw [List.length_cons, ← r.length, hl]) sr2 r2 ?_
    revert h
    generalize f (.ref mh.length :: ds) (mh ++ [.ins x [] []]) = o
    intro h
    cases o with
    | ok d m =>
      intro F' ι' H' b st' sr' rb
      cases d with
      | non =>
        cases rb
        refine ⟨rfl, h F' ι' H' _ (st.trans st') sr' (.ref ?_)⟩
        obtain ⟨t, q⟩ := st'.pre
        rw [← q, List.getElem?_append_left (by simp [sr.len]), ← sr.len]
        simp
      | _ => exact h.elim
    | err c es m => exact fun F' ι' H' cls dx' st' sr' ev => h F' ι' H' cls dx' (st.trans st') sr' ev
    | stuck => exact h.elim
  · exact h.elim
theorem errs_ok {K : PySem.W.Frag} {mg : Str → Option Value} {F F' : Addr → Prop} {ι ι' : List Addr} {H' : Hp} {c : Str} {es es' : List D} {cls : Value} {dx : Option Addr} {g : D → Option D} (up : ∀ a, F a → F' a ∨ ∃ vs, H' a = some (.lst vs)) (hg : ∀ d d' v, DV K mg F' ι' H' d v → g d = some d' → DV K mg F ι H' d' v) (hs : ∀ f, g (.str f) = some (.str f)) (ev : ExV K mg F' ι' H' c es cls dx) (e : fzl g es = some es') : ExV K mg F ι H' c es' cls dx := by
  obtain ⟨C, e1, e0, e2, e3⟩ := ev
  refine ⟨C, e1, e0, e2, ?_⟩
  rcases e3 with ⟨rfl, rfl⟩ | ⟨d, f, v, y, rfl, nd, e4, rfl, r4⟩
  · cases e
    exact .inl ⟨rfl, rfl⟩
  · cases qy : g y with
    | none => simp [fzl, hs, qy] at e
    | some y' =>
      simp [fzl, hs, qy] at e
      subst e
      refine .inr ⟨d, f, v, y', rfl, fun z => ?_, e4, rfl, hg _ _ _ r4 qy⟩
      rcases up _ z with q | ⟨vs, q⟩
      · exact nd q
      · rw [e4] at q; cases q
theorem j_makeV (d : MkDef X.prog X.w X.K X.mg X.base j x n f) (c : Cc k X W) (ha : JA X W (e :: es) fa) (hk : j + 1 ≤ k := by omega) (hg : Gl X x := by rfl)
    (hdb : (x == ("__debug__" : Str)) = false := by decide) (he : starEach (e :: es) X.env = (false, eval e X.env) :: starEach es X.env := by rfl) (hpl : (backTo pos (starEach es X.env)).any (·.1) = false := by rfl) :
    JE X W (.Call (.Name x p) (e :: es) [] pos) (cMakeV x n f fa) := by
  refine make_any d c hk ha (fun C dvs sp hm e7 F ι mh σ H ds vs Q a dx sr r h n1 n2 ne => ?_) hg hdb he hpl
  split at h
  · rename_i hl
    have sr0 : SR X.K X.mg F [] [] H := ⟨rfl, List.nodup_nil, fun n o a e => by simp at e, fun a z => by simp at z, sr.old, sr.tabs⟩
    obtain ⟨st, sr2⟩ := made_sr (x := x) sr0 n1 n2 ne hm
    have r2 : DVs X.K X.mg (fun b => F b ∨ b = a) ([] ++ [a]) (upd (upd H dx (.own a)) a (.ins C dx [])) (.ref 0 :: ds) (.ref a :: vs) := .cons (.ref rfl) (DVs.to sr0.sub st _ _ (DVs.own ds _ hl.2 r))
    refine e7 W σ _ _ _ _ _ (.ref a :: vs) _ (by rw [List.length_cons, ← r.length, hl.1]) sr2 r2 ?_
    have back : ∀ {F' : Addr → Prop} {ι' : List Addr} {H' : Hp}, Step (fun b => F b ∨ b = a) ([] ++ [a]) (upd (upd H dx (.own a)) a (.ins C dx [])) F' ι' H' → LamX.Tabs (lamTabs X.K) H' → (SR X.K X.mg F ι mh H' ∧ Step F ι H F ι H') ∧ (∀ a, a ∈ ι' → ¬ F a) ∧ ∀ a, F a → F' a := fun {F' ι' H'} st' tb => by
      have st3 := st.trans st'
      refine ⟨sr.own st3 tb, fun a ha z => ?_, st3.up⟩
      rcases st3.inew a ha with q | q
      · simp at q
      · exact sr.old a z q
    change Post _ _ _ _ _ _ _ _ (f (.ref 0 :: ds) [.ins x [] []]) _
    revert h
    generalize f (.ref 0 :: ds) [.ins x [] []] = o
    intro h
    cases o with
    | ok d m =>
      intro F' ι' H' b st' sr' rb
      obtain ⟨⟨sr3, st3⟩, nf, up⟩ := back st' sr'.tabs
      cases d with
      | non =>
        cases rb
        dsimp only at h
        split at h
        · rename_i d' ed
          have ra : DV X.K X.mg F' ι' H' (.ref 0) (.ref a) := .ref (by
            obtain ⟨t, q⟩ := st'.pre
            rw [← q]; rfl)
          exact ⟨rfl, h F ι H' _ st3 sr3 (fz_ok sr' nf up 12 _ _ _ ra ed)⟩
        · exact h.elim
      | _ => exact h.elim
    | err c es m =>
      intro F' ι' H' cls dx' st' sr' ev
      obtain ⟨⟨sr3, st3⟩, nf, up⟩ := back st' sr'.tabs
      dsimp only at h
      split at h
      · rename_i es' ee
        exact h F ι H' cls dx' st3 sr3 (errs_ok (fun a z => .inl (up a z)) (fun d d' v r e => oFz_ok sr' nf up r e) (fun f => by unfold oFz; cases m <;> rfl) ev ee)
      · exact h.elim
    | stuck => exact h.elim
  · exact h.elim
end
section
variable {K : PySem.W.Frag} {mg : Str → Option Value} {F F0 F' : Addr → Prop} {ι ι' : List Addr} {H H' : Hp} {mh mh' : List O}
theorem fzA_ok (sr : SR K mg F ι mh H) (h0 : ∀ b, F0 b → F b ∧ ¬ ∃ vs, H b = some (.lst vs)) : ∀ (n : Nat) (d d' : D) (v : V), DV K mg F ι H d v → fzA mh n d = some d' → DV K mg F0 ι H d' v := by
  intro n
  induction n with
  | zero => intro d d' v _ e; cases e
  | succ n ih =>
    have all : ∀ (ds ds' : List D) (vs : List V), DVs K mg F ι H ds vs → fzl (fzA mh n) ds = some ds' → DVs K mg F0 ι H ds' vs := by
      intro ds
      induction ds with
      | nil => intro ds' vs h e; cases h; cases e; exact .nil
      | cons d ds ihl =>
        intro ds' vs h e
        cases h with
        | cons h t =>
          unfold fzl at e
          split at e
          · rename_i x xs e1 e2
            cases e
            exact .cons (ih _ _ _ h e1) (ihl _ _ t e2)
          · cases e
    intro d d' v h e
    cases h with
    | non => cases e; exact .non
    | bl b => cases e; exact .bl b
    | int i => cases e; exact .int i
    | str x => cases e; exact .str x
    | ty n => cases e; exact .ty n
    | glb m r => cases e; exact .glb m r
    | tup h r =>
      obtain ⟨ds', e1, rfl⟩ := Option.map_eq_some_iff.mp e
      exact .tup h (all _ _ _ r e1)
    | lst h r =>
      obtain ⟨ds', e1, rfl⟩ := Option.map_eq_some_iff.mp e
      refine .lst ?_ (all _ _ _ r e1)
      rcases h with ⟨h, n⟩ | h
      · exact .inl ⟨h, fun z => n (h0 _ z).1⟩
      · exact .inr h
    | dic h n e0 r =>
      obtain ⟨ds', e1, rfl⟩ := Option.map_eq_some_iff.mp e
      exact .dic h (fun z => n (h0 _ z).1) e0 (all _ _ _ r e1)
    | obj h m e0 r =>
      obtain ⟨ds', e1, rfl⟩ := Option.map_eq_some_iff.mp e
      exact .obj (h.upto fun b o e n _ => ⟨fun z => n (h0 _ z).1, e⟩) m e0 (all _ _ _ r e1)
    | clo h r => cases e
    | @ref m a ea =>
      have e : (match mh[m]? with
        | some (.lst ds) => (fzl (fzA mh n) ds).map D.lst
        | _ => none) = some d' := e
      split at e
      · rename_i ds q
        obtain ⟨ds', e1, rfl⟩ := Option.map_eq_some_iff.mp e
        cases sr.ob _ _ _ q ea with
        | lst h r => exact .lst (.inl ⟨.inl h, fun z => (h0 _ z).2 ⟨_, h⟩⟩) (all _ _ _ r e1)
      · cases e
theorem fzM_ok (sr : SR K mg F' ι' mh' H') (nf : ∀ a, a ∈ ι' → ¬ F a) (up : ∀ a, F a → F' a ∨ ∃ vs, H' a = some (.lst vs)) : ∀ (n : Nat) (d d' : D) (v : V), DV K mg F' ι' H' d v → fzM mh' n d = some d' → DV K mg F ι H' d' v := by
  intro n
  induction n with
  | zero => intro d d' v _ e; cases e
  | succ n ih =>
    have all : ∀ (ds ds' : List D) (vs : List V), DVs K mg F' ι' H' ds vs → fzl (fzM mh' n) ds = some ds' → DVs K mg F ι H' ds' vs := by
      intro ds
      induction ds with
      | nil => intro ds' vs h e; cases h; cases e; exact .nil
      | cons d ds ihl =>
        intro ds' vs h e
        cases h with
        | cons h t =>
          unfold fzl at e
          split at e
          · rename_i x xs e1 e2
            cases e
            exact .cons (ih _ _ _ h e1) (ihl _ _ t e2)
          · cases e
    have nF : ∀ {a : Addr} {o : HO}, ¬ F' a → H' a = some o → (∀ vs, o ≠ .lst vs) → ¬ F a := fun n e nl z => by
      rcases up _ z with q | ⟨vs, q⟩
      · exact n q
      · rw [e] at q
        exact nl vs (Option.some.inj q)
    intro d d' v h e
    cases h with
    | non => cases e; exact .non
    | bl b => cases e; exact .bl b
    | int i => cases e; exact .int i
    | str x => cases e; exact .str x
    | ty n => cases e; exact .ty n
    | glb m r => cases e; exact .glb m r
    | tup h r =>
      obtain ⟨ds', e1, rfl⟩ := Option.map_eq_some_iff.mp e
      exact .tup h (all _ _ _ r e1)
    | lst h r => cases e
    | dic h n e0 r =>
      obtain ⟨ds', e1, rfl⟩ := Option.map_eq_some_iff.mp e
      refine .dic h ?_ e0 (all _ _ _ r e1)
      rcases h with h | ⟨o, h⟩
      · exact nF n h (fun _ z => nomatch z)
      · exact nF n h (fun _ z => nomatch z)
    | obj h m e0 r =>
      obtain ⟨ds', e1, rfl⟩ := Option.map_eq_some_iff.mp e
      refine .obj ?_ m e0 (all _ _ _ r e1)
      obtain ⟨n, ⟨dx, h⟩ | ⟨d, hx, h, q⟩⟩ := h
      · exact ⟨nF n h (fun _ z => nomatch z), .inl ⟨dx, h⟩⟩
      · refine ⟨nF n h (fun _ z => by unfold xob at z; cases z), .inr ⟨d, hx, h, ?_⟩⟩
        rcases q with q | ⟨dd, e1, nd, hd⟩
        · exact .inl q
        · exact .inr ⟨dd, e1, nF nd hd (fun _ z => nomatch z), hd⟩
    | clo h r => cases e
    | @ref m a ea =>
      have e : (match mh'[m]? with
        | some (.lst ds) => (fzl (fzM mh' n) ds).map .lst
        | some (.dic ks ds) => (fzl (fzM mh' n) ds).map (.dic ks)
        | some (.ins x ns ds) => (fzl (fzM mh' n) ds).map (.obj x ns)
        | _ => none) = some d' := e
      have na := nf a (List.mem_of_getElem? ea)
      split at e
      · rename_i ds q
        obtain ⟨ds', e1, rfl⟩ := Option.map_eq_some_iff.mp e
        cases sr.ob _ _ _ q ea with
        | lst h r => exact .lst (.inl ⟨.inl h, na⟩) (all _ _ _ r e1)
      · rename_i ks ds q
        obtain ⟨ds', e1, rfl⟩ := Option.map_eq_some_iff.mp e
        cases sr.ob _ _ _ q ea with
        | dic h e0 r => exact .dic (.inl h) na e0 (all _ _ _ r e1)
      · rename_i x ns ds q
        obtain ⟨ds', e1, rfl⟩ := Option.map_eq_some_iff.mp e
        cases sr.ob _ _ _ q ea with
        | ins h m e0 r => exact .obj ⟨na, .inl ⟨_, h⟩⟩ m e0 (all _ _ _ r e1)
      · cases e
theorem fzls_A (sr : SR K mg F ι mh H) (h0 : ∀ b, F0 b → F b ∧ ¬ ∃ vs, H b = some (.lst vs)) : ∀ (ds ds' : List D) (vs : List V), DVs K mg F ι H ds vs → fzl (fzA mh 12) ds = some ds' → DVs K mg F0 ι H ds' vs := by
  intro ds
  induction ds with
  | nil => intro ds' vs h e; cases h; cases e; exact .nil
  | cons d ds ihl =>
    intro ds' vs h e
    cases h with
    | cons h t =>
      unfold fzl at e
      split at e
      · rename_i x xs e1 e2
        cases e
        exact .cons (fzA_ok sr h0 12 _ _ _ h e1) (ihl _ _ t e2)
      · cases e
end
section
variable {X : Cx} {W : WX} {k j n : Nat} {pos p : Pos} {x : Str} {e : Expr} {es : List Expr} {fa : CA} {f : Fn}
theorem j_makeL (d : MkDef X.prog X.w X.K X.mg X.base j x n f) (c : Cc k X W) (ha : JA X W (e :: es) fa) (hk : j + 1 ≤ k := by omega) (hg : Gl X x := by rfl)
    (hdb : (x == ("__debug__" : Str)) = false := by decide) (he : starEach (e :: es) X.env = (false, eval e X.env) :: starEach es X.env := by rfl) (hpl : (backTo pos (starEach es X.env)).any (·.1) = false := by rfl) :
    JE X W (.Call (.Name x p) (e :: es) [] pos) (cMakeL x n f fa) := by
  refine make_any d c hk ha (fun C dvs sp hm e7 F ι mh σ H ds vs Q a dx sr r h n1 n2 ne => ?_) hg hdb he hpl
  split at h
  · rename_i hl
    split at h
    · rename_i es' ef
      split at h
      · rename_i hr
        have h0 : ∀ b, (F b ∧ ¬ ∃ vs, H b = some (.lst vs)) → F b ∧ ¬ ∃ vs, H b = some (.lst vs) := fun b z => z
        have r0 := DVs.own es' _ hr (fzls_A sr h0 ds es' vs r ef)
        have sr0 : SR X.K X.mg (fun b => F b ∧ ¬ ∃ vs, H b = some (.lst vs)) [] [] H := ⟨rfl, List.nodup_nil, fun n o a e => by simp at e, fun a z => by simp at z, fun a z => sr.old a z.1, sr.tabs⟩
        obtain ⟨st, sr2⟩ := made_sr (x := x) sr0 n1 n2 ne hm
        have r2 : DVs X.K X.mg (fun b => (F b ∧ ¬ ∃ vs, H b = some (.lst vs)) ∨ b = a) ([] ++ [a]) (upd (upd H dx (.own a)) a (.ins C dx [])) (.ref 0 :: es') (.ref a :: vs) := .cons (.ref rfl) (DVs.to sr0.sub st _ _ r0)
        refine e7 W σ _ _ _ _ _ (.ref a :: vs) _ (by rw [List.length_cons, ← r.length, hl]) sr2 r2 ?_
        have back : ∀ {F' : Addr → Prop} {ι' : List Addr} {H' : Hp}, Step (fun b => (F b ∧ ¬ ∃ vs, H b = some (.lst vs)) ∨ b = a) ([] ++ [a]) (upd (upd H dx (.own a)) a (.ins C dx [])) F' ι' H' → LamX.Tabs (lamTabs X.K) H' → (SR X.K X.mg F ι mh H' ∧ Step F ι H F ι H') ∧ (∀ a, a ∈ ι' → ¬ F a) ∧ ∀ a, F a → F' a ∨ ∃ vs, H' a = some (.lst vs) := fun {F' ι' H'} st' tb => by
          have st3 := st.trans st'
          have st4 : Step F [] H (fun a => F a ∨ F' a) ι' H' := ⟨st3.pre, fun a z => .inl z, fun a z => z.elim .inl fun y => (st3.new a y).elim (fun w => .inl w.1) .inr, st3.inew, st3.keep, st3.tups, st3.live⟩
          refine ⟨sr.own st4 tb, fun a ha z => ?_, fun a z => ?_⟩
          · rcases st3.inew a ha with q | q
            · simp at q
            · exact sr.old a z q
          · by_cases y : ∃ vs, H a = some (.lst vs)
            · obtain ⟨vs, y⟩ := y
              exact .inr ⟨vs, st3.keep a _ y (by simp) fun _ z => nomatch z⟩
            · exact .inl (st3.up a ⟨z, y⟩)
        change Post _ _ _ _ _ _ _ _ (f (.ref 0 :: es') [.ins x [] []]) _
        revert h
        generalize f (.ref 0 :: es') [.ins x [] []] = o
        intro h
        cases o with
        | ok d m =>
          intro F' ι' H' b st' sr' rb
          obtain ⟨⟨sr3, st3⟩, nf, up⟩ := back st' sr'.tabs
          cases d with
          | non =>
            cases rb
            dsimp only at h
            split at h
            · rename_i d' ed
              have ra : DV X.K X.mg F' ι' H' (.ref 0) (.ref a) := .ref (by
                obtain ⟨t, q⟩ := st'.pre
                rw [← q]; rfl)
              exact ⟨rfl, h F ι H' _ st3 sr3 (fzM_ok sr' nf up 12 _ _ _ ra ed)⟩
            · exact h.elim
          | _ => exact h.elim
        | err c es m =>
          intro F' ι' H' cls dx' st' sr' ev
          obtain ⟨⟨sr3, st3⟩, nf, up⟩ := back st' sr'.tabs
          dsimp only at h
          split at h
          · rename_i es' ee
            exact h F ι H' cls dx' st3 sr3 (errs_ok up (fun d d' v r e => fzM_ok sr' nf up 12 d d' v r e) (fun f => rfl) ev ee)
          · exact h.elim
        | stuck => exact h.elim
      · exact h.elim
    · exact h.elim
  · exact h.elim
end
end G

/-! Part IC: isinstance of instances of own classes. -/
namespace G
open PySem PySem.Spec PyProof.Rows L2
structure InsK (K : PySem.W.Frag) (C : Addr) : Prop where
  cl : Cls K C
  ha : PySem.W.findIn K (.ref C) "__class__" = some (some (.builtin "object.__class__"))
  hn : PySem.W.specialIn K (.builtin "object.__class__") "__get__" = some (some (.builtin "getset_descriptor.__get__"))
  htk : PySem.W.takesIn K (.builtin "object.__class__") = some true
  hm : PySem.W.mroIn K C (.type "object") = some true
def IsN1 (K : PySem.W.Frag) (mg : Str → Option Value) (p : Str × (Str ⊕ String) × Bool) : Prop := isExc p.1 = false ∧ ∃ C, mg p.1 = some (.ref C) ∧ InsK K C ∧ match p.2.1 with
  | .inl x => ∃ T, mg x = some (.ref T) ∧ PySem.W.kitOne K (.ref C) (.ref T) = some p.2.2
  | .inr n => PySem.W.kitOne K (.ref C) (.type n) = some p.2.2
def IsNs (K : PySem.W.Frag) (mg : Str → Option Value) (tab : IsTab) : Prop := ∀ p ∈ tab, IsN1 K mg p
theorem isNs_nil {K : PySem.W.Frag} {mg : Str → Option Value} : IsNs K mg [] := fun _ h => by simp at h
theorem isNs_cons {K : PySem.W.Frag} {mg : Str → Option Value} {p : Str × (Str ⊕ String) × Bool} {tab : IsTab} (h : IsN1 K mg p) (t : IsNs K mg tab) : IsNs K mg (p :: tab) := fun q hq => by
  rcases List.mem_cons.mp hq with e | e
  · rw [e]; exact h
  · exact t q e
theorem isNs_app {K : PySem.W.Frag} {mg : Str → Option Value} {t u : IsTab} (h : IsNs K mg t) (h' : IsNs K mg u) : IsNs K mg (t ++ u) := fun q hq => (List.mem_append.mp hq).elim (h q) (h' q)
theorem isNOne_ok {K : PySem.W.Frag} {mg : Str → Option Value} {F : Addr → Prop} {ι : List Addr} {H : Hp} {c : Str} {t : D} {v : V} {b : Bool} (r : DV K mg F ι H t v) : ∀ tab : IsTab, IsNs K mg tab → isOne tab c t = some b → isExc c = false ∧ ∃ C u, mg c = some (.ref C) ∧ InsK K C ∧ ClsV v u ∧ PySem.W.kitOne K (.ref C) u = some b := by
  intro tab
  induction tab with
  | nil => intro _ e; simp [isOne] at e
  | cons p tab ih =>
    intro hf e
    obtain ⟨c', k, b'⟩ := p
    have hf' : IsNs K mg tab := fun q hq => hf q (List.mem_cons_of_mem _ hq)
    have h1 := hf _ (List.mem_cons_self ..)
    cases k with
    | inl x =>
      unfold isOne at e
      split at e
      · rename_i y
        by_cases q : c' = c ∧ x = y
        · rw [if_pos q] at e
          cases e
          obtain ⟨rfl, rfl⟩ := q
          obtain ⟨h0, C, m, T, T2, m2, kk⟩ := h1
          have ev := dv_glb r m2
          subst ev
          exact ⟨h0, C, _, m, T, .own _, kk⟩
        · rw [if_neg q] at e
          exact ih hf' e
      · exact ih hf' e
    | inr n =>
      unfold isOne at e
      split at e
      · rename_i y
        by_cases q : c' = c ∧ n = y
        · rw [if_pos q] at e
          cases e
          obtain ⟨rfl, rfl⟩ := q
          obtain ⟨h0, C, m, T, kk⟩ := h1
          cases r
          exact ⟨h0, C, _, m, T, .ty _, kk⟩
        · rw [if_neg q] at e
          exact ih hf' e
      · exact ih hf' e
def oIsN (tab : IsTab) (ds : List D) (mh : List O) : Res D := match ds with
  | [d, t] => match objOf mh d with
    | some (c, _, _) => (match isOne tab c t with
      | some b => .ok (.bl b) mh
      | none => .stuck)
    | none => .stuck
  | _ => .stuck
theorem vo_isN {X : Cx} {tab : IsTab} (hf : IsNs X.K X.mg tab) : VOL X (rIsi X.K) (oIsN tab) := by
  intro W σ F ι mh H ds vs Q sr r h
  unfold oIsN at h
  split at h
  · rename_i d t
    split at h
    · rename_i c ns es ho
      split at h
      · rename_i b e
        cases r with
        | cons r1 r2 =>
          cases r2 with
          | cons r2 r3 =>
            cases r3
            obtain ⟨hx, C, u, m, T, cv, kk⟩ := isNOne_ok r2 tab hf e
            obtain ⟨a, C', dx, fs, rfl, ha, m', en, rr⟩ := objOf_ok sr r1 ho hx
            rw [m] at m'
            cases m'
            exact ⟨_, _, _, u, b, rfl, cv, .base (.ins ha T.cl T.ha T.hn T.htk T.hm), kk, h.ok sr (.bl b)⟩
      · exact h.elim
    · exact h.elim
  · exact h.elim
/-! ### calls without arguments -/
section
variable {X : Cx} {W : WX} {k j : Nat} {pos p : Pos} {x : Str} {f : Fn}
theorem j_call0Any {f' : Fn} (d : Def X.prog X.w X.K X.mg X.base j x 0 f) (c : Cc k X W) (hk : j ≤ k)
    (hsp : ∀ (F : Addr → Prop) (ι : List Addr) (mh : List O) (σ : L2.St) (H : Hp) (Q : VK), SR X.K X.mg F ι mh H → Post X.K X.mg (DR X) W σ F ι H (f' [] mh) Q → spG X.K X.mg 0 f [] H Q (WE W σ)) (hg : Gl X x)
    (hdb : (x == ("__debug__" : Str)) = false) : JE X W (.Call (.Name x p) [] [] pos) (fun _ mh => f' [] mh) := by
  obtain ⟨a, fd, ps, m, kp, b, hl, F⟩ := d.ex
  refine ⟨tCallSD (spG X.K X.mg 0 f) [] (WE W) tNil, ⟨fun pins s σ H Q I h => ?_⟩, fun ρ mh F ι σ H Q sr er h => hsp F ι mh σ H Q sr h⟩
  refine wpAny_Call_Name_kw (ld_glob I hg m ?_ hdb)
  exact PySem.W.callWith_K0 I.kIn kp (run_fnSD (us := []) F (c.hr.mono hk) b .nil (passAt c.tk σ) I .nil h)
theorem j_call0 (d : Def X.prog X.w X.K X.mg X.base j x 0 f) (c : Cc k X W) (hk : j ≤ k := by omega) (hg : Gl X x := by rfl) (hdb : (x == ("__debug__" : Str)) = false := by decide) : JE X W (.Call (.Name x p) [] [] pos) (cL (ar 0 f) cNil) :=
  j_call0Any (f' := ar 0 f) d c hk (fun F ι mh σ H Q sr h => sp_call rfl sr .nil (by exact h)) hg hdb
theorem j_callP0 (d : Def X.prog X.w X.K X.mg X.base j x 0 f) (c : Cc k X W) (hk : j ≤ k := by omega) (hg : Gl X x := by rfl) (hdb : (x == ("__debug__" : Str)) = false := by decide) : JE X W (.Call (.Name x p) [] [] pos) (cL (ar 0 (oP f)) cNil) :=
  j_call0Any (f' := ar 0 (oP f)) d c hk (fun F ι mh σ H Q sr h => sp_callP rfl sr .nil (by exact h)) hg hdb
end
end G

/-! Part ID: to reckon with instances in plain Lean. -/
namespace G
open PySem PySem.Spec PyProof.Rows L2
/-- the method of o's class -/
def disp (m : Str) (tab : List (Str × Fn)) (mh : List O) (o : D) : Option Fn := match objOf mh o with
  | some (x, ns, _) => if ns.contains m = true then none else tab.lookup x
  | none => none
def oMeth (n : Nat) (f : Option Fn) (o : D) (ds : List D) (mh : List O) : Res D := match f with
  | some f => if ds.length = n then f (o :: ds) mh else .stuck
  | none => .stuck
theorem cMeth_eq {m : Str} {n : Nat} {tab : List (Str × Fn)} {fo : CE} {fa : CA} {ρ : En} {mh : List O} : cMeth m n tab fo fa ρ mh = (fo ρ mh).bind fun o m1 => match disp m tab m1 o with
    | some f => (fa ρ m1).bind fun ds m2 => if ds.length = n then f (o :: ds) m2 else .stuck
    | none => .stuck := by
  unfold cMeth disp
  cases fo ρ mh with
  | ok o m1 =>
    show (match objOf m1 o with | some (x, ns, _) => _ | none => _) = _
    show _ = (match (match objOf m1 o with | some (x, ns, _) => if ns.contains m = true then none else tab.lookup x | none => none) with | some f => _ | none => _)
    cases objOf m1 o with
    | none => rfl
    | some p =>
      obtain ⟨x, ns, ds⟩ := p
      dsimp only
      by_cases h : ns.contains m = true
      · rw [if_pos h, if_pos h]
      · rw [if_neg h, if_neg h]
        all_goals (cases tab.lookup x <;> rfl)
  | err c ds m => rfl
  | stuck => rfl
theorem cMeth_at {m : Str} {n : Nat} {tab : List (Str × Fn)} {fo : CE} {fa : CA} {ρ : En} {mh m1 m2 : List O} {o : D} {f : Fn} {ds : List D} (ho : fo ρ mh = .ok o m1) (hd : disp m tab m1 o = some f) (ha : fa ρ m1 = .ok ds m2) (hl : ds.length = n) : cMeth m n tab fo fa ρ mh = f (o :: ds) m2 := by
  rw [cMeth_eq, ho, Res.bind_ok, hd]
  dsimp only
  rw [ha, Res.bind_ok, if_pos hl]
def oMakeV (x : Str) (n : Nat) (f : Fn) (ds : List D) (m : List O) : Res D := if ds.length = n ∧ noRefs ds = true then (match f (.ref 0 :: ds) [.ins x [] []] with
  | .ok .non m' => (match fz m' 12 (.ref 0) with
    | some d => .ok d m
    | none => .stuck)
  | .err c es m' => (match fzl (oFz m') es with
    | some es' => .err c es' m
    | none => .stuck)
  | _ => .stuck) else .stuck
@[simp] theorem cMakeV_eq {x : Str} {n : Nat} {f : Fn} {fa : CA} {ρ : En} {mh : List O} : cMakeV x n f fa ρ mh = (fa ρ mh).bind (oMakeV x n f) := rfl
def oMakeL (x : Str) (n : Nat) (f : Fn) (ds : List D) (m : List O) : Res D := if ds.length = n then (match fzl (fzA m 12) ds with
  | some es => if noRefs es = true then (match f (.ref 0 :: es) [.ins x [] []] with
    | .ok .non m' => (match fzM m' 12 (.ref 0) with
      | some d => .ok d m
      | none => .stuck)
    | .err c es m' => (match fzl (fzM m' 12) es with
      | some es' => .err c es' m
      | none => .stuck)
    | _ => .stuck) else .stuck
  | none => .stuck) else .stuck
@[simp] theorem cMakeL_eq {x : Str} {n : Nat} {f : Fn} {fa : CA} {ρ : En} {mh : List O} : cMakeL x n f fa ρ mh = (fa ρ mh).bind (oMakeL x n f) := rfl
theorem makeV_ok {x : Str} {n : Nat} {f : Fn} {ds : List D} {m m' : List O} {d : D} (h : f (.ref 0 :: ds) [.ins x [] []] = .ok .non m') (hz : fz m' 12 (.ref 0) = some d) (hr : noRefs ds = true) (hl : ds.length = n := by rfl) : oMakeV x n f ds m = .ok d m := by
  unfold oMakeV
  rw [if_pos ⟨hl, hr⟩, h]
  dsimp only
  rw [hz]
theorem makeL_ok {x : Str} {n : Nat} {f : Fn} {ds es : List D} {m m' : List O} {d : D} (ha : fzl (fzA m 12) ds = some es) (h : f (.ref 0 :: es) [.ins x [] []] = .ok .non m') (hz : fzM m' 12 (.ref 0) = some d) (hr : noRefs es = true) (hl : ds.length = n := by rfl) : oMakeL x n f ds m = .ok d m := by
  unfold oMakeL
  rw [if_pos hl, ha]
  dsimp only
  rw [if_pos hr, h]
  dsimp only
  rw [hz]
theorem fldI_at {cs : List Str} {f c : Str} {ns : List Str} {ds : List D} {y o : D} {mh : List O} (ho : objOf mh o = some (c, ns, ds)) (hc : c ∈ cs) (hl : look ns ds f = some y) : oFldI cs f o mh = .ok y mh := by
  unfold oFldI
  rw [ho]
  dsimp only
  rw [if_pos hc, hl]
/-- a method in a heap of its own: what it tells, what it raises -/
theorem oP_ok {f : Fn} {ds : List D} {d : D} {mh : List O} (hr : noRefs ds = true) (h : f ds [] = .ok d []) : oP f ds mh = .ok d mh := by
  unfold oP
  rw [if_pos hr, h]
  rfl
theorem oP_err {f : Fn} {ds : List D} {c : Str} {es : List D} {mh : List O} (hr : noRefs ds = true) (h : f ds [] = .err c es []) : oP f ds mh = .err c es mh := by
  unfold oP
  rw [if_pos hr, h]
  have : fzl (oFz []) es = some es := by
    induction es with
    | nil => rfl
    | cons e es ih =>
      have ih' : fzl (oFz []) es = some es := by
        clear h
        clear ih
        induction es with
        | nil => rfl
        | cons e es ih => unfold fzl; rw [ih]; rfl
      unfold fzl
      rw [ih']
      rfl
  dsimp only
  rw [this]
theorem oEq_lit {x y : Str} {b : Bool} {mh : List O} (hx : PyData.strOk x = true) (hy : PyData.strOk y = true) (h : (x == y) = b) : oEq (.str x) (.str y) mh = .ok (.bl b) mh := by
  have h1 : toP mh 12 (.str x) = some (.str x) := if_pos hx
  have h2 : toP mh 12 (.str y) = some (.str y) := if_pos hy
  unfold oEq
  rw [h1, h2]
  show Res.ok (D.bl (x == y)) mh = _
  rw [h]
theorem oNe_lit {x y : Str} {b : Bool} {mh : List O} (hx : PyData.strOk x = true) (hy : PyData.strOk y = true) (h : (x == y) = b) : oNe (.str x) (.str y) mh = .ok (.bl (!b)) mh := by
  have h1 : toP mh 12 (.str x) = some (.str x) := if_pos hx
  have h2 : toP mh 12 (.str y) = some (.str y) := if_pos hy
  unfold oNe
  rw [h1, h2]
  show Res.ok (D.bl (!(x == y))) mh = _
  rw [h]
end G

/-! Part IE: a text times an int; list(d) of a dict; d.values(), d.items() in a comprehension, d a dict in a slot or in a field of an object in a slot. -/
namespace G
open PySem PySem.Spec PyProof.Rows L2
/-! ### a text times an int -/
def strRep (x : Str) (n : Nat) : Str := ⟨(List.replicate n x.cps).foldl (· ++ ·) #[]⟩
theorem foldl_app_size (c : Array Nat) : ∀ (n : Nat) (acc : Array Nat), ((List.replicate n c).foldl (· ++ ·) acc).size = acc.size + n * c.size
  | 0, acc => by simp
  | n + 1, acc => by
    rw [List.replicate_succ, List.foldl_cons, foldl_app_size c n (acc ++ c), Array.size_append, Nat.succ_mul]
    omega
theorem foldl_app_list (c : Array Nat) : ∀ (n : Nat) (acc : Array Nat), ((List.replicate n c).foldl (· ++ ·) acc).toList = acc.toList ++ (List.replicate n c.toList).flatten
  | 0, acc => by simp
  | n + 1, acc => by
    rw [List.replicate_succ, List.foldl_cons, foldl_app_list c n (acc ++ c), Array.toList_append, List.replicate_succ, List.flatten_cons, List.append_assoc]
def mulSOk (a : Str) (n : Nat) : Prop := 1 ≤ n ∧ n ≤ 1000 ∧ 0 < a.length ∧ a.length ≤ 1000
instance (a : Str) (n : Nat) : Decidable (mulSOk a n) := by unfold mulSOk; infer_instance
def rMulS : R2 := fun x y H Q => ∃ (a : Str) (n : Nat), x = .str a ∧ y = .int n ∧ mulSOk a n ∧ Q (.str (strRep a n)) H
section
variable {X : Cx} {W : WX} {k : Nat} {pos : Pos}
theorem strRep_one (a : Str) : strRep a 1 = a := by
  unfold strRep
  show (⟨#[] ++ a.cps⟩ : Str) = a
  rw [Array.empty_append]
theorem op_mulS : OpR X (binaryOp .Mult) rMulS := by
  intro pins s σ H x y v u Q I rx ry h
  obtain ⟨a, n, rfl, rfl, ⟨h1, h2, h3, h4⟩, q⟩ := h
  obtain ⟨t, rfl⟩ := (show ∃ t, v = Value.str a t from rx)
  obtain ⟨t', rfl⟩ := (show ∃ t, u = Value.int ((n : Nat) : Int) t from ry)
  have hl : a.length * n ≤ 1000 * 1000 := Nat.mul_le_mul h4 h2
  have en : ((n : Nat) : Int).toNat = n := by omega
  refine P.mul_str (by rw [Bool.or_eq_false_iff]; exact ⟨decide_eq_false (by omega), decide_eq_false (by omega)⟩) (fun _ _ => ?_) (fun _ _ => ?_) ?_
  · have : (2 ^ 63 - 1) / (n : Int) ≥ 1000 := by
      refine Int.le_ediv_of_mul_le (by omega) ?_
      have : (1000 : Int) * (n : Int) ≤ 1000 * 1000 := by omega
      omega
    omega
  · show decide (a.length * ((n : Nat) : Int).toNat > sizeLine) = false
    rw [en]
    refine decide_eq_false ?_
    unfold sizeLine
    omega
  · rw [if_neg (by omega)]
    by_cases z : n = 1
    · subst z
      rw [show ((((1 : Nat) : Int) == 1) || a.length == 0) = true from rfl, if_pos rfl]
      rw [strRep_one] at q
      exact ⟨.str _, H, I, ⟨_, rfl⟩, q⟩
    · have e1 : (((n : Nat) : Int) == 1 || a.length == 0) = false := by
        rw [Bool.or_eq_false_iff]
        exact ⟨beq_eq_false_iff_ne.mpr (by omega), beq_eq_false_iff_ne.mpr (by omega)⟩
      rw [e1]
      show Made.post (.str (strRep a ((n : Nat) : Int).toNat)) _ _
      rw [en]
      refine ⟨?_, .str _, H, I.tok _, ⟨_, rfl⟩, q⟩
      show (strRep a n).cps.size ≤ sizeLine
      unfold strRep
      rw [foldl_app_size]
      have : n * a.cps.size ≤ 1000 * 1000 := Nat.mul_le_mul h2 h4
      unfold sizeLine
      simp only [List.size_toArray, List.length_nil]
      omega
def oMulS (d e : D) (mh : List O) : Res D := match d, e with
  | .str a, .int i => if 0 ≤ i ∧ mulSOk a i.toNat then .ok (.str (strRep a i.toNat)) mh else .stuck
  | _, _ => .stuck
theorem vo_mulS : VO2 X rMulS oMulS := by
  intro W σ F ι mh H d e v u Q sr r1 r2 h
  unfold oMulS at h
  split at h
  · split at h
    · rename_i hm
      cases r1; cases r2
      exact ⟨_, _, rfl, by rw [show ((_ : Int).toNat : Int) = _ from Int.toNat_of_nonneg hm.1], hm.2, h.ok sr (.str _)⟩
    · exact h.elim
  · exact h.elim
/-! ### list(d) -/
def oListD (w : Bool) (ds : List D) (mh : List O) : Res D := match ds with
  | [d] => (match dicOf mh d with
    | some (ks, _) => oLw w (ks.map dKey) mh
    | none => .stuck)
  | _ => .stuck
theorem vo_listD {X : Cx} (w : Bool) : VOL X (fun xs H Q => ∃ (a : Addr) (kvs : List (Key × V)), xs = [.ref a] ∧ Rd H a (.dK kvs) ∧ ∀ p, H p = none → Q (.ref p) (upd H p (.lst (kvs.map fun kv => kV kv.1)))) (oListD w) := by
  intro W σ F ι mh H ds vs Q sr r h
  unfold oListD at h
  split at h
  · split at h
    · rename_i ks es e
      cases r with
      | cons r1 r2 =>
        cases r2
        obtain ⟨p, kvs, rfl, hH, hk, rr⟩ := dicOf_ok sr r1 e
        subst hk
        refine ⟨p, kvs, rfl, hH, ?_⟩
        have rx : DVs X.K X.mg F ι H ((kvs.map (·.1)).map dKey) (kvs.map fun kv => kV kv.1) := by
          clear rr h hH e
          induction kvs with
          | nil => exact .nil
          | cons kv kvs ih => exact .cons (dKey_ok _) ih
        exact (post_lw sr rx h).2
    · exact h.elim
  · exact h.elim
end
/-! ### dicts that stand in a slot or in a field -/
abbrev CK := En → List O → Option (List Key × List D)
/-- the path e to a dict -/
structure DPath (X : Cx) (e : Expr) (dk : CK) : Prop where
  ex : ∃ (td : TE) (At : Addr → L2.St → Hp → Prop), PE X e td ∧ (∀ d σ H Q, At d σ H → Q (.ref d) H → td σ H Q) ∧ (∀ d d' σ H, At d σ H → At d' σ H → d = d') ∧
    ∀ ρ mh F ι σ H ks es, SR X.K X.mg F ι mh H → ER X.K X.mg F ι H ρ σ → dk ρ mh = some (ks, es) → ∃ d kvs, At d σ H ∧ Rd H d (.dK kvs) ∧ ¬ F d ∧ kvs.map (·.1) = ks ∧ DVs X.K X.mg F ι H es (kvs.map (·.2)) ∧ ∀ H2, Lk d kvs H H2 → At d σ H2
def kVar (i : Nat) : CK := fun ρ _ => match ρ[i]? with
  | some (some (.dic ks es)) => some (ks, es)
  | _ => none
def kFld (cs : List Str) (i : Nat) (f : Str) : CK := fun ρ mh => match ρ[i]? with
  | some (some o) => (match objOf mh o with
    | some (x, ns, ds) => if x ∈ cs then (match look ns ds f with
      | some (.dic ks es) => some (ks, es)
      | _ => none) else none
    | none => none)
  | _ => none
def cLockK (dk : CK) (f : CE) : CE := fun ρ mh => match dk ρ mh with
  | some _ => (match f ρ mh with
    | .ok a m => .ok a m
    | _ => .stuck)
  | none => .stuck
def kKeys (dk : CK) : CI := fun ρ mh => match dk ρ mh with
  | some (ks, _) => .ok (ks.map dKey, none) mh
  | none => .stuck
def kVals (dk : CK) : CI := fun ρ mh => match dk ρ mh with
  | some (_, es) => .ok (es, none) mh
  | none => .stuck
def zipKD : List Key → List D → List D
  | k :: ks, d :: ds => .tup [dKey k, d] :: zipKD ks ds
  | _, _ => []
def kItems (dk : CK) : CI := fun ρ mh => match dk ρ mh with
  | some (ks, es) => .ok (zipKD ks es, none) mh
  | none => .stuck
section
variable {X : Cx} {W : WX} {k : Nat} {pos : Pos}
theorem dp_var {i : Nat} {x : Str} (hN : X.N[i]? = some x := by rfl) (hv : Vis X.env.scope x := by first | exact Or.inl rfl | exact Or.inr (Or.inl rfl) | exact Or.inr (Or.inr rfl)) (hd : (x == ("__debug__" : Str)) = false := by decide)
    (hcd : (x == ("__classdict__" : Str)) = false := by decide) {p1 : Pos} : DPath X (.Name x p1) (kVar i) := by
  refine ⟨tVar i, fun d σ H => σ[i]? = some (some (.ref d)), pe_var hN hv hd hcd, fun d σ H Q h q => ⟨_, h, q⟩, fun d d' σ H h h' => by have h : σ[i]? = _ := h; have h' : σ[i]? = _ := h'; rw [h] at h'; cases h'; rfl, fun ρ mh F ι σ H ks es sr er h => ?_⟩
  unfold kVar at h
  split at h
  · rename_i ks' es' ei
    cases h
    obtain ⟨v, ev, rv⟩ := er.2 i _ ei
    cases rv with
    | @dic d _ _ kvs hd nF ek rr => exact ⟨d, kvs, ev, hd, nF, ek, rr, fun _ _ => ev⟩
  · cases h
theorem dp_fld {cs : List Str} {f : Str} (T : FldI X.K X.mg f cs) {i : Nat} {x : Str} {p1 p2 : Pos} (hN : X.N[i]? = some x := by rfl) (hv : Vis X.env.scope x := by first | exact Or.inl rfl | exact Or.inr (Or.inl rfl) | exact Or.inr (Or.inr rfl)) (hd : (x == ("__debug__" : Str)) = false := by decide)
    (hcd : (x == ("__classdict__" : Str)) = false := by decide) (hb : attributeBase (.Name x p1) f X.env (eval (.Name x p1) X.env) = eval (.Name x p1) X.env := by rfl) : DPath X (.Attribute (.Name x p1) f p2) (kFld cs i f) := by
  refine ⟨tFld X.K (tVar i) f, fun d σ H => ∃ a C dx fs, σ[i]? = some (some (.ref a)) ∧ H a = some (.ins C dx fs) ∧ Cls X.K C ∧ NoAttr X.K C f ∧ fs.lookup f = some (.ref d), pe_fld (pe_var hN hv hd hcd) hb, fun d σ H Q h q => ?_, fun d d' σ H h h' => ?_, fun ρ mh F ι σ H ks es sr er h => ?_⟩
  · obtain ⟨a, C, dx, fs, h1, h2, h3, h4, h5⟩ := h
    exact ⟨_, h1, a, C, dx, fs, _, rfl, h2, h3, h4, h5, q⟩
  · obtain ⟨a, C, dx, fs, h1, h2, h3, h4, h5⟩ := h
    obtain ⟨a', C', dx', fs', g1, g2, g3, g4, g5⟩ := h'
    rw [h1] at g1; cases g1
    rw [h2] at g2; cases g2
    rw [h5] at g5; cases g5
    rfl
  · unfold kFld at h
    split at h
    · rename_i o eo
      split at h
      · rename_i xn ns ds ho
        split at h
        · rename_i hc
          obtain ⟨hx, C, m, cl, na⟩ := T.all _ hc
          split at h
          · rename_i ks' es' hy
            cases h
            obtain ⟨u, eu, ru⟩ := er.2 i _ eo
            obtain ⟨a, C', dx, fs, rfl, ha, m', en, rr⟩ := objOf_ok sr ru ho hx
            rw [m] at m'
            cases m'
            obtain ⟨v, hv, rv⟩ := look_ok en rr hy
            cases rv with
            | @dic d _ _ kvs hd nF ek rr =>
              exact ⟨d, kvs, ⟨a, C, dx, fs, eu, ha, cl, na, hv⟩, hd, nF, ek, rr, fun H2 L => ⟨a, C, dx, fs, eu, (L.same a (L.ne ha (fun _ z => nomatch z) fun _ _ z => nomatch z)).trans ha, cl, na, hv⟩⟩
          · cases h
        · cases h
      · cases h
    · cases h
/-- run t while the dict at d is locked -/
theorem lock_run {F : Addr → Prop} {ι : List Addr} {σ : L2.St} {H : Hp} {mh m : List O} {ρ : En} {a : D} {d : Addr} {kvs : List (Key × V)} {t : TE} {Q : VK} (sr : SR X.K X.mg F ι mh H) (er : ER X.K X.mg F ι H ρ σ) (hd : Rd H d (.dK kvs)) (nF : ¬ F d)
    (hp : Post X.K X.mg (DR X) W σ F ι H (.ok a m) Q)
    (q : ∀ H2 o, Lk d kvs H H2 → H2 d = some (.frz o (.dK kvs)) → SR X.K X.mg F ι mh H2 → ER X.K X.mg F ι H2 ρ σ → ∀ Q', Post X.K X.mg (DR X) W σ F ι H2 (.ok a m) Q' → t σ H2 Q') : tLockE t σ H Q ∨ t σ H Q := by
  rcases hd with hd | ⟨o, hd⟩
  · refine .inl ⟨d, .dK kvs, hd, trivial, fun od => ?_⟩
    have L : Lk d kvs H (upd H d (.frz od (.dK kvs))) := ⟨fun a na => upd_ne na, .inl hd, .inr ⟨od, upd_same⟩⟩
    have nι : d ∉ ι := fun z => nF (sr.sub d z)
    refine q _ od L upd_same (sr.lk L nF (tabs_upd sr.tabs hd fun _ _ => ⟨(fun z => nomatch z), fun z => nomatch z⟩)) (er.lk L) _ ?_
    intro F1 ι1 H1 b st1 sr1 rb
    have hl : (upd H d (.frz od (.dK kvs))) d = some (.frz od (.dK kvs)) := upd_same
    have h1 : H1 d = some (.frz od (.dK kvs)) := st1.keep d _ hl nι fun _ z => nomatch z
    have L1 : Lk d kvs H1 (upd H1 d (.dK kvs)) := ⟨fun a na => upd_ne na, .inr ⟨od, h1⟩, .inl upd_same⟩
    have nF1 : ¬ F1 d := fun z => (st1.new d z).elim nF fun y => by rw [hl] at y; cases y
    have lv : ∀ a, upd H d (.frz od (.dK kvs)) a = none → H a = none := fun a z => by
      by_cases y : a = d
      · rw [y, hl] at z; cases z
      · rw [upd_ne y] at z; exact z
    refine ⟨h1, hp F1 ι1 _ b ⟨st1.pre, st1.up, fun a z => (st1.new a z).imp_right (lv a), fun a z => (st1.inew a z).imp_right (lv a), fun a u e n nt => ?_, fun a vs r => ?_, fun a u e => ?_⟩
      (sr1.lk L1 nF1 (tabs_upd sr1.tabs h1 fun _ _ => ⟨(fun z => nomatch z), fun z => nomatch z⟩)) (DV.lk L1 _ _ rb)⟩
    · by_cases y : a = d
      · subst y
        rw [hd] at e
        cases e
        exact upd_same
      · rw [upd_ne y]
        exact st1.keep a u (by rw [upd_ne y]; exact e) n nt
    · exact L1.rd_to (st1.tups a vs (L.rd_to r (fun _ z => nomatch z) fun _ _ z => nomatch z)) (fun _ z => nomatch z) fun _ _ z => nomatch z
    · by_cases y : a = d
      · exact ⟨_, by rw [y]; exact upd_same⟩
      · obtain ⟨u', e'⟩ := st1.live a u (by rw [upd_ne y]; exact e)
        exact ⟨u', by rw [upd_ne y]; exact e'⟩
  · exact .inr (q H o ⟨fun _ _ => rfl, .inr ⟨o, hd⟩, .inr ⟨o, hd⟩⟩ hd sr er _ hp)
section
variable {F : Addr → Prop} {ι : List Addr} {σ : L2.St} {H : Hp} {mh : List O} {d : Addr} {o : Obj} {kvs : List (Key × V)} {ks : List Key} {es : List D}
theorem ri_keys (sr : SR X.K X.mg F ι mh H) (hd : H d = some (.frz o (.dK kvs))) (nι : d ∉ ι) (ek : kvs.map (·.1) = ks) : RI X F ι H (ks.map dKey, none) (Itk d o kvs) := by
  intro F' ι' H' mh' st sr' gd j
  have h' : H' d = some (.frz o (.dK kvs)) := st.keep d _ hd nι fun _ z => nomatch z
  have hl : (ks.map dKey).length = kvs.length := by rw [← ek, List.length_map, List.length_map]
  refine ⟨fun x hx => ?_, fun hj => ⟨h', by show kvs.length ≤ j; rw [← hl]; exact hj⟩⟩
  rw [← ek, List.map_map, List.getElem?_map] at hx
  obtain ⟨kv, e1, e2⟩ := Option.map_eq_some_iff.mp hx
  refine ⟨⟨h', (List.getElem?_eq_some_iff.mp e1).1⟩, fun y H2 ⟨e3, k', v', e4, e5⟩ => ?_⟩
  subst e3 e5
  rw [e1] at e4
  cases e4
  refine ⟨fun _ _ z => z, ?_⟩
  rw [← e2]
  exact dKey_ok _
theorem ri_vals (sr : SR X.K X.mg F ι mh H) (hd : H d = some (.frz o (.dK kvs))) (nι : d ∉ ι) (rr : DVs X.K X.mg F ι H es (kvs.map (·.2))) : RI X F ι H (es, none) (Itd d o kvs) := by
  intro F' ι' H' mh' st sr' gd j
  have h' : H' d = some (.frz o (.dK kvs)) := st.keep d _ hd nι fun _ z => nomatch z
  have hl : es.length = kvs.length := by rw [rr.length, List.length_map]
  refine ⟨fun x hx => ?_, fun hj => ⟨h', by show kvs.length ≤ j; rw [← hl]; exact hj⟩⟩
  have hj : j < kvs.length := by rw [← hl]; exact (List.getElem?_eq_some_iff.mp hx).1
  refine ⟨⟨h', hj⟩, fun y H2 ⟨e3, k', e4⟩ => ?_⟩
  subst e3
  refine ⟨fun _ _ z => z, ?_⟩
  obtain ⟨v, e5, r5⟩ := (DVs.to sr.sub st _ _ rr).get hx
  rw [List.getElem?_map, e4] at e5
  cases e5
  exact r5
theorem zipKD_get : ∀ {ks : List Key} {es : List D} {j : Nat} {x : D}, (zipKD ks es)[j]? = some x → ∃ k d, ks[j]? = some k ∧ es[j]? = some d ∧ x = .tup [dKey k, d]
  | [], _, j, x, h => by simp [zipKD] at h
  | k :: ks, [], j, x, h => by simp [zipKD] at h
  | k :: ks, d :: es, 0, x, h => by
    simp [zipKD] at h
    exact ⟨k, d, rfl, rfl, h.symm⟩
  | k :: ks, d :: es, j + 1, x, h => by
    obtain ⟨k', d', h1, h2, h3⟩ := zipKD_get (ks := ks) (es := es) (j := j) (by simpa [zipKD] using h)
    exact ⟨k', d', by simpa using h1, by simpa using h2, h3⟩
theorem zipKD_len : ∀ {ks : List Key} {es : List D}, ks.length = es.length → (zipKD ks es).length = ks.length
  | [], [], _ => rfl
  | [], _ :: _, h => by simp at h
  | _ :: _, [], h => by simp at h
  | k :: ks, d :: es, h => by
    unfold zipKD
    rw [List.length_cons, List.length_cons, zipKD_len (by simpa using h)]
theorem ri_items (sr : SR X.K X.mg F ι mh H) (hd : H d = some (.frz o (.dK kvs))) (nι : d ∉ ι) (ek : kvs.map (·.1) = ks) (rr : DVs X.K X.mg F ι H es (kvs.map (·.2))) : RI X F ι H (zipKD ks es, none) (Iti d o kvs) := by
  intro F' ι' H' mh' st sr' gd j
  have h' : H' d = some (.frz o (.dK kvs)) := st.keep d _ hd nι fun _ z => nomatch z
  have hk : ks.length = kvs.length := by rw [← ek, List.length_map]
  have he : es.length = kvs.length := by rw [rr.length, List.length_map]
  have hl : (zipKD ks es).length = kvs.length := by rw [zipKD_len (by omega), hk]
  refine ⟨fun x hx => ?_, fun hj => ⟨h', by show kvs.length ≤ j; rw [← hl]; exact hj⟩⟩
  have hj : j < kvs.length := by rw [← hl]; exact (List.getElem?_eq_some_iff.mp hx).1
  obtain ⟨k', d', g1, g2, rfl⟩ := zipKD_get hx
  refine ⟨⟨h', hj⟩, fun y H2 e3 => ?_⟩
  obtain ⟨T, k2, v2, e4, rfl, hT, rfl⟩ := e3
  have st2 : Step F' ι' H' F' ι' (upd H' T (.tup [kV k2, v2])) := step_new hT
  obtain ⟨v, e5, r5⟩ := (DVs.to sr.sub st _ _ rr).get g2
  rw [List.getElem?_map, e4] at e5
  cases e5
  rw [← ek, List.getElem?_map, e4] at g1
  cases g1
  exact ⟨fun b o z => by rw [upd_ne (ne_of_none z hT)]; exact z, .tup (.inl upd_same) (.cons (dKey_ok _) (.cons (DV.to sr'.sub st2 _ _ r5) .nil))⟩
end
section
variable {e elt tg : Expr} {ifs : List Expr} {scope : Scope} {own : List (Str × Nat)} {ix : List Nat} {fg : CG} {ft : CT} {fe : CE} {dk : CK} {apos cpos : Pos}
/-- what a comprehension over a locked dict comes to -/
theorem lcK_core {iter : Expr} {ci : CI} {wi : TI} {At : Addr → L2.St → Hp → Prop} (c : Cc k X W) (w : Bool) (ok : BlkOk X.N X.env.scope scope own) (pi : PI X tg iter wi)
    (hdk : ∀ ρ mh F ι σ H ks es, SR X.K X.mg F ι mh H → ER X.K X.mg F ι H ρ σ → dk ρ mh = some (ks, es) → ∃ d kvs, At d σ H ∧ Rd H d (.dK kvs) ∧ ¬ F d ∧ kvs.map (·.1) = ks ∧ DVs X.K X.mg F ι H es (kvs.map (·.2)) ∧ ∀ H2, Lk d kvs H H2 → At d σ H2)
    (hci : ∀ ρ mh F ι σ H R d o kvs, SR X.K X.mg F ι mh H → ER X.K X.mg F ι H ρ σ → At d σ H → H d = some (.frz o (.dK kvs)) → Post X.K X.mg (RI X) W σ F ι H (ci ρ mh) R → wi σ H R)
    (hg : ∀ (s : Shared) (H : Hp) (C : Addr) (cl : List (Str × Addr)) (fp : List Addr), Cc k (X.blk s H scope (compEnvC scope cl C X.env) fp) W0 → JG (X.blk s H scope (compEnvC scope cl C X.env) fp) W0 tg ix fg)
    (ht : ∀ (s : Shared) (H : Hp) (C : Addr) (cl : List (Str × Addr)) (fp : List Addr), Cc k (X.blk s H scope (compEnvC scope cl C X.env) fp) W0 → JTs (X.blk s H scope (compEnvC scope cl C X.env) fp) W0 ifs ft)
    (he : ∀ (s : Shared) (H : Hp) (C : Addr) (cl : List (Str × Addr)) (fp : List Addr), Cc k (X.blk s H scope (compEnvC scope cl C X.env) fp) W0 → JE (X.blk s H scope (compEnvC scope cl C X.env) fp) W0 elt fe)
    (hix : ∀ i ∈ ix, i ∈ own.map (·.2)) (hs : ∀ y, foldedSetIterable iter X.env y = pure y) :
    JE X W (.ListComp elt [⟨tg, iter, ifs, 0⟩] scope pos) (cLockK dk (cLcX w ci fg ft fe (own.map (·.2)))) := by
  have og := (hg {} (fun _ => none) 0 [] [] c.blk).only
  have pl := pe_lc (pos := pos) (g := canG X ix fg) (tt := canT X W0 ft) (te := canE X W0 fe) c.calm c.nd pi ok (fun s H C cl fp => (hg s H C cl fp c.blk).can) (fun s H C cl fp => (ht s H C cl fp c.blk).can) (fun s H C cl fp => (he s H C cl fp c.blk).can) hs
  refine ⟨fun σ H Q => tLockE _ σ H Q ∨ _, ⟨fun pins s σ H Q I z => z.elim ((pe_lock pl).run pins s σ H Q I) (pl.run pins s σ H Q I)⟩, fun ρ mh F ι σ H Q sr er hp => ?_⟩
  unfold cLockK at hp
  split at hp
  · rename_i kd ekd
    obtain ⟨ks, es⟩ := kd
    obtain ⟨d, kvs, hat, hd, nF, ek, rr, hL⟩ := hdk ρ mh F ι σ H ks es sr er ekd
    split at hp
    · rename_i a m ef
      refine lock_run sr er hd nF hp fun H2 o L h2 sr2 er2 Q' hp2 => ?_
      rw [← ef] at hp2
      have := lcx (X := X) (W := W) (ix := ix) (fi := ci) (fg := fg) (ft := ft) (fe := fe) (w := w) (wi := fun σ H R => (At d σ H ∧ H d = some (.frz o (.dK kvs))) → wi σ H R) (fun ρ mh F ι σ H R sr er hp lk => hci ρ mh F ι σ H R d o kvs sr er lk.1 lk.2 hp) og hix sr2 er2 hp2
      exact this ⟨hL _ L, h2⟩
    · exact hp.elim
  · exact hp.elim
theorem j_lcVals (D : DPath X e dk) (c : Cc k X W) (w : Bool) (ok : BlkOk X.N X.env.scope scope own)
    (hg : ∀ (s : Shared) (H : Hp) (C : Addr) (cl : List (Str × Addr)) (fp : List Addr), Cc k (X.blk s H scope (compEnvC scope cl C X.env) fp) W0 → JG (X.blk s H scope (compEnvC scope cl C X.env) fp) W0 tg ix fg)
    (ht : ∀ (s : Shared) (H : Hp) (C : Addr) (cl : List (Str × Addr)) (fp : List Addr), Cc k (X.blk s H scope (compEnvC scope cl C X.env) fp) W0 → JTs (X.blk s H scope (compEnvC scope cl C X.env) fp) W0 ifs ft)
    (he : ∀ (s : Shared) (H : Hp) (C : Addr) (cl : List (Str × Addr)) (fp : List Addr), Cc k (X.blk s H scope (compEnvC scope cl C X.env) fp) W0 → JE (X.blk s H scope (compEnvC scope cl C X.env) fp) W0 elt fe)
    (hbase : attributeBase e "values" X.env (eval e X.env) = eval e X.env := by rfl) (hline : (apos.endLine == cpos.line) = true := by rfl)
    (hix : ∀ i ∈ ix, i ∈ own.map (·.2) := by decide) (hs : ∀ y, foldedSetIterable (.Call (.Attribute e "values" apos) [] [] cpos) X.env y = pure y := by intro _; rfl) :
    JE X W (.ListComp elt [⟨tg, .Call (.Attribute e "values" apos) [] [] cpos, ifs, 0⟩] scope pos) (cLockK dk (cLcX w (kVals dk) fg ft fe (own.map (·.2)))) := by
  obtain ⟨td, At, pe, ht1, hu, hdk⟩ := D.ex
  refine lcK_core c w ok (pi_values pe hbase hline) hdk (fun ρ mh F ι σ H R d o kvs sr er hat hd h => ?_) hg ht he hix hs
  unfold kVals at h
  split at h
  · rename_i ks es e1
    obtain ⟨d', kvs', hat', hd', nF, ek, rr, _⟩ := hdk ρ mh F ι σ H ks es sr er e1
    obtain rfl := hu _ _ _ _ hat hat'
    have : kvs' = kvs := by
      rcases hd' with z | ⟨o2, z⟩ <;> rw [hd] at z <;> cases z <;> rfl
    subst this
    exact ht1 _ _ _ _ hat ⟨d, o, kvs', rfl, hd, h.ok sr (ri_vals sr hd (fun z => nF (sr.sub d z)) rr)⟩
  · exact h.elim
theorem j_lcItems {elts : List Expr} {kk : Nat} {tpos : Pos} (D : DPath X e dk) (c : Cc k X W) (w : Bool) (ok : BlkOk X.N X.env.scope scope own)
    (hg : ∀ (s : Shared) (H : Hp) (C : Addr) (cl : List (Str × Addr)) (fp : List Addr), Cc k (X.blk s H scope (compEnvC scope cl C X.env) fp) W0 → JG (X.blk s H scope (compEnvC scope cl C X.env) fp) W0 (.Tuple elts kk tpos) ix fg)
    (ht : ∀ (s : Shared) (H : Hp) (C : Addr) (cl : List (Str × Addr)) (fp : List Addr), Cc k (X.blk s H scope (compEnvC scope cl C X.env) fp) W0 → JTs (X.blk s H scope (compEnvC scope cl C X.env) fp) W0 ifs ft)
    (he : ∀ (s : Shared) (H : Hp) (C : Addr) (cl : List (Str × Addr)) (fp : List Addr), Cc k (X.blk s H scope (compEnvC scope cl C X.env) fp) W0 → JE (X.blk s H scope (compEnvC scope cl C X.env) fp) W0 elt fe)
    (hbase : attributeBase e "items" X.env (eval e X.env) = eval e X.env := by rfl) (hline : (apos.endLine == cpos.line) = true := by rfl)
    (hix : ∀ i ∈ ix, i ∈ own.map (·.2) := by decide) (hs : ∀ y, foldedSetIterable (.Call (.Attribute e "items" apos) [] [] cpos) X.env y = pure y := by intro _; rfl) :
    JE X W (.ListComp elt [⟨.Tuple elts kk tpos, .Call (.Attribute e "items" apos) [] [] cpos, ifs, 0⟩] scope pos) (cLockK dk (cLcX w (kItems dk) fg ft fe (own.map (·.2)))) := by
  obtain ⟨td, At, pe, ht1, hu, hdk⟩ := D.ex
  refine lcK_core c w ok (pi_items pe hbase hline) hdk (fun ρ mh F ι σ H R d o kvs sr er hat hd h => ?_) hg ht he hix hs
  unfold kItems at h
  split at h
  · rename_i ks es e1
    obtain ⟨d', kvs', hat', hd', nF, ek, rr, _⟩ := hdk ρ mh F ι σ H ks es sr er e1
    obtain rfl := hu _ _ _ _ hat hat'
    have : kvs' = kvs := by
      rcases hd' with z | ⟨o2, z⟩ <;> rw [hd] at z <;> cases z <;> rfl
    subst this
    exact ht1 _ _ _ _ hat ⟨d, o, kvs', rfl, hd, h.ok sr (ri_items sr hd (fun z => nF (sr.sub d z)) ek rr)⟩
  · exact h.elim
end
end
end G


/-! Part IF: several except clauses, each with a name or without. -/
namespace G
open PySem PySem.Spec PyProof.Rows L2
abbrev HdK := Value × Option Nat × (Addr → TS)
def endK (o : Option Nat) (D : Ends) : Ends := match o with
  | some i => { nx := fun σ' H' => D.nx (σ'.set i none) H', rt := D.rt, bk := fun σ' H' => D.bk (σ'.set i none) H', ct := fun σ' H' => D.ct (σ'.set i none) H' }
  | none => D
def slotK (o : Option Nat) (σ : L2.St) (a : Addr) : L2.St := match o with
  | some i => σ.set i (some (.ref a))
  | none => σ
def wKpM (K : PySem.W.Frag) (Wout : WX) (D : Ends) : List HdK → WX
  | [] => Wout
  | (c, o, ts) :: r => fun cls d σ H => ∃ b C, cls = .ref C ∧ PySem.W.exmOne K cls c = some b ∧ (b = true → ∀ a, H a = none → ts a (endK o D) (slotK o σ a) (upd H a (xob a C d))) ∧ (b = false → wKpM K Wout D r cls d σ H)
inductive HdsK (X : Cx) : List ExceptHandler → List HdK → Prop
  | nil : HdsK X [] []
  | named {x n : Str} {i : Nat} {c : Value} {ts : Addr → TS} {b₀ : Stmt} {suite : List Stmt} {np pos' : Pos} {hds : List ExceptHandler} {l : List HdK} (hc : Names X x c) (hi : X.N[i]? = some n) (hln : X.env.kindOf n = some .local)
      (hsu : ∀ (a : Addr) (pn : List (Addr × Obj)), PSs (X.suite a pn) (b₀ :: suite) (ts a)) (r : HdsK X hds l) : HdsK X (.ExceptHandler (some (.Name x np)) (some n) (b₀ :: suite) pos' :: hds) ((c, some i, ts) :: l)
  | plain {x : Str} {c : Value} {ts : Addr → TS} {b₀ : Stmt} {suite : List Stmt} {np pos' : Pos} {hds : List ExceptHandler} {l : List HdK} (hc : Names X x c)
      (hsu : ∀ (a : Addr) (pn : List (Addr × Obj)), PSs (X.suite a pn) (b₀ :: suite) (ts a)) (r : HdsK X hds l) : HdsK X (.ExceptHandler (some (.Name x np)) none (b₀ :: suite) pos' :: hds) ((c, none, ts) :: l)
section
variable {X : Cx} {body : List Stmt} {h₀ : ExceptHandler} {hds : List ExceptHandler} {l : List HdK} {pos : Pos} {tb : WX → TS} {Wout : WX}
theorem ps_try_keepM (hs : X.stack = X.env :: X.outer) (hf : X.env.frame = some X.env.locals) (hex : X.ex = []) (hN : X.N.Nodup) (tk : Takes X Wout)
    (hb : ∀ (W : WX) (pn : List (Addr × Obj)) (xe : Value → Shared → Prop), Takes (X.tr pn xe) W → PassesOwn (model X.prog X.w) X.A X.env xe → PSs (X.tr pn xe) body (tb W))
    (hh : HdsK X (h₀ :: hds) l) : PS X (.Try body (h₀ :: hds) [] [] pos) (fun D σ H => tb (wKpM X.K Wout D l) D σ H) := by
  refine ⟨fun pins s σ H D I h => ?_⟩
  have ok := I.ok
  have hfr : X.A.frames = some (X.env :: X.outer) := by rw [ok.frames, hs]
  refine wpAny_Try_except ?_
  refine wpAny_mono ((hb (wKpM X.K Wout D l) (X.pn ++ pins) (fun e s₁ => wpAny (model X.prog X.w) X.A (noteFrame e X.env) (fun _ s₂ => wpAny (model X.prog X.w) X.A (setFlight e none) (fun _ s₃ =>
    wpAny (model X.prog X.w) X.A (handleBy e X.env (h₀ :: hds)) (SP X pins D) X.xe s₃) X.xe s₂) X.xe s₁) (fun u s' xx => ?_) PassesOwn.looking).run [] s σ H D (I.toTry _) h) (fun f s1 hsp => ?_) (fun e s1 he => he)
  · obtain ⟨a, B, sI, pins', σ', H', cls, d, rfl, J', nb, up, sky, na, os, ag, w⟩ := xx
    have J : Inv X pins σ' H' sI := J'.ofTry ok
    have sky' : Sky B (X.env :: X.outer) a (Zc cls d) X.env.locals s'.heap := by rw [← hs]; exact sky
    show wpAny (model X.prog X.w) X.A (noteFrame (.ref a) X.env) _ _ _
    refine Sky.land Zc.steady hfr hf sky' fun h3 fl3 up3 => ?_
    have J3 : Inv X pins σ' H' { s' with heap := h3 } := J.landed nb fl3.1 (up.trans up3) os ag
    obtain ⟨oe3, vs3, he3, hz3, hd3⟩ := fl3.there
    have notFr : ∀ {h : Heap} {o : Obj} {vs : Array Value}, h.FunFrames B (X.env :: X.outer) → h.get? a = some o → o.data = .fields vs → a ∉ frs (X.env :: X.outer) := fun {h o vs} ff e dd hm => by
      obtain ⟨_, o', e', hnf⟩ := ff.mem hm
      rw [e] at e'; cases e'
      exact hnf _ dd
    have nfr := notFr fl3.2.2.1 he3 hd3
    have nL : a ≠ X.env.locals := fun z => nfr (List.mem_filterMap.mpr ⟨X.env, List.mem_cons_self, by rw [hf, z]⟩)
    have nF : a ∉ X.fs := fun hm => by
      obtain ⟨e, he, q⟩ := List.mem_filterMap.mp hm
      exact nfr (List.mem_filterMap.mpr ⟨e, List.mem_cons_of_mem _ he, q⟩)
    have nI : sI.heap.get? a = none := by
      cases q : sI.heap.get? a with
      | none => rfl
      | some o =>
        have z := nb a o q (by show a ∉ frs X.stack; rw [hs]; exact nfr)
        rw [fl3.2.1] at z; cases z
    have n0 : X.s_0.heap.get? a = none := by
      cases q : X.s_0.heap.get? a with
      | none => rfl
      | some o =>
        obtain ⟨o', z⟩ := J.base.there a o q (by rw [hex]; simp)
        rw [nI] at z; cases z
    have npin : ∀ p ∈ X.pn ++ pins, p.1 ≠ a := fun p hp z => by
      have q := (J.pin p hp).1
      rw [z, nI] at q; cases q
    have S3 := J3.suite he3 hd3 na nL nF
    have go : ∀ {hds' : List ExceptHandler} {l' : List HdK}, HdsK X hds' l' → wKpM X.K Wout D l' cls d σ' H' → wpAny (model X.prog X.w) X.A (handleBy (.ref a) X.env hds') (SP X pins D) X.xe { s' with heap := h3 } := by
      have test : ∀ {x : Str} {np : Pos} {c : Value} {Q : Value → Shared → Prop} {E : Value → Shared → Prop}, Names X x c → Q c { s' with heap := h3 } → wpAny (model X.prog X.w) (X.A.mark (some (.ref a))) (eval (.Name x np) X.env) Q E { s' with heap := h3 } := fun {x np c Q E} hc q => by
        obtain ⟨hg, hdbg, hm | ⟨hm, hv, hnn⟩⟩ := hc
        · exact ld_glob (X := X.suite a ((a, oe3) :: (X.pn ++ pins))) S3 hg hm q hdbg
        · exact ld_blt (X := X.suite a ((a, oe3) :: (X.pn ++ pins))) S3 hg hm hv q hnn hdbg
      have LT : PySem.W.Looks (model X.prog X.w) h3 (typeOf (.ref a)) cls := fun A Q E s k q => wpAny_typeOf_ref (k _ _ he3) (by rw [hz3.1]; exact q)
      intro hds' l' hk
      induction hk with
      | nil =>
        intro w
        refine wpAny_handleBy_nil ?_
        obtain ⟨k1, k2, k3, oe, vs, T, oT, ts', he, hz, hd, h1, hr⟩ := id fl3
        unfold PySem.passOn
        refine wpAny_bind (wpAny_field he hd h1 ?_)
        rw [if_neg (show ¬ ((Value.ref T == Value.none) = true) from by simp)]
        have fin : wpAny (model X.prog X.w) X.A (setFlight (.ref a) X.env.frame) (fun _ s4 => wpAny (model X.prog X.w) X.A (throw (.ref a) : Sem Flow) (SP X pins D) X.xe s4) X.xe { s' with heap := h3 } := by
          rw [hf]
          refine HandSPX.setFlight_upZ fl3 fun h4 hh4 up4 => wpAny_throw (tk _ _ ?_)
          exact ⟨a, B, sI, pins, σ', H', cls, d, rfl, J, nb, (up.trans up3).trans up4, .inr (.inr (by rw [hs]; exact hh4)), na, os, ag, w⟩
        first
          | exact wpAny_bind (wpAny_pure (wpAny_bind fin))
          | exact wpAny_bind fin
      | @named x n i c ts b₀ suite np pos' hds2 l2 hc hi hln hsu r ih =>
        intro w
        obtain ⟨b, C, hC, hb1, hyes, hno⟩ := w
        have hloc : Loc X.env.scope n := .inl hln
        refine wpAny_handleBy_cons (codeAny_handlers_test ?_) (by intro q; cases q)
        have LM := PySem.W.exm_one (M := model X.prog X.w) (J3.kIn) LT hb1
        refine test hc (LM.here ?_)
        cases b with
        | true =>
          refine codeAny_handlers_suite_as ?_
          refine HandSPX.lands_againZ fl3 fun h4 fl4 up4 => ?_
          have J4 : Inv X pins σ' H' { s' with heap := h4 } := J.landed nb fl4.1 ((up.trans up3).trans up4) os ag
          obtain ⟨oe4, vs4, he4, hz4, hd4⟩ := fl4.there
          have J5 : Inv X pins σ' (upd H' a (xob a C d)) { s' with heap := h4 } := inv_track J4 he4 hd4 (hz4.1.trans hC) hz4.2 na n0 nL npin
          have S4 : Inv (X.suite a (X.pn ++ pins)) [] σ' (upd H' a (xob a C d)) { s' with heap := h4 } := inv_suite0 J5
          refine store_ok (X := X.suite a (X.pn ++ pins)) (v := .ref a) S4 hN hi hloc rfl (fun s5 S5 => ?_) (.inr hln)
          refine wpAny_mono ((hsu a (X.pn ++ pins)).run [] s5 _ _ _ S5 (hyes rfl a na)) (fun f s6 hsp => ?_) (fun _ _ z => False.elim z)
          have end_ : ∀ {σ6 : L2.St} {H6 : Hp} {Q : Shared → Prop}, Inv (X.suite a (X.pn ++ pins)) [] σ6 H6 s6 → (∀ s7, Inv X pins (σ6.set i none) H6 s7 → Q s7) →
              wpAny (model X.prog X.w) X.A (do bindName X.env n .none; unbindBehindTheSuite X.env n pos') (fun _ s7 => Q s7) X.xe s6 := fun {σ6 H6 Q} S6 hq => gone_ok (inv_unsuite0 S6 ok) hN hi hln hq
          cases f with
          | next =>
            obtain ⟨σ6, H6, S6, q6⟩ := hsp
            exact end_ S6 fun s7 J7 => ⟨_, _, J7, q6⟩
          | brk =>
            obtain ⟨σ6, H6, S6, q6⟩ := hsp
            exact end_ S6 fun s7 J7 => ⟨_, _, J7, q6⟩
          | cont =>
            obtain ⟨σ6, H6, S6, q6⟩ := hsp
            exact end_ S6 fun s7 J7 => ⟨_, _, J7, q6⟩
          | ret u =>
            obtain ⟨v6, σ6, H6, S6, r6, q6⟩ := hsp
            exact end_ S6 fun s7 J7 => ⟨_, _, _, J7, r6, q6⟩
        | false =>
          show wpAny _ X.A (handleBy (.ref a) X.env hds2) _ _ _
          exact ih (hno rfl)
      | @plain x c ts b₀ suite np pos' hds2 l2 hc hsu r ih =>
        intro w
        obtain ⟨b, C, hC, hb1, hyes, hno⟩ := w
        refine wpAny_handleBy_cons (codeAny_handlers_test ?_) (by intro q; cases q)
        have LM := PySem.W.exm_one (M := model X.prog X.w) (J3.kIn) LT hb1
        refine test hc (LM.here ?_)
        cases b with
        | true =>
          refine codeAny_handlers_suite ?_
          refine HandSPX.lands_againZ fl3 fun h4 fl4 up4 => ?_
          have J4 : Inv X pins σ' H' { s' with heap := h4 } := J.landed nb fl4.1 ((up.trans up3).trans up4) os ag
          obtain ⟨oe4, vs4, he4, hz4, hd4⟩ := fl4.there
          have J5 : Inv X pins σ' (upd H' a (xob a C d)) { s' with heap := h4 } := inv_track J4 he4 hd4 (hz4.1.trans hC) hz4.2 na n0 nL npin
          have S4 : Inv (X.suite a (X.pn ++ pins)) [] σ' (upd H' a (xob a C d)) { s' with heap := h4 } := inv_suite0 J5
          refine wpAny_mono ((hsu a (X.pn ++ pins)).run [] _ _ _ _ S4 (hyes rfl a na)) (fun f s6 hsp => ?_) (fun _ _ z => False.elim z)
          cases f with
          | next =>
            obtain ⟨σ6, H6, S6, q6⟩ := hsp
            exact ⟨_, _, inv_unsuite0 S6 ok, q6⟩
          | brk =>
            obtain ⟨σ6, H6, S6, q6⟩ := hsp
            exact ⟨_, _, inv_unsuite0 S6 ok, q6⟩
          | cont =>
            obtain ⟨σ6, H6, S6, q6⟩ := hsp
            exact ⟨_, _, inv_unsuite0 S6 ok, q6⟩
          | ret u =>
            obtain ⟨v6, σ6, H6, S6, r6, q6⟩ := hsp
            exact ⟨_, _, _, inv_unsuite0 S6 ok, r6, q6⟩
        | false =>
          show wpAny _ X.A (handleBy (.ref a) X.env hds2) _ _ _
          exact ih (hno rfl)
    exact go hh w
  · cases f with
    | next =>
      obtain ⟨σ', H', J', q⟩ := hsp
      exact wpAny_execs_nil ⟨σ', H', J'.ofTry ok, q⟩
    | brk =>
      obtain ⟨σ', H', J', q⟩ := hsp
      exact ⟨σ', H', J'.ofTry ok, q⟩
    | cont =>
      obtain ⟨σ', H', J', q⟩ := hsp
      exact ⟨σ', H', J'.ofTry ok, q⟩
    | ret u =>
      obtain ⟨v, σ', H', J', r, q⟩ := hsp
      exact ⟨v, σ', H', J'.ofTry ok, r, q⟩
end
abbrev Hd := (Str → Option Bool) × Option Nat × CS
def Out.offN (o : Out) : Out := match o with
  | .err _ _ _ _ => .stuck
  | o => o
def hRun : List Hd → Str → List D → CS
  | [], c, ds => fun ρ mh => .err c ds ρ mh
  | (is, o, g) :: r, c, ds => fun ρ mh => match is c, exObj c ds with
    | some true, some d => (match o with
      | some i => (g (ρ.set i (some d)) mh).offE i
      | none => (g ρ mh).offN)
    | some false, _ => hRun r c ds ρ mh
    | _, _ => .stuck
/-- try .. except C1 as n .. except C2 .. -/
def sTryM (l : List Hd) (b : CS) : CS := fun ρ mh => match b ρ mh with
  | .err c ds ρ' mh' => hRun l c ds ρ' mh'
  | o => o
inductive JHd (X : Cx) : List ExceptHandler → List Hd → Prop
  | nil : JHd X [] []
  | named {x n : Str} {i : Nat} {is : Str → Option Bool} {g : CS} {b₀ : Stmt} {suite : List Stmt} {np pos' : Pos} {hds : List ExceptHandler} {l : List Hd} (ct : CatchF X.K X.mg x is) (hi : X.N[i]? = some n) (hln : X.env.kindOf n = some .local) (hg : Gl X x) (hdb : (x == ("__debug__" : Str)) = false)
      (hsu : ∀ (a : Addr) (pn : List (Addr × Obj)), JSs (X.suite a pn) (fun _ _ _ _ => False) (b₀ :: suite) g) (r : JHd X hds l) : JHd X (.ExceptHandler (some (.Name x np)) (some n) (b₀ :: suite) pos' :: hds) ((is, some i, g) :: l)
  | plain {x : Str} {is : Str → Option Bool} {g : CS} {b₀ : Stmt} {suite : List Stmt} {np pos' : Pos} {hds : List ExceptHandler} {l : List Hd} (ct : CatchF X.K X.mg x is) (hg : Gl X x) (hdb : (x == ("__debug__" : Str)) = false)
      (hsu : ∀ (a : Addr) (pn : List (Addr × Obj)), JSs (X.suite a pn) (fun _ _ _ _ => False) (b₀ :: suite) g) (r : JHd X hds l) : JHd X (.ExceptHandler (some (.Name x np)) none (b₀ :: suite) pos' :: hds) ((is, none, g) :: l)
section
variable {X : Cx} {W : WX} {k : Nat} {pos : Pos} {body : List Stmt} {b : CS}
theorem h_named {x n : Str} {is : Str → Option Bool} {g : CS} {b₀ : Stmt} {suite : List Stmt} {np pos' : Pos} {hds : List ExceptHandler} {l : List Hd} (ct : CatchF X.K X.mg x is) (i : Nat)
    (hsu : ∀ (a : Addr) (pn : List (Addr × Obj)), JSs (X.suite a pn) (fun _ _ _ _ => False) (b₀ :: suite) g) (r : JHd X hds l) (hi : X.N[i]? = some n := by rfl) (hln : X.env.kindOf n = some .local := by rfl) (hg : Gl X x := by rfl) (hdb : (x == ("__debug__" : Str)) = false := by decide) :
    JHd X (.ExceptHandler (some (.Name x np)) (some n) (b₀ :: suite) pos' :: hds) ((is, some i, g) :: l) := .named ct hi hln hg hdb hsu r
theorem h_plain {x : Str} {is : Str → Option Bool} {g : CS} {b₀ : Stmt} {suite : List Stmt} {np pos' : Pos} {hds : List ExceptHandler} {l : List Hd} (ct : CatchF X.K X.mg x is)
    (hsu : ∀ (a : Addr) (pn : List (Addr × Obj)), JSs (X.suite a pn) (fun _ _ _ _ => False) (b₀ :: suite) g) (r : JHd X hds l) (hg : Gl X x := by rfl) (hdb : (x == ("__debug__" : Str)) = false := by decide) :
    JHd X (.ExceptHandler (some (.Name x np)) none (b₀ :: suite) pos' :: hds) ((is, none, g) :: l) := .plain ct hg hdb hsu r
theorem jhd_ok {hds : List ExceptHandler} {l : List Hd} (h : JHd X hds l) : ∃ L : List HdK, HdsK X hds L ∧ ∀ (W : WX) (T : Ends) (c : Str) (ds : List D) (ρ : En) (mh : List O) (F : Addr → Prop) (ι : List Addr) (σ : L2.St) (H : Hp) (cls : Value) (dx : Option Addr),
    SR X.K X.mg F ι mh H → ER X.K X.mg F ι H ρ σ → ExV X.K X.mg F ι H c ds cls dx → PostS X W F ι H (hRun l c ds ρ mh) T → wKpM X.K W T L cls dx σ H := by
  induction h with
  | nil => exact ⟨[], .nil, fun W T c ds ρ mh F ι σ H cls dx sr er ev h => h F ι H cls dx σ Step.refl sr er ev⟩
  | @named x n i is g b₀ suite np pos' hds l ct hi hln hg hdb hsu r ih =>
    obtain ⟨L, hL, qL⟩ := ih
    obtain ⟨cv, hm, hall⟩ := ct.ex
    refine ⟨(cv, some i, fun a T σ H => ∀ pn, (hsu a pn).ex.choose T σ H) :: L, .named ⟨hg, hdb, .inl hm⟩ hi hln (fun a pn => ?_) hL, fun W T c ds ρ mh F ι σ H cls dx sr er ev h => ?_⟩
    · exact ⟨fun pins s σ H D I h => (hsu a pn).ex.choose_spec.1.run pins s σ H D I (h pn)⟩
    · unfold hRun at h
      split at h
      · rename_i d h1 h2
        dsimp only at h
        obtain ⟨C, q1, q2⟩ := hall _ _ h1
        obtain ⟨C', e1, _, e2, e3⟩ := id ev
        rw [q1] at e1
        cases e1
        subst e2
        refine ⟨true, C, rfl, q2, fun _ a na => ?_, fun z => nomatch z⟩
        intro pn'
        have st2 : Step F ι H F ι (upd H a (xob a C dx)) := step_new na
        have sr2 := sr.fresh (u := xob a C dx) na
        have dv := exv_obj sr ev h2 rfl na
        refine (hsu a pn').ex.choose_spec.2 _ mh F ι _ _ _ sr2 ((er.to sr.sub st2).set dv) ?_
        revert h
        generalize g (ρ.set i (some d)) mh = o
        intro h
        cases o with
        | nx ρ m => exact fun F2 ι2 H2 σ2 s2 x2 y2 => h F2 ι2 H2 _ (st2.trans s2) x2 y2.clear
        | rt d m => exact fun F2 ι2 H2 v s2 x2 y2 => h F2 ι2 H2 v (st2.trans s2) x2 y2
        | bk ρ m => exact fun F2 ι2 H2 σ2 s2 x2 y2 => h F2 ι2 H2 _ (st2.trans s2) x2 y2.clear
        | ct ρ m => exact fun F2 ι2 H2 σ2 s2 x2 y2 => h F2 ι2 H2 _ (st2.trans s2) x2 y2.clear
        | err c ds ρ m => exact h.elim
        | stuck => exact h.elim
      · rename_i h1
        obtain ⟨C, q1, q2⟩ := hall _ _ h1
        obtain ⟨C', e1, _, e2, e3⟩ := id ev
        rw [q1] at e1
        cases e1
        exact ⟨false, C, e2, by rw [e2]; exact q2, (fun z => nomatch z), fun _ => qL W T c ds ρ mh F ι σ H cls dx sr er ev h⟩
      · exact h.elim
  | @plain x is g b₀ suite np pos' hds l ct hg hdb hsu r ih =>
    obtain ⟨L, hL, qL⟩ := ih
    obtain ⟨cv, hm, hall⟩ := ct.ex
    refine ⟨(cv, none, fun a T σ H => ∀ pn, (hsu a pn).ex.choose T σ H) :: L, .plain ⟨hg, hdb, .inl hm⟩ (fun a pn => ?_) hL, fun W T c ds ρ mh F ι σ H cls dx sr er ev h => ?_⟩
    · exact ⟨fun pins s σ H D I h => (hsu a pn).ex.choose_spec.1.run pins s σ H D I (h pn)⟩
    · unfold hRun at h
      split at h
      · rename_i d h1 h2
        dsimp only at h
        obtain ⟨C, q1, q2⟩ := hall _ _ h1
        obtain ⟨C', e1, _, e2, e3⟩ := id ev
        rw [q1] at e1
        cases e1
        subst e2
        refine ⟨true, C, rfl, q2, fun _ a na => ?_, fun z => nomatch z⟩
        intro pn'
        have st2 : Step F ι H F ι (upd H a (xob a C dx)) := step_new na
        have sr2 := sr.fresh (u := xob a C dx) na
        refine (hsu a pn').ex.choose_spec.2 _ mh F ι _ _ _ sr2 (er.to sr.sub st2) ?_
        revert h
        generalize g ρ mh = o
        intro h
        cases o with
        | nx ρ m => exact fun F2 ι2 H2 σ2 s2 x2 y2 => h F2 ι2 H2 _ (st2.trans s2) x2 y2
        | rt d m => exact fun F2 ι2 H2 v s2 x2 y2 => h F2 ι2 H2 v (st2.trans s2) x2 y2
        | bk ρ m => exact fun F2 ι2 H2 σ2 s2 x2 y2 => h F2 ι2 H2 _ (st2.trans s2) x2 y2
        | ct ρ m => exact fun F2 ι2 H2 σ2 s2 x2 y2 => h F2 ι2 H2 _ (st2.trans s2) x2 y2
        | err c ds ρ m => exact h.elim
        | stuck => exact h.elim
      · rename_i h1
        obtain ⟨C, q1, q2⟩ := hall _ _ h1
        obtain ⟨C', e1, _, e2, e3⟩ := id ev
        rw [q1] at e1
        cases e1
        exact ⟨false, C, e2, by rw [e2]; exact q2, (fun z => nomatch z), fun _ => qL W T c ds ρ mh F ι σ H cls dx sr er ev h⟩
      · exact h.elim
theorem s_tryM {h₀ : ExceptHandler} {hds : List ExceptHandler} {l : List Hd} (c : Cc k X W) (hb : ∀ (W' : WX) (pn : List (Addr × Obj)) (xe : Value → Shared → Prop), Cc k (X.tr pn xe) W' → JSs (X.tr pn xe) W' body b)
    (hh : JHd X (h₀ :: hds) l) (hs : X.stack = X.env :: X.outer := by rfl) (hf : X.env.frame = some X.env.locals := by rfl) (hex : X.ex = [] := by rfl) :
    JS X W (.Try body (h₀ :: hds) [] [] pos) (sTryM l b) := by
  obtain ⟨L, hL, qL⟩ := jhd_ok hh
  have hbs : ∀ (W' : WX) (pn : List (Addr × Obj)) (xe : Value → Shared → Prop), Takes (X.tr pn xe) W' → PassesOwn (model X.prog X.w) X.A X.env xe → JSs (X.tr pn xe) W' body b := fun W' pn xe tk po => hb W' pn xe ⟨c.calm, c.nd, tk, c.hr, po⟩
  refine ⟨_, ps_try_keepM (tb := fun W' T σ H => ∀ (pn : List (Addr × Obj)) (xe : Value → Shared → Prop) (tk : Takes (X.tr pn xe) W') (po : PassesOwn (model X.prog X.w) X.A X.env xe), (hbs W' pn xe tk po).ex.choose T σ H) (Wout := W) hs hf hex c.nd c.tk (fun W' pn xe tk po => ?_) hL, fun ρ mh F ι σ H T sr er h => ?_⟩
  · exact ⟨fun pins s σ H D I h => (hbs W' pn xe tk po).ex.choose_spec.1.run pins s σ H D I (h pn xe tk po)⟩
  · intro pn xe tk po
    refine (hbs _ pn xe tk po).ex.choose_spec.2 ρ mh F ι σ H T sr er ?_
    unfold sTryM at h
    revert h
    generalize b ρ mh = o
    intro h
    cases o with
    | nx ρ m => exact h
    | rt d m => exact h
    | bk ρ m => exact h
    | ct ρ m => exact h
    | stuck => exact h
    | err cc ds ρ1 m1 =>
      intro F' ι' H' cls dx σ' st sr' er' ev
      exact qL W T cc ds ρ1 m1 F' ι' σ' H' cls dx sr' er' ev (PostS.at h st)
/-! ### sep.join(texts) -/
def strsD : List D → Option (List Str)
  | [] => some []
  | .str x :: ds => (strsD ds).map (x :: ·)
  | _ => none
theorem strsD_ok {F : Addr → Prop} {ι : List Addr} {H : Hp} : ∀ {ds : List D} {vs : List V} {ys : List Str}, DVs X.K X.mg F ι H ds vs → strsD ds = some ys → vs = ys.map V.str
  | [], _, ys, r, e => by
    cases r
    unfold strsD at e
    cases e
    rfl
  | d :: ds, _, ys, r, e => by
    cases r with
    | @cons _ _ v vs r1 r2 =>
      unfold strsD at e
      split at e
      · rename_i z; cases z
      · rename_i x ds' z
        cases z
        obtain ⟨zs, ez, rfl⟩ := Option.map_eq_some_iff.mp e
        cases r1
        rw [strsD_ok r2 ez]; rfl
      · cases e
def oSJoin (d : D) (ds : List D) (mh : List O) : Res D := match d, ds with
  | .str a, [e] => (match seqOf mh e with
    | some xs => (match strsD xs with
      | some ys => if (ys.map (·.length)).sum + ys.length * a.length ≤ 16777216 then .ok (.str (Txt.join a ys)) mh else .stuck
      | none => .stuck)
    | none => .stuck)
  | _, _ => .stuck
theorem vo_sjoin : VOM X (fun x xs H Q => ∃ a p, ∃ ys : List Str, x = .str a ∧ xs = [.ref p] ∧ (SqL X.K H p (ys.map V.str) ∨ SqT X.K H p (ys.map V.str)) ∧
    (ys.map (·.length)).sum + ys.length * a.length ≤ 16777216 ∧ Q (.str (Txt.join a ys)) H) oSJoin := by
  intro W σ F ι mh H d ds v vs Q sr r rs h
  unfold oSJoin at h
  split at h
  · split at h
    · rename_i e1
      split at h
      · rename_i ys e2
        split at h
        · rename_i hz
          cases r
          cases rs with
          | cons r1 r2 =>
            cases r2
            obtain ⟨p, ws, rfl, sq, rx⟩ := seqOf_ok sr r1 e1
            have := strsD_ok rx e2
            subst this
            exact ⟨_, p, ys, rfl, rfl, sq, hz, h.ok sr (.str _)⟩
        · exact h.elim
      · exact h.elim
    · exact h.elim
  · exact h.elim
end
end G

/-! Part IG: tuples of equal things (dicts and lists of such among them), held against one another. -/
namespace PySem.SeqAt
open AutoSeq1 (wpAny_loadPart')
open MeetsSeq MeetsSeq2 MeetsSeq3 SeqRoads2
section
variable {prog : Program} {w : World}
/-- equal item by item: == -/
theorem tupSame (p q : Addr) (xs ys : Array Value) (m1 m2 : Nat) (e1 e2 : Option Addr) (f1 f2 : Array (Option Value)) (ez : xs.size = ys.size) :
    MeetsIn prog w (Builtin.«tuple.__eq__» ⟨[.ref p, .ref q], []⟩)
      (fun A R s => s.heap.get? p = some { cls := .type "tuple", dict := e1, data := .seq xs m1, slots := f1 } ∧ s.heap.get? q = some { cls := .type "tuple", dict := e2, data := .seq ys m2, slots := f2 } ∧
        (∀ j (g1 : j < xs.size) (g2 : j < ys.size), EqP prog w A.in1 s xs[j] ys[j] true) ∧ R (.ok (.ret (.bool true))) s) := by
  intro A R s ⟨gp, gq, he, hR⟩
  obtain ⟨hp, g, d, tk, os⟩ := s
  have sub := AutoSeq1.sub_tuple_tuple
  have zl : (xs.toList.zip ys.toList).length = xs.size := by simp [ez]
  wp_walk using wpAny_loadPart' gp, wpAny_loadPart' gq, wpAny_forIn_list _ (fun rest b s' => b.1 = none ∧ s' = ⟨hp, g, d, tk, os⟩ ∧ ∃ i, rest = (xs.toList.zip ys.toList).drop i) _
  case turn =>
    rintro ⟨y, x⟩ rest b s' ⟨hb, rfl, i, hz⟩
    have hi : i < xs.size := by
      rw [← zl]
      rcases Nat.lt_or_ge i (xs.toList.zip ys.toList).length with z | z
      · exact z
      · rw [List.drop_of_length_le z] at hz; cases hz
    have hi2 : i < ys.size := by omega
    rw [List.drop_eq_getElem_cons (by rw [zl]; exact hi)] at hz
    injection hz with h1 h2
    have hy : y = xs[i] := by have := congrArg Prod.fst h1; simpa using this
    have hx : x = ys[i] := by have := congrArg Prod.snd h1; simpa using this
    subst hy hx
    refine wpAny_bind (he i hi hi2 _ _ ?_)
    wp_walk
    exact ⟨rfl, rfl, i + 1, h2⟩
  case fin =>
    rintro ⟨b1, b2⟩ s' ⟨hb, rfl, i, hz⟩
    simp only at hb
    subst hb
    wp_walk
    simpa [Builtin.Tuple.tupleCompareSizes, ez] using hR
  case h => exact ⟨rfl, rfl, 0, rfl⟩
/-- .. and != -/
theorem tupSameNe (p q : Addr) (xs ys : Array Value) (m1 m2 : Nat) (e1 e2 : Option Addr) (f1 f2 : Array (Option Value)) (ez : xs.size = ys.size) :
    MeetsIn prog w (Builtin.«tuple.__ne__» ⟨[.ref p, .ref q], []⟩)
      (fun A R s => s.heap.get? p = some { cls := .type "tuple", dict := e1, data := .seq xs m1, slots := f1 } ∧ s.heap.get? q = some { cls := .type "tuple", dict := e2, data := .seq ys m2, slots := f2 } ∧
        (∀ j (g1 : j < xs.size) (g2 : j < ys.size), EqP prog w A.in1 s xs[j] ys[j] true) ∧ R (.ok (.ret (.bool false))) s) := by
  intro A R s ⟨gp, gq, he, hR⟩
  obtain ⟨hp, g, d, tk, os⟩ := s
  have sub := AutoSeq1.sub_tuple_tuple
  have zl : (xs.toList.zip ys.toList).length = xs.size := by simp [ez]
  wp_walk using wpAny_loadPart' gp, wpAny_loadPart' gq, wpAny_forIn_list _ (fun rest b s' => b.1 = none ∧ s' = ⟨hp, g, d, tk, os⟩ ∧ ∃ i, rest = (xs.toList.zip ys.toList).drop i) _
  case turn =>
    rintro ⟨y, x⟩ rest b s' ⟨hb, rfl, i, hz⟩
    have hi : i < xs.size := by
      rw [← zl]
      rcases Nat.lt_or_ge i (xs.toList.zip ys.toList).length with z | z
      · exact z
      · rw [List.drop_of_length_le z] at hz; cases hz
    have hi2 : i < ys.size := by omega
    rw [List.drop_eq_getElem_cons (by rw [zl]; exact hi)] at hz
    injection hz with h1 h2
    have hy : y = xs[i] := by have := congrArg Prod.fst h1; simpa using this
    have hx : x = ys[i] := by have := congrArg Prod.snd h1; simpa using this
    subst hy hx
    refine wpAny_bind (he i hi hi2 _ _ ?_)
    wp_walk
    exact ⟨rfl, rfl, i + 1, h2⟩
  case fin =>
    rintro ⟨b1, b2⟩ s' ⟨hb, rfl, i, hz⟩
    simp only at hb
    subst hb
    wp_walk
    simpa [Builtin.Tuple.tupleCompareSizes, ez] using hR
  case h => exact ⟨rfl, rfl, 0, rfl⟩
theorem rcTup {A : Around} {s : Shared} {p q : Addr} {xs ys : Array Value} (gp : s.heap.IsTuple p xs) (gq : s.heap.IsTuple q ys) (ez : xs.size = ys.size) (hu : A.units < cLine)
    (he : ∀ j (g1 : j < xs.size) (g2 : j < ys.size), EqP prog w A.in1 s xs[j] ys[j] true) (E Q : Value → Shared → Prop) (h : Q (.bool true) s) : wpAny (model prog w) A (richCompare .Eq (.ref p) (.ref q)) Q E s := by
  obtain ⟨⟨c1, e1, b1, f1⟩, o1, k1, m1, t1⟩ := id gp
  obtain ⟨⟨c2, e2, b2, f2⟩, o2, k2, m2, t2⟩ := id gq
  simp only at k1 t1 k2 t2
  subst k1 t1 k2 t2
  have tp : s.TypeIs (.ref p) "tuple" := ⟨_, o1, rfl⟩
  have tq : s.TypeIs (.ref q) "tuple" := ⟨_, o2, rfl⟩
  exact wpAny_richCompare_same_room (op := .Eq) tp tq F.slot_tuple_eq (call_meetsIn F.slot_tuple_eq tp F.entry_tuple_eq (F.args_tuple_eq_2 _ _) (tupSame p q xs ys m1 m2 e1 e2 f1 f2 ez)
    ⟨o1, o2, he, show Value.bool true ≠ Value.notImplemented ∧ Q (.bool true) s from ⟨(fun x => nomatch x), h⟩⟩) hu
theorem rcTupNe {A : Around} {s : Shared} {p q : Addr} {xs ys : Array Value} (gp : s.heap.IsTuple p xs) (gq : s.heap.IsTuple q ys) (ez : xs.size = ys.size) (hu : A.units < cLine)
    (he : ∀ j (g1 : j < xs.size) (g2 : j < ys.size), EqP prog w A.in1 s xs[j] ys[j] true) (E Q : Value → Shared → Prop) (h : Q (.bool false) s) : wpAny (model prog w) A (richCompare .NotEq (.ref p) (.ref q)) Q E s := by
  obtain ⟨⟨c1, e1, b1, f1⟩, o1, k1, m1, t1⟩ := id gp
  obtain ⟨⟨c2, e2, b2, f2⟩, o2, k2, m2, t2⟩ := id gq
  simp only at k1 t1 k2 t2
  subst k1 t1 k2 t2
  have tp : s.TypeIs (.ref p) "tuple" := ⟨_, o1, rfl⟩
  have tq : s.TypeIs (.ref q) "tuple" := ⟨_, o2, rfl⟩
  exact wpAny_richCompare_same_room (op := .NotEq) tp tq F.slot_tuple_ne (call_meetsIn F.slot_tuple_ne tp F.entry_tuple_ne (F.args_tuple_ne_2 _ _) (tupSameNe p q xs ys m1 m2 e1 e2 f1 f2 ez)
    ⟨o1, o2, he, show Value.bool false ≠ Value.notImplemented ∧ Q (.bool false) s from ⟨(fun x => nomatch x), h⟩⟩) hu
end
end PySem.SeqAt
namespace G
open PySem PySem.Spec PyProof.Rows L2
section
variable {X : Cx} {pins : List (Addr × Obj)} {σ : L2.St} {H : Hp} {s : Shared}
theorem eqST_items (I : Inv X pins σ H s) {A : Around} {E : V → V → Prop} (ih : ∀ x y v u, E x y → RelV x v → RelV y u → SeqAt.EqP X.prog X.w A s v u true) {a b : Addr} {xs ys : List V} (ha : SqT X.K H a xs) (hb : SqT X.K H b ys) (hp : Paired E xs ys) :
    ∃ us ws : List Value, s.heap.IsTuple a us.toArray ∧ s.heap.IsTuple b ws.toArray ∧ us.toArray.size = ws.toArray.size ∧ ∀ j (g1 : j < us.toArray.size) (g2 : j < ws.toArray.size), SeqAt.EqP X.prog X.w A s us.toArray[j] ws.toArray[j] true := by
  obtain ⟨us, r1, p1, _⟩ := I.tuple ha
  obtain ⟨ws, r2, p2, _⟩ := I.tuple hb
  refine ⟨us, ws, p1, p2, ?_, fun j g1 g2 => ?_⟩
  · rw [List.size_toArray, List.size_toArray, ← r1.length, ← r2.length]
    exact Paired.length hp
  · have k := items_run ih hp r1 r2 j (by simpa using g1) (by simpa using g2)
    simpa using k
/-- two tuples of equal things -/
def rEqST (K : PySem.W.Frag) (c : Bool) : R2 := fun x y H Q => ∃ a b xs ys, x = .ref a ∧ y = .ref b ∧ SqT K H a xs ∧ SqT K H b ys ∧ Paired (EqS K H 6) xs ys ∧ Q (.bl c) H
theorem op_eqST (hu : X.A.units + 64 < cLine) : OpR X (compareOp .Eq) (rEqST X.K true) := by
  intro pins s σ H x y v u Q I rx ry ⟨a, b, xs, ys, e1, e2, ha, hb, hp, q⟩
  subst e1 e2
  cases (show v = Value.ref a from rx)
  cases (show u = Value.ref b from ry)
  obtain ⟨us, ws, p1, p2, ez, he⟩ := eqST_items I (A := X.A.in1) (eqS_run I 6 X.A.in1 (by show X.A.units + 1 + 6 + 16 < cLine; omega)) ha hb hp
  exact SeqAt.rcTup p1 p2 ez (by omega) he _ _ ⟨.bl true, H, I, rfl, q⟩
theorem op_neST (hu : X.A.units + 64 < cLine) : OpR X (compareOp .NotEq) (rEqST X.K false) := by
  intro pins s σ H x y v u Q I rx ry ⟨a, b, xs, ys, e1, e2, ha, hb, hp, q⟩
  subst e1 e2
  cases (show v = Value.ref a from rx)
  cases (show u = Value.ref b from ry)
  obtain ⟨us, ws, p1, p2, ez, he⟩ := eqST_items I (A := X.A.in1) (eqS_run I 6 X.A.in1 (by show X.A.units + 1 + 6 + 16 < cLine; omega)) ha hb hp
  exact SeqAt.rcTupNe p1 p2 ez (by omega) he _ _ ⟨.bl false, H, I, rfl, q⟩
open Classical in
noncomputable def oSameT (c : Bool) (x y : D) (mh : List O) : Res D := match x, y with
  | .tup ds, .tup es => if Paired (sameS mh 6) ds es then .ok (.bl c) mh else .stuck
  | _, _ => .stuck
theorem vo_sameT (c : Bool) : VO2 X (rEqST X.K c) (oSameT c) := by
  intro W σ F ι mh H x y v u Q sr r1 r2 h
  unfold oSameT at h
  split at h
  · split at h
    · rename_i hp
      cases r1 with
      | tup h1 q1 =>
        cases r2 with
        | tup h2 q2 =>
          exact ⟨_, _, _, _, rfl, rfl, .inl h1, .inl h2, paired_dvs (sameS_ok sr 6) hp q1 q2, h.ok sr (.bl c)⟩
    · exact h.elim
  · exact h.elim
theorem oSameT_eq {c : Bool} {mh : List O} {ds es : List D} (h : Paired (sameS mh 6) ds es) : oSameT c (.tup ds) (.tup es) mh = .ok (.bl c) mh := by
  unfold oSameT
  exact if_pos h
end
end G

/-! Part IH: to reckon step by step, where simp makes the kernel recurse too deep. -/
namespace G
open PySem L2
theorem c2_at {o : D → D → List O → Res D} {f g : CE} {ρ : En} {m m1 m2 : List O} {x y : D} {r : Res D} (hf : f ρ m = .ok x m1) (hg : g ρ m1 = .ok y m2) (h : o x y m2 = r) : c2 o f g ρ m = r := by
  rw [c2_eq, hf, Res.bind_ok, hg, Res.bind_ok, h]
theorem cC_at {f : CE} {g : CA} {ρ : En} {m m1 m2 : List O} {x : D} {xs : List D} (hf : f ρ m = .ok x m1) (hg : g ρ m1 = .ok xs m2) : cCons f g ρ m = .ok (x :: xs) m2 := by
  rw [cCons_eq, hf, Res.bind_ok, hg, Res.bind_ok]
theorem cL_at {o : List D → List O → Res D} {g : CA} {ρ : En} {m m1 : List O} {xs : List D} {r : Res D} (hg : g ρ m = .ok xs m1) (h : o xs m1 = r) : cL o g ρ m = r := by
  rw [cL_eq, hg, Res.bind_ok, h]
theorem set_at {i : Nat} {f : CE} {ρ : En} {m m1 : List O} {x : D} (h : f ρ m = .ok x m1) : sSet i f ρ m = .nx (ρ.set i (some x)) m1 := by
  rw [sSet_eq, h]; rfl
theorem seq_at {a b : CS} {ρ ρ1 : En} {m m1 : List O} {o : Out} (h : a ρ m = .nx ρ1 m1) (h2 : b ρ1 m1 = o) : sSeq a b ρ m = o := by
  rw [sSeq_eq, h, Out.seq_nx, h2]
theorem defn_rt {n k : Nat} {b : CS} {ds : List D} {m m' : List O} {d : D} (h : b (ds.map some ++ List.replicate (n - k) none) m = .rt d m') : defn n k b ds m = .ok d m' := by
  unfold defn
  rw [h]
theorem iR1_at {f : CA} {ρ : En} {mh m : List O} {ds : List D} {R : Its} (hf : f ρ mh = .ok ds m) (hr : oRng1 ds m = .ok R m) : iR1 f ρ mh = .ok R m := by
  unfold iR1
  rw [hf]
  exact hr
/-- a statement that asks and goes on -/
theorem ask {Q : CE} {ρ : En} {m m1 : List O} (h : Q ρ m = .ok (.bl true) m1) : tNot1 (cB Q) ρ m = .ok false m1 := by
  show ((cB Q ρ m).bind fun b m => Res.ok (!b) m) = _
  rw [cB_eq, h]; rfl
theorem or_no {a b : CT} {ρ : En} {m m1 m2 : List O} (ha : a ρ m = .ok false m1) (hb : b ρ m1 = .ok false m2) : tOr2 a b ρ m = .ok false m2 := by
  unfold tOr2
  rw [ha]
  exact hb
theorem if_no {t : CT} {a : CS} {ρ : En} {m m1 : List O} (h : t ρ m = .ok false m1) : sIf t a sNext ρ m = .nx ρ m1 := by
  rw [sIf_eq, h]; rfl
theorem if_yes {t : CT} {a b : CS} {ρ : En} {m m1 : List O} {o : Out} (h : t ρ m = .ok true m1) (h2 : a ρ m1 = o) : sIf t a b ρ m = o := by
  rw [sIf_eq, h, Res.toS_ok, if_pos rfl, h2]
theorem if_else {t : CT} {a b : CS} {ρ : En} {m m1 : List O} {o : Out} (h : t ρ m = .ok false m1) (h2 : b ρ m1 = o) : sIf t a b ρ m = o := by
  rw [sIf_eq, h, Res.toS_ok, if_neg Bool.false_ne_true, h2]
theorem ret_at {f : CE} {ρ : En} {m m1 : List O} {x : D} (h : f ρ m = .ok x m1) : sRet f ρ m = .rt x m1 := by
  rw [sRet_eq, h]; rfl
theorem seq_rt {a b : CS} {ρ : En} {m m1 : List O} {d : D} (h : a ρ m = .rt d m1) : sSeq a b ρ m = .rt d m1 := by
  rw [sSeq_eq, h]; rfl
end G

namespace K53
open PySem L2 G
def top (i : Nat) : Stmt := PySem.Challenge.pw_greywait_k53_last_comer_of_all_sorts.main.body.getD i (.Pass ⟨0, 0, 0, 0⟩)
def fli_by_name : List Str := ["Sorts"]
def fli_name : List Str := ["Sort"]
def fli_span : List Str := ["Sort"]
def fli_speed : List Str := ["Sort"]
def fli_tries : List Str := ["Sort"]
def fli_weight : List Str := ["Sort"]
def isTab_NoTurn : IsTab := [("NoTurn", .inl "NoTurn", true), ("NoTurn", .inr "ValueError", true)]
def isTab_WaitError : IsTab := [("WaitError", .inl "NoTurn", false), ("WaitError", .inr "ValueError", true)]
def isTab : IsTab := isTab_NoTurn ++ isTab_WaitError
def is_WaitError (c : Str) : Option Bool := if c = "NoTurn" then some true else if c = "WaitError" then some true else none
def fld_turn : List Str := ["NoTurn"]
abbrev si_NoTurn : Stmt := methOf (top 4) 0
abbrev s_is_whole : Stmt := top 7
noncomputable def b_is_whole : CS :=
  sRet (cAnd2 (cL oIsi (cCons (cVar 0) (cCons (cK (.ty "int")) (cNil)))) (cAnd2 (cNot1 (cL oIsi (cCons (cVar 0) (cCons (cK (.ty "bool")) (cNil))))) (cChain oLe oLe (cVar 1) (cVar 0) (cVar 2))))
noncomputable def f_is_whole : Fn := defn 3 3 b_is_whole
abbrev s_is_name : Stmt := top 8
noncomputable def ci_is_name_1 : CI :=
  iS (cVar 0)
theorem ci_is_name_1_eq (ρ : En) (mh : List O) : ci_is_name_1 ρ mh = (iS (cVar 0)) ρ mh := rfl
noncomputable def ct_is_name_1 : CT :=
  tYesG
theorem ct_is_name_1_eq (ρ : En) (mh : List O) : ct_is_name_1 ρ mh = (tYesG) ρ mh := rfl
noncomputable def ce_is_name_1 : CE :=
  c2 oInS (cVar 1) (cK (.str "abcdefghijklmnopqrstuvwxyz"))
theorem ce_is_name_1_eq (ρ : En) (mh : List O) : ce_is_name_1 ρ mh = (c2 oInS (cVar 1) (cK (.str "abcdefghijklmnopqrstuvwxyz"))) ρ mh := rfl
noncomputable def b_is_name : CS :=
  sSeq (sIf (tOr2 (tNot1 (cB (cL oIsi (cCons (cVar 0) (cCons (cK (.ty "str")) (cNil)))))) (tNot1 (cB (cChain oLe oLe (cK (.int 1)) (cL oLen (cCons (cVar 0) (cNil))) (cK (.int 8)))))) (sRet (cK (.bl false))) (sNext))
  (sRet (cL oAll (cCons (cLcX false ci_is_name_1 (gNm 1) ct_is_name_1 ce_is_name_1 [1]) (cNil))))
noncomputable def f_is_name : Fn := defn 2 1 b_is_name
abbrev s_lowest : Stmt := top 12
noncomputable def w_lowest_1 : CT :=
  cB (c2 oNe (cVar 2) (cK (.int 0)))
theorem w_lowest_1_eq (ρ : En) (mh : List O) : w_lowest_1 ρ mh = (cB (c2 oNe (cVar 2) (cK (.int 0)))) ρ mh := rfl
noncomputable def bd_lowest_1 : CS :=
  sPar 2 3 (cCons (c2 oMod (cVar 3) (cVar 2)) (cCons (cVar 2) (cNil)))
theorem bd_lowest_1_eq (ρ : En) (mh : List O) : bd_lowest_1 ρ mh = (sPar 2 3 (cCons (c2 oMod (cVar 3) (cVar 2)) (cCons (cVar 2) (cNil)))) ρ mh := rfl
noncomputable def b_lowest : CS :=
  sSeq (sSet 2 (cL oAbs (cCons (cVar 0) (cNil))))
  (sSeq (sSet 3 (cVar 1))
  (sSeq (sWhile w_lowest_1 bd_lowest_1)
  (sRet (cL oTup (cCons (c2 oFdiv (cVar 0) (cVar 3)) (cCons (c2 oFdiv (cVar 1) (cVar 3)) (cNil)))))))
noncomputable def f_lowest : Fn := defn 4 2 b_lowest
abbrev s_is_weight : Stmt := top 13
noncomputable def b_is_weight : CS :=
  sSeq (sIf (tOr2 (tNot1 (cB (cL oIsi (cCons (cVar 0) (cCons (cK (.ty "tuple")) (cNil)))))) (cB (c2 oNe (cL oLen (cCons (cVar 0) (cNil))) (cK (.int 2))))) (sRet (cK (.bl false))) (sNext))
  (sRet (cAnd2 (cL (ar 3 (oP f_is_whole)) (cCons (c2 oIx (cVar 0) (cK (.int 0))) (cCons (cK (.int 0)) (cCons (cK (.int 1000000)) (cNil))))) (cL (ar 3 (oP f_is_whole)) (cCons (c2 oIx (cVar 0) (cK (.int 1))) (cCons (cK (.int 1)) (cCons (cK (.int 12)) (cNil)))))))
noncomputable def f_is_weight : Fn := defn 1 1 b_is_weight
abbrev s_weight_after : Stmt := top 14
noncomputable def b_weight_after : CS :=
  sSeq (sSet 3 (c2 oAdd (c2 oMul (c2 oIx (cVar 0) (cK (.int 0))) (c2 oIx (cVar 1) (cK (.int 1)))) (c2 oMul (c2 oMul (c2 oIx (cVar 1) (cK (.int 0))) (cVar 2)) (c2 oIx (cVar 0) (cK (.int 1))))))
  (sRet (cL (ar 2 (oP f_lowest)) (cCons (cVar 3) (cCons (c2 oMul (c2 oIx (cVar 0) (cK (.int 1))) (c2 oIx (cVar 1) (cK (.int 1)))) (cNil)))))
noncomputable def f_weight_after : Fn := defn 4 3 b_weight_after
abbrev s_weight_at : Stmt := top 16
noncomputable def b_weight_at : CS :=
  sSeq (sAsg (cVar 0) (gUnp 4 (gsCons (gNm 2) (gsCons (gNm 3) (gsCons (gNm 4) (gsCons (gNm 5) (gsNil)))))))
  (sSeq (sIf (cB (c2 oLt (cVar 1) (cVar 5))) (sNever) (sNext))
  (sRet (cL (ar 3 (oP f_weight_after)) (cCons (cVar 3) (cCons (cVar 4) (cCons (c2 oSub (cVar 1) (cVar 5)) (cNil)))))))
noncomputable def f_weight_at : Fn := defn 6 2 b_weight_at
abbrev s_as_whole : Stmt := top 20
noncomputable def b_as_whole : CS :=
  sRet (c2 oMul (c2 oIx (cVar 0) (cK (.int 0))) (c2 oFdiv (cK (.int 27720)) (c2 oIx (cVar 0) (cK (.int 1)))))
noncomputable def f_as_whole : Fn := defn 1 1 b_as_whole
abbrev s_need_turn : Stmt := top 21
noncomputable def it_need_turn_1 : CI :=
  iL (cVar 0)
theorem it_need_turn_1_eq (ρ : En) (mh : List O) : it_need_turn_1 ρ mh = (iL (cVar 0)) ρ mh := rfl
noncomputable def bd_need_turn_1 : CS :=
  sIf (cB (c2 oGt (cVar 5) (cVar 1))) (sRaise "NoTurn" "turn" (cCons (cVar 1) (cNil))) (sNext)
theorem bd_need_turn_1_eq (ρ : En) (mh : List O) : bd_need_turn_1 ρ mh = (sIf (cB (c2 oGt (cVar 5) (cVar 1))) (sRaise "NoTurn" "turn" (cCons (cVar 1) (cNil))) (sNext)) ρ mh := rfl
noncomputable def b_need_turn : CS :=
  sSeq (sIf (tNot1 (cB (cL (ar 3 (oP f_is_whole)) (cCons (cVar 1) (cCons (cK (.int 0)) (cCons (cK (.int 1000000000000000)) (cNil))))))) (sRaise "NoTurn" "turn" (cCons (cVar 1) (cNil))) (sNext))
  (sFor it_need_turn_1 (gUnp 4 (gsCons (gNm 2) (gsCons (gNm 3) (gsCons (gNm 4) (gsCons (gNm 5) (gsNil)))))) bd_need_turn_1)
noncomputable def f_need_turn : Fn := defn 6 2 b_need_turn
abbrev s_need_turns : Stmt := top 23
noncomputable def b_need_turns : CS :=
  sSeq (sDrop (cL (ar 2 (oP f_need_turn)) (cCons (cL oLst (cCons (cVar 0) (cNil))) (cCons (cVar 1) (cNil)))))
  (sIf (tNot1 (cB (cL (ar 3 (oP f_is_whole)) (cCons (cVar 2) (cCons (cVar 1) (cCons (cK (.int 1000000000000000)) (cNil))))))) (sRaise "NoTurn" "turn" (cCons (cVar 2) (cNil))) (sNext))
noncomputable def f_need_turns : Fn := defn 3 3 b_need_turns
abbrev s_last_at_once : Stmt := top 24
noncomputable def b_last_at_once : CS :=
  sSeq (sAsg (cVar 0) (gUnp 4 (gsCons (gNm 3) (gsCons (gNm 4) (gsCons (gNm 5) (gsCons (gNm 6) (gsNil)))))))
  (sSeq (sSet 7 (c2 oSub (cL (ar 1 (oP f_as_whole)) (cCons (cVar 1) (cNil))) (cL (ar 1 (oP f_as_whole)) (cCons (cVar 4) (cNil)))))
  (sSeq (sSet 8 (cL (ar 1 (oP f_as_whole)) (cCons (cVar 5) (cNil))))
  (sSeq (sIf (cB (c2 oEq (cVar 8) (cK (.int 0)))) (sRet (cIf (cB (c2 oGt (cVar 7) (cK (.int 0)))) (cVar 2) (c1 oNeg (cK (.int 1))))) (sNext))
  (sRet (cL oMin2 (cCons (cVar 2) (cCons (c2 oAdd (cVar 6) (c2 oFdiv (c2 oSub (cVar 7) (cK (.int 1))) (cVar 8))) (cNil))))))))
noncomputable def f_last_at_once : Fn := defn 9 3 b_last_at_once
abbrev s_last_at_end : Stmt := top 25
noncomputable def b_last_at_end : CS :=
  sSeq (sSet 4 (c2 oSub (cL (ar 1 (oP f_as_whole)) (cCons (cL (ar 2 (oP f_weight_at)) (cCons (cVar 0) (cCons (cVar 3) (cNil)))) (cNil))) (cL (ar 1 (oP f_as_whole)) (cCons (cVar 1) (cNil)))))
  (sSeq (sSet 5 (cL (ar 1 (oP f_as_whole)) (cCons (cVar 2) (cNil))))
  (sSeq (sIf (cB (c2 oLt (cVar 4) (cK (.int 0)))) (sRet (cVar 3)) (sNext))
  (sSeq (sIf (cB (c2 oEq (cVar 5) (cK (.int 0)))) (sRet (c1 oNeg (cK (.int 1)))) (sNext))
  (sRet (c2 oSub (c2 oSub (cVar 3) (c2 oFdiv (cVar 4) (cVar 5))) (cK (.int 1)))))))
noncomputable def f_last_at_end : Fn := defn 6 4 b_last_at_end
abbrev s_last_able : Stmt := top 26
noncomputable def b_last_able : CS :=
  sSeq (sDrop (cL (ar 3 (oP f_need_turns)) (cCons (cVar 0) (cCons (cVar 3) (cCons (cVar 4) (cNil))))))
  (sSeq (sSet 5 (cL oMax2 (cCons (cL (ar 3 (oP f_last_at_once)) (cCons (cVar 0) (cCons (cVar 1) (cCons (cVar 4) (cNil))))) (cCons (cL (ar 4 (oP f_last_at_end)) (cCons (cVar 0) (cCons (cVar 1) (cCons (cVar 2) (cCons (cVar 4) (cNil)))))) (cNil)))))
  (sSeq (sIf (cB (c2 oLt (cVar 5) (cVar 3))) (sRet (cK .non)) (sNext))
  (sRet (cVar 5))))
noncomputable def f_last_able : Fn := defn 6 5 b_last_able
abbrev s_Sorts_rows_told : Stmt := methOf (top 34) 3
noncomputable def ct_Sorts_rows_told_1 : CT :=
  tYesG
theorem ct_Sorts_rows_told_1_eq (ρ : En) (mh : List O) : ct_Sorts_rows_told_1 ρ mh = (tYesG) ρ mh := rfl
noncomputable def ce_Sorts_rows_told_1 : CE :=
  cL oTup (cCons (c1 (oFldI fli_name "name") (cVar 1)) (cCons (c1 (oFldI fli_weight "weight") (cVar 1)) (cCons (c1 (oFldI fli_speed "speed") (cVar 1)) (cCons (c1 (oFldI fli_span "span") (cVar 1)) (cCons (c1 (oFldI fli_tries "tries") (cVar 1)) (cNil))))))
theorem ce_Sorts_rows_told_1_eq (ρ : En) (mh : List O) : ce_Sorts_rows_told_1 ρ mh = (cL oTup (cCons (c1 (oFldI fli_name "name") (cVar 1)) (cCons (c1 (oFldI fli_weight "weight") (cVar 1)) (cCons (c1 (oFldI fli_speed "speed") (cVar 1)) (cCons (c1 (oFldI fli_span "span") (cVar 1)) (cCons (c1 (oFldI fli_tries "tries") (cVar 1)) (cNil))))))) ρ mh := rfl
noncomputable def b_Sorts_rows_told : CS :=
  sRet (cLockK (kFld fli_by_name 0 "by_name") (cLcX false (kVals (kFld fli_by_name 0 "by_name")) (gNm 1) ct_Sorts_rows_told_1 ce_Sorts_rows_told_1 [1]))
noncomputable def f_Sorts_rows_told : Fn := defn 2 1 b_Sorts_rows_told
abbrev s_last_comer : Stmt := top 27
noncomputable def tb_rows_told_0 : List (Str × Fn) := [("Sorts", oP f_Sorts_rows_told)]
noncomputable def it_last_comer_1 : CI :=
  iL (cMeth "rows_told" 0 tb_rows_told_0 (cVar 1) cNil)
theorem it_last_comer_1_eq (ρ : En) (mh : List O) : it_last_comer_1 ρ mh = (iL (cMeth "rows_told" 0 tb_rows_told_0 (cVar 1) cNil)) ρ mh := rfl
noncomputable def bd_last_comer_1 : CS :=
  sSeq (sSet 10 (cL (ar 5 (oP f_last_able)) (cCons (cVar 0) (cCons (cVar 6) (cCons (cVar 7) (cCons (cVar 2) (cCons (cVar 3) (cNil))))))))
  (sIf (tAnd2 (cB (c2 oIsNotX (cVar 10) (cK .non))) (tOr2 (cB (c2 oIsX (cVar 4) (cK .non))) (cB (c2 oGt (cVar 10) (c2 oIx (cVar 4) (cK (.int 0))))))) (sSet 4 (cL oTup (cCons (cVar 10) (cCons (cVar 5) (cNil))))) (sNext))
theorem bd_last_comer_1_eq (ρ : En) (mh : List O) : bd_last_comer_1 ρ mh = (sSeq (sSet 10 (cL (ar 5 (oP f_last_able)) (cCons (cVar 0) (cCons (cVar 6) (cCons (cVar 7) (cCons (cVar 2) (cCons (cVar 3) (cNil))))))))
  (sIf (tAnd2 (cB (c2 oIsNotX (cVar 10) (cK .non))) (tOr2 (cB (c2 oIsX (cVar 4) (cK .non))) (cB (c2 oGt (cVar 10) (c2 oIx (cVar 4) (cK (.int 0))))))) (sSet 4 (cL oTup (cCons (cVar 10) (cCons (cVar 5) (cNil))))) (sNext))) ρ mh := rfl
noncomputable def b_last_comer : CS :=
  sSeq (sDrop (cL (ar 3 (oP f_need_turns)) (cCons (cVar 0) (cCons (cVar 2) (cCons (cVar 3) (cNil))))))
  (sSeq (sSet 4 (cK .non))
  (sSeq (sFor it_last_comer_1 (gUnp 5 (gsCons (gNm 5) (gsCons (gNm 6) (gsCons (gNm 7) (gsCons (gNm 8) (gsCons (gNm 9) (gsNil))))))) bd_last_comer_1)
  (sRet (cVar 4))))
noncomputable def f_last_comer : Fn := defn 11 4 b_last_comer
abbrev s_is_row : Stmt := top 33
noncomputable def b_is_row : CS :=
  sSeq (sIf (tOr2 (tNot1 (cB (cL oIsi (cCons (cVar 0) (cCons (cK (.ty "tuple")) (cNil)))))) (tOr2 (cB (c2 oNe (cL oLen (cCons (cVar 0) (cNil))) (cK (.int 5)))) (tNot1 (cB (cL (ar 1 (oP f_is_name)) (cCons (c2 oIx (cVar 0) (cK (.int 0))) (cNil))))))) (sRet (cK (.bl false))) (sNext))
  (sSeq (sIf (tOr2 (tNot1 (cB (cL (ar 1 (oP f_is_weight)) (cCons (c2 oIx (cVar 0) (cK (.int 1))) (cNil))))) (tNot1 (cB (cL (ar 1 (oP f_is_weight)) (cCons (c2 oIx (cVar 0) (cK (.int 2))) (cNil)))))) (sRet (cK (.bl false))) (sNext))
  (sRet (cAnd2 (cL (ar 3 (oP f_is_whole)) (cCons (c2 oIx (cVar 0) (cK (.int 3))) (cCons (cK (.int 1)) (cCons (cK (.int 4)) (cNil))))) (cL (ar 3 (oP f_is_whole)) (cCons (c2 oIx (cVar 0) (cK (.int 4))) (cCons (cK (.int 1)) (cCons (cK (.int 3)) (cNil))))))))
noncomputable def f_is_row : Fn := defn 1 1 b_is_row
abbrev s_l_cell : Stmt := top 36
noncomputable def b_l_cell : CS :=
  sSeq (sIf (cB (c2 oLt (cVar 1) (cL oLen (cCons (cVar 0) (cNil))))) (sRet (c2 oIx (cVar 0) (cVar 1))) (sNext))
  (sRet (c2 oAdd (c2 oMul (cK (.int 7919)) (cVar 1)) (cK (.int 13))))
noncomputable def f_l_cell : Fn := defn 2 2 b_l_cell
abbrev s_l_mix : Stmt := top 37
noncomputable def b_l_mix : CS :=
  sSeq (sSet 2 (c2 oMod (c2 oMul (c2 oAdd (c2 oAdd (c2 oMod (cVar 0) (cK (.int 2147483629))) (c2 oMul (cK (.int 7919)) (cVar 1))) (cK (.int 17))) (cK (.int 48271))) (cK (.int 2147483647))))
  (sSeq (sSet 2 (c2 oMod (c2 oAdd (c2 oMul (cVar 2) (cVar 2)) (c2 oMul (cK (.int 3)) (cVar 1))) (cK (.int 2147483629))))
  (sRet (c2 oMod (c2 oMul (cVar 2) (c2 oAdd (cVar 2) (cK (.int 3)))) (cK (.int 2147483587)))))
noncomputable def f_l_mix : Fn := defn 3 2 b_l_mix
abbrev s_l_begun : Stmt := top 38
noncomputable def b_l_begun : CS :=
  sSeq (sIf (cB (c2 oGe (cVar 0) (c2 oPow (cK (.int 10)) (cK (.int 18))))) (sRet (cL oNew (cCons (cVar 0) (cCons (cVar 0) (cCons (cK (.int 0)) (cNil)))))) (sNext))
  (sRet (cL oNew (cCons (cK (.int 0)) (cCons (cVar 0) (cCons (cK (.int 0)) (cNil))))))
noncomputable def f_l_begun : Fn := defn 1 1 b_l_begun
abbrev s_l_pull : Stmt := top 39
noncomputable def b_l_pull : CS :=
  sSeq (sIf (cB (c2 oGt (c2 oIx (cVar 0) (cK (.int 0))) (cK (.int 0)))) (sSeq (sSet 2 (c2 oMod (c2 oIx (cVar 0) (cK (.int 0))) (cVar 1)))
  (sSeq (sAsg (c2 oFdiv (c2 oIx (cVar 0) (cK (.int 0))) (cVar 1)) (gIx (cVar 0) (cK (.int 0))))
  (sRet (cVar 2)))) (sNext))
  (sSeq (sAsg (c2 oAdd (c2 oIx (cVar 0) (cK (.int 2))) (cK (.int 1))) (gIx (cVar 0) (cK (.int 2))))
  (sRet (c2 oMod (cL (ar 2 (oP f_l_mix)) (cCons (c2 oIx (cVar 0) (cK (.int 1))) (cCons (c2 oIx (cVar 0) (cK (.int 2))) (cNil)))) (cVar 1))))
noncomputable def f_l_pull : Fn := defn 3 2 b_l_pull
abbrev s_l_weight : Stmt := top 40
noncomputable def b_l_weight : CS :=
  sRet (cL oTup (cCons (cL (ar 2 f_l_pull) (cCons (cVar 0) (cCons (c2 oAdd (cVar 1) (cK (.int 1))) (cNil)))) (cCons (c2 oAdd (cK (.int 1)) (cL (ar 2 f_l_pull) (cCons (cVar 0) (cCons (cVar 2) (cNil))))) (cNil))))
noncomputable def f_l_weight : Fn := defn 3 3 b_l_weight
abbrev s_l_claims : Stmt := top 41
noncomputable def it_l_claims_1 : CI :=
  iR1 (cCons (cVar 2) (cNil))
theorem it_l_claims_1_eq (ρ : En) (mh : List O) : it_l_claims_1 ρ mh = (iR1 (cCons (cVar 2) (cNil))) ρ mh := rfl
noncomputable def bd_l_claims_1 : CS :=
  sSeq (sSet 10 (c2 oAdd (c2 oMul (cK (.int 7)) (cM oPopAt (cVar 7) (cCons (cL (ar 2 f_l_pull) (cCons (cVar 0) (cCons (cL oLen (cCons (cVar 7) (cNil))) (cNil)))) (cNil)))) (cL (ar 2 f_l_pull) (cCons (cVar 0) (cCons (cK (.int 7)) (cNil))))))
  (sSeq (sSet 11 (cL (ar 3 f_l_weight) (cCons (cVar 0) (cCons (cVar 3) (cCons (cVar 5) (cNil))))))
  (sSeq (sSet 12 (cL (ar 3 f_l_weight) (cCons (cVar 0) (cCons (cVar 4) (cCons (cVar 5) (cNil))))))
  (sDrop (cM oAppend (cVar 8) (cCons (cL oTup (cCons (cVar 10) (cCons (cVar 11) (cCons (cVar 12) (cCons (cL (ar 2 f_l_pull) (cCons (cVar 0) (cCons (cVar 6) (cNil)))) (cNil)))))) (cNil))))))
theorem bd_l_claims_1_eq (ρ : En) (mh : List O) : bd_l_claims_1 ρ mh = (sSeq (sSet 10 (c2 oAdd (c2 oMul (cK (.int 7)) (cM oPopAt (cVar 7) (cCons (cL (ar 2 f_l_pull) (cCons (cVar 0) (cCons (cL oLen (cCons (cVar 7) (cNil))) (cNil)))) (cNil)))) (cL (ar 2 f_l_pull) (cCons (cVar 0) (cCons (cK (.int 7)) (cNil))))))
  (sSeq (sSet 11 (cL (ar 3 f_l_weight) (cCons (cVar 0) (cCons (cVar 3) (cCons (cVar 5) (cNil))))))
  (sSeq (sSet 12 (cL (ar 3 f_l_weight) (cCons (cVar 0) (cCons (cVar 4) (cCons (cVar 5) (cNil))))))
  (sDrop (cM oAppend (cVar 8) (cCons (cL oTup (cCons (cVar 10) (cCons (cVar 11) (cCons (cVar 12) (cCons (cL (ar 2 f_l_pull) (cCons (cVar 0) (cCons (cVar 6) (cNil)))) (cNil)))))) (cNil))))))) ρ mh := rfl
noncomputable def b_l_claims : CS :=
  sSeq (sSet 2 (cL (ar 2 f_l_pull) (cCons (cVar 0) (cCons (c2 oAdd (cVar 1) (cK (.int 1))) (cNil)))))
  (sSeq (sSet 3 (c2 oIx (cL oLst (cCons (cK (.int 3)) (cCons (cK (.int 40)) (cCons (c2 oPow (cK (.int 10)) (cK (.int 6))) (cNil))))) (cL (ar 2 f_l_pull) (cCons (cVar 0) (cCons (cK (.int 3)) (cNil))))))
  (sSeq (sSet 4 (c2 oIx (cL oLst (cCons (cK (.int 2)) (cCons (cK (.int 9)) (cCons (c2 oPow (cK (.int 10)) (cK (.int 6))) (cNil))))) (cL (ar 2 f_l_pull) (cCons (cVar 0) (cCons (cK (.int 3)) (cNil))))))
  (sSeq (sSet 5 (c2 oIx (cL oLst (cCons (cK (.int 1)) (cCons (cK (.int 2)) (cCons (cK (.int 12)) (cNil))))) (cL (ar 2 f_l_pull) (cCons (cVar 0) (cCons (cK (.int 3)) (cNil))))))
  (sSeq (sSet 6 (c2 oIx (cL oLst (cCons (cK (.int 1)) (cCons (cK (.int 8)) (cCons (c2 oPow (cK (.int 10)) (cK (.int 15))) (cNil))))) (cL (ar 2 f_l_pull) (cCons (cVar 0) (cCons (cK (.int 3)) (cNil))))))
  (sSeq (sSet 7 (c1 (oLR1 true) (cVar 2)))
  (sSeq (sSet 8 (cL oNew (cNil)))
  (sSeq (sFor it_l_claims_1 (gNm 9) bd_l_claims_1)
  (sRet (cVar 8)))))))))
noncomputable def f_l_claims : Fn := defn 13 2 b_l_claims
abbrev s_l_begin : Stmt := top 42
noncomputable def ci_l_begin_1 : CI :=
  iL (cVar 1)
theorem ci_l_begin_1_eq (ρ : En) (mh : List O) : ci_l_begin_1 ρ mh = (iL (cVar 1)) ρ mh := rfl
noncomputable def ct_l_begin_1 : CT :=
  tYesG
theorem ct_l_begin_1_eq (ρ : En) (mh : List O) : ct_l_begin_1 ρ mh = (tYesG) ρ mh := rfl
noncomputable def ce_l_begin_1 : CE :=
  c2 oIx (cVar 3) (cK (.int 3))
theorem ce_l_begin_1_eq (ρ : En) (mh : List O) : ce_l_begin_1 ρ mh = (c2 oIx (cVar 3) (cK (.int 3))) ρ mh := rfl
noncomputable def b_l_begin : CS :=
  sSeq (sSet 2 (cL oMaxL (cCons (c2 oAdd (cL oLst (cCons (cK (.int 0)) (cNil))) (cLcX false ci_l_begin_1 (gNm 3) ct_l_begin_1 ce_l_begin_1 [3])) (cNil))))
  (sRet (cL oMin2 (cCons (c2 oPow (cK (.int 10)) (cK (.int 15))) (cCons (c2 oAdd (cVar 2) (cL (ar 2 f_l_pull) (cCons (cVar 0) (cCons (c2 oIx (cL oLst (cCons (cK (.int 1)) (cCons (cK (.int 5)) (cCons (cK (.int 1000)) (cCons (c2 oPow (cK (.int 10)) (cK (.int 15))) (cNil)))))) (cL (ar 2 f_l_pull) (cCons (cVar 0) (cCons (cK (.int 4)) (cNil))))) (cNil))))) (cNil)))))
noncomputable def f_l_begin : Fn := defn 4 2 b_l_begin
abbrev s_l_comer : Stmt := top 43
noncomputable def b_l_comer : CS :=
  sSeq (sSet 2 (cL (ar 2 f_l_pull) (cCons (cVar 0) (cCons (cK (.int 3)) (cNil)))))
  (sSeq (sIf (cB (c2 oEq (cVar 2) (cK (.int 0)))) (sRet (cL oTup (cCons (c2 oIx (cVar 1) (cK (.int 1))) (cCons (c2 oIx (cVar 1) (cK (.int 2))) (cNil))))) (sNext))
  (sSeq (sSet 3 (cL (ar 3 f_l_weight) (cCons (cVar 0) (cCons (c2 oIx (cL oLst (cCons (cK (.int 3)) (cCons (cK (.int 40)) (cCons (c2 oPow (cK (.int 10)) (cK (.int 6))) (cNil))))) (cL (ar 2 f_l_pull) (cCons (cVar 0) (cCons (cK (.int 3)) (cNil))))) (cCons (cK (.int 12)) (cNil))))))
  (sSeq (sIf (cB (c2 oEq (cVar 2) (cK (.int 1)))) (sRet (cL oTup (cCons (cVar 3) (cCons (c2 oIx (cVar 1) (cK (.int 2))) (cNil))))) (sNext))
  (sRet (cL oTup (cCons (cVar 3) (cCons (cL (ar 3 f_l_weight) (cCons (cVar 0) (cCons (c2 oIx (cL oLst (cCons (cK (.int 2)) (cCons (cK (.int 9)) (cCons (c2 oPow (cK (.int 10)) (cK (.int 6))) (cNil))))) (cL (ar 2 f_l_pull) (cCons (cVar 0) (cCons (cK (.int 3)) (cNil))))) (cCons (cK (.int 12)) (cNil))))) (cNil))))))))
noncomputable def f_l_comer : Fn := defn 4 2 b_l_comer
abbrev s_l_rows : Stmt := top 44
noncomputable def it_l_rows_1 : CI :=
  iL (cSl oSlL (c2 oAdd (cSl oSlL (cVar 2) (coS (cVar 3)) (coN)) (cSl oSlL (cVar 2) (coN) (coS (cVar 3)))) (coN) (coS (c2 oAdd (cK (.int 1)) (cL (ar 2 f_l_pull) (cCons (cVar 0) (cCons (cK (.int 8)) (cNil)))))))
theorem it_l_rows_1_eq (ρ : En) (mh : List O) : it_l_rows_1 ρ mh = (iL (cSl oSlL (c2 oAdd (cSl oSlL (cVar 2) (coS (cVar 3)) (coN)) (cSl oSlL (cVar 2) (coN) (coS (cVar 3)))) (coN) (coS (c2 oAdd (cK (.int 1)) (cL (ar 2 f_l_pull) (cCons (cVar 0) (cCons (cK (.int 8)) (cNil)))))))) ρ mh := rfl
noncomputable def bd_l_rows_1 : CS :=
  sSeq (sAsg (cL (ar 2 f_l_comer) (cCons (cVar 0) (cCons (cVar 1) (cNil)))) (gUnp 2 (gsCons (gNm 6) (gsCons (gNm 7) (gsNil)))))
  (sDrop (cM oAppend (cVar 4) (cCons (cL oTup (cCons (cVar 5) (cCons (cVar 6) (cCons (cVar 7) (cCons (c2 oAdd (cK (.int 1)) (cL (ar 2 f_l_pull) (cCons (cVar 0) (cCons (cK (.int 4)) (cNil))))) (cCons (c2 oAdd (cK (.int 1)) (cL (ar 2 f_l_pull) (cCons (cVar 0) (cCons (cK (.int 3)) (cNil))))) (cNil))))))) (cNil))))
theorem bd_l_rows_1_eq (ρ : En) (mh : List O) : bd_l_rows_1 ρ mh = (sSeq (sAsg (cL (ar 2 f_l_comer) (cCons (cVar 0) (cCons (cVar 1) (cNil)))) (gUnp 2 (gsCons (gNm 6) (gsCons (gNm 7) (gsNil)))))
  (sDrop (cM oAppend (cVar 4) (cCons (cL oTup (cCons (cVar 5) (cCons (cVar 6) (cCons (cVar 7) (cCons (c2 oAdd (cK (.int 1)) (cL (ar 2 f_l_pull) (cCons (cVar 0) (cCons (cK (.int 4)) (cNil))))) (cCons (c2 oAdd (cK (.int 1)) (cL (ar 2 f_l_pull) (cCons (cVar 0) (cCons (cK (.int 3)) (cNil))))) (cNil))))))) (cNil))))) ρ mh := rfl
noncomputable def b_l_rows : CS :=
  sSeq (sSet 2 (cL oLst (cCons (cK (.str "rush")) (cCons (cK (.str "plain")) (cCons (cK (.str "slow")) (cCons (cK (.str "odd")) (cCons (cK (.str "a")) (cCons (cK (.str "zz")) (cCons (cK (.str "late")) (cCons (cK (.str "abcdefgh")) (cNil)))))))))))
  (sSeq (sSet 3 (cL (ar 2 f_l_pull) (cCons (cVar 0) (cCons (cK (.int 8)) (cNil)))))
  (sSeq (sSet 4 (cL oNew (cNil)))
  (sSeq (sFor it_l_rows_1 (gNm 5) bd_l_rows_1)
  (sRet (cVar 4)))))
noncomputable def f_l_rows : Fn := defn 8 2 b_l_rows
abbrev s_l_due : Stmt := top 45
noncomputable def it_l_due_1 : CI :=
  iL (cVar 1)
theorem it_l_due_1_eq (ρ : En) (mh : List O) : it_l_due_1 ρ mh = (iL (cVar 1)) ρ mh := rfl
noncomputable def bd_l_due_1 : CS :=
  sSeq (sSet 10 (cL (ar 5 (oP f_last_able)) (cCons (cVar 0) (cCons (cVar 6) (cCons (cVar 7) (cCons (cVar 2) (cCons (cVar 3) (cNil))))))))
  (sIf (tAnd2 (cB (c2 oIsNotX (cVar 10) (cK .non))) (tOr2 (cB (c2 oIsX (cVar 4) (cK .non))) (cB (c2 oGt (cVar 10) (c2 oIx (cVar 4) (cK (.int 0))))))) (sSet 4 (cL oTup (cCons (cVar 10) (cCons (cVar 5) (cNil))))) (sNext))
theorem bd_l_due_1_eq (ρ : En) (mh : List O) : bd_l_due_1 ρ mh = (sSeq (sSet 10 (cL (ar 5 (oP f_last_able)) (cCons (cVar 0) (cCons (cVar 6) (cCons (cVar 7) (cCons (cVar 2) (cCons (cVar 3) (cNil))))))))
  (sIf (tAnd2 (cB (c2 oIsNotX (cVar 10) (cK .non))) (tOr2 (cB (c2 oIsX (cVar 4) (cK .non))) (cB (c2 oGt (cVar 10) (c2 oIx (cVar 4) (cK (.int 0))))))) (sSet 4 (cL oTup (cCons (cVar 10) (cCons (cVar 5) (cNil))))) (sNext))) ρ mh := rfl
noncomputable def b_l_due : CS :=
  sSeq (sSet 4 (cK .non))
  (sSeq (sFor it_l_due_1 (gUnp 5 (gsCons (gNm 5) (gsCons (gNm 6) (gsCons (gNm 7) (gsCons (gNm 8) (gsCons (gNm 9) (gsNil))))))) bd_l_due_1)
  (sRet (cVar 4)))
noncomputable def f_l_due : Fn := defn 11 4 b_l_due
abbrev s_Sort_init : Stmt := methOf (top 32) 0
noncomputable def b_Sort_init : CS :=
  sSeq (sSetF fli_name "name" (cVar 0) (cVar 1))
  (sSeq (sSetF fli_weight "weight" (cVar 0) (cVar 2))
  (sSeq (sSetF fli_speed "speed" (cVar 0) (cVar 3))
  (sSeq (sSetF fli_span "span" (cVar 0) (cVar 4))
  (sSetF fli_tries "tries" (cVar 0) (cVar 5)))))
noncomputable def f_Sort_init : Fn := defn 6 6 b_Sort_init
abbrev s_Sorts_init : Stmt := methOf (top 34) 0
noncomputable def it_Sorts_init_1 : CI :=
  iL (cVar 1)
theorem it_Sorts_init_1_eq (ρ : En) (mh : List O) : it_Sorts_init_1 ρ mh = (iL (cVar 1)) ρ mh := rfl
noncomputable def bd_Sorts_init_1 : CS :=
  sSeq (sIf (tOr2 (tNot1 (cB (cL (ar 1 (oP f_is_row)) (cCons (cVar 2) (cNil))))) (cB (c2 (oInD false) (c2 oIx (cVar 2) (cK (.int 0))) (c1 (oFldI fli_by_name "by_name") (cVar 0))))) (sRaise0 "NoSorts") (sNext))
  (sSeq (sAsg (cVar 2) (gUnp 5 (gsCons (gNm 4) (gsCons (gNm 5) (gsCons (gNm 6) (gsCons (gNm 7) (gsCons (gNm 8) (gsNil))))))))
  (sSeq (sSet 3 (cMakeV "Sort" 5 f_Sort_init (cCons (cVar 4) (cCons (cL (ar 2 (oP f_lowest)) (cCons (c2 oIx (cVar 5) (cK (.int 0))) (cCons (c2 oIx (cVar 5) (cK (.int 1))) (cNil)))) (cCons (cL (ar 2 (oP f_lowest)) (cCons (c2 oIx (cVar 6) (cK (.int 0))) (cCons (c2 oIx (cVar 6) (cK (.int 1))) (cNil)))) (cCons (cVar 7) (cCons (cVar 8) (cNil))))))))
  (sAsg (cVar 3) (gKx (c1 (oFldI fli_by_name "by_name") (cVar 0)) (cVar 4)))))
theorem bd_Sorts_init_1_eq (ρ : En) (mh : List O) : bd_Sorts_init_1 ρ mh = (sSeq (sIf (tOr2 (tNot1 (cB (cL (ar 1 (oP f_is_row)) (cCons (cVar 2) (cNil))))) (cB (c2 (oInD false) (c2 oIx (cVar 2) (cK (.int 0))) (c1 (oFldI fli_by_name "by_name") (cVar 0))))) (sRaise0 "NoSorts") (sNext))
  (sSeq (sAsg (cVar 2) (gUnp 5 (gsCons (gNm 4) (gsCons (gNm 5) (gsCons (gNm 6) (gsCons (gNm 7) (gsCons (gNm 8) (gsNil))))))))
  (sSeq (sSet 3 (cMakeV "Sort" 5 f_Sort_init (cCons (cVar 4) (cCons (cL (ar 2 (oP f_lowest)) (cCons (c2 oIx (cVar 5) (cK (.int 0))) (cCons (c2 oIx (cVar 5) (cK (.int 1))) (cNil)))) (cCons (cL (ar 2 (oP f_lowest)) (cCons (c2 oIx (cVar 6) (cK (.int 0))) (cCons (c2 oIx (cVar 6) (cK (.int 1))) (cNil)))) (cCons (cVar 7) (cCons (cVar 8) (cNil))))))))
  (sAsg (cVar 3) (gKx (c1 (oFldI fli_by_name "by_name") (cVar 0)) (cVar 4)))))) ρ mh := rfl
noncomputable def b_Sorts_init : CS :=
  sSeq (sIf (tOr2 (tNot1 (cB (cL oIsi (cCons (cVar 1) (cCons (cK (.ty "list")) (cNil)))))) (tNot1 (cB (cChain oLe oLe (cK (.int 1)) (cL oLen (cCons (cVar 1) (cNil))) (cK (.int 8)))))) (sRaise0 "NoSorts") (sNext))
  (sSeq (sSetF fli_by_name "by_name" (cVar 0) (cDNew))
  (sFor it_Sorts_init_1 (gNm 2) bd_Sorts_init_1))
noncomputable def f_Sorts_init : Fn := defn 9 2 b_Sorts_init
abbrev s_l_caught : Stmt := top 46
noncomputable def tb_l_caught_1 : CS :=
  sIf (cB (c2 oEq (cVar 0) (cK (.int 0)))) (sDrop (cL (ar 5 (oP f_last_able)) (cCons (cVar 1) (cCons (c2 oIx (c2 oIx (cVar 2) (cK (.int 0))) (cK (.int 1))) (cCons (c2 oIx (c2 oIx (cVar 2) (cK (.int 0))) (cK (.int 2))) (cCons (cVar 3) (cCons (cVar 4) (cNil)))))))) (sDrop (cL (ar 4 (oP f_last_comer)) (cCons (cVar 1) (cCons (cMakeL "Sorts" 1 f_Sorts_init (cCons (cVar 2) (cNil))) (cCons (cVar 3) (cCons (cVar 4) (cNil)))))))
theorem tb_l_caught_1_eq (ρ : En) (mh : List O) : tb_l_caught_1 ρ mh = (sIf (cB (c2 oEq (cVar 0) (cK (.int 0)))) (sDrop (cL (ar 5 (oP f_last_able)) (cCons (cVar 1) (cCons (c2 oIx (c2 oIx (cVar 2) (cK (.int 0))) (cK (.int 1))) (cCons (c2 oIx (c2 oIx (cVar 2) (cK (.int 0))) (cK (.int 2))) (cCons (cVar 3) (cCons (cVar 4) (cNil)))))))) (sDrop (cL (ar 4 (oP f_last_comer)) (cCons (cVar 1) (cCons (cMakeL "Sorts" 1 f_Sorts_init (cCons (cVar 2) (cNil))) (cCons (cVar 3) (cCons (cVar 4) (cNil)))))))) ρ mh := rfl
noncomputable def b_l_caught : CS :=
  sSeq (sSet 5 (cK .non))
  (sSeq (sTry is_WaitError 6 tb_l_caught_1 (sIf (tAnd2 (cB (cL (oIsO isTab) (cCons (cVar 6) (cCons (cK (.glb "NoTurn")) (cNil))))) (cB (cL (oIsO isTab) (cCons (cVar 6) (cCons (cK (.ty "ValueError")) (cNil)))))) (sSet 5 (cL oLst (cCons (c1 (oFld fld_turn "turn") (cVar 6)) (cNil)))) (sNext)))
  (sRet (cVar 5)))
noncomputable def f_l_caught : Fn := defn 7 5 b_l_caught
abbrev s_l_refused : Stmt := top 47
noncomputable def it_l_refused_1 : CI :=
  iL (cL oLst (cCons (cVar 3) (cCons (cVar 5) (cCons (cVar 6) (cNil)))))
theorem it_l_refused_1_eq (ρ : En) (mh : List O) : it_l_refused_1 ρ mh = (iL (cL oLst (cCons (cVar 3) (cCons (cVar 5) (cCons (cVar 6) (cNil)))))) ρ mh := rfl
noncomputable def bd_l_refused_1 : CS :=
  sSeq (sSet 9 (cL (ar 5 f_l_caught) (cCons (cVar 7) (cCons (cVar 1) (cCons (cVar 2) (cCons (cVar 5) (cCons (cVar 8) (cNil))))))))
  (sIf (tOr2 (cB (c2 (oSame false) (cVar 9) (cL oLst (cCons (cVar 5) (cNil))))) (cB (c2 oNe (cL oIsi (cCons (c2 oIx (cVar 9) (cK (.int 0))) (cCons (cK (.ty "bool")) (cNil)))) (cL oIsi (cCons (cVar 5) (cCons (cK (.ty "bool")) (cNil))))))) (sRet (cK (.bl false))) (sNext))
theorem bd_l_refused_1_eq (ρ : En) (mh : List O) : bd_l_refused_1 ρ mh = (sSeq (sSet 9 (cL (ar 5 f_l_caught) (cCons (cVar 7) (cCons (cVar 1) (cCons (cVar 2) (cCons (cVar 5) (cCons (cVar 8) (cNil))))))))
  (sIf (tOr2 (cB (c2 (oSame false) (cVar 9) (cL oLst (cCons (cVar 5) (cNil))))) (cB (c2 oNe (cL oIsi (cCons (c2 oIx (cVar 9) (cK (.int 0))) (cCons (cK (.ty "bool")) (cNil)))) (cL oIsi (cCons (cVar 5) (cCons (cK (.ty "bool")) (cNil))))))) (sRet (cK (.bl false))) (sNext))) ρ mh := rfl
noncomputable def it_l_refused_2 : CI :=
  iR1 (cCons (cK (.int 2)) (cNil))
theorem it_l_refused_2_eq (ρ : En) (mh : List O) : it_l_refused_2 ρ mh = (iR1 (cCons (cK (.int 2)) (cNil))) ρ mh := rfl
noncomputable def bd_l_refused_2 : CS :=
  sSeq (sFor it_l_refused_1 (gNm 8) bd_l_refused_1)
  (sSeq (sSet 9 (cL (ar 5 f_l_caught) (cCons (cVar 7) (cCons (cVar 1) (cCons (cVar 2) (cCons (cVar 3) (cCons (cVar 6) (cNil))))))))
  (sSeq (sIf (tOr2 (cB (c2 (oSame false) (cVar 9) (cL oLst (cCons (cVar 6) (cNil))))) (cB (c2 oNe (cL oIsi (cCons (c2 oIx (cVar 9) (cK (.int 0))) (cCons (cK (.ty "bool")) (cNil)))) (cL oIsi (cCons (cVar 6) (cCons (cK (.ty "bool")) (cNil))))))) (sRet (cK (.bl false))) (sNext))
  (sSeq (sIf (cB (c2 oIsNotX (cL (ar 5 f_l_caught) (cCons (cVar 7) (cCons (cVar 1) (cCons (cVar 2) (cCons (c2 oIx (cVar 1) (cK (.int 3))) (cCons (c2 oIx (cVar 1) (cK (.int 3))) (cNil))))))) (cK .non))) (sRet (cK (.bl false))) (sNext))
  (sIf (cB (c2 oIsNotX (cL (ar 5 f_l_caught) (cCons (cVar 7) (cCons (cVar 1) (cCons (cVar 2) (cCons (c2 oPow (cK (.int 10)) (cK (.int 15))) (cCons (c2 oPow (cK (.int 10)) (cK (.int 15))) (cNil))))))) (cK .non))) (sRet (cK (.bl false))) (sNext)))))
theorem bd_l_refused_2_eq (ρ : En) (mh : List O) : bd_l_refused_2 ρ mh = (sSeq (sFor it_l_refused_1 (gNm 8) bd_l_refused_1)
  (sSeq (sSet 9 (cL (ar 5 f_l_caught) (cCons (cVar 7) (cCons (cVar 1) (cCons (cVar 2) (cCons (cVar 3) (cCons (cVar 6) (cNil))))))))
  (sSeq (sIf (tOr2 (cB (c2 (oSame false) (cVar 9) (cL oLst (cCons (cVar 6) (cNil))))) (cB (c2 oNe (cL oIsi (cCons (c2 oIx (cVar 9) (cK (.int 0))) (cCons (cK (.ty "bool")) (cNil)))) (cL oIsi (cCons (cVar 6) (cCons (cK (.ty "bool")) (cNil))))))) (sRet (cK (.bl false))) (sNext))
  (sSeq (sIf (cB (c2 oIsNotX (cL (ar 5 f_l_caught) (cCons (cVar 7) (cCons (cVar 1) (cCons (cVar 2) (cCons (c2 oIx (cVar 1) (cK (.int 3))) (cCons (c2 oIx (cVar 1) (cK (.int 3))) (cNil))))))) (cK .non))) (sRet (cK (.bl false))) (sNext))
  (sIf (cB (c2 oIsNotX (cL (ar 5 f_l_caught) (cCons (cVar 7) (cCons (cVar 1) (cCons (cVar 2) (cCons (c2 oPow (cK (.int 10)) (cK (.int 15))) (cCons (c2 oPow (cK (.int 10)) (cK (.int 15))) (cNil))))))) (cK .non))) (sRet (cK (.bl false))) (sNext)))))) ρ mh := rfl
noncomputable def b_l_refused : CS :=
  sSeq (sSet 4 (cL oLst (cCons (c1 oNeg (cK (.int 1))) (cCons (c2 oAdd (c2 oPow (cK (.int 10)) (cK (.int 15))) (cK (.int 1))) (cCons (cK (.bl true)) (cCons (cK (.bl false)) (cCons (cK .non) (cCons (cK (.str "0")) (cCons (cL oLst (cCons (cK (.int 0)) (cNil))) (cCons (cL oTup (cCons (cK (.int 0)) (cNil))) (cCons (cDNil) (cCons (c2 oSub (cK (.int 0)) (c2 oPow (cK (.int 10)) (cK (.int 30)))) (cCons (cL oLst (cNil)) (cCons (c2 oSub (c2 oIx (cVar 1) (cK (.int 3))) (cK (.int 1))) (cNil)))))))))))))))
  (sSeq (sSet 5 (c2 oIx (cVar 4) (cL (ar 2 f_l_pull) (cCons (cVar 0) (cCons (cK (.int 12)) (cNil))))))
  (sSeq (sSet 6 (c2 oIx (c2 oAdd (cSl oSlL (cVar 4) (coN) (coS (cK (.int 11)))) (cL oLst (cCons (c2 oSub (cVar 3) (cK (.int 1))) (cNil)))) (cL (ar 2 f_l_pull) (cCons (cVar 0) (cCons (cK (.int 12)) (cNil))))))
  (sSeq (sFor it_l_refused_2 (gNm 7) bd_l_refused_2)
  (sRet (cK (.bl true))))))
noncomputable def f_l_refused : Fn := defn 10 4 b_l_refused
abbrev s_l_good : Stmt := top 48
noncomputable def it_l_good_1 : CI :=
  iR1 (cCons (cK (.int 2)) (cNil))
theorem it_l_good_1_eq (ρ : En) (mh : List O) : it_l_good_1 ρ mh = (iR1 (cCons (cK (.int 2)) (cNil))) ρ mh := rfl
noncomputable def bd_l_good_1 : CS :=
  sSeq (sSet 9 (cL (ar 4 (oP f_last_comer)) (cCons (cVar 2) (cCons (cVar 6) (cCons (cVar 4) (cCons (cVar 5) (cNil)))))))
  (sIf (tOr2 (cB (c2 oNe (cVar 9) (cVar 7))) (tAnd2 (cB (c2 oIsNotX (cVar 7) (cK .non))) (tOr2 (tNot1 (cB (cL oIsi (cCons (cVar 9) (cCons (cK (.ty "tuple")) (cNil)))))) (cB (cL oIsi (cCons (c2 oIx (cVar 9) (cK (.int 0))) (cCons (cK (.ty "bool")) (cNil)))))))) (sRet (cK (.bl false))) (sNext))
theorem bd_l_good_1_eq (ρ : En) (mh : List O) : bd_l_good_1 ρ mh = (sSeq (sSet 9 (cL (ar 4 (oP f_last_comer)) (cCons (cVar 2) (cCons (cVar 6) (cCons (cVar 4) (cCons (cVar 5) (cNil)))))))
  (sIf (tOr2 (cB (c2 oNe (cVar 9) (cVar 7))) (tAnd2 (cB (c2 oIsNotX (cVar 7) (cK .non))) (tOr2 (tNot1 (cB (cL oIsi (cCons (cVar 9) (cCons (cK (.ty "tuple")) (cNil)))))) (cB (cL oIsi (cCons (c2 oIx (cVar 9) (cK (.int 0))) (cCons (cK (.ty "bool")) (cNil)))))))) (sRet (cK (.bl false))) (sNext))) ρ mh := rfl
noncomputable def b_l_good : CS :=
  sSeq (sSet 1 (cL (ar 1 f_l_begun) (cCons (cVar 0) (cNil))))
  (sSeq (sSet 2 (c2 oIx (c2 oAdd (cL (ar 2 f_l_claims) (cCons (cVar 1) (cCons (cK (.int 1)) (cNil)))) (cL oLst (cCons (cL oTup (cCons (cK (.int 4)) (cCons (cL oTup (cCons (cK (.int 3)) (cCons (cK (.int 2)) (cNil)))) (cCons (cL oTup (cCons (cK (.int 1)) (cCons (cK (.int 1)) (cNil)))) (cCons (cK (.int 0)) (cNil)))))) (cNil)))) (cK (.int 0))))
  (sSeq (sSet 3 (cL (ar 2 f_l_rows) (cCons (cVar 1) (cCons (cVar 2) (cNil)))))
  (sSeq (sSet 4 (cL (ar 2 f_l_begin) (cCons (cVar 1) (cCons (cL oLst (cCons (cVar 2) (cNil))) (cNil)))))
  (sSeq (sSet 5 (cL oMin2 (cCons (c2 oPow (cK (.int 10)) (cK (.int 15))) (cCons (c2 oAdd (cVar 4) (cL (ar 2 f_l_pull) (cCons (cVar 1) (cCons (c2 oIx (cL oLst (cCons (cK (.int 9)) (cCons (cK (.int 1000)) (cCons (c2 oPow (cK (.int 10)) (cK (.int 15))) (cNil))))) (cL (ar 2 f_l_pull) (cCons (cVar 1) (cCons (cK (.int 3)) (cNil))))) (cNil))))) (cNil)))))
  (sSeq (sSet 6 (cMakeL "Sorts" 1 f_Sorts_init (cCons (cL oListOf (cCons (cVar 3) (cNil))) (cNil))))
  (sSeq (sSet 7 (cL (ar 4 f_l_due) (cCons (cVar 2) (cCons (cVar 3) (cCons (cVar 4) (cCons (cVar 5) (cNil)))))))
  (sSeq (sFor it_l_good_1 (gNm 8) bd_l_good_1)
  (sSeq (sSet 10 (c2 oAdd (c2 oAdd (cL oTup (cCons (c2 oIx (cVar 2) (cK (.int 0))) (cNil))) (cL (ar 2 f_l_comer) (cCons (cVar 1) (cCons (cVar 2) (cNil))))) (cL oTup (cCons (c2 oIx (cVar 2) (cK (.int 3))) (cNil)))))
  (sSeq (sIf (cB (c2 oNe (cL (ar 4 (oP f_last_comer)) (cCons (cVar 10) (cCons (cVar 6) (cCons (cVar 4) (cCons (cVar 5) (cNil)))))) (cL (ar 4 f_l_due) (cCons (cVar 10) (cCons (cVar 3) (cCons (cVar 4) (cCons (cVar 5) (cNil)))))))) (sRet (cK (.bl false))) (sNext))
  (sSeq (sDrop (cM oReverse (cVar 3) cNil))
  (sSeq (sIf (cB (c2 oNe (cL (ar 4 (oP f_last_comer)) (cCons (cVar 2) (cCons (cMakeL "Sorts" 1 f_Sorts_init (cCons (cL oListOf (cCons (cVar 3) (cNil))) (cNil))) (cCons (cVar 4) (cCons (cVar 5) (cNil)))))) (cL (ar 4 f_l_due) (cCons (cVar 2) (cCons (cVar 3) (cCons (cVar 4) (cCons (cVar 5) (cNil)))))))) (sRet (cK (.bl false))) (sNext))
  (sRet (cAnd2 (c2 oEq (cL (ar 4 (oP f_last_comer)) (cCons (cVar 2) (cCons (cVar 6) (cCons (cVar 4) (cCons (cVar 5) (cNil)))))) (cVar 7)) (cL (ar 4 f_l_refused) (cCons (cVar 1) (cCons (cVar 2) (cCons (cVar 3) (cCons (cVar 4) (cNil)))))))))))))))))))
noncomputable def f_l_good : Fn := defn 11 1 b_l_good
abbrev s_law : Stmt := top 49
noncomputable def it_law_1 : CI :=
  iR1 (cCons (cL oMax2 (cCons (cK (.int 2)) (cCons (cL oMin2 (cCons (cL oLen (cCons (cVar 0) (cNil))) (cCons (cK (.int 8)) (cNil)))) (cNil)))) (cNil))
theorem it_law_1_eq (ρ : En) (mh : List O) : it_law_1 ρ mh = (iR1 (cCons (cL oMax2 (cCons (cK (.int 2)) (cCons (cL oMin2 (cCons (cL oLen (cCons (cVar 0) (cNil))) (cCons (cK (.int 8)) (cNil)))) (cNil)))) (cNil))) ρ mh := rfl
noncomputable def bd_law_1 : CS :=
  sIf (tNot1 (cB (cL (ar 1 (oP f_l_good)) (cCons (cL (ar 2 (oP f_l_cell)) (cCons (cVar 0) (cCons (cVar 1) (cNil)))) (cNil))))) (sRet (cK (.bl false))) (sNext)
theorem bd_law_1_eq (ρ : En) (mh : List O) : bd_law_1 ρ mh = (sIf (tNot1 (cB (cL (ar 1 (oP f_l_good)) (cCons (cL (ar 2 (oP f_l_cell)) (cCons (cVar 0) (cCons (cVar 1) (cNil)))) (cNil))))) (sRet (cK (.bl false))) (sNext)) ρ mh := rfl
noncomputable def b_law : CS :=
  sSeq (sFor it_law_1 (gNm 1) bd_law_1)
  (sRet (cK (.bl true)))
noncomputable def f_law : Fn := defn 2 1 b_law
/-- the built-ins that the text names -/
structure Txt (P : Program) (w : World) (K : PySem.W.Frag) (mg : Str → Option Value) (base : Heap) : Prop where
  ValueError : mg "ValueError" = none
  abs : mg "abs" = none
  all : mg "all" = none
  bool : mg "bool" = none
  int : mg "int" = none
  isinstance : mg "isinstance" = none
  len : mg "len" = none
  list : mg "list" = none
  max : mg "max" = none
  min : mg "min" = none
  range : mg "range" = none
  str : mg "str" = none
  tuple : mg "tuple" = none
  c_NoTurn : ∃ C, mg "NoTurn" = some (.ref C)
  c_WaitError : ∃ C, mg "WaitError" = some (.ref C)
  c_NoSorts : ∃ C, mg "NoSorts" = some (.ref C)
  x_NoTurn : XCls P w K mg base "NoTurn" "turn"
  x0_NoSorts : XCl0 K mg "NoSorts"
  k_WaitError : CatchF K mg "WaitError" is_WaitError
  fl_turn : FldF K mg "turn" fld_turn
  is : IsFs K mg isTab
  fi_by_name : FldI K mg "by_name" fli_by_name
  fi_name : FldI K mg "name" fli_name
  fi_span : FldI K mg "span" fli_span
  fi_speed : FldI K mg "speed" fli_speed
  fi_tries : FldI K mg "tries" fli_tries
  fi_weight : FldI K mg "weight" fli_weight
  ALL_BOTTOMS : ∃ t, mg "ALL_BOTTOMS" = some (.int (27720) t)
  FAR : ∃ t, mg "FAR" = some (.int (1000000000000000) t)
  LETTERS : ∃ t, mg "LETTERS" = some (.str "abcdefghijklmnopqrstuvwxyz" t)
  MOST_BOTTOM : ∃ t, mg "MOST_BOTTOM" = some (.int (12) t)
  MOST_SORTS : ∃ t, mg "MOST_SORTS" = some (.int (8) t)
  MOST_SPAN : ∃ t, mg "MOST_SPAN" = some (.int (4) t)
  MOST_TOP : ∃ t, mg "MOST_TOP" = some (.int (1000000) t)
  MOST_TRIES : ∃ t, mg "MOST_TRIES" = some (.int (3) t)
section
variable {P : Program} {w : World} {K : PySem.W.Frag} {mg : Str → Option Value} {base : Heap}
theorem sci_NoTurn : FnScope ["self", "turn"] ["self", "turn"] (defScope si_NoTurn) := ⟨rfl, rfl, rfl, by decide +kernel, rfl, by decide +kernel, by decide +kernel⟩
theorem oki_NoTurn {f CB : Addr} {fd : FuncData} (Fu : Fun K "__init__" "NoTurn.__init__" si_NoTurn f fd) (hm : mg "WaitError" = some (.ref CB)) (T : InitC K CB) : FnOk P w K mg base (L2.CX P w) 1 f fd ["self", "turn"] (spInit K "turn") :=
  Fu.okX sci_NoTurn spInit_len fun cdv A outer s H vs Q E hr h => ⟨_, pss_cons (ps_expr (pe_oinit hm T (pa_cons (pv 0) (pa_cons pe_str pa_nil)))) (pss_one (ps_ost (pv 0) (pv 1))), init_read h⟩
theorem sc_is_whole : FnScope ["thing", "low", "high"] ["thing", "low", "high"] (defScope s_is_whole) := ⟨rfl, rfl, rfl, by decide +kernel, rfl, by decide +kernel, by decide +kernel⟩
theorem ok_is_whole {f : Addr} {fd : FuncData} (Fu : Fun K "is_whole" "is_whole" s_is_whole f fd) (T : Txt P w K mg base)      : FnOk P w K mg base (L2.CX P w) 1 f fd ["thing", "low", "high"] (spG K mg 3 f_is_whole) :=
  fn_ok Fu sc_is_whole fun cdv A outer s H E c =>
  ss_one (s_ret (j_and (j_callB call_isi vo_isi T.isinstance bt_isinstance (a_cons (j_var 0) (a_cons (j_bltn T.int bt_int) (a_nil)))) (j_and (j_not (j_callB call_isi vo_isi T.isinstance bt_isinstance (a_cons (j_var 0) (a_cons (j_bltn T.bool bt_bool) (a_nil))))) (j_one (j_chain op_leG vo_le op_leG vo_le (j_var 1) (j_var 0) (j_var 2))))))
theorem sc_is_name : FnScope ["thing", "sign"] ["thing"] (defScope s_is_name) := ⟨rfl, rfl, rfl, by decide +kernel, rfl, by decide +kernel, by decide +kernel⟩
theorem ok_is_name {f : Addr} {fd : FuncData} (Fu : Fun K "is_name" "is_name" s_is_name f fd) (T : Txt P w K mg base)      : FnOk P w K mg base (L2.CX P w) 1 f fd ["thing"] (spG K mg 1 f_is_name) :=
  fn_ok Fu sc_is_name fun cdv A outer s H E c =>
  ss_cons (s_if ((w_or (t_not (j_tst (j_callB call_isi vo_isi T.isinstance bt_isinstance (a_cons (j_var 0) (a_cons (j_bltn T.str bt_str) (a_nil)))))) (w_or1 (t_not (t_chain op_leG vo_le op_leG vo_le (j_int) (j_callB call_len vo_len T.len bt_len (a_cons (j_var 0) (a_nil))) (j_int))))).jt) (ss_one (s_ret (j_bl))) (ss_nil))
  (ss_one (s_ret (j_callB (cr_all c.calm) vo_all T.all bt_all (a_cons (j_lc c (w := false) (i_str (j_var 0)) (blkOk_by (own := [("sign", 1)]) (N := ["thing", "sign"]) (sc := defScope s_is_name) (by decide +kernel)) (fun _ _ _ _ _ c => g_name c (i := 1)) (fun _ _ _ _ _ c => ts_nil) (fun _ _ _ _ _ c => j_cmp op_in_sign vo_inS (j_var 1) (j_glbS T.LETTERS.choose_spec))) (a_nil)))))
theorem sc_lowest : FnScope ["top", "bottom", "one", "other"] ["top", "bottom"] (defScope s_lowest) := ⟨rfl, rfl, rfl, by decide +kernel, rfl, by decide +kernel, by decide +kernel⟩
theorem ok_lowest {f : Addr} {fd : FuncData} (Fu : Fun K "lowest" "lowest" s_lowest f fd) (T : Txt P w K mg base)      : FnOk P w K mg base (L2.CX P w) 1 f fd ["top", "bottom"] (spG K mg 2 f_lowest) :=
  fn_ok Fu sc_lowest fun cdv A outer s H E c =>
  ss_cons (s_set c (i := 2) (j_callB call_abs vo_abs T.abs bt_abs (a_cons (j_var 0) (a_nil))))
  (ss_cons (s_set c (i := 3) (j_var 1))
  (ss_cons (s_while c (t_cmp (op_neD c.hu) vo_ne (j_var 2) (j_int)) (ss_one (s_par c (i := 2) (j := 3) (a_cons (j_op op_mod vo_mod (j_var 3) (j_var 2)) (a_cons (j_var 2) (a_nil))))))
  (ss_one (s_ret (j_tup (a_cons (j_op op_fdivW vo_fdiv (j_var 0) (j_var 3)) (a_cons (j_op op_fdivW vo_fdiv (j_var 1) (j_var 3)) (a_nil))))))))
theorem sc_is_weight : FnScope ["thing"] ["thing"] (defScope s_is_weight) := ⟨rfl, rfl, rfl, by decide +kernel, rfl, by decide +kernel, by decide +kernel⟩
theorem ok_is_weight {f : Addr} {fd : FuncData} (Fu : Fun K "is_weight" "is_weight" s_is_weight f fd) (T : Txt P w K mg base)   (D_is_whole : Def P w K mg base 1 "is_whole" 3 f_is_whole)   : FnOk P w K mg base (L2.CX P w) 2 f fd ["thing"] (spG K mg 1 f_is_weight) :=
  fn_ok Fu sc_is_weight fun cdv A outer s H E c =>
  ss_cons (s_if ((w_or (t_not (j_tst (j_callB call_isi vo_isi T.isinstance bt_isinstance (a_cons (j_var 0) (a_cons (j_bltn T.tuple bt_tuple) (a_nil)))))) (w_or1 (t_cmp (op_neD c.hu) vo_ne (j_callB call_len vo_len T.len bt_len (a_cons (j_var 0) (a_nil))) (j_int)))).jt) (ss_one (s_ret (j_bl))) (ss_nil))
  (ss_one (s_ret (j_and (j_callP D_is_whole c (a_cons (j_ix ix_seq vo_ix (j_var 0) (j_int)) (a_cons (j_int) (a_cons (j_glbI T.MOST_TOP.choose_spec) (a_nil))))) (j_one (j_callP D_is_whole c (a_cons (j_ix ix_seq vo_ix (j_var 0) (j_int)) (a_cons (j_int) (a_cons (j_glbI T.MOST_BOTTOM.choose_spec) (a_nil)))))))))
theorem sc_weight_after : FnScope ["weight", "speed", "turns", "top"] ["weight", "speed", "turns"] (defScope s_weight_after) := ⟨rfl, rfl, rfl, by decide +kernel, rfl, by decide +kernel, by decide +kernel⟩
theorem ok_weight_after {f : Addr} {fd : FuncData} (Fu : Fun K "weight_after" "weight_after" s_weight_after f fd) (T : Txt P w K mg base)   (D_lowest : Def P w K mg base 1 "lowest" 2 f_lowest)   : FnOk P w K mg base (L2.CX P w) 2 f fd ["weight", "speed", "turns"] (spG K mg 3 f_weight_after) :=
  fn_ok Fu sc_weight_after fun cdv A outer s H E c =>
  ss_cons (s_set c (i := 3) (j_op op_addG vo_add (j_op op_mulG vo_mul (j_ix ix_seq vo_ix (j_var 0) (j_int)) (j_ix ix_seq vo_ix (j_var 1) (j_int))) (j_op op_mulG vo_mul (j_op op_mulG vo_mul (j_ix ix_seq vo_ix (j_var 1) (j_int)) (j_var 2)) (j_ix ix_seq vo_ix (j_var 0) (j_int)))))
  (ss_one (s_ret (j_callP D_lowest c (a_cons (j_var 3) (a_cons (j_op op_mulG vo_mul (j_ix ix_seq vo_ix (j_var 0) (j_int)) (j_ix ix_seq vo_ix (j_var 1) (j_int))) (a_nil))))))
theorem sc_weight_at : FnScope ["claim", "turn", "number", "weight", "speed", "came"] ["claim", "turn"] (defScope s_weight_at) := ⟨rfl, rfl, rfl, by decide +kernel, rfl, by decide +kernel, by decide +kernel⟩
theorem ok_weight_at {f : Addr} {fd : FuncData} (Fu : Fun K "weight_at" "weight_at" s_weight_at f fd) (T : Txt P w K mg base)   (D_weight_after : Def P w K mg base 2 "weight_after" 3 f_weight_after)   : FnOk P w K mg base (L2.CX P w) 3 f fd ["claim", "turn"] (spG K mg 2 f_weight_at) :=
  fn_ok Fu sc_weight_at fun cdv A outer s H E c =>
  ss_cons (s_asg (j_var 0) (g_unp c (gs_cons (g_name c (i := 2)) (gs_cons (g_name c (i := 3)) (gs_cons (g_name c (i := 4)) (gs_cons (g_name c (i := 5)) (gs_nil)))))))
  (ss_cons (s_if (t_cmp (op_ltG c.hu) vo_lt (j_var 1) (j_var 5)) (ss_one (s_never)) (ss_nil))
  (ss_one (s_ret (j_callP D_weight_after c (a_cons (j_var 3) (a_cons (j_var 4) (a_cons (j_op op_sub vo_sub (j_var 1) (j_var 5)) (a_nil))))))))
theorem sc_as_whole : FnScope ["fraction"] ["fraction"] (defScope s_as_whole) := ⟨rfl, rfl, rfl, by decide +kernel, rfl, by decide +kernel, by decide +kernel⟩
theorem ok_as_whole {f : Addr} {fd : FuncData} (Fu : Fun K "as_whole" "as_whole" s_as_whole f fd) (T : Txt P w K mg base)      : FnOk P w K mg base (L2.CX P w) 1 f fd ["fraction"] (spG K mg 1 f_as_whole) :=
  fn_ok Fu sc_as_whole fun cdv A outer s H E c =>
  ss_one (s_ret (j_op op_mulG vo_mul (j_ix ix_seq vo_ix (j_var 0) (j_int)) (j_op op_fdivW vo_fdiv (j_glbI T.ALL_BOTTOMS.choose_spec) (j_ix ix_seq vo_ix (j_var 0) (j_int)))))
theorem sc_need_turn : FnScope ["claims", "turn", "number", "weight", "speed", "came"] ["claims", "turn"] (defScope s_need_turn) := ⟨rfl, rfl, rfl, by decide +kernel, rfl, by decide +kernel, by decide +kernel⟩
theorem ok_need_turn {f : Addr} {fd : FuncData} (Fu : Fun K "need_turn" "need_turn" s_need_turn f fd) (T : Txt P w K mg base)   (D_is_whole : Def P w K mg base 1 "is_whole" 3 f_is_whole)   : FnOk P w K mg base (L2.CX P w) 3 f fd ["claims", "turn"] (spG K mg 2 f_need_turn) :=
  fn_ok Fu sc_need_turn fun cdv A outer s H E c =>
  ss_cons (s_if (t_not (j_tst (j_callP D_is_whole c (a_cons (j_var 1) (a_cons (j_int) (a_cons (j_glbI T.FAR.choose_spec) (a_nil))))))) (ss_one (s_raise T.x_NoTurn c (a_cons (j_var 1) (a_nil)))) (ss_nil))
  (ss_one (s_for c (i_list (j_var 0)) (g_unp c (gs_cons (g_name c (i := 2)) (gs_cons (g_name c (i := 3)) (gs_cons (g_name c (i := 4)) (gs_cons (g_name c (i := 5)) (gs_nil)))))) (ss_one (s_if (t_cmp op_gt vo_gt (j_var 5) (j_var 1)) (ss_one (s_raise T.x_NoTurn c (a_cons (j_var 1) (a_nil)))) (ss_nil)))))
theorem sc_need_turns : FnScope ["claim", "begin", "until"] ["claim", "begin", "until"] (defScope s_need_turns) := ⟨rfl, rfl, rfl, by decide +kernel, rfl, by decide +kernel, by decide +kernel⟩
theorem ok_need_turns {f : Addr} {fd : FuncData} (Fu : Fun K "need_turns" "need_turns" s_need_turns f fd) (T : Txt P w K mg base)   (D_is_whole : Def P w K mg base 1 "is_whole" 3 f_is_whole) (D_need_turn : Def P w K mg base 3 "need_turn" 2 f_need_turn)   : FnOk P w K mg base (L2.CX P w) 4 f fd ["claim", "begin", "until"] (spG K mg 3 f_need_turns) :=
  fn_ok Fu sc_need_turns fun cdv A outer s H E c =>
  ss_cons (s_drop (j_callP D_need_turn c (a_cons (j_lst (a_cons (j_var 0) (a_nil))) (a_cons (j_var 1) (a_nil)))))
  (ss_one (s_if (t_not (j_tst (j_callP D_is_whole c (a_cons (j_var 2) (a_cons (j_var 1) (a_cons (j_glbI T.FAR.choose_spec) (a_nil))))))) (ss_one (s_raise T.x_NoTurn c (a_cons (j_var 2) (a_nil)))) (ss_nil)))
theorem sc_last_at_once : FnScope ["claim", "weight", "until", "number", "first_weight", "speed", "came", "more", "grow"] ["claim", "weight", "until"] (defScope s_last_at_once) := ⟨rfl, rfl, rfl, by decide +kernel, rfl, by decide +kernel, by decide +kernel⟩
theorem ok_last_at_once {f : Addr} {fd : FuncData} (Fu : Fun K "last_at_once" "last_at_once" s_last_at_once f fd) (T : Txt P w K mg base)   (D_as_whole : Def P w K mg base 1 "as_whole" 1 f_as_whole)   : FnOk P w K mg base (L2.CX P w) 2 f fd ["claim", "weight", "until"] (spG K mg 3 f_last_at_once) :=
  fn_ok Fu sc_last_at_once fun cdv A outer s H E c =>
  ss_cons (s_asg (j_var 0) (g_unp c (gs_cons (g_name c (i := 3)) (gs_cons (g_name c (i := 4)) (gs_cons (g_name c (i := 5)) (gs_cons (g_name c (i := 6)) (gs_nil)))))))
  (ss_cons (s_set c (i := 7) (j_op op_sub vo_sub (j_callP D_as_whole c (a_cons (j_var 1) (a_nil))) (j_callP D_as_whole c (a_cons (j_var 4) (a_nil)))))
  (ss_cons (s_set c (i := 8) (j_callP D_as_whole c (a_cons (j_var 5) (a_nil))))
  (ss_cons (s_if (t_cmp (op_eqD c.hu) vo_eq (j_var 8) (j_int)) (ss_one (s_ret (j_if (t_cmp op_gt vo_gt (j_var 7) (j_int)) (j_var 2) (j_un un_neg vo_neg (j_int))))) (ss_nil))
  (ss_one (s_ret (j_callB (call_min2 c.calm) vo_min2 T.min bt_min (a_cons (j_var 2) (a_cons (j_op op_addG vo_add (j_var 6) (j_op op_fdivW vo_fdiv (j_op op_sub vo_sub (j_var 7) (j_int)) (j_var 8))) (a_nil)))))))))
theorem sc_last_at_end : FnScope ["claim", "weight", "speed", "until", "more", "grow"] ["claim", "weight", "speed", "until"] (defScope s_last_at_end) := ⟨rfl, rfl, rfl, by decide +kernel, rfl, by decide +kernel, by decide +kernel⟩
theorem ok_last_at_end {f : Addr} {fd : FuncData} (Fu : Fun K "last_at_end" "last_at_end" s_last_at_end f fd) (T : Txt P w K mg base)   (D_weight_at : Def P w K mg base 3 "weight_at" 2 f_weight_at) (D_as_whole : Def P w K mg base 1 "as_whole" 1 f_as_whole)   : FnOk P w K mg base (L2.CX P w) 4 f fd ["claim", "weight", "speed", "until"] (spG K mg 4 f_last_at_end) :=
  fn_ok Fu sc_last_at_end fun cdv A outer s H E c =>
  ss_cons (s_set c (i := 4) (j_op op_sub vo_sub (j_callP D_as_whole c (a_cons (j_callP D_weight_at c (a_cons (j_var 0) (a_cons (j_var 3) (a_nil)))) (a_nil))) (j_callP D_as_whole c (a_cons (j_var 1) (a_nil)))))
  (ss_cons (s_set c (i := 5) (j_callP D_as_whole c (a_cons (j_var 2) (a_nil))))
  (ss_cons (s_if (t_cmp (op_ltG c.hu) vo_lt (j_var 4) (j_int)) (ss_one (s_ret (j_var 3))) (ss_nil))
  (ss_cons (s_if (t_cmp (op_eqD c.hu) vo_eq (j_var 5) (j_int)) (ss_one (s_ret (j_un un_neg vo_neg (j_int)))) (ss_nil))
  (ss_one (s_ret (j_op op_sub vo_sub (j_op op_sub vo_sub (j_var 3) (j_op op_fdivW vo_fdiv (j_var 4) (j_var 5))) (j_int)))))))
theorem sc_last_able : FnScope ["claim", "weight", "speed", "begin", "until", "found"] ["claim", "weight", "speed", "begin", "until"] (defScope s_last_able) := ⟨rfl, rfl, rfl, by decide +kernel, rfl, by decide +kernel, by decide +kernel⟩
theorem ok_last_able {f : Addr} {fd : FuncData} (Fu : Fun K "last_able" "last_able" s_last_able f fd) (T : Txt P w K mg base)   (D_need_turns : Def P w K mg base 4 "need_turns" 3 f_need_turns) (D_last_at_once : Def P w K mg base 2 "last_at_once" 3 f_last_at_once) (D_last_at_end : Def P w K mg base 4 "last_at_end" 4 f_last_at_end)   : FnOk P w K mg base (L2.CX P w) 5 f fd ["claim", "weight", "speed", "begin", "until"] (spG K mg 5 f_last_able) :=
  fn_ok Fu sc_last_able fun cdv A outer s H E c =>
  ss_cons (s_drop (j_callP D_need_turns c (a_cons (j_var 0) (a_cons (j_var 3) (a_cons (j_var 4) (a_nil))))))
  (ss_cons (s_set c (i := 5) (j_callB (call_max2 c.calm) vo_max2 T.max bt_max (a_cons (j_callP D_last_at_once c (a_cons (j_var 0) (a_cons (j_var 1) (a_cons (j_var 4) (a_nil))))) (a_cons (j_callP D_last_at_end c (a_cons (j_var 0) (a_cons (j_var 1) (a_cons (j_var 2) (a_cons (j_var 4) (a_nil)))))) (a_nil)))))
  (ss_cons (s_if (t_cmp (op_ltG c.hu) vo_lt (j_var 5) (j_var 3)) (ss_one (s_ret (j_non))) (ss_nil))
  (ss_one (s_ret (j_var 5)))))
theorem sc_Sorts_rows_told : FnScope ["self", "one"] ["self"] (defScope s_Sorts_rows_told) := ⟨rfl, rfl, rfl, by decide +kernel, rfl, by decide +kernel, by decide +kernel⟩
theorem ok_Sorts_rows_told {f : Addr} {fd : FuncData} (Fu : Fun K "rows_told" "Sorts.rows_told" s_Sorts_rows_told f fd) (T : Txt P w K mg base)      : FnOk P w K mg base (L2.CX P w) 1 f fd ["self"] (spG K mg 1 f_Sorts_rows_told) :=
  fn_ok Fu sc_Sorts_rows_told fun cdv A outer s H E c =>
  ss_one (s_ret (j_lcVals (dp_fld T.fi_by_name) c false (blkOk_by (own := [("one", 1)]) (N := ["self", "one"]) (sc := defScope s_Sorts_rows_told) (by decide +kernel)) (fun _ _ _ _ _ c => g_name c (i := 1)) (fun _ _ _ _ _ c => ts_nil) (fun _ _ _ _ _ c => j_tup (a_cons (j_fldI T.fi_name (j_var 1)) (a_cons (j_fldI T.fi_weight (j_var 1)) (a_cons (j_fldI T.fi_speed (j_var 1)) (a_cons (j_fldI T.fi_span (j_var 1)) (a_cons (j_fldI T.fi_tries (j_var 1)) (a_nil)))))))))
theorem sc_last_comer : FnScope ["claim", "sorts", "begin", "until", "found", "name", "weight", "speed", "span", "tries", "turn"] ["claim", "sorts", "begin", "until"] (defScope s_last_comer) := ⟨rfl, rfl, rfl, by decide +kernel, rfl, by decide +kernel, by decide +kernel⟩
theorem ok_last_comer {f : Addr} {fd : FuncData} (Fu : Fun K "last_comer" "last_comer" s_last_comer f fd) (T : Txt P w K mg base) (M_rows_told_0 : MTab P w K mg base 1 "rows_told" 0 tb_rows_told_0)  (D_need_turns : Def P w K mg base 4 "need_turns" 3 f_need_turns) (D_last_able : Def P w K mg base 5 "last_able" 5 f_last_able)   : FnOk P w K mg base (L2.CX P w) 6 f fd ["claim", "sorts", "begin", "until"] (spG K mg 4 f_last_comer) :=
  fn_ok Fu sc_last_comer fun cdv A outer s H E c =>
  ss_cons (s_drop (j_callP D_need_turns c (a_cons (j_var 0) (a_cons (j_var 2) (a_cons (j_var 3) (a_nil))))))
  (ss_cons (s_set c (i := 4) (j_non))
  (ss_cons (s_for c (i_list (j_meth0 M_rows_told_0 c (j_var 1))) (g_unp c (gs_cons (g_name c (i := 5)) (gs_cons (g_name c (i := 6)) (gs_cons (g_name c (i := 7)) (gs_cons (g_name c (i := 8)) (gs_cons (g_name c (i := 9)) (gs_nil))))))) (ss_cons (s_set c (i := 10) (j_callP D_last_able c (a_cons (j_var 0) (a_cons (j_var 6) (a_cons (j_var 7) (a_cons (j_var 2) (a_cons (j_var 3) (a_nil))))))))
  (ss_one (s_if ((w_and (t_cmp op_notG vo_isNot (j_var 10) (j_non)) (w_and1 ((w_or (t_cmp op_isG vo_is (j_var 4) (j_non)) (w_or1 (t_cmp op_gt vo_gt (j_var 10) (j_ix ix_seq vo_ix (j_var 4) (j_int))))).jt))).jt) (ss_one (s_set c (i := 4) (j_tup (a_cons (j_var 10) (a_cons (j_var 5) (a_nil)))))) (ss_nil)))))
  (ss_one (s_ret (j_var 4)))))
theorem sc_is_row : FnScope ["thing"] ["thing"] (defScope s_is_row) := ⟨rfl, rfl, rfl, by decide +kernel, rfl, by decide +kernel, by decide +kernel⟩
theorem ok_is_row {f : Addr} {fd : FuncData} (Fu : Fun K "is_row" "is_row" s_is_row f fd) (T : Txt P w K mg base)   (D_is_whole : Def P w K mg base 1 "is_whole" 3 f_is_whole) (D_is_name : Def P w K mg base 1 "is_name" 1 f_is_name) (D_is_weight : Def P w K mg base 2 "is_weight" 1 f_is_weight)   : FnOk P w K mg base (L2.CX P w) 3 f fd ["thing"] (spG K mg 1 f_is_row) :=
  fn_ok Fu sc_is_row fun cdv A outer s H E c =>
  ss_cons (s_if ((w_or (t_not (j_tst (j_callB call_isi vo_isi T.isinstance bt_isinstance (a_cons (j_var 0) (a_cons (j_bltn T.tuple bt_tuple) (a_nil)))))) (w_or (t_cmp (op_neD c.hu) vo_ne (j_callB call_len vo_len T.len bt_len (a_cons (j_var 0) (a_nil))) (j_int)) (w_or1 (t_not (j_tst (j_callP D_is_name c (a_cons (j_ix ix_seq vo_ix (j_var 0) (j_int)) (a_nil)))))))).jt) (ss_one (s_ret (j_bl))) (ss_nil))
  (ss_cons (s_if ((w_or (t_not (j_tst (j_callP D_is_weight c (a_cons (j_ix ix_seq vo_ix (j_var 0) (j_int)) (a_nil))))) (w_or1 (t_not (j_tst (j_callP D_is_weight c (a_cons (j_ix ix_seq vo_ix (j_var 0) (j_int)) (a_nil))))))).jt) (ss_one (s_ret (j_bl))) (ss_nil))
  (ss_one (s_ret (j_and (j_callP D_is_whole c (a_cons (j_ix ix_seq vo_ix (j_var 0) (j_int)) (a_cons (j_int) (a_cons (j_glbI T.MOST_SPAN.choose_spec) (a_nil))))) (j_one (j_callP D_is_whole c (a_cons (j_ix ix_seq vo_ix (j_var 0) (j_int)) (a_cons (j_int) (a_cons (j_glbI T.MOST_TRIES.choose_spec) (a_nil))))))))))
theorem sc_l_cell : FnScope ["_law_script", "_law_k"] ["_law_script", "_law_k"] (defScope s_l_cell) := ⟨rfl, rfl, rfl, by decide +kernel, rfl, by decide +kernel, by decide +kernel⟩
theorem ok_l_cell {f : Addr} {fd : FuncData} (Fu : Fun K "_law_cell" "_law_cell" s_l_cell f fd) (T : Txt P w K mg base)      : FnOk P w K mg base (L2.CX P w) 1 f fd ["_law_script", "_law_k"] (spG K mg 2 f_l_cell) :=
  fn_ok Fu sc_l_cell fun cdv A outer s H E c =>
  ss_cons (s_if (t_cmp (op_ltG c.hu) vo_lt (j_var 1) (j_callB call_len vo_len T.len bt_len (a_cons (j_var 0) (a_nil)))) (ss_one (s_ret (j_ix ix_seq vo_ix (j_var 0) (j_var 1)))) (ss_nil))
  (ss_one (s_ret (j_op op_addG vo_add (j_op op_mulG vo_mul (j_int) (j_var 1)) (j_int))))
theorem sc_l_mix : FnScope ["_law_cell_here", "_law_k", "_law_number"] ["_law_cell_here", "_law_k"] (defScope s_l_mix) := ⟨rfl, rfl, rfl, by decide +kernel, rfl, by decide +kernel, by decide +kernel⟩
theorem ok_l_mix {f : Addr} {fd : FuncData} (Fu : Fun K "_law_mix" "_law_mix" s_l_mix f fd) (T : Txt P w K mg base)      : FnOk P w K mg base (L2.CX P w) 1 f fd ["_law_cell_here", "_law_k"] (spG K mg 2 f_l_mix) :=
  fn_ok Fu sc_l_mix fun cdv A outer s H E c =>
  ss_cons (s_set c (i := 2) (j_op op_mod vo_mod (j_op op_mulG vo_mul (j_op op_addG vo_add (j_op op_addG vo_add (j_op op_mod vo_mod (j_var 0) (j_int)) (j_op op_mulG vo_mul (j_int) (j_var 1))) (j_int)) (j_int)) (j_int)))
  (ss_cons (s_set c (i := 2) (j_op op_mod vo_mod (j_op op_addG vo_add (j_op op_mulG vo_mul (j_var 2) (j_var 2)) (j_op op_mulG vo_mul (j_int) (j_var 1))) (j_int)))
  (ss_one (s_ret (j_op op_mod vo_mod (j_op op_mulG vo_mul (j_var 2) (j_op op_addG vo_add (j_var 2) (j_int))) (j_int)))))
theorem sc_l_begun : FnScope ["_law_cell_here"] ["_law_cell_here"] (defScope s_l_begun) := ⟨rfl, rfl, rfl, by decide +kernel, rfl, by decide +kernel, by decide +kernel⟩
theorem ok_l_begun {f : Addr} {fd : FuncData} (Fu : Fun K "_law_begun" "_law_begun" s_l_begun f fd) (T : Txt P w K mg base)      : FnOk P w K mg base (L2.CX P w) 1 f fd ["_law_cell_here"] (spG K mg 1 f_l_begun) :=
  fn_ok Fu sc_l_begun fun cdv A outer s H E c =>
  ss_cons (s_if (t_cmp op_ge vo_ge (j_var 0) (j_op op_pow vo_pow (j_int) (j_int))) (ss_one (s_ret (j_new (a_cons (j_var 0) (a_cons (j_var 0) (a_cons (j_int) (a_nil))))))) (ss_nil))
  (ss_one (s_ret (j_new (a_cons (j_int) (a_cons (j_var 0) (a_cons (j_int) (a_nil)))))))
theorem sc_l_pull : FnScope ["_law_state", "_law_many", "_law_number"] ["_law_state", "_law_many"] (defScope s_l_pull) := ⟨rfl, rfl, rfl, by decide +kernel, rfl, by decide +kernel, by decide +kernel⟩
theorem ok_l_pull {f : Addr} {fd : FuncData} (Fu : Fun K "_law_pull" "_law_pull" s_l_pull f fd) (T : Txt P w K mg base)   (D_l_mix : Def P w K mg base 1 "_law_mix" 2 f_l_mix)   : FnOk P w K mg base (L2.CX P w) 2 f fd ["_law_state", "_law_many"] (spG K mg 2 f_l_pull) :=
  fn_ok Fu sc_l_pull fun cdv A outer s H E c =>
  ss_cons (s_if (t_cmp op_gt vo_gt (j_ix ix_seq vo_ix (j_var 0) (j_int)) (j_int)) (ss_cons (s_set c (i := 2) (j_op op_mod vo_mod (j_ix ix_seq vo_ix (j_var 0) (j_int)) (j_var 1)))
  (ss_cons (s_asg (j_op op_fdivW vo_fdiv (j_ix ix_seq vo_ix (j_var 0) (j_int)) (j_var 1)) (g_ix (j_var 0) (j_int)))
  (ss_one (s_ret (j_var 2))))) (ss_nil))
  (ss_cons (s_asg (j_op op_addG vo_add (j_ix ix_seq vo_ix (j_var 0) (j_int)) (j_int)) (g_ix (j_var 0) (j_int)))
  (ss_one (s_ret (j_op op_mod vo_mod (j_callP D_l_mix c (a_cons (j_ix ix_seq vo_ix (j_var 0) (j_int)) (a_cons (j_ix ix_seq vo_ix (j_var 0) (j_int)) (a_nil)))) (j_var 1)))))
theorem sc_l_weight : FnScope ["_law_state", "_law_most", "_law_wide"] ["_law_state", "_law_most", "_law_wide"] (defScope s_l_weight) := ⟨rfl, rfl, rfl, by decide +kernel, rfl, by decide +kernel, by decide +kernel⟩
theorem ok_l_weight {f : Addr} {fd : FuncData} (Fu : Fun K "_law_weight" "_law_weight" s_l_weight f fd) (T : Txt P w K mg base)   (D_l_pull : Def P w K mg base 2 "_law_pull" 2 f_l_pull)   : FnOk P w K mg base (L2.CX P w) 3 f fd ["_law_state", "_law_most", "_law_wide"] (spG K mg 3 f_l_weight) :=
  fn_ok Fu sc_l_weight fun cdv A outer s H E c =>
  ss_one (s_ret (j_tup (a_cons (j_call D_l_pull c (a_cons (j_var 0) (a_cons (j_op op_addG vo_add (j_var 1) (j_int)) (a_nil)))) (a_cons (j_op op_addG vo_add (j_int) (j_call D_l_pull c (a_cons (j_var 0) (a_cons (j_var 2) (a_nil))))) (a_nil)))))
theorem sc_l_claims : FnScope ["_law_state", "_law_most", "_law_many", "_law_heavy", "_law_fast", "_law_wide", "_law_early", "_law_left", "_law_claims_here", "_law_k", "_law_number", "_law_weight_here", "_law_speed"] ["_law_state", "_law_most"] (defScope s_l_claims) := ⟨rfl, rfl, rfl, by decide +kernel, rfl, by decide +kernel, by decide +kernel⟩
theorem ok_l_claims {f : Addr} {fd : FuncData} (Fu : Fun K "_law_claims" "_law_claims" s_l_claims f fd) (T : Txt P w K mg base)   (D_l_pull : Def P w K mg base 2 "_law_pull" 2 f_l_pull) (D_l_weight : Def P w K mg base 3 "_law_weight" 3 f_l_weight)   : FnOk P w K mg base (L2.CX P w) 4 f fd ["_law_state", "_law_most"] (spG K mg 2 f_l_claims) :=
  fn_ok Fu sc_l_claims fun cdv A outer s H E c =>
  ss_cons (s_set c (i := 2) (j_call D_l_pull c (a_cons (j_var 0) (a_cons (j_op op_addG vo_add (j_var 1) (j_int)) (a_nil)))))
  (ss_cons (s_set c (i := 3) (j_ix ix_seq vo_ix (j_lst (a_cons (j_int) (a_cons (j_int) (a_cons (j_op op_pow vo_pow (j_int) (j_int)) (a_nil))))) (j_call D_l_pull c (a_cons (j_var 0) (a_cons (j_int) (a_nil))))))
  (ss_cons (s_set c (i := 4) (j_ix ix_seq vo_ix (j_lst (a_cons (j_int) (a_cons (j_int) (a_cons (j_op op_pow vo_pow (j_int) (j_int)) (a_nil))))) (j_call D_l_pull c (a_cons (j_var 0) (a_cons (j_int) (a_nil))))))
  (ss_cons (s_set c (i := 5) (j_ix ix_seq vo_ix (j_lst (a_cons (j_int) (a_cons (j_int) (a_cons (j_int) (a_nil))))) (j_call D_l_pull c (a_cons (j_var 0) (a_cons (j_int) (a_nil))))))
  (ss_cons (s_set c (i := 6) (j_ix ix_seq vo_ix (j_lst (a_cons (j_int) (a_cons (j_int) (a_cons (j_op op_pow vo_pow (j_int) (j_int)) (a_nil))))) (j_call D_l_pull c (a_cons (j_var 0) (a_cons (j_int) (a_nil))))))
  (ss_cons (s_set c (i := 7) (j_listR1 c (w := true) T.list T.range (j_var 2)))
  (ss_cons (s_set c (i := 8) (j_new (a_nil)))
  (ss_cons (s_for c (i_rng1 T.range (a_cons (j_var 2) (a_nil))) (g_name c (i := 9)) (ss_cons (s_set c (i := 10) (j_op op_addG vo_add (j_op op_mulG vo_mul (j_int) (j_m PySem.F.slot_list_pop PySem.F.type_list_pop mt_popAt vo_popAt (j_var 7) (a_cons (j_call D_l_pull c (a_cons (j_var 0) (a_cons (j_callB call_len vo_len T.len bt_len (a_cons (j_var 7) (a_nil))) (a_nil)))) (a_nil)))) (j_call D_l_pull c (a_cons (j_var 0) (a_cons (j_int) (a_nil))))))
  (ss_cons (s_set c (i := 11) (j_call D_l_weight c (a_cons (j_var 0) (a_cons (j_var 3) (a_cons (j_var 5) (a_nil))))))
  (ss_cons (s_set c (i := 12) (j_call D_l_weight c (a_cons (j_var 0) (a_cons (j_var 4) (a_cons (j_var 5) (a_nil))))))
  (ss_one (s_drop (j_m PySem.F.slot_list_append PySem.F.type_list_append mt_append vo_append (j_var 8) (a_cons (j_tup (a_cons (j_var 10) (a_cons (j_var 11) (a_cons (j_var 12) (a_cons (j_call D_l_pull c (a_cons (j_var 0) (a_cons (j_var 6) (a_nil)))) (a_nil)))))) (a_nil)))))))))
  (ss_one (s_ret (j_var 8))))))))))
theorem sc_l_begin : FnScope ["_law_state", "_law_claims_here", "_law_latest", "_law_claim"] ["_law_state", "_law_claims_here"] (defScope s_l_begin) := ⟨rfl, rfl, rfl, by decide +kernel, rfl, by decide +kernel, by decide +kernel⟩
theorem ok_l_begin {f : Addr} {fd : FuncData} (Fu : Fun K "_law_begin" "_law_begin" s_l_begin f fd) (T : Txt P w K mg base)   (D_l_pull : Def P w K mg base 2 "_law_pull" 2 f_l_pull)   : FnOk P w K mg base (L2.CX P w) 3 f fd ["_law_state", "_law_claims_here"] (spG K mg 2 f_l_begin) :=
  fn_ok Fu sc_l_begin fun cdv A outer s H E c =>
  ss_cons (s_set c (i := 2) (j_callB (cr_max c.calm) vo_maxL T.max bt_max (a_cons (j_op op_addG vo_add (j_lst (a_cons (j_int) (a_nil))) (j_lc c (w := false) (i_list (j_var 1)) (blkOk_by (own := [("_law_claim", 3)]) (N := ["_law_state", "_law_claims_here", "_law_latest", "_law_claim"]) (sc := defScope s_l_begin) (by decide +kernel)) (fun _ _ _ _ _ c => g_name c (i := 3)) (fun _ _ _ _ _ c => ts_nil) (fun _ _ _ _ _ c => j_ix ix_seq vo_ix (j_var 3) (j_int)))) (a_nil))))
  (ss_one (s_ret (j_callB (call_min2 c.calm) vo_min2 T.min bt_min (a_cons (j_op op_pow vo_pow (j_int) (j_int)) (a_cons (j_op op_addG vo_add (j_var 2) (j_call D_l_pull c (a_cons (j_var 0) (a_cons (j_ix ix_seq vo_ix (j_lst (a_cons (j_int) (a_cons (j_int) (a_cons (j_int) (a_cons (j_op op_pow vo_pow (j_int) (j_int)) (a_nil)))))) (j_call D_l_pull c (a_cons (j_var 0) (a_cons (j_int) (a_nil))))) (a_nil))))) (a_nil))))))
theorem sc_l_comer : FnScope ["_law_state", "_law_claim", "_law_way", "_law_weight_here"] ["_law_state", "_law_claim"] (defScope s_l_comer) := ⟨rfl, rfl, rfl, by decide +kernel, rfl, by decide +kernel, by decide +kernel⟩
theorem ok_l_comer {f : Addr} {fd : FuncData} (Fu : Fun K "_law_comer" "_law_comer" s_l_comer f fd) (T : Txt P w K mg base)   (D_l_pull : Def P w K mg base 2 "_law_pull" 2 f_l_pull) (D_l_weight : Def P w K mg base 3 "_law_weight" 3 f_l_weight)   : FnOk P w K mg base (L2.CX P w) 4 f fd ["_law_state", "_law_claim"] (spG K mg 2 f_l_comer) :=
  fn_ok Fu sc_l_comer fun cdv A outer s H E c =>
  ss_cons (s_set c (i := 2) (j_call D_l_pull c (a_cons (j_var 0) (a_cons (j_int) (a_nil)))))
  (ss_cons (s_if (t_cmp (op_eqD c.hu) vo_eq (j_var 2) (j_int)) (ss_one (s_ret (j_tup (a_cons (j_ix ix_seq vo_ix (j_var 1) (j_int)) (a_cons (j_ix ix_seq vo_ix (j_var 1) (j_int)) (a_nil)))))) (ss_nil))
  (ss_cons (s_set c (i := 3) (j_call D_l_weight c (a_cons (j_var 0) (a_cons (j_ix ix_seq vo_ix (j_lst (a_cons (j_int) (a_cons (j_int) (a_cons (j_op op_pow vo_pow (j_int) (j_int)) (a_nil))))) (j_call D_l_pull c (a_cons (j_var 0) (a_cons (j_int) (a_nil))))) (a_cons (j_int) (a_nil))))))
  (ss_cons (s_if (t_cmp (op_eqD c.hu) vo_eq (j_var 2) (j_int)) (ss_one (s_ret (j_tup (a_cons (j_var 3) (a_cons (j_ix ix_seq vo_ix (j_var 1) (j_int)) (a_nil)))))) (ss_nil))
  (ss_one (s_ret (j_tup (a_cons (j_var 3) (a_cons (j_call D_l_weight c (a_cons (j_var 0) (a_cons (j_ix ix_seq vo_ix (j_lst (a_cons (j_int) (a_cons (j_int) (a_cons (j_op op_pow vo_pow (j_int) (j_int)) (a_nil))))) (j_call D_l_pull c (a_cons (j_var 0) (a_cons (j_int) (a_nil))))) (a_cons (j_int) (a_nil))))) (a_nil)))))))))
theorem sc_l_rows : FnScope ["_law_state", "_law_claim", "_law_names", "_law_at", "_law_rows_here", "_law_name", "_law_weight_here", "_law_speed"] ["_law_state", "_law_claim"] (defScope s_l_rows) := ⟨rfl, rfl, rfl, by decide +kernel, rfl, by decide +kernel, by decide +kernel⟩
theorem ok_l_rows {f : Addr} {fd : FuncData} (Fu : Fun K "_law_rows" "_law_rows" s_l_rows f fd) (T : Txt P w K mg base)   (D_l_pull : Def P w K mg base 2 "_law_pull" 2 f_l_pull) (D_l_comer : Def P w K mg base 4 "_law_comer" 2 f_l_comer)   : FnOk P w K mg base (L2.CX P w) 5 f fd ["_law_state", "_law_claim"] (spG K mg 2 f_l_rows) :=
  fn_ok Fu sc_l_rows fun cdv A outer s H E c =>
  ss_cons (s_set c (i := 2) (j_lst (a_cons (j_str) (a_cons (j_str) (a_cons (j_str) (a_cons (j_str) (a_cons (j_str) (a_cons (j_str) (a_cons (j_str) (a_cons (j_str) (a_nil)))))))))))
  (ss_cons (s_set c (i := 3) (j_call D_l_pull c (a_cons (j_var 0) (a_cons (j_int) (a_nil)))))
  (ss_cons (s_set c (i := 4) (j_new (a_nil)))
  (ss_cons (s_for c (i_list (j_slL (j_op op_addG vo_add (j_slL (j_var 2) (o_some (j_var 3)) (o_none)) (j_slL (j_var 2) (o_none) (o_some (j_var 3)))) (o_none) (o_some (j_op op_addG vo_add (j_int) (j_call D_l_pull c (a_cons (j_var 0) (a_cons (j_int) (a_nil)))))))) (g_name c (i := 5)) (ss_cons (s_asg (j_call D_l_comer c (a_cons (j_var 0) (a_cons (j_var 1) (a_nil)))) (g_unp c (gs_cons (g_name c (i := 6)) (gs_cons (g_name c (i := 7)) (gs_nil)))))
  (ss_one (s_drop (j_m PySem.F.slot_list_append PySem.F.type_list_append mt_append vo_append (j_var 4) (a_cons (j_tup (a_cons (j_var 5) (a_cons (j_var 6) (a_cons (j_var 7) (a_cons (j_op op_addG vo_add (j_int) (j_call D_l_pull c (a_cons (j_var 0) (a_cons (j_int) (a_nil))))) (a_cons (j_op op_addG vo_add (j_int) (j_call D_l_pull c (a_cons (j_var 0) (a_cons (j_int) (a_nil))))) (a_nil))))))) (a_nil)))))))
  (ss_one (s_ret (j_var 4))))))
theorem sc_l_due : FnScope ["_law_claim", "_law_rows_here", "_law_begin_here", "_law_until", "_law_due_here", "_law_name", "_law_weight_here", "_law_speed", "_law_span", "_law_tries", "_law_turn"] ["_law_claim", "_law_rows_here", "_law_begin_here", "_law_until"] (defScope s_l_due) := ⟨rfl, rfl, rfl, by decide +kernel, rfl, by decide +kernel, by decide +kernel⟩
theorem ok_l_due {f : Addr} {fd : FuncData} (Fu : Fun K "_law_due" "_law_due" s_l_due f fd) (T : Txt P w K mg base)   (D_last_able : Def P w K mg base 5 "last_able" 5 f_last_able)   : FnOk P w K mg base (L2.CX P w) 6 f fd ["_law_claim", "_law_rows_here", "_law_begin_here", "_law_until"] (spG K mg 4 f_l_due) :=
  fn_ok Fu sc_l_due fun cdv A outer s H E c =>
  ss_cons (s_set c (i := 4) (j_non))
  (ss_cons (s_for c (i_list (j_var 1)) (g_unp c (gs_cons (g_name c (i := 5)) (gs_cons (g_name c (i := 6)) (gs_cons (g_name c (i := 7)) (gs_cons (g_name c (i := 8)) (gs_cons (g_name c (i := 9)) (gs_nil))))))) (ss_cons (s_set c (i := 10) (j_callP D_last_able c (a_cons (j_var 0) (a_cons (j_var 6) (a_cons (j_var 7) (a_cons (j_var 2) (a_cons (j_var 3) (a_nil))))))))
  (ss_one (s_if ((w_and (t_cmp op_notG vo_isNot (j_var 10) (j_non)) (w_and1 ((w_or (t_cmp op_isG vo_is (j_var 4) (j_non)) (w_or1 (t_cmp op_gt vo_gt (j_var 10) (j_ix ix_seq vo_ix (j_var 4) (j_int))))).jt))).jt) (ss_one (s_set c (i := 4) (j_tup (a_cons (j_var 10) (a_cons (j_var 5) (a_nil)))))) (ss_nil)))))
  (ss_one (s_ret (j_var 4))))
theorem sc_Sort_init : FnScope ["self", "name", "weight", "speed", "span", "tries"] ["self", "name", "weight", "speed", "span", "tries"] (defScope s_Sort_init) := ⟨rfl, rfl, rfl, by decide +kernel, rfl, by decide +kernel, by decide +kernel⟩
theorem ok_Sort_init {f : Addr} {fd : FuncData} (Fu : Fun K "__init__" "Sort.__init__" s_Sort_init f fd) (T : Txt P w K mg base)      : FnOk P w K mg base (L2.CX P w) 1 f fd ["self", "name", "weight", "speed", "span", "tries"] (spG K mg 6 f_Sort_init) :=
  fn_ok Fu sc_Sort_init fun cdv A outer s H E c =>
  ss_cons (s_setF T.fi_name (j_var 0) (j_var 1))
  (ss_cons (s_setF T.fi_weight (j_var 0) (j_var 2))
  (ss_cons (s_setF T.fi_speed (j_var 0) (j_var 3))
  (ss_cons (s_setF T.fi_span (j_var 0) (j_var 4))
  (ss_one (s_setF T.fi_tries (j_var 0) (j_var 5))))))
theorem sc_Sorts_init : FnScope ["self", "rows", "row", "found", "name", "weight", "speed", "span", "tries"] ["self", "rows"] (defScope s_Sorts_init) := ⟨rfl, rfl, rfl, by decide +kernel, rfl, by decide +kernel, by decide +kernel⟩
theorem ok_Sorts_init {f : Addr} {fd : FuncData} (Fu : Fun K "__init__" "Sorts.__init__" s_Sorts_init f fd) (T : Txt P w K mg base)  (K_Sort_5 : MkDef P w K mg base 1 "Sort" 5 f_Sort_init) (D_lowest : Def P w K mg base 1 "lowest" 2 f_lowest) (D_is_row : Def P w K mg base 3 "is_row" 1 f_is_row)   : FnOk P w K mg base (L2.CX P w) 4 f fd ["self", "rows"] (spG K mg 2 f_Sorts_init) :=
  fn_ok Fu sc_Sorts_init fun cdv A outer s H E c =>
  ss_cons (s_if ((w_or (t_not (j_tst (j_callB call_isi vo_isi T.isinstance bt_isinstance (a_cons (j_var 1) (a_cons (j_bltn T.list bt_list) (a_nil)))))) (w_or1 (t_not (t_chain op_leG vo_le op_leG vo_le (j_int) (j_callB call_len vo_len T.len bt_len (a_cons (j_var 1) (a_nil))) (j_glbI T.MOST_SORTS.choose_spec))))).jt) (ss_one (s_raise0 T.x0_NoSorts c)) (ss_nil))
  (ss_cons (s_setF T.fi_by_name (j_var 0) (j_dnew))
  (ss_one (s_for c (i_list (j_var 1)) (g_name c (i := 2)) (ss_cons (s_if ((w_or (t_not (j_tst (j_callP D_is_row c (a_cons (j_var 2) (a_nil))))) (w_or1 (t_inD c (j_ix ix_seq vo_ix (j_var 2) (j_int)) (j_fldI T.fi_by_name (j_var 0))))).jt) (ss_one (s_raise0 T.x0_NoSorts c)) (ss_nil))
  (ss_cons (s_asg (j_var 2) (g_unp c (gs_cons (g_name c (i := 4)) (gs_cons (g_name c (i := 5)) (gs_cons (g_name c (i := 6)) (gs_cons (g_name c (i := 7)) (gs_cons (g_name c (i := 8)) (gs_nil))))))))
  (ss_cons (s_set c (i := 3) (j_makeV K_Sort_5 c (a_cons (j_var 4) (a_cons (j_callP D_lowest c (a_cons (j_ix ix_seq vo_ix (j_var 5) (j_int)) (a_cons (j_ix ix_seq vo_ix (j_var 5) (j_int)) (a_nil)))) (a_cons (j_callP D_lowest c (a_cons (j_ix ix_seq vo_ix (j_var 6) (j_int)) (a_cons (j_ix ix_seq vo_ix (j_var 6) (j_int)) (a_nil)))) (a_cons (j_var 7) (a_cons (j_var 8) (a_nil))))))))
  (ss_one (s_asg (j_var 3) (g_kx c (j_fldI T.fi_by_name (j_var 0)) (j_var 4))))))))))
theorem sc_l_caught : FnScope ["_law_way", "_law_claim", "_law_rows_here", "_law_begin_here", "_law_until", "_law_told", "e"] ["_law_way", "_law_claim", "_law_rows_here", "_law_begin_here", "_law_until"] (defScope s_l_caught) := ⟨rfl, rfl, rfl, by decide +kernel, rfl, by decide +kernel, by decide +kernel⟩
theorem ok_l_caught {f : Addr} {fd : FuncData} (Fu : Fun K "_law_caught" "_law_caught" s_l_caught f fd) (T : Txt P w K mg base)  (K_Sorts_1 : MkDef P w K mg base 4 "Sorts" 1 f_Sorts_init) (D_last_able : Def P w K mg base 5 "last_able" 5 f_last_able) (D_last_comer : Def P w K mg base 6 "last_comer" 4 f_last_comer)   : FnOk P w K mg base (L2.CX P w) 7 f fd ["_law_way", "_law_claim", "_law_rows_here", "_law_begin_here", "_law_until"] (spG K mg 5 f_l_caught) :=
  fn_ok Fu sc_l_caught fun cdv A outer s H E c =>
  ss_cons (s_set c (i := 5) (j_non))
  (ss_cons (s_try T.k_WaitError c 6 (fun _ _ _ c => ss_one (s_if (t_cmp (op_eqD c.hu) vo_eq (j_var 0) (j_int)) (ss_one (s_drop (j_callP D_last_able c (a_cons (j_var 1) (a_cons (j_ix ix_seq vo_ix (j_ix ix_seq vo_ix (j_var 2) (j_int)) (j_int)) (a_cons (j_ix ix_seq vo_ix (j_ix ix_seq vo_ix (j_var 2) (j_int)) (j_int)) (a_cons (j_var 3) (a_cons (j_var 4) (a_nil))))))))) (ss_one (s_drop (j_callP D_last_comer c (a_cons (j_var 1) (a_cons (j_makeL K_Sorts_1 c (a_cons (j_var 2) (a_nil))) (a_cons (j_var 3) (a_cons (j_var 4) (a_nil)))))))))) (fun _ _ => ss_one (s_if ((w_and (j_tst (j_callB call_isO2 (vo_isO T.is) T.isinstance bt_isinstance (a_cons (j_var 6) (a_cons (j_cls T.c_NoTurn.choose_spec) (a_nil))))) (w_and1 (j_tst (j_callB call_isO2 (vo_isO T.is) T.isinstance bt_isinstance (a_cons (j_var 6) (a_cons (j_bltn T.ValueError bt_ValueError) (a_nil))))))).jt) (ss_one (s_setN (nd := by exact c.nd) (i := 5) (j_lst (a_cons (j_fld T.fl_turn (j_var 6)) (a_nil))))) (ss_nil))))
  (ss_one (s_ret (j_var 5))))
theorem sc_l_refused : FnScope ["_law_state", "_law_claim", "_law_rows_here", "_law_begin_here", "_law_some", "_law_bad", "_law_last", "_law_way", "_law_until", "_law_told"] ["_law_state", "_law_claim", "_law_rows_here", "_law_begin_here"] (defScope s_l_refused) := ⟨rfl, rfl, rfl, by decide +kernel, rfl, by decide +kernel, by decide +kernel⟩
theorem ok_l_refused {f : Addr} {fd : FuncData} (Fu : Fun K "_law_refused" "_law_refused" s_l_refused f fd) (T : Txt P w K mg base)   (D_l_pull : Def P w K mg base 2 "_law_pull" 2 f_l_pull) (D_l_caught : Def P w K mg base 7 "_law_caught" 5 f_l_caught)   : FnOk P w K mg base (L2.CX P w) 8 f fd ["_law_state", "_law_claim", "_law_rows_here", "_law_begin_here"] (spG K mg 4 f_l_refused) :=
  fn_ok Fu sc_l_refused fun cdv A outer s H E c =>
  ss_cons (s_set c (i := 4) (j_lst (a_cons (j_un un_neg vo_neg (j_int)) (a_cons (j_op op_addG vo_add (j_op op_pow vo_pow (j_int) (j_int)) (j_int)) (a_cons (j_bl) (a_cons (j_bl) (a_cons (j_non) (a_cons (j_str) (a_cons (j_lst (a_cons (j_int) (a_nil))) (a_cons (j_tup (a_cons (j_int) (a_nil))) (a_cons (j_dnil) (a_cons (j_op op_sub vo_sub (j_int) (j_op op_pow vo_pow (j_int) (j_int))) (a_cons (j_lst (a_nil)) (a_cons (j_op op_sub vo_sub (j_ix ix_seq vo_ix (j_var 1) (j_int)) (j_int)) (a_nil)))))))))))))))
  (ss_cons (s_set c (i := 5) (j_ix ix_seq vo_ix (j_var 4) (j_call D_l_pull c (a_cons (j_var 0) (a_cons (j_int) (a_nil))))))
  (ss_cons (s_set c (i := 6) (j_ix ix_seq vo_ix (j_op op_addG vo_add (j_slL (j_var 4) (o_none) (o_some (j_int))) (j_lst (a_cons (j_op op_sub vo_sub (j_var 3) (j_int)) (a_nil)))) (j_call D_l_pull c (a_cons (j_var 0) (a_cons (j_int) (a_nil))))))
  (ss_cons (s_for c (i_rng1 T.range (a_cons (j_int) (a_nil))) (g_name c (i := 7)) (ss_cons (s_for c (i_list (j_lst (a_cons (j_var 3) (a_cons (j_var 5) (a_cons (j_var 6) (a_nil)))))) (g_name c (i := 8)) (ss_cons (s_set c (i := 9) (j_call D_l_caught c (a_cons (j_var 7) (a_cons (j_var 1) (a_cons (j_var 2) (a_cons (j_var 5) (a_cons (j_var 8) (a_nil))))))))
  (ss_one (s_if ((w_or (t_cmp (op_neSL c.hu) (vo_same false) (j_var 9) (j_lst (a_cons (j_var 5) (a_nil)))) (w_or1 (t_cmp (op_neD c.hu) vo_ne (j_callB call_isi vo_isi T.isinstance bt_isinstance (a_cons (j_ix ix_seq vo_ix (j_var 9) (j_int)) (a_cons (j_bltn T.bool bt_bool) (a_nil)))) (j_callB call_isi vo_isi T.isinstance bt_isinstance (a_cons (j_var 5) (a_cons (j_bltn T.bool bt_bool) (a_nil))))))).jt) (ss_one (s_ret (j_bl))) (ss_nil)))))
  (ss_cons (s_set c (i := 9) (j_call D_l_caught c (a_cons (j_var 7) (a_cons (j_var 1) (a_cons (j_var 2) (a_cons (j_var 3) (a_cons (j_var 6) (a_nil))))))))
  (ss_cons (s_if ((w_or (t_cmp (op_neSL c.hu) (vo_same false) (j_var 9) (j_lst (a_cons (j_var 6) (a_nil)))) (w_or1 (t_cmp (op_neD c.hu) vo_ne (j_callB call_isi vo_isi T.isinstance bt_isinstance (a_cons (j_ix ix_seq vo_ix (j_var 9) (j_int)) (a_cons (j_bltn T.bool bt_bool) (a_nil)))) (j_callB call_isi vo_isi T.isinstance bt_isinstance (a_cons (j_var 6) (a_cons (j_bltn T.bool bt_bool) (a_nil))))))).jt) (ss_one (s_ret (j_bl))) (ss_nil))
  (ss_cons (s_if (t_cmp op_notG vo_isNot (j_call D_l_caught c (a_cons (j_var 7) (a_cons (j_var 1) (a_cons (j_var 2) (a_cons (j_ix ix_seq vo_ix (j_var 1) (j_int)) (a_cons (j_ix ix_seq vo_ix (j_var 1) (j_int)) (a_nil))))))) (j_non)) (ss_one (s_ret (j_bl))) (ss_nil))
  (ss_one (s_if (t_cmp op_notG vo_isNot (j_call D_l_caught c (a_cons (j_var 7) (a_cons (j_var 1) (a_cons (j_var 2) (a_cons (j_op op_pow vo_pow (j_int) (j_int)) (a_cons (j_op op_pow vo_pow (j_int) (j_int)) (a_nil))))))) (j_non)) (ss_one (s_ret (j_bl))) (ss_nil))))))))
  (ss_one (s_ret (j_bl))))))
theorem sc_l_good : FnScope ["_law_cell_here", "_law_state", "_law_claim", "_law_rows_here", "_law_begin_here", "_law_until", "_law_sorts", "_law_due_here", "_law_turn", "_law_found", "_law_second"] ["_law_cell_here"] (defScope s_l_good) := ⟨rfl, rfl, rfl, by decide +kernel, rfl, by decide +kernel, by decide +kernel⟩
theorem ok_l_good {f : Addr} {fd : FuncData} (Fu : Fun K "_law_good" "_law_good" s_l_good f fd) (T : Txt P w K mg base)  (K_Sorts_1 : MkDef P w K mg base 4 "Sorts" 1 f_Sorts_init) (D_last_comer : Def P w K mg base 6 "last_comer" 4 f_last_comer) (D_l_begun : Def P w K mg base 1 "_law_begun" 1 f_l_begun) (D_l_pull : Def P w K mg base 2 "_law_pull" 2 f_l_pull) (D_l_claims : Def P w K mg base 4 "_law_claims" 2 f_l_claims) (D_l_begin : Def P w K mg base 3 "_law_begin" 2 f_l_begin) (D_l_comer : Def P w K mg base 4 "_law_comer" 2 f_l_comer) (D_l_rows : Def P w K mg base 5 "_law_rows" 2 f_l_rows) (D_l_due : Def P w K mg base 6 "_law_due" 4 f_l_due) (D_l_refused : Def P w K mg base 8 "_law_refused" 4 f_l_refused)   : FnOk P w K mg base (L2.CX P w) 9 f fd ["_law_cell_here"] (spG K mg 1 f_l_good) :=
  fn_ok Fu sc_l_good fun cdv A outer s H E c =>
  ss_cons (s_set c (i := 1) (j_call D_l_begun c (a_cons (j_var 0) (a_nil))))
  (ss_cons (s_set c (i := 2) (j_ix ix_seq vo_ix (j_op op_addG vo_add (j_call D_l_claims c (a_cons (j_var 1) (a_cons (j_int) (a_nil)))) (j_lst (a_cons (j_tup (a_cons (j_int) (a_cons (j_tup (a_cons (j_int) (a_cons (j_int) (a_nil)))) (a_cons (j_tup (a_cons (j_int) (a_cons (j_int) (a_nil)))) (a_cons (j_int) (a_nil)))))) (a_nil)))) (j_int)))
  (ss_cons (s_set c (i := 3) (j_call D_l_rows c (a_cons (j_var 1) (a_cons (j_var 2) (a_nil)))))
  (ss_cons (s_set c (i := 4) (j_call D_l_begin c (a_cons (j_var 1) (a_cons (j_lst (a_cons (j_var 2) (a_nil))) (a_nil)))))
  (ss_cons (s_set c (i := 5) (j_callB (call_min2 c.calm) vo_min2 T.min bt_min (a_cons (j_op op_pow vo_pow (j_int) (j_int)) (a_cons (j_op op_addG vo_add (j_var 4) (j_call D_l_pull c (a_cons (j_var 1) (a_cons (j_ix ix_seq vo_ix (j_lst (a_cons (j_int) (a_cons (j_int) (a_cons (j_op op_pow vo_pow (j_int) (j_int)) (a_nil))))) (j_call D_l_pull c (a_cons (j_var 1) (a_cons (j_int) (a_nil))))) (a_nil))))) (a_nil)))))
  (ss_cons (s_set c (i := 6) (j_makeL K_Sorts_1 c (a_cons (j_callTy call_list_of vo_listOf T.list bt_list (a_cons (j_var 3) (a_nil))) (a_nil))))
  (ss_cons (s_set c (i := 7) (j_call D_l_due c (a_cons (j_var 2) (a_cons (j_var 3) (a_cons (j_var 4) (a_cons (j_var 5) (a_nil)))))))
  (ss_cons (s_for c (i_rng1 T.range (a_cons (j_int) (a_nil))) (g_name c (i := 8)) (ss_cons (s_set c (i := 9) (j_callP D_last_comer c (a_cons (j_var 2) (a_cons (j_var 6) (a_cons (j_var 4) (a_cons (j_var 5) (a_nil)))))))
  (ss_one (s_if ((w_or (t_cmp (op_neD c.hu) vo_ne (j_var 9) (j_var 7)) (w_or1 ((w_and (t_cmp op_notG vo_isNot (j_var 7) (j_non)) (w_and1 ((w_or (t_not (j_tst (j_callB call_isi vo_isi T.isinstance bt_isinstance (a_cons (j_var 9) (a_cons (j_bltn T.tuple bt_tuple) (a_nil)))))) (w_or1 (j_tst (j_callB call_isi vo_isi T.isinstance bt_isinstance (a_cons (j_ix ix_seq vo_ix (j_var 9) (j_int)) (a_cons (j_bltn T.bool bt_bool) (a_nil))))))).jt))).jt))).jt) (ss_one (s_ret (j_bl))) (ss_nil)))))
  (ss_cons (s_set c (i := 10) (j_op op_addG vo_add (j_op op_addG vo_add (j_tup (a_cons (j_ix ix_seq vo_ix (j_var 2) (j_int)) (a_nil))) (j_call D_l_comer c (a_cons (j_var 1) (a_cons (j_var 2) (a_nil))))) (j_tup (a_cons (j_ix ix_seq vo_ix (j_var 2) (j_int)) (a_nil)))))
  (ss_cons (s_if (t_cmp (op_neD c.hu) vo_ne (j_callP D_last_comer c (a_cons (j_var 10) (a_cons (j_var 6) (a_cons (j_var 4) (a_cons (j_var 5) (a_nil)))))) (j_call D_l_due c (a_cons (j_var 10) (a_cons (j_var 3) (a_cons (j_var 4) (a_cons (j_var 5) (a_nil))))))) (ss_one (s_ret (j_bl))) (ss_nil))
  (ss_cons (s_drop (j_m0 PySem.F.slot_list_reverse PySem.F.type_list_reverse mt_reverse vo_reverse (j_var 3)))
  (ss_cons (s_if (t_cmp (op_neD c.hu) vo_ne (j_callP D_last_comer c (a_cons (j_var 2) (a_cons (j_makeL K_Sorts_1 c (a_cons (j_callTy call_list_of vo_listOf T.list bt_list (a_cons (j_var 3) (a_nil))) (a_nil))) (a_cons (j_var 4) (a_cons (j_var 5) (a_nil)))))) (j_call D_l_due c (a_cons (j_var 2) (a_cons (j_var 3) (a_cons (j_var 4) (a_cons (j_var 5) (a_nil))))))) (ss_one (s_ret (j_bl))) (ss_nil))
  (ss_one (s_ret (j_and (j_cmp (op_eqD c.hu) vo_eq (j_callP D_last_comer c (a_cons (j_var 2) (a_cons (j_var 6) (a_cons (j_var 4) (a_cons (j_var 5) (a_nil)))))) (j_var 7)) (j_one (j_call D_l_refused c (a_cons (j_var 1) (a_cons (j_var 2) (a_cons (j_var 3) (a_cons (j_var 4) (a_nil)))))))))))))))))))))
theorem sc_law : FnScope ["_law_script", "_law_k"] ["_law_script"] (defScope s_law) := ⟨rfl, rfl, rfl, by decide +kernel, rfl, by decide +kernel, by decide +kernel⟩
theorem ok_law {f : Addr} {fd : FuncData} (Fu : Fun K "law" "law" s_law f fd) (T : Txt P w K mg base)   (D_l_cell : Def P w K mg base 1 "_law_cell" 2 f_l_cell) (D_l_good : Def P w K mg base 9 "_law_good" 1 f_l_good)   : FnOk P w K mg base (L2.CX P w) 10 f fd ["_law_script"] (spG K mg 1 f_law) :=
  fn_ok Fu sc_law fun cdv A outer s H E c =>
  ss_cons (s_for c (i_rng1 T.range (a_cons (j_callB (call_max2 c.calm) vo_max2 T.max bt_max (a_cons (j_int) (a_cons (j_callB (call_min2 c.calm) vo_min2 T.min bt_min (a_cons (j_callB call_len vo_len T.len bt_len (a_cons (j_var 0) (a_nil))) (a_cons (j_int) (a_nil)))) (a_nil)))) (a_nil))) (g_name c (i := 1)) (ss_one (s_if (t_not (j_tst (j_callP D_l_good c (a_cons (j_callP D_l_cell c (a_cons (j_var 0) (a_cons (j_var 1) (a_nil)))) (a_nil))))) (ss_one (s_ret (j_bl))) (ss_nil))))
  (ss_one (s_ret (j_bl)))
end
theorem all_mk {l : PySem.W.OpenLaw} {w : World} {K : PySem.W.Frag} {h : Heap} {mg : Str → Option Value} {fa : Addr} {qq : Program} (LO : LamOk qq K) (X : K.In h) (G : h.Ns mainGlobals mg) (hfa : mg "law" = some (.ref fa))
    {C_Sorts : Addr}
    (zc_Sorts : PySem.W.nsIn K mainGlobals "Sorts" = some (some (.ref C_Sorts)))
    (cg_Sorts : PySem.W.plainGet K C_Sorts Str.empty = true)
    (ch_Sorts : PySem.W.hasDictIn K C_Sorts = true)
    (co_Sorts : PySem.W.plainOver K C_Sorts = true)
    (cs_Sorts : PySem.W.findIn K (.ref C_Sorts) "__setattr__" = some (some (.builtin "object.__setattr__")))
    (cm_Sorts : PySem.W.makesIn K C_Sorts = true)
    (ck_Sorts : PySem.W.keepIn K (.ref C_Sorts) = true)
    (fo_Sorts_by_name : PySem.W.findIn K (.ref C_Sorts) "by_name" = some none)
    {C_Sort : Addr}
    (zc_Sort : PySem.W.nsIn K mainGlobals "Sort" = some (some (.ref C_Sort)))
    (cg_Sort : PySem.W.plainGet K C_Sort Str.empty = true)
    (ch_Sort : PySem.W.hasDictIn K C_Sort = true)
    (co_Sort : PySem.W.plainOver K C_Sort = true)
    (cs_Sort : PySem.W.findIn K (.ref C_Sort) "__setattr__" = some (some (.builtin "object.__setattr__")))
    (cm_Sort : PySem.W.makesIn K C_Sort = true)
    (ck_Sort : PySem.W.keepIn K (.ref C_Sort) = true)
    (fo_Sort_name : PySem.W.findIn K (.ref C_Sort) "name" = some none)
    (fo_Sort_span : PySem.W.findIn K (.ref C_Sort) "span" = some none)
    (fo_Sort_speed : PySem.W.findIn K (.ref C_Sort) "speed" = some none)
    (fo_Sort_tries : PySem.W.findIn K (.ref C_Sort) "tries" = some none)
    (fo_Sort_weight : PySem.W.findIn K (.ref C_Sort) "weight" = some none)
    {f1 : Addr} {od1 an1 : Option Addr} {sl1 : Array (Option Value)} {oc1 kV1 dc1 pm1 cd1 ct1 : Value}
    {f2 : Addr} {od2 an2 : Option Addr} {sl2 : Array (Option Value)} {oc2 kV2 dc2 pm2 cd2 ct2 : Value}
    {f3 : Addr} {od3 an3 : Option Addr} {sl3 : Array (Option Value)} {oc3 kV3 dc3 pm3 cd3 ct3 : Value}
    {f4 : Addr} {od4 an4 : Option Addr} {sl4 : Array (Option Value)} {oc4 kV4 dc4 pm4 cd4 ct4 : Value}
    {f5 : Addr} {od5 an5 : Option Addr} {sl5 : Array (Option Value)} {oc5 kV5 dc5 pm5 cd5 ct5 : Value}
    {f6 : Addr} {od6 an6 : Option Addr} {sl6 : Array (Option Value)} {oc6 kV6 dc6 pm6 cd6 ct6 : Value}
    {f7 : Addr} {od7 an7 : Option Addr} {sl7 : Array (Option Value)} {oc7 kV7 dc7 pm7 cd7 ct7 : Value}
    {f8 : Addr} {od8 an8 : Option Addr} {sl8 : Array (Option Value)} {oc8 kV8 dc8 pm8 cd8 ct8 : Value}
    {f9 : Addr} {od9 an9 : Option Addr} {sl9 : Array (Option Value)} {oc9 kV9 dc9 pm9 cd9 ct9 : Value}
    {f10 : Addr} {od10 an10 : Option Addr} {sl10 : Array (Option Value)} {oc10 kV10 dc10 pm10 cd10 ct10 : Value}
    {f11 : Addr} {od11 an11 : Option Addr} {sl11 : Array (Option Value)} {oc11 kV11 dc11 pm11 cd11 ct11 : Value}
    {f12 : Addr} {od12 an12 : Option Addr} {sl12 : Array (Option Value)} {oc12 kV12 dc12 pm12 cd12 ct12 : Value}
    {f13 : Addr} {od13 an13 : Option Addr} {sl13 : Array (Option Value)} {oc13 kV13 dc13 pm13 cd13 ct13 : Value}
    {f14 : Addr} {od14 an14 : Option Addr} {sl14 : Array (Option Value)} {oc14 kV14 dc14 pm14 cd14 ct14 : Value}
    {f15 : Addr} {od15 an15 : Option Addr} {sl15 : Array (Option Value)} {oc15 kV15 dc15 pm15 cd15 ct15 : Value}
    {f16 : Addr} {od16 an16 : Option Addr} {sl16 : Array (Option Value)} {oc16 kV16 dc16 pm16 cd16 ct16 : Value}
    {f17 : Addr} {od17 an17 : Option Addr} {sl17 : Array (Option Value)} {oc17 kV17 dc17 pm17 cd17 ct17 : Value}
    {f18 : Addr} {od18 an18 : Option Addr} {sl18 : Array (Option Value)} {oc18 kV18 dc18 pm18 cd18 ct18 : Value}
    {f19 : Addr} {od19 an19 : Option Addr} {sl19 : Array (Option Value)} {oc19 kV19 dc19 pm19 cd19 ct19 : Value}
    {f20 : Addr} {od20 an20 : Option Addr} {sl20 : Array (Option Value)} {oc20 kV20 dc20 pm20 cd20 ct20 : Value}
    {f21 : Addr} {od21 an21 : Option Addr} {sl21 : Array (Option Value)} {oc21 kV21 dc21 pm21 cd21 ct21 : Value}
    {f22 : Addr} {od22 an22 : Option Addr} {sl22 : Array (Option Value)} {oc22 kV22 dc22 pm22 cd22 ct22 : Value}
    {f23 : Addr} {od23 an23 : Option Addr} {sl23 : Array (Option Value)} {oc23 kV23 dc23 pm23 cd23 ct23 : Value}
    {f24 : Addr} {od24 an24 : Option Addr} {sl24 : Array (Option Value)} {oc24 kV24 dc24 pm24 cd24 ct24 : Value}
    {f25 : Addr} {od25 an25 : Option Addr} {sl25 : Array (Option Value)} {oc25 kV25 dc25 pm25 cd25 ct25 : Value}
    {f26 : Addr} {od26 an26 : Option Addr} {sl26 : Array (Option Value)} {oc26 kV26 dc26 pm26 cd26 ct26 : Value}
    {f27 : Addr} {od27 an27 : Option Addr} {sl27 : Array (Option Value)} {oc27 kV27 dc27 pm27 cd27 ct27 : Value}
    {f28 : Addr} {od28 an28 : Option Addr} {sl28 : Array (Option Value)} {oc28 kV28 dc28 pm28 cd28 ct28 : Value}
    {f29 : Addr} {od29 an29 : Option Addr} {sl29 : Array (Option Value)} {oc29 kV29 dc29 pm29 cd29 ct29 : Value}
    {f30 : Addr} {od30 an30 : Option Addr} {sl30 : Array (Option Value)} {oc30 kV30 dc30 pm30 cd30 ct30 : Value}
    {f31 : Addr} {od31 an31 : Option Addr} {sl31 : Array (Option Value)} {oc31 kV31 dc31 pm31 cd31 ct31 : Value}
    (a1 : PySem.W.nsIn K mainGlobals "is_whole" = some (some (.ref f1)))
    (l1 : K.lookup f1 = some ⟨oc1, od1, .func (PySem.W.fnOf "is_whole" "is_whole" (defArgs s_is_whole) (defBody s_is_whole) (defScope s_is_whole) .none kV1 dc1 pm1 an1 cd1 ct1), sl1⟩)
    (c1 : PySem.W.codeIn K cd1 "is_whole" = true)
    (k1 : PySem.W.keepIn K (.ref f1) = true)
    (a2 : PySem.W.nsIn K mainGlobals "is_name" = some (some (.ref f2)))
    (l2 : K.lookup f2 = some ⟨oc2, od2, .func (PySem.W.fnOf "is_name" "is_name" (defArgs s_is_name) (defBody s_is_name) (defScope s_is_name) .none kV2 dc2 pm2 an2 cd2 ct2), sl2⟩)
    (c2 : PySem.W.codeIn K cd2 "is_name" = true)
    (k2 : PySem.W.keepIn K (.ref f2) = true)
    (a3 : PySem.W.nsIn K mainGlobals "lowest" = some (some (.ref f3)))
    (l3 : K.lookup f3 = some ⟨oc3, od3, .func (PySem.W.fnOf "lowest" "lowest" (defArgs s_lowest) (defBody s_lowest) (defScope s_lowest) .none kV3 dc3 pm3 an3 cd3 ct3), sl3⟩)
    (c3 : PySem.W.codeIn K cd3 "lowest" = true)
    (k3 : PySem.W.keepIn K (.ref f3) = true)
    (a4 : PySem.W.nsIn K mainGlobals "is_weight" = some (some (.ref f4)))
    (l4 : K.lookup f4 = some ⟨oc4, od4, .func (PySem.W.fnOf "is_weight" "is_weight" (defArgs s_is_weight) (defBody s_is_weight) (defScope s_is_weight) .none kV4 dc4 pm4 an4 cd4 ct4), sl4⟩)
    (c4 : PySem.W.codeIn K cd4 "is_weight" = true)
    (k4 : PySem.W.keepIn K (.ref f4) = true)
    (a5 : PySem.W.nsIn K mainGlobals "weight_after" = some (some (.ref f5)))
    (l5 : K.lookup f5 = some ⟨oc5, od5, .func (PySem.W.fnOf "weight_after" "weight_after" (defArgs s_weight_after) (defBody s_weight_after) (defScope s_weight_after) .none kV5 dc5 pm5 an5 cd5 ct5), sl5⟩)
    (c5 : PySem.W.codeIn K cd5 "weight_after" = true)
    (k5 : PySem.W.keepIn K (.ref f5) = true)
    (a6 : PySem.W.nsIn K mainGlobals "weight_at" = some (some (.ref f6)))
    (l6 : K.lookup f6 = some ⟨oc6, od6, .func (PySem.W.fnOf "weight_at" "weight_at" (defArgs s_weight_at) (defBody s_weight_at) (defScope s_weight_at) .none kV6 dc6 pm6 an6 cd6 ct6), sl6⟩)
    (c6 : PySem.W.codeIn K cd6 "weight_at" = true)
    (k6 : PySem.W.keepIn K (.ref f6) = true)
    (a7 : PySem.W.nsIn K mainGlobals "as_whole" = some (some (.ref f7)))
    (l7 : K.lookup f7 = some ⟨oc7, od7, .func (PySem.W.fnOf "as_whole" "as_whole" (defArgs s_as_whole) (defBody s_as_whole) (defScope s_as_whole) .none kV7 dc7 pm7 an7 cd7 ct7), sl7⟩)
    (c7 : PySem.W.codeIn K cd7 "as_whole" = true)
    (k7 : PySem.W.keepIn K (.ref f7) = true)
    (a8 : PySem.W.nsIn K mainGlobals "need_turn" = some (some (.ref f8)))
    (l8 : K.lookup f8 = some ⟨oc8, od8, .func (PySem.W.fnOf "need_turn" "need_turn" (defArgs s_need_turn) (defBody s_need_turn) (defScope s_need_turn) .none kV8 dc8 pm8 an8 cd8 ct8), sl8⟩)
    (c8 : PySem.W.codeIn K cd8 "need_turn" = true)
    (k8 : PySem.W.keepIn K (.ref f8) = true)
    (a9 : PySem.W.nsIn K mainGlobals "need_turns" = some (some (.ref f9)))
    (l9 : K.lookup f9 = some ⟨oc9, od9, .func (PySem.W.fnOf "need_turns" "need_turns" (defArgs s_need_turns) (defBody s_need_turns) (defScope s_need_turns) .none kV9 dc9 pm9 an9 cd9 ct9), sl9⟩)
    (c9 : PySem.W.codeIn K cd9 "need_turns" = true)
    (k9 : PySem.W.keepIn K (.ref f9) = true)
    (a10 : PySem.W.nsIn K mainGlobals "last_at_once" = some (some (.ref f10)))
    (l10 : K.lookup f10 = some ⟨oc10, od10, .func (PySem.W.fnOf "last_at_once" "last_at_once" (defArgs s_last_at_once) (defBody s_last_at_once) (defScope s_last_at_once) .none kV10 dc10 pm10 an10 cd10 ct10), sl10⟩)
    (c10 : PySem.W.codeIn K cd10 "last_at_once" = true)
    (k10 : PySem.W.keepIn K (.ref f10) = true)
    (a11 : PySem.W.nsIn K mainGlobals "last_at_end" = some (some (.ref f11)))
    (l11 : K.lookup f11 = some ⟨oc11, od11, .func (PySem.W.fnOf "last_at_end" "last_at_end" (defArgs s_last_at_end) (defBody s_last_at_end) (defScope s_last_at_end) .none kV11 dc11 pm11 an11 cd11 ct11), sl11⟩)
    (c11 : PySem.W.codeIn K cd11 "last_at_end" = true)
    (k11 : PySem.W.keepIn K (.ref f11) = true)
    (a12 : PySem.W.nsIn K mainGlobals "last_able" = some (some (.ref f12)))
    (l12 : K.lookup f12 = some ⟨oc12, od12, .func (PySem.W.fnOf "last_able" "last_able" (defArgs s_last_able) (defBody s_last_able) (defScope s_last_able) .none kV12 dc12 pm12 an12 cd12 ct12), sl12⟩)
    (c12 : PySem.W.codeIn K cd12 "last_able" = true)
    (k12 : PySem.W.keepIn K (.ref f12) = true)
    (fm_Sorts_rows_told : PySem.W.findIn K (.ref C_Sorts) "rows_told" = some (some (.ref f13)))
    (l13 : K.lookup f13 = some ⟨oc13, od13, .func (PySem.W.fnOf "rows_told" "Sorts.rows_told" (defArgs s_Sorts_rows_told) (defBody s_Sorts_rows_told) (defScope s_Sorts_rows_told) .none kV13 dc13 pm13 an13 cd13 ct13), sl13⟩)
    (c13 : PySem.W.codeIn K cd13 "Sorts.rows_told" = true)
    (k13 : PySem.W.keepIn K (.ref f13) = true)
    (j13 : PySem.W.isFn K (.ref f13) = true)
    (a14 : PySem.W.nsIn K mainGlobals "last_comer" = some (some (.ref f14)))
    (l14 : K.lookup f14 = some ⟨oc14, od14, .func (PySem.W.fnOf "last_comer" "last_comer" (defArgs s_last_comer) (defBody s_last_comer) (defScope s_last_comer) .none kV14 dc14 pm14 an14 cd14 ct14), sl14⟩)
    (c14 : PySem.W.codeIn K cd14 "last_comer" = true)
    (k14 : PySem.W.keepIn K (.ref f14) = true)
    (a15 : PySem.W.nsIn K mainGlobals "is_row" = some (some (.ref f15)))
    (l15 : K.lookup f15 = some ⟨oc15, od15, .func (PySem.W.fnOf "is_row" "is_row" (defArgs s_is_row) (defBody s_is_row) (defScope s_is_row) .none kV15 dc15 pm15 an15 cd15 ct15), sl15⟩)
    (c15 : PySem.W.codeIn K cd15 "is_row" = true)
    (k15 : PySem.W.keepIn K (.ref f15) = true)
    (a16 : PySem.W.nsIn K mainGlobals "_law_cell" = some (some (.ref f16)))
    (l16 : K.lookup f16 = some ⟨oc16, od16, .func (PySem.W.fnOf "_law_cell" "_law_cell" (defArgs s_l_cell) (defBody s_l_cell) (defScope s_l_cell) .none kV16 dc16 pm16 an16 cd16 ct16), sl16⟩)
    (c16 : PySem.W.codeIn K cd16 "_law_cell" = true)
    (k16 : PySem.W.keepIn K (.ref f16) = true)
    (a17 : PySem.W.nsIn K mainGlobals "_law_mix" = some (some (.ref f17)))
    (l17 : K.lookup f17 = some ⟨oc17, od17, .func (PySem.W.fnOf "_law_mix" "_law_mix" (defArgs s_l_mix) (defBody s_l_mix) (defScope s_l_mix) .none kV17 dc17 pm17 an17 cd17 ct17), sl17⟩)
    (c17 : PySem.W.codeIn K cd17 "_law_mix" = true)
    (k17 : PySem.W.keepIn K (.ref f17) = true)
    (a18 : PySem.W.nsIn K mainGlobals "_law_begun" = some (some (.ref f18)))
    (l18 : K.lookup f18 = some ⟨oc18, od18, .func (PySem.W.fnOf "_law_begun" "_law_begun" (defArgs s_l_begun) (defBody s_l_begun) (defScope s_l_begun) .none kV18 dc18 pm18 an18 cd18 ct18), sl18⟩)
    (c18 : PySem.W.codeIn K cd18 "_law_begun" = true)
    (k18 : PySem.W.keepIn K (.ref f18) = true)
    (a19 : PySem.W.nsIn K mainGlobals "_law_pull" = some (some (.ref f19)))
    (l19 : K.lookup f19 = some ⟨oc19, od19, .func (PySem.W.fnOf "_law_pull" "_law_pull" (defArgs s_l_pull) (defBody s_l_pull) (defScope s_l_pull) .none kV19 dc19 pm19 an19 cd19 ct19), sl19⟩)
    (c19 : PySem.W.codeIn K cd19 "_law_pull" = true)
    (k19 : PySem.W.keepIn K (.ref f19) = true)
    (a20 : PySem.W.nsIn K mainGlobals "_law_weight" = some (some (.ref f20)))
    (l20 : K.lookup f20 = some ⟨oc20, od20, .func (PySem.W.fnOf "_law_weight" "_law_weight" (defArgs s_l_weight) (defBody s_l_weight) (defScope s_l_weight) .none kV20 dc20 pm20 an20 cd20 ct20), sl20⟩)
    (c20 : PySem.W.codeIn K cd20 "_law_weight" = true)
    (k20 : PySem.W.keepIn K (.ref f20) = true)
    (a21 : PySem.W.nsIn K mainGlobals "_law_claims" = some (some (.ref f21)))
    (l21 : K.lookup f21 = some ⟨oc21, od21, .func (PySem.W.fnOf "_law_claims" "_law_claims" (defArgs s_l_claims) (defBody s_l_claims) (defScope s_l_claims) .none kV21 dc21 pm21 an21 cd21 ct21), sl21⟩)
    (c21 : PySem.W.codeIn K cd21 "_law_claims" = true)
    (k21 : PySem.W.keepIn K (.ref f21) = true)
    (a22 : PySem.W.nsIn K mainGlobals "_law_begin" = some (some (.ref f22)))
    (l22 : K.lookup f22 = some ⟨oc22, od22, .func (PySem.W.fnOf "_law_begin" "_law_begin" (defArgs s_l_begin) (defBody s_l_begin) (defScope s_l_begin) .none kV22 dc22 pm22 an22 cd22 ct22), sl22⟩)
    (c22 : PySem.W.codeIn K cd22 "_law_begin" = true)
    (k22 : PySem.W.keepIn K (.ref f22) = true)
    (a23 : PySem.W.nsIn K mainGlobals "_law_comer" = some (some (.ref f23)))
    (l23 : K.lookup f23 = some ⟨oc23, od23, .func (PySem.W.fnOf "_law_comer" "_law_comer" (defArgs s_l_comer) (defBody s_l_comer) (defScope s_l_comer) .none kV23 dc23 pm23 an23 cd23 ct23), sl23⟩)
    (c23 : PySem.W.codeIn K cd23 "_law_comer" = true)
    (k23 : PySem.W.keepIn K (.ref f23) = true)
    (a24 : PySem.W.nsIn K mainGlobals "_law_rows" = some (some (.ref f24)))
    (l24 : K.lookup f24 = some ⟨oc24, od24, .func (PySem.W.fnOf "_law_rows" "_law_rows" (defArgs s_l_rows) (defBody s_l_rows) (defScope s_l_rows) .none kV24 dc24 pm24 an24 cd24 ct24), sl24⟩)
    (c24 : PySem.W.codeIn K cd24 "_law_rows" = true)
    (k24 : PySem.W.keepIn K (.ref f24) = true)
    (a25 : PySem.W.nsIn K mainGlobals "_law_due" = some (some (.ref f25)))
    (l25 : K.lookup f25 = some ⟨oc25, od25, .func (PySem.W.fnOf "_law_due" "_law_due" (defArgs s_l_due) (defBody s_l_due) (defScope s_l_due) .none kV25 dc25 pm25 an25 cd25 ct25), sl25⟩)
    (c25 : PySem.W.codeIn K cd25 "_law_due" = true)
    (k25 : PySem.W.keepIn K (.ref f25) = true)
    (fm_Sort_init : PySem.W.findIn K (.ref C_Sort) "__init__" = some (some (.ref f26)))
    (l26 : K.lookup f26 = some ⟨oc26, od26, .func (PySem.W.fnOf "__init__" "Sort.__init__" (defArgs s_Sort_init) (defBody s_Sort_init) (defScope s_Sort_init) .none kV26 dc26 pm26 an26 cd26 ct26), sl26⟩)
    (c26 : PySem.W.codeIn K cd26 "Sort.__init__" = true)
    (k26 : PySem.W.keepIn K (.ref f26) = true)
    (j26 : PySem.W.isFn K (.ref f26) = true)
    (fm_Sorts_init : PySem.W.findIn K (.ref C_Sorts) "__init__" = some (some (.ref f27)))
    (l27 : K.lookup f27 = some ⟨oc27, od27, .func (PySem.W.fnOf "__init__" "Sorts.__init__" (defArgs s_Sorts_init) (defBody s_Sorts_init) (defScope s_Sorts_init) .none kV27 dc27 pm27 an27 cd27 ct27), sl27⟩)
    (c27 : PySem.W.codeIn K cd27 "Sorts.__init__" = true)
    (k27 : PySem.W.keepIn K (.ref f27) = true)
    (j27 : PySem.W.isFn K (.ref f27) = true)
    (a28 : PySem.W.nsIn K mainGlobals "_law_caught" = some (some (.ref f28)))
    (l28 : K.lookup f28 = some ⟨oc28, od28, .func (PySem.W.fnOf "_law_caught" "_law_caught" (defArgs s_l_caught) (defBody s_l_caught) (defScope s_l_caught) .none kV28 dc28 pm28 an28 cd28 ct28), sl28⟩)
    (c28 : PySem.W.codeIn K cd28 "_law_caught" = true)
    (k28 : PySem.W.keepIn K (.ref f28) = true)
    (a29 : PySem.W.nsIn K mainGlobals "_law_refused" = some (some (.ref f29)))
    (l29 : K.lookup f29 = some ⟨oc29, od29, .func (PySem.W.fnOf "_law_refused" "_law_refused" (defArgs s_l_refused) (defBody s_l_refused) (defScope s_l_refused) .none kV29 dc29 pm29 an29 cd29 ct29), sl29⟩)
    (c29 : PySem.W.codeIn K cd29 "_law_refused" = true)
    (k29 : PySem.W.keepIn K (.ref f29) = true)
    (a30 : PySem.W.nsIn K mainGlobals "_law_good" = some (some (.ref f30)))
    (l30 : K.lookup f30 = some ⟨oc30, od30, .func (PySem.W.fnOf "_law_good" "_law_good" (defArgs s_l_good) (defBody s_l_good) (defScope s_l_good) .none kV30 dc30 pm30 an30 cd30 ct30), sl30⟩)
    (c30 : PySem.W.codeIn K cd30 "_law_good" = true)
    (k30 : PySem.W.keepIn K (.ref f30) = true)
    (a31 : PySem.W.nsIn K mainGlobals "law" = some (some (.ref f31)))
    (l31 : K.lookup f31 = some ⟨oc31, od31, .func (PySem.W.fnOf "law" "law" (defArgs s_law) (defBody s_law) (defScope s_law) .none kV31 dc31 pm31 an31 cd31 ct31), sl31⟩)
    (c31 : PySem.W.codeIn K cd31 "law" = true)
    (k31 : PySem.W.keepIn K (.ref f31) = true)
    (z_ValueError : PySem.W.nsIn K mainGlobals "ValueError" = some none)
    (z_abs : PySem.W.nsIn K mainGlobals "abs" = some none)
    (z_all : PySem.W.nsIn K mainGlobals "all" = some none)
    (z_bool : PySem.W.nsIn K mainGlobals "bool" = some none)
    (z_int : PySem.W.nsIn K mainGlobals "int" = some none)
    (z_isinstance : PySem.W.nsIn K mainGlobals "isinstance" = some none)
    (z_len : PySem.W.nsIn K mainGlobals "len" = some none)
    (z_list : PySem.W.nsIn K mainGlobals "list" = some none)
    (z_max : PySem.W.nsIn K mainGlobals "max" = some none)
    (z_min : PySem.W.nsIn K mainGlobals "min" = some none)
    (z_range : PySem.W.nsIn K mainGlobals "range" = some none)
    (z_str : PySem.W.nsIn K mainGlobals "str" = some none)
    (z_tuple : PySem.W.nsIn K mainGlobals "tuple" = some none)
    {tk_ALL_BOTTOMS : Tok}
    (z_ALL_BOTTOMS : PySem.W.nsIn K mainGlobals "ALL_BOTTOMS" = some (some (.int (27720) tk_ALL_BOTTOMS)))
    {tk_FAR : Tok}
    (z_FAR : PySem.W.nsIn K mainGlobals "FAR" = some (some (.int (1000000000000000) tk_FAR)))
    {tk_LETTERS : Tok}
    (z_LETTERS : PySem.W.nsIn K mainGlobals "LETTERS" = some (some (.str "abcdefghijklmnopqrstuvwxyz" tk_LETTERS)))
    {tk_MOST_BOTTOM : Tok}
    (z_MOST_BOTTOM : PySem.W.nsIn K mainGlobals "MOST_BOTTOM" = some (some (.int (12) tk_MOST_BOTTOM)))
    {tk_MOST_SORTS : Tok}
    (z_MOST_SORTS : PySem.W.nsIn K mainGlobals "MOST_SORTS" = some (some (.int (8) tk_MOST_SORTS)))
    {tk_MOST_SPAN : Tok}
    (z_MOST_SPAN : PySem.W.nsIn K mainGlobals "MOST_SPAN" = some (some (.int (4) tk_MOST_SPAN)))
    {tk_MOST_TOP : Tok}
    (z_MOST_TOP : PySem.W.nsIn K mainGlobals "MOST_TOP" = some (some (.int (1000000) tk_MOST_TOP)))
    {tk_MOST_TRIES : Tok}
    (z_MOST_TRIES : PySem.W.nsIn K mainGlobals "MOST_TRIES" = some (some (.int (3) tk_MOST_TRIES)))
    {C_NoTurn : Addr} (zc_NoTurn : PySem.W.nsIn K mainGlobals "NoTurn" = some (some (.ref C_NoTurn)))
    {C_WaitError : Addr} (zc_WaitError : PySem.W.nsIn K mainGlobals "WaitError" = some (some (.ref C_WaitError)))
    {C_NoSorts : Addr} (zc_NoSorts : PySem.W.nsIn K mainGlobals "NoSorts" = some (some (.ref C_NoSorts)))
    {fI_NoTurn : Addr} {odi_NoTurn ani_NoTurn : Option Addr} {sli_NoTurn : Array (Option Value)} {oci_NoTurn kVi_NoTurn dci_NoTurn pmi_NoTurn cdi_NoTurn cti_NoTurn : Value}
    (iC_NoTurn : PySem.W.findIn K (.ref C_NoTurn) "__init__" = some (some (.ref fI_NoTurn)))
    (li_NoTurn : K.lookup fI_NoTurn = some ⟨oci_NoTurn, odi_NoTurn, .func (PySem.W.fnOf "__init__" "NoTurn.__init__" (defArgs si_NoTurn) (defBody si_NoTurn) (defScope si_NoTurn) .none kVi_NoTurn dci_NoTurn pmi_NoTurn ani_NoTurn cdi_NoTurn cti_NoTurn), sli_NoTurn⟩)
    (ci_NoTurn : PySem.W.codeIn K cdi_NoTurn "NoTurn.__init__" = true) (ki_NoTurn : PySem.W.keepIn K (.ref fI_NoTurn) = true) (tI_NoTurn : PySem.W.typeIn K (.ref fI_NoTurn) = some (.type "function"))
    (T_NoTurn : OexC K C_NoTurn)
    (q0_NoSorts : PySem.W.excIn K C_NoSorts veB "ValueError.__new__" = true) (k0_NoSorts : PySem.W.keepIn K (.ref C_NoSorts) = true) (s0_NoSorts : PySem.W.subIn K (.ref C_NoSorts) (.type "BaseException") = some true) (t0_NoSorts : PySem.W.typeIn K (.ref C_NoSorts) = some (.type "type"))
    (ib_WaitError : InitC K C_WaitError)
    (fo_NoTurn : PySem.W.findIn K (.ref C_NoTurn) "turn" = some none)
    (ex_NoTurn : ExcC K C_NoTurn)
    (ex_WaitError : ExcC K C_WaitError)
    (xf_NoTurn : XfC K C_NoTurn)
    (is_NoTurn_NoTurn : PySem.W.kitOne K (.ref C_NoTurn) (.ref C_NoTurn) = some true)
    (is_NoTurn_ValueError : PySem.W.kitOne K (.ref C_NoTurn) (.type "ValueError") = some true)
    (is_WaitError_NoTurn : PySem.W.kitOne K (.ref C_WaitError) (.ref C_NoTurn) = some false)
    (is_WaitError_ValueError : PySem.W.kitOne K (.ref C_WaitError) (.type "ValueError") = some true)
    (em_WaitError_NoTurn : PySem.W.exmOne K (.ref C_NoTurn) (.ref C_WaitError) = some true)
    (em_WaitError_WaitError : PySem.W.exmOne K (.ref C_WaitError) (.ref C_WaitError) = some true)
    : ∃ fd : FuncData, (∀ (s : Shared) (v : Value), BindsTo s fd ⟨[v], []⟩ [("_law_script", v)]) ∧ ∃ mg', ∀ base : Heap, K.In base → base.Ns mainGlobals mg → TabBs K base mg → FnOk l.prog w K mg base (L2.CX l.prog w) 10 fa fd ["_law_script"] (spG K mg' 1 f_law) := by
  have e := hfa.symm.trans (PySem.W.mg_of X G a31)
  cases e
  have F1 := fun_mk (st := s_is_whole) l1 c1 k1
  have b1 := F1.binds (ps := ["thing", "low", "high"]) fun _ _ _ _ _ _ us hl => match us, hl with | [_, _, _], _ => rfl
  have F2 := fun_mk (st := s_is_name) l2 c2 k2
  have b2 := F2.binds (ps := ["thing"]) fun _ _ _ _ _ _ us hl => match us, hl with | [_], _ => rfl
  have F3 := fun_mk (st := s_lowest) l3 c3 k3
  have b3 := F3.binds (ps := ["top", "bottom"]) fun _ _ _ _ _ _ us hl => match us, hl with | [_, _], _ => rfl
  have F4 := fun_mk (st := s_is_weight) l4 c4 k4
  have b4 := F4.binds (ps := ["thing"]) fun _ _ _ _ _ _ us hl => match us, hl with | [_], _ => rfl
  have F5 := fun_mk (st := s_weight_after) l5 c5 k5
  have b5 := F5.binds (ps := ["weight", "speed", "turns"]) fun _ _ _ _ _ _ us hl => match us, hl with | [_, _, _], _ => rfl
  have F6 := fun_mk (st := s_weight_at) l6 c6 k6
  have b6 := F6.binds (ps := ["claim", "turn"]) fun _ _ _ _ _ _ us hl => match us, hl with | [_, _], _ => rfl
  have F7 := fun_mk (st := s_as_whole) l7 c7 k7
  have b7 := F7.binds (ps := ["fraction"]) fun _ _ _ _ _ _ us hl => match us, hl with | [_], _ => rfl
  have F8 := fun_mk (st := s_need_turn) l8 c8 k8
  have b8 := F8.binds (ps := ["claims", "turn"]) fun _ _ _ _ _ _ us hl => match us, hl with | [_, _], _ => rfl
  have F9 := fun_mk (st := s_need_turns) l9 c9 k9
  have b9 := F9.binds (ps := ["claim", "begin", "until"]) fun _ _ _ _ _ _ us hl => match us, hl with | [_, _, _], _ => rfl
  have F10 := fun_mk (st := s_last_at_once) l10 c10 k10
  have b10 := F10.binds (ps := ["claim", "weight", "until"]) fun _ _ _ _ _ _ us hl => match us, hl with | [_, _, _], _ => rfl
  have F11 := fun_mk (st := s_last_at_end) l11 c11 k11
  have b11 := F11.binds (ps := ["claim", "weight", "speed", "until"]) fun _ _ _ _ _ _ us hl => match us, hl with | [_, _, _, _], _ => rfl
  have F12 := fun_mk (st := s_last_able) l12 c12 k12
  have b12 := F12.binds (ps := ["claim", "weight", "speed", "begin", "until"]) fun _ _ _ _ _ _ us hl => match us, hl with | [_, _, _, _, _], _ => rfl
  have F13 := fun_mk (st := s_Sorts_rows_told) l13 c13 k13
  have b13 := F13.binds (ps := ["self"]) fun _ _ _ _ _ _ us hl => match us, hl with | [_], _ => rfl
  have F14 := fun_mk (st := s_last_comer) l14 c14 k14
  have b14 := F14.binds (ps := ["claim", "sorts", "begin", "until"]) fun _ _ _ _ _ _ us hl => match us, hl with | [_, _, _, _], _ => rfl
  have F15 := fun_mk (st := s_is_row) l15 c15 k15
  have b15 := F15.binds (ps := ["thing"]) fun _ _ _ _ _ _ us hl => match us, hl with | [_], _ => rfl
  have F16 := fun_mk (st := s_l_cell) l16 c16 k16
  have b16 := F16.binds (ps := ["_law_script", "_law_k"]) fun _ _ _ _ _ _ us hl => match us, hl with | [_, _], _ => rfl
  have F17 := fun_mk (st := s_l_mix) l17 c17 k17
  have b17 := F17.binds (ps := ["_law_cell_here", "_law_k"]) fun _ _ _ _ _ _ us hl => match us, hl with | [_, _], _ => rfl
  have F18 := fun_mk (st := s_l_begun) l18 c18 k18
  have b18 := F18.binds (ps := ["_law_cell_here"]) fun _ _ _ _ _ _ us hl => match us, hl with | [_], _ => rfl
  have F19 := fun_mk (st := s_l_pull) l19 c19 k19
  have b19 := F19.binds (ps := ["_law_state", "_law_many"]) fun _ _ _ _ _ _ us hl => match us, hl with | [_, _], _ => rfl
  have F20 := fun_mk (st := s_l_weight) l20 c20 k20
  have b20 := F20.binds (ps := ["_law_state", "_law_most", "_law_wide"]) fun _ _ _ _ _ _ us hl => match us, hl with | [_, _, _], _ => rfl
  have F21 := fun_mk (st := s_l_claims) l21 c21 k21
  have b21 := F21.binds (ps := ["_law_state", "_law_most"]) fun _ _ _ _ _ _ us hl => match us, hl with | [_, _], _ => rfl
  have F22 := fun_mk (st := s_l_begin) l22 c22 k22
  have b22 := F22.binds (ps := ["_law_state", "_law_claims_here"]) fun _ _ _ _ _ _ us hl => match us, hl with | [_, _], _ => rfl
  have F23 := fun_mk (st := s_l_comer) l23 c23 k23
  have b23 := F23.binds (ps := ["_law_state", "_law_claim"]) fun _ _ _ _ _ _ us hl => match us, hl with | [_, _], _ => rfl
  have F24 := fun_mk (st := s_l_rows) l24 c24 k24
  have b24 := F24.binds (ps := ["_law_state", "_law_claim"]) fun _ _ _ _ _ _ us hl => match us, hl with | [_, _], _ => rfl
  have F25 := fun_mk (st := s_l_due) l25 c25 k25
  have b25 := F25.binds (ps := ["_law_claim", "_law_rows_here", "_law_begin_here", "_law_until"]) fun _ _ _ _ _ _ us hl => match us, hl with | [_, _, _, _], _ => rfl
  have F26 := fun_mk (st := s_Sort_init) l26 c26 k26
  have b26 := F26.binds (ps := ["self", "name", "weight", "speed", "span", "tries"]) fun _ _ _ _ _ _ us hl => match us, hl with | [_, _, _, _, _, _], _ => rfl
  have F27 := fun_mk (st := s_Sorts_init) l27 c27 k27
  have b27 := F27.binds (ps := ["self", "rows"]) fun _ _ _ _ _ _ us hl => match us, hl with | [_, _], _ => rfl
  have F28 := fun_mk (st := s_l_caught) l28 c28 k28
  have b28 := F28.binds (ps := ["_law_way", "_law_claim", "_law_rows_here", "_law_begin_here", "_law_until"]) fun _ _ _ _ _ _ us hl => match us, hl with | [_, _, _, _, _], _ => rfl
  have F29 := fun_mk (st := s_l_refused) l29 c29 k29
  have b29 := F29.binds (ps := ["_law_state", "_law_claim", "_law_rows_here", "_law_begin_here"]) fun _ _ _ _ _ _ us hl => match us, hl with | [_, _, _, _], _ => rfl
  have F30 := fun_mk (st := s_l_good) l30 c30 k30
  have b30 := F30.binds (ps := ["_law_cell_here"]) fun _ _ _ _ _ _ us hl => match us, hl with | [_], _ => rfl
  have F31 := fun_mk (st := s_law) l31 c31 k31
  refine ⟨PySem.W.fnOf "law" "law" (defArgs s_law) (defBody s_law) (defScope s_law) .none kV31 dc31 pm31 an31 cd31 ct31, fun s v => .of_eq rfl, mg, fun base _ _ TB => ?_⟩
  have Fi_NoTurn := fun_mk (st := si_NoTurn) li_NoTurn ci_NoTurn ki_NoTurn
  have bi_NoTurn := Fi_NoTurn.binds (ps := ["self", "turn"]) fun _ _ _ _ _ _ us hl => match us, hl with | [_, _], _ => rfl
  have kk_WaitError : CatchF K mg "WaitError" is_WaitError := ⟨_, PySem.W.mg_of X G zc_WaitError, fun y b hb => by
    unfold is_WaitError at hb
    split at hb
    · rename_i q; cases hb; rw [q]; exact ⟨_, PySem.W.mg_of X G zc_NoTurn, em_WaitError_NoTurn⟩
    split at hb
    · rename_i q; cases hb; rw [q]; exact ⟨_, PySem.W.mg_of X G zc_WaitError, em_WaitError_WaitError⟩
    cases hb⟩
  have hs_NoTurn : IsFs K mg isTab_NoTurn := isFs_cons ⟨_, PySem.W.mg_of X G zc_NoTurn, ex_NoTurn, _, PySem.W.mg_of X G zc_NoTurn, is_NoTurn_NoTurn⟩ (isFs_cons ⟨_, PySem.W.mg_of X G zc_NoTurn, ex_NoTurn, is_NoTurn_ValueError⟩ (isFs_nil))
  have hs_WaitError : IsFs K mg isTab_WaitError := isFs_cons ⟨_, PySem.W.mg_of X G zc_WaitError, ex_WaitError, _, PySem.W.mg_of X G zc_NoTurn, is_WaitError_NoTurn⟩ (isFs_cons ⟨_, PySem.W.mg_of X G zc_WaitError, ex_WaitError, is_WaitError_ValueError⟩ (isFs_nil))
  have cls_Sorts : Cls K C_Sorts := ⟨cg_Sorts, ch_Sorts, co_Sorts, cs_Sorts⟩
  have cls_Sort : Cls K C_Sort := ⟨cg_Sort, ch_Sort, co_Sort, cs_Sort⟩
  have T : Txt l.prog w K mg base := ⟨PySem.W.mg_none_of X G z_ValueError, PySem.W.mg_none_of X G z_abs, PySem.W.mg_none_of X G z_all, PySem.W.mg_none_of X G z_bool, PySem.W.mg_none_of X G z_int, PySem.W.mg_none_of X G z_isinstance, PySem.W.mg_none_of X G z_len, PySem.W.mg_none_of X G z_list, PySem.W.mg_none_of X G z_max, PySem.W.mg_none_of X G z_min, PySem.W.mg_none_of X G z_range, PySem.W.mg_none_of X G z_str, PySem.W.mg_none_of X G z_tuple, ⟨_, PySem.W.mg_of X G zc_NoTurn⟩, ⟨_, PySem.W.mg_of X G zc_WaitError⟩, ⟨_, PySem.W.mg_of X G zc_NoSorts⟩, ⟨C_NoTurn, _, _, _, PySem.W.mg_of X G zc_NoTurn, T_NoTurn, iC_NoTurn, tI_NoTurn, oki_NoTurn Fi_NoTurn (PySem.W.mg_of X G zc_WaitError) ib_WaitError, bi_NoTurn, fo_NoTurn⟩, ⟨_, PySem.W.mg_of X G zc_NoSorts, q0_NoSorts, k0_NoSorts, s0_NoSorts, t0_NoSorts⟩, kk_WaitError, fld_cons (PySem.W.mg_of X G zc_NoTurn) xf_NoTurn fo_NoTurn (fld_nil), isFs_app (hs_NoTurn) hs_WaitError, fldI_cons (PySem.W.mg_of X G zc_Sorts) cls_Sorts fo_Sorts_by_name (fldI_nil), fldI_cons (PySem.W.mg_of X G zc_Sort) cls_Sort fo_Sort_name (fldI_nil), fldI_cons (PySem.W.mg_of X G zc_Sort) cls_Sort fo_Sort_span (fldI_nil), fldI_cons (PySem.W.mg_of X G zc_Sort) cls_Sort fo_Sort_speed (fldI_nil), fldI_cons (PySem.W.mg_of X G zc_Sort) cls_Sort fo_Sort_tries (fldI_nil), fldI_cons (PySem.W.mg_of X G zc_Sort) cls_Sort fo_Sort_weight (fldI_nil), ⟨_, PySem.W.mg_of X G z_ALL_BOTTOMS⟩, ⟨_, PySem.W.mg_of X G z_FAR⟩, ⟨_, PySem.W.mg_of X G z_LETTERS⟩, ⟨_, PySem.W.mg_of X G z_MOST_BOTTOM⟩, ⟨_, PySem.W.mg_of X G z_MOST_SORTS⟩, ⟨_, PySem.W.mg_of X G z_MOST_SPAN⟩, ⟨_, PySem.W.mg_of X G z_MOST_TOP⟩, ⟨_, PySem.W.mg_of X G z_MOST_TRIES⟩⟩
  have D1 : Def l.prog w K mg base 1 "is_whole" 3 f_is_whole := def_mk F1 b1 (PySem.W.mg_of X G a1) (ok_is_whole F1 T    )
  have D2 : Def l.prog w K mg base 1 "is_name" 1 f_is_name := def_mk F2 b2 (PySem.W.mg_of X G a2) (ok_is_name F2 T    )
  have D3 : Def l.prog w K mg base 1 "lowest" 2 f_lowest := def_mk F3 b3 (PySem.W.mg_of X G a3) (ok_lowest F3 T    )
  have D4 : Def l.prog w K mg base 2 "is_weight" 1 f_is_weight := def_mk F4 b4 (PySem.W.mg_of X G a4) (ok_is_weight F4 T   D1 )
  have D5 : Def l.prog w K mg base 2 "weight_after" 3 f_weight_after := def_mk F5 b5 (PySem.W.mg_of X G a5) (ok_weight_after F5 T   D3 )
  have D6 : Def l.prog w K mg base 3 "weight_at" 2 f_weight_at := def_mk F6 b6 (PySem.W.mg_of X G a6) (ok_weight_at F6 T   D5 )
  have D7 : Def l.prog w K mg base 1 "as_whole" 1 f_as_whole := def_mk F7 b7 (PySem.W.mg_of X G a7) (ok_as_whole F7 T    )
  have D8 : Def l.prog w K mg base 3 "need_turn" 2 f_need_turn := def_mk F8 b8 (PySem.W.mg_of X G a8) (ok_need_turn F8 T   D1 )
  have D9 : Def l.prog w K mg base 4 "need_turns" 3 f_need_turns := def_mk F9 b9 (PySem.W.mg_of X G a9) (ok_need_turns F9 T   D1 D8 )
  have D10 : Def l.prog w K mg base 2 "last_at_once" 3 f_last_at_once := def_mk F10 b10 (PySem.W.mg_of X G a10) (ok_last_at_once F10 T   D7 )
  have D11 : Def l.prog w K mg base 4 "last_at_end" 4 f_last_at_end := def_mk F11 b11 (PySem.W.mg_of X G a11) (ok_last_at_end F11 T   D6 D7 )
  have D12 : Def l.prog w K mg base 5 "last_able" 5 f_last_able := def_mk F12 b12 (PySem.W.mg_of X G a12) (ok_last_able F12 T   D9 D10 D11 )
  have OK13 := ok_Sorts_rows_told (P := l.prog) (w := w) (mg := mg) (base := base) F13 T    
  have M_rows_told_0 : MTab l.prog w K mg base 1 "rows_told" 0 tb_rows_told_0 := mt_cons (MDef.own (mdef_mk (PySem.W.mg_of X G zc_Sorts) cls_Sorts fm_Sorts_rows_told j13 k13 b13 OK13)) (mt_nil)
  have D14 : Def l.prog w K mg base 6 "last_comer" 4 f_last_comer := def_mk F14 b14 (PySem.W.mg_of X G a14) (ok_last_comer F14 T M_rows_told_0  D9 D12 )
  have D15 : Def l.prog w K mg base 3 "is_row" 1 f_is_row := def_mk F15 b15 (PySem.W.mg_of X G a15) (ok_is_row F15 T   D1 D2 D4 )
  have D16 : Def l.prog w K mg base 1 "_law_cell" 2 f_l_cell := def_mk F16 b16 (PySem.W.mg_of X G a16) (ok_l_cell F16 T    )
  have D17 : Def l.prog w K mg base 1 "_law_mix" 2 f_l_mix := def_mk F17 b17 (PySem.W.mg_of X G a17) (ok_l_mix F17 T    )
  have D18 : Def l.prog w K mg base 1 "_law_begun" 1 f_l_begun := def_mk F18 b18 (PySem.W.mg_of X G a18) (ok_l_begun F18 T    )
  have D19 : Def l.prog w K mg base 2 "_law_pull" 2 f_l_pull := def_mk F19 b19 (PySem.W.mg_of X G a19) (ok_l_pull F19 T   D17 )
  have D20 : Def l.prog w K mg base 3 "_law_weight" 3 f_l_weight := def_mk F20 b20 (PySem.W.mg_of X G a20) (ok_l_weight F20 T   D19 )
  have D21 : Def l.prog w K mg base 4 "_law_claims" 2 f_l_claims := def_mk F21 b21 (PySem.W.mg_of X G a21) (ok_l_claims F21 T   D19 D20 )
  have D22 : Def l.prog w K mg base 3 "_law_begin" 2 f_l_begin := def_mk F22 b22 (PySem.W.mg_of X G a22) (ok_l_begin F22 T   D19 )
  have D23 : Def l.prog w K mg base 4 "_law_comer" 2 f_l_comer := def_mk F23 b23 (PySem.W.mg_of X G a23) (ok_l_comer F23 T   D19 D20 )
  have D24 : Def l.prog w K mg base 5 "_law_rows" 2 f_l_rows := def_mk F24 b24 (PySem.W.mg_of X G a24) (ok_l_rows F24 T   D19 D23 )
  have D25 : Def l.prog w K mg base 6 "_law_due" 4 f_l_due := def_mk F25 b25 (PySem.W.mg_of X G a25) (ok_l_due F25 T   D12 )
  have OK26 := ok_Sort_init (P := l.prog) (w := w) (mg := mg) (base := base) F26 T    
  have K_Sort_5 : MkDef l.prog w K mg base 1 "Sort" 5 f_Sort_init := mkdef_mk (PySem.W.mg_of X G zc_Sort) ⟨cm_Sort, fm_Sort_init, j26, ck_Sort⟩ b26 OK26
  have OK27 := ok_Sorts_init (P := l.prog) (w := w) (mg := mg) (base := base) F27 T  K_Sort_5 D3 D15 
  have K_Sorts_1 : MkDef l.prog w K mg base 4 "Sorts" 1 f_Sorts_init := mkdef_mk (PySem.W.mg_of X G zc_Sorts) ⟨cm_Sorts, fm_Sorts_init, j27, ck_Sorts⟩ b27 OK27
  have D28 : Def l.prog w K mg base 7 "_law_caught" 5 f_l_caught := def_mk F28 b28 (PySem.W.mg_of X G a28) (ok_l_caught F28 T  K_Sorts_1 D12 D14 )
  have D29 : Def l.prog w K mg base 8 "_law_refused" 4 f_l_refused := def_mk F29 b29 (PySem.W.mg_of X G a29) (ok_l_refused F29 T   D19 D28 )
  have D30 : Def l.prog w K mg base 9 "_law_good" 1 f_l_good := def_mk F30 b30 (PySem.W.mg_of X G a30) (ok_l_good F30 T  K_Sorts_1 D14 D18 D19 D21 D22 D23 D24 D25 D29 )
  exact ok_law F31 T   D16 D30 
end K53

namespace K53
open PySem L2 G
theorem cell_eq {ns : List Int} {k : Int} (hl : ns.length ≤ 63) (h0 : 0 ≤ k) (mh : List O) (hk : k ≤ 1000000) : f_l_cell [.lst (ns.map .int), .int k] mh = .ok (.int (if k < ns.length then ns.getD k.toNat 0 else 7919 * k + 13)) mh := by
  unfold f_l_cell defn b_l_cell
  by_cases h : k < ns.length
  · simp (disch := omega) [h, oIx_ints h0 h]
  · simp (disch := omega) [h]
theorem while_lowest {u v : Option D} (mh : List O) : ∀ (n : Nat) (x y : Nat), x < n → 0 < y → sWhile w_lowest_1 bd_lowest_1 [u, v, some (.int x), some (.int y)] mh =
    .nx [u, v, some (.int 0), some (.int (Nat.gcd x y))] mh
  | 0, _, _, h, _ => absurd h (Nat.not_lt_zero _)
  | n + 1, x, y, h, hy => by
    rw [sWhile_eq]
    by_cases hx : x = 0
    · subst hx
      simp [w_lowest_1_eq]
    · have hp : (0 : Int) < x := by omega
      have hx' : ¬ ((x : Int) = 0) := by omega
      have ih := while_lowest (u := u) (v := v) mh n (y % x) x (Nat.lt_of_lt_of_le (Nat.mod_lt _ (by omega)) (by omega)) (by omega)
      rw [Int.natCast_emod] at ih
      simp [w_lowest_1_eq, bd_lowest_1_eq, hx, hx', oMod_ok hp, ih]
      rw [← Nat.gcd_rec, Nat.gcd_comm]
def gd (a b : Int) : Int := (Nat.gcd a.natAbs b.natAbs : Nat)
theorem gd_pos {a b : Int} (h : 0 < b) : 0 < gd a b := by
  have := Nat.gcd_pos_of_pos_right a.natAbs (n := b.natAbs) (by omega)
  unfold gd; omega
theorem gd_le {a b : Int} (h : 0 < b) : gd a b ≤ b := by
  have := Nat.le_of_dvd (n := b.natAbs) (by omega) (Nat.gcd_dvd_right a.natAbs b.natAbs)
  unfold gd; omega
theorem gd_l {a b : Int} : gd a b ∣ a := Int.ofNat_dvd_left.mpr (Nat.gcd_dvd_left _ _)
theorem gd_r {a b : Int} : gd a b ∣ b := Int.ofNat_dvd_left.mpr (Nat.gcd_dvd_right _ _)
theorem lowest_eq {a b : Int} (h : 0 < b) (h2 : b < 2 ^ 70) (mh : List O) : f_lowest [.int a, .int b] mh = .ok (.tup [.int (a / gd a b), .int (b / gd a b)]) mh := by
  have e : (if a < 0 then -a else a) = ((a.natAbs : Nat) : Int) := by split <;> omega
  have e2 : b = ((b.natAbs : Nat) : Int) := by omega
  have w := while_lowest (u := some (.int a)) (v := some (.int b)) mh (a.natAbs + 1) a.natAbs b.natAbs (by omega) (by omega)
  rw [← e2] at w
  have g1 := gd_pos (a := a) h
  have g2 := gd_le (a := a) h
  have hb : (gd a b).natAbs < 2 ^ 8000 := Nat.lt_of_lt_of_le (m := 2 ^ 70) (by omega) (Nat.pow_le_pow_right (by decide) (by decide))
  have w' : sWhile w_lowest_1 bd_lowest_1 [some (.int a), some (.int b), some (.int ((a.natAbs : Nat) : Int)), some (.int b)] mh =
    .nx [some (.int a), some (.int b), some (.int 0), some (.int (gd a b))] mh := w
  unfold f_lowest defn b_lowest
  simp [e, w', oFdiv_b g1 hb]
def pr (a b : Int) : D := .tup [.int a, .int b]
theorem gd_red {a b : Int} (hb : 0 < b) : gd (a / gd a b) (b / gd a b) = 1 := by
  have hg := gd_pos (a := a) hb
  have e1 : (a / gd a b).natAbs = a.natAbs / Nat.gcd a.natAbs b.natAbs := by
    obtain ⟨c, hc⟩ := gd_l (a := a) (b := b)
    have : (a.natAbs) = (gd a b).natAbs * c.natAbs := by rw [← Int.natAbs_mul, ← hc]
    rw [show Nat.gcd a.natAbs b.natAbs = (gd a b).natAbs by unfold gd; simp]
    rw [this, Nat.mul_div_cancel_left _ (by omega)]
    congr 1
    exact Int.ediv_eq_of_eq_mul_right (by omega) hc
  have e2 : (b / gd a b).natAbs = b.natAbs / Nat.gcd a.natAbs b.natAbs := by
    obtain ⟨c, hc⟩ := gd_r (a := a) (b := b)
    have : (b.natAbs) = (gd a b).natAbs * c.natAbs := by rw [← Int.natAbs_mul, ← hc]
    rw [show Nat.gcd a.natAbs b.natAbs = (gd a b).natAbs by unfold gd; simp]
    rw [this, Nat.mul_div_cancel_left _ (by omega)]
    congr 1
    exact Int.ediv_eq_of_eq_mul_right (by omega) hc
  unfold gd at *
  rw [e1, e2, Nat.gcd_div (Nat.gcd_dvd_left _ _) (Nat.gcd_dvd_right _ _), Nat.div_self (by omega)]
  rfl
theorem div_pos' {a b : Int} (hb : 0 < b) : 0 < b / gd a b := by
  have := Int.ediv_pos_of_pos_of_dvd hb (Int.le_of_lt (gd_pos (a := a) hb)) gd_r
  exact this
theorem div_le' {a b : Int} (hb : 0 < b) : b / gd a b ≤ b := Int.ediv_le_self _ (Int.le_of_lt hb)
theorem cross (a b : Int) : a / gd a b * b = a * (b / gd a b) := by
  obtain ⟨c, hc⟩ := gd_l (a := a) (b := b)
  obtain ⟨d, hd⟩ := gd_r (a := a) (b := b)
  by_cases h : gd a b = 0
  · rw [h] at hc hd
    simp at hc hd
    subst hc hd
    simp
  · have e1 : a / gd a b = c := Int.ediv_eq_of_eq_mul_right h hc
    have e2 : b / gd a b = d := Int.ediv_eq_of_eq_mul_right h hd
    rw [e1, e2]
    rw [hd, Int.mul_comm c, Int.mul_right_comm, ← hc]

theorem natgcd_one {a b : Int} (hb : 0 < b) : Nat.gcd (a / gd a b).natAbs (b / gd a b).natAbs = 1 := by
  have h := gd_red (a := a) hb
  unfold gd at h
  unfold gd
  omega
theorem low_uniq {a b c d : Int} (hb : 0 < b) (hd : 0 < d) (h : a * d = c * b) : a / gd a b = c / gd c d ∧ b / gd a b = d / gd c d := by
  have p1 := div_pos' (a := a) hb
  have p2 := div_pos' (a := c) hd
  have c1 := cross a b
  have c2 := cross c d
  have g1 := natgcd_one (a := a) hb
  have g2 := natgcd_one (a := c) hd
  generalize a / gd a b = p at *
  generalize b / gd a b = q at *
  generalize c / gd c d = r at *
  generalize d / gd c d = s at *
  -- p b = a q, r d = c s, a d = c b
  have e : p * s = r * q := by
    have hbd : b * d ≠ 0 := Int.mul_ne_zero (by omega) (by omega)
    have : (p * s) * (b * d) = (r * q) * (b * d) := by
      calc (p * s) * (b * d) = (p * b) * (s * d) := by ac_rfl
        _ = (a * q) * (s * d) := by rw [c1]
        _ = (a * d) * (q * s) := by ac_rfl
        _ = (c * b) * (q * s) := by rw [h]
        _ = (c * s) * (b * q) := by ac_rfl
        _ = (r * d) * (b * q) := by rw [c2]
        _ = (r * q) * (b * d) := by ac_rfl
    exact Int.eq_of_mul_eq_mul_right hbd this
  have en : p.natAbs * s.natAbs = r.natAbs * q.natAbs := by rw [← Int.natAbs_mul, ← Int.natAbs_mul, e]
  have d1 : q.natAbs ∣ s.natAbs := Nat.Coprime.dvd_of_dvd_mul_left (k := q.natAbs) (m := p.natAbs) (by rw [Nat.Coprime, Nat.gcd_comm]; exact g1) ⟨r.natAbs, by rw [en, Nat.mul_comm]⟩
  have d2 : s.natAbs ∣ q.natAbs := Nat.Coprime.dvd_of_dvd_mul_left (k := s.natAbs) (m := r.natAbs) (by rw [Nat.Coprime, Nat.gcd_comm]; exact g2) ⟨p.natAbs, by rw [← en, Nat.mul_comm]⟩
  have eq : q.natAbs = s.natAbs := Nat.dvd_antisymm d1 d2
  have eq' : q = s := by omega
  subst eq'
  exact ⟨Int.eq_of_mul_eq_mul_right (by omega) e, rfl⟩
def low (a b : Int) : D := pr (a / gd a b) (b / gd a b)
theorem low_same {a b c d : Int} (hb : 0 < b) (hd : 0 < d) (h : a * d = c * b) : low a b = low c d := by
  obtain ⟨e1, e2⟩ := low_uniq hb hd h
  unfold low; rw [e1, e2]
def Wt (t b : Int) : Prop := 0 ≤ t ∧ t ≤ 1000000 ∧ 1 ≤ b ∧ b ≤ 12
theorem after_eq {a b c d n : Int} (hb : 0 < b) (hb2 : b < 2 ^ 30) (hd : 0 < d) (hd2 : d < 2 ^ 30) (hc : 0 ≤ c) (hc2 : c < 2 ^ 60) (mh : List O) : f_weight_after [pr a b, pr c d, .int n] mh = .ok (low (a * d + c * n * b) (b * d)) mh := by
  have hp : 0 < b * d := Int.mul_pos hb hd
  have hp2 : b * d < 2 ^ 70 := by
    have h1 : b * d ≤ 2 ^ 30 * d := Int.mul_le_mul_of_nonneg_right (by omega) (by omega)
    omega
  have c0 := fun mh => call_eq (n := 2) (mh := mh) (fn := f_lowest) (ds := [.int (a * d + c * n * b), .int (b * d)]) rfl (by simp) (lowest_eq hp hp2)
  unfold f_weight_after defn b_weight_after low pr
  simp (disch := omega) [c0]
theorem whole_eq {i l h : Int} (mh : List O) : f_is_whole [.int i, .int l, .int h] mh = .ok (.bl (decide (l ≤ i) && decide (i ≤ h))) mh := by
  unfold f_is_whole defn b_is_whole
  by_cases h1 : l ≤ i <;> simp [isiT, h1]

/-! ### the draws -/
def mix (c k : Int) : Int :=
  let n1 := (c % 2147483629 + 7919 * k + 17) * 48271 % 2147483647
  let n2 := (n1 * n1 + 3 * k) % 2147483629
  n2 * (n2 + 3) % 2147483587
theorem mix_eq {c k : Int} (mh : List O) : ar 2 (oP f_l_mix) [.int c, .int k] mh = .ok (.int (mix c k)) mh := by
  refine call_eq rfl (by simp) fun mh => ?_
  unfold f_l_mix defn b_l_mix mix
  simp (disch := omega)
theorem mix_range {c k : Int} : 0 ≤ mix c k := by
  unfold mix
  dsimp only
  omega
def Ok (o : O) : Prop := ∃ a b c : Int, o = .lst [.int a, .int b, .int c] ∧ 0 ≤ a
theorem pull_ok {o : O} (h : Ok o) {m : Int} (h1 : 0 < m) (h2 : m < 2 ^ 63) (r : List O) : ∃ v o', Ok o' ∧ 0 ≤ v ∧ v < m ∧ ar 2 f_l_pull [.ref 0, .int m] (o :: r) = .ok (.int v) (o' :: r) := by
  obtain ⟨a, b, c, rfl, ha⟩ := h
  have i0 : ∀ (x y z : D) (r : List O), oIx (.ref 0) (.int 0) (.lst [x, y, z] :: r) = .ok x (.lst [x, y, z] :: r) := fun x y z r => oIx_ref (ds := [x, y, z]) x rfl rfl
  have i1 : ∀ (x y z : D) (r : List O), oIx (.ref 0) (.int 1) (.lst [x, y, z] :: r) = .ok y (.lst [x, y, z] :: r) := fun x y z r => oIx_ref (ds := [x, y, z]) y rfl rfl
  have i2 : ∀ (x y z : D) (r : List O), oIx (.ref 0) (.int 2) (.lst [x, y, z] :: r) = .ok z (.lst [x, y, z] :: r) := fun x y z r => oIx_ref (ds := [x, y, z]) z rfl rfl
  have s0 : ∀ (x y z d : D) (ρ : En) (r : List O), gIx (cVar 0) (cK (.int 0)) d (some (.ref 0) :: ρ) (.lst [x, y, z] :: r) = .nx (some (.ref 0) :: ρ) (.lst [d, y, z] :: r) := fun x y z d ρ r => gIx_at (n := 0) (i := 0) (m1 := .lst [x, y, z] :: r) (m2 := .lst [x, y, z] :: r) (ds := [x, y, z]) (k := 0) rfl rfl rfl rfl
  have s2 : ∀ (x y z d : D) (ρ : En) (r : List O), gIx (cVar 0) (cK (.int 2)) d (some (.ref 0) :: ρ) (.lst [x, y, z] :: r) = .nx (some (.ref 0) :: ρ) (.lst [x, y, d] :: r) := fun x y z d ρ r => gIx_at (n := 0) (i := 2) (m1 := .lst [x, y, z] :: r) (m2 := .lst [x, y, z] :: r) (ds := [x, y, z]) (k := 2) rfl rfl rfl rfl
  by_cases h : 0 < a
  · refine ⟨a % m, .lst [.int (a / m), .int b, .int c], ⟨_, _, _, rfl, Int.ediv_nonneg ha (by omega)⟩, Int.emod_nonneg _ (by omega), Int.emod_lt_of_pos _ h1, ?_⟩
    refine ar_n ?_
    unfold f_l_pull defn b_l_pull
    simp (disch := omega) [i0, i1, i2, s0, s2, h]
  · refine ⟨mix b (c + 1) % m, .lst [.int a, .int b, .int (c + 1)], ⟨_, _, _, rfl, ha⟩, Int.emod_nonneg _ (by omega), Int.emod_lt_of_pos _ h1, ?_⟩
    refine ar_n ?_
    unfold f_l_pull defn b_l_pull
    simp (disch := omega) [i0, i1, i2, s0, s2, h, mix_eq]
theorem weight_ok {o : O} (h : Ok o) {m w : Int} (h1 : 0 ≤ m) (h2 : m ≤ 1000000) (h3 : 1 ≤ w) (h4 : w ≤ 12) (r : List O) : ∃ t b o', Ok o' ∧ Wt t b ∧ ar 3 f_l_weight [.ref 0, .int m, .int w] (o :: r) = .ok (pr t b) (o' :: r) := by
  obtain ⟨v, o1, k1, v0, v1, e1⟩ := pull_ok h (m := m + 1) (by omega) (by omega) r
  obtain ⟨u, o2, k2, u0, u1, e2⟩ := pull_ok k1 (m := w) (by omega) (by omega) r
  refine ⟨v, 1 + u, o2, k2, ⟨by omega, by omega, by omega, by omega⟩, ?_⟩
  refine ar_n ?_
  unfold f_l_weight defn b_l_weight pr
  simp [e1, e2]
structure Cl (d : D) : Prop where
  ex : ∃ n t b s c k : Int, d = .tup [.int n, pr t b, pr s c, .int k] ∧ Wt t b ∧ Wt s c ∧ 0 ≤ k ∧ k ≤ 1000000000000000
theorem pick3 {a b c v : Int} (h0 : 0 ≤ v) (h1 : v < 3) : ∃ x, (x = a ∨ x = b ∨ x = c) ∧ ∀ mh, oIx (.lst [.int a, .int b, .int c]) (.int v) mh = .ok (.int x) mh := by
  have h : v = 0 ∨ v = 1 ∨ v = 2 := by omega
  rcases h with rfl | rfl | rfl
  · exact ⟨a, by simp, fun mh => by simp⟩
  · exact ⟨b, by simp, fun mh => by simp⟩
  · exact ⟨c, by simp, fun mh => by simp⟩
theorem pick4 {a b c d v : Int} (h0 : 0 ≤ v) (h1 : v < 4) : ∃ x, (x = a ∨ x = b ∨ x = c ∨ x = d) ∧ ∀ mh, oIx (.lst [.int a, .int b, .int c, .int d]) (.int v) mh = .ok (.int x) mh := by
  have h : v = 0 ∨ v = 1 ∨ v = 2 ∨ v = 3 := by omega
  rcases h with rfl | rfl | rfl | rfl
  · exact ⟨a, by simp, fun mh => by simp⟩
  · exact ⟨b, by simp, fun mh => by simp⟩
  · exact ⟨c, by simp, fun mh => by simp⟩
  · exact ⟨d, by simp, fun mh => by simp⟩
theorem claim_turn {o : O} (h : Ok o) {ls cs : List D} (hl : ls ≠ []) (hi : ∀ x ∈ ls, ∃ i : Int, x = .int i) (hll : ls.length ≤ 100) (hc : ∀ x ∈ cs, Cl x) (hcl : cs.length ≤ 100) {hv fs wd er : Int} (h1 : 0 ≤ hv ∧ hv ≤ 1000000) (h2 : 0 ≤ fs ∧ fs ≤ 1000000) (h3 : 1 ≤ wd ∧ wd ≤ 12) (h4 : 0 < er ∧ er ≤ 1000000000000000)
    (o1 o2 o9 o10 o11 o12 : Option D) : ∃ o' ls' c q10 q11 q12, Ok o' ∧ Cl c ∧ ls'.length + 1 = ls.length ∧ (∀ x ∈ ls', x ∈ ls) ∧
      bd_l_claims_1 [some (.ref 0), o1, o2, some (.int hv), some (.int fs), some (.int wd), some (.int er), some (.ref 1), some (.ref 2), o9, o10, o11, o12] [o, .lst ls, .lst cs] =
        .nx [some (.ref 0), o1, o2, some (.int hv), some (.int fs), some (.int wd), some (.int er), some (.ref 1), some (.ref 2), o9, q10, q11, q12] [o', .lst ls', .lst (cs ++ [c])] := by
  have hp : 0 < ls.length := List.length_pos_iff.mpr hl
  obtain ⟨v, p1, k1, v0, v1, e1⟩ := pull_ok h (m := (ls.length : Nat)) (by omega) (by omega) [.lst ls, .lst cs]
  have hx : v.toNat < ls.length := by omega
  obtain ⟨i, ei⟩ := hi _ (List.getElem_mem hx)
  have hget : ls[v.toNat]? = some (.int i) := by rw [List.getElem?_eq_getElem hx, ei]
  obtain ⟨u, p2, k2, u0, u1, e2⟩ := pull_ok k1 (m := 7) (by omega) (by omega) [.lst (ls.eraseIdx v.toNat), .lst cs]
  obtain ⟨t, b, p3, k3, w3, e3⟩ := weight_ok k2 h1.1 h1.2 h3.1 h3.2 [.lst (ls.eraseIdx v.toNat), .lst cs]
  obtain ⟨s, c, p4, k4, w4, e4⟩ := weight_ok k3 h2.1 h2.2 h3.1 h3.2 [.lst (ls.eraseIdx v.toNat), .lst cs]
  obtain ⟨y, p5, k5, y0, y1, e5⟩ := pull_ok k4 (m := er) (by omega) (by omega) [.lst (ls.eraseIdx v.toNat), .lst cs]
  refine ⟨p5, ls.eraseIdx v.toNat, .tup [.int (7 * i + u), pr t b, pr s c, .int y], some (.int (7 * i + u)), some (pr t b), some (pr s c), k5, ⟨_, _, _, _, _, _, rfl, w3, w4, y0, by omega⟩, ?_, fun x hx => List.mem_of_mem_eraseIdx hx, ?_⟩
  · rw [List.length_eraseIdx_of_lt hx]; omega
  · have m1 : cM oPopAt (cVar 7) (cCons (cL (ar 2 f_l_pull) (cCons (cVar 0) (cCons (cL oLen (cCons (cVar 7) cNil)) cNil))) cNil) [some (.ref 0), o1, o2, some (.int hv), some (.int fs), some (.int wd), some (.int er), some (.ref 1), some (.ref 2), o9, o10, o11, o12] [o, .lst ls, .lst cs] =
        .ok (.int i) [p1, .lst (ls.eraseIdx v.toNat), .lst cs] := by
      rw [cM_at (n := 1) (ds := ls) (m1 := [o, .lst ls, .lst cs]) rfl rfl]
      have hlen : oLen [.ref 1] [o, .lst ls, .lst cs] = .ok (.int ls.length) [o, .lst ls, .lst cs] := oLen_ref rfl
      have hpop := oPopAt_at (mh := [p1, .lst ls, .lst cs]) (n := 1) rfl v0 (by omega) hget
      simp [hlen, e1, hpop]
    have m2 : ∀ (x9 x10 x11 x12 : Option D), cM oAppend (cVar 8) (cCons (cL oTup (cCons (cVar 10) (cCons (cVar 11) (cCons (cVar 12) (cCons (cL (ar 2 f_l_pull) (cCons (cVar 0) (cCons (cVar 6) cNil))) cNil))))) cNil) [some (.ref 0), o1, o2, some (.int hv), some (.int fs), some (.int wd), some (.int er), some (.ref 1), some (.ref 2), x9, some (.int (7 * i + u)), some (pr t b), some (pr s c)] [p4, .lst (ls.eraseIdx v.toNat), .lst cs] =
        .ok .non [p5, .lst (ls.eraseIdx v.toNat), .lst (cs ++ [.tup [.int (7 * i + u), pr t b, pr s c, .int y]])] := by
      intro x9 x10 x11 x12
      rw [cM_at (n := 2) (ds := cs) (m1 := [p4, .lst (ls.eraseIdx v.toNat), .lst cs]) rfl rfl]
      have happ := oAppend_at (d := .tup [.int (7 * i + u), pr t b, pr s c, .int y]) (mh := [p5, .lst (ls.eraseIdx v.toNat), .lst cs]) (n := 2) rfl (by omega)
      simp [e5, happ]
    rw [bd_l_claims_1_eq]
    simp [m1, e2, e3, e4, m2 o9 o10 o11 o12]
theorem claims_ok {o : O} (h : Ok o) {m : Int} (h1 : 0 ≤ m) (h2 : m ≤ 40) : ∃ o' ls cs, Ok o' ∧ (∀ x ∈ cs, Cl x) ∧ cs.length ≤ 40 ∧ ar 2 f_l_claims [.ref 0, .int m] [o] = .ok (.ref 2) [o', .lst ls, .lst cs] := by
  obtain ⟨v, p1, k1, v0, v1, e1⟩ := pull_ok h (m := m + 1) (by omega) (by omega) []
  obtain ⟨a, p2, k2, a0, a1, e2⟩ := pull_ok k1 (m := 3) (by omega) (by omega) []
  obtain ⟨b, p3, k3, b0, b1, e3⟩ := pull_ok k2 (m := 3) (by omega) (by omega) []
  obtain ⟨c, p4, k4, c0, c1, e4⟩ := pull_ok k3 (m := 3) (by omega) (by omega) []
  obtain ⟨d, p5, k5, d0, d1, e5⟩ := pull_ok k4 (m := 3) (by omega) (by omega) []
  obtain ⟨hv, xa, ea⟩ := pick3 (a := 3) (b := 40) (c := 1000000) a0 a1
  obtain ⟨fs, xb, eb⟩ := pick3 (a := 2) (b := 9) (c := 1000000) b0 b1
  obtain ⟨wd, xc, ec⟩ := pick3 (a := 1) (b := 2) (c := 12) c0 c1
  obtain ⟨er, xd, ed⟩ := pick3 (a := 1) (b := 8) (c := 1000000000000000) d0 d1
  have lr : ∀ mh, oLR1 true (.int v) mh = .ok (.ref mh.length) (mh ++ [.lst (rngL 0 v.toNat)]) := fun mh => oLR1_w v0 (by omega)
  have rg : ∀ mh, oRng1 [.int v] mh = .ok (rngL 0 v.toNat, none) mh := fun mh => oRng1_ok (by omega) (by omega)
  have nw : ∀ mh, oNew [] mh = .ok (.ref mh.length) (mh ++ [.lst []]) := fun mh => oNew_s (by simp)
  obtain ⟨ρ, mh, e, o', ls, cs, q9, q10, q11, q12, rfl, rfl, k6, kl, ki, kc, kcl⟩ := forL_all (l := rngL 0 v.toNat) (tg := gNm 9) (b := bd_l_claims_1) (rngL 0 v.toNat)
    (fun i ρ mh => ∃ o' ls cs q9 q10 q11 q12, ρ = [some (.ref 0), some (.int m), some (.int v), some (.int hv), some (.int fs), some (.int wd), some (.int er), some (.ref 1), some (.ref 2), q9, q10, q11, q12] ∧ mh = [o', .lst ls, .lst cs] ∧ Ok o' ∧ ls.length + i = v.toNat ∧ (∀ x ∈ ls, ∃ i : Int, x = .int i) ∧ (∀ x ∈ cs, Cl x) ∧ cs.length = i)
    (ρ := [some (.ref 0), some (.int m), some (.int v), some (.int hv), some (.int fs), some (.int wd), some (.int er), some (.ref 1), some (.ref 2), none, none, none, none]) (mh := [p5, .lst (rngL 0 v.toNat), .lst []])
    ⟨p5, rngL 0 v.toNat, [], _, _, _, _, rfl, rfl, k5, by rw [rngL_len]; rfl, fun x hx => (rngL_mem hx).elim fun j hj => ⟨_, hj.2⟩, fun x hx => by simp at hx, rfl⟩ (by
    rintro i d ρ mh hd ⟨o', ls, cs, q9, q10, q11, q12, rfl, rfl, k6, kl, ki, kc, kcl⟩
    obtain ⟨hi, rfl⟩ := rngL_get hd
    obtain ⟨o2, ls2, cl, r10, r11, r12, kk, kcc, kll, kii, eb⟩ := claim_turn k6 (ls := ls) (cs := cs) (fun z => by rw [z] at kl; simp at kl; omega) ki (by omega) kc (by omega) (hv := hv) (fs := fs) (wd := wd) (er := er) (by omega) (by omega) (by omega) (by omega) (some (.int m)) (some (.int v)) (some (.int (0 + (i : Nat)))) q10 q11 q12
    refine ⟨_, _, .inl (by simpa using eb), o2, ls2, cs ++ [cl], _, _, _, _, rfl, rfl, kk, by omega, fun x hx => ki x (kii x hx), fun x hx => ?_, by simp [kcl]⟩
    rcases List.mem_append.mp hx with z | z
    · exact kc x z
    · rw [List.mem_singleton.mp z]; exact kcc)
  refine ⟨o', ls, cs, k6, kc, by rw [kcl, rngL_len]; omega, ?_⟩
  refine ar_n ?_
  unfold f_l_claims defn b_l_claims
  simp (disch := omega) [e1, e2, e3, e4, e5, ea, eb, ec, ed, lr, nw, it_l_claims_1_eq, rg, e]
theorem begun_ok (c : Int) : ∃ o, Ok o ∧ ar 1 f_l_begun [.int c] [] = .ok (.ref 0) [o] := by
  have nw : ∀ (x y z : D) mh, oNew [x, y, z] mh = .ok (.ref mh.length) (mh ++ [.lst [x, y, z]]) := fun x y z mh => oNew_s (by simp)
  by_cases h : (1000000000000000000 : Int) ≤ c
  · refine ⟨.lst [.int c, .int c, .int 0], ⟨_, _, _, rfl, by omega⟩, ?_⟩
    refine ar_n ?_
    unfold f_l_begun defn b_l_begun
    simp (disch := omega) [h, nw]
  · refine ⟨.lst [.int 0, .int c, .int 0], ⟨_, _, _, rfl, by omega⟩, ?_⟩
    refine ar_n ?_
    unfold f_l_begun defn b_l_begun
    simp (disch := omega) [h, nw]

/-! ### scaled weights -/
theorem dv {b : Int} (h1 : 1 ≤ b) (h2 : b ≤ 12) : ∃ q : Int, 27720 / b = q ∧ b * q = 27720 ∧ 0 < q ∧ q ≤ 27720 := by
  have h : b = 1 ∨ b = 2 ∨ b = 3 ∨ b = 4 ∨ b = 5 ∨ b = 6 ∨ b = 7 ∨ b = 8 ∨ b = 9 ∨ b = 10 ∨ b = 11 ∨ b = 12 := by omega
  rcases h with rfl | rfl | rfl | rfl | rfl | rfl | rfl | rfl | rfl | rfl | rfl | rfl <;> exact ⟨_, rfl, by decide, by decide, by decide⟩
def sc (t b : Int) : Int := t * (27720 / b)
theorem aw_eq {t b : Int} (hb : 0 < b) (hb2 : b < 2 ^ 60) (mh : List O) : ar 1 (oP f_as_whole) [pr t b] mh = .ok (.int (sc t b)) mh := by
  refine call_eq rfl (by simp [pr]) fun mh => ?_
  have q0 : 0 ≤ 27720 / b := Int.ediv_nonneg (by omega) (by omega)
  have q1 : 27720 / b ≤ 27720 := Int.ediv_le_self _ (by omega)
  unfold f_as_whole defn b_as_whole pr sc
  simp (disch := omega)
theorem aw_low {T B N : Int} (hB : 0 < B) (h : N * B = 27720 * T) : sc (T / gd T B) (B / gd T B) = N := by
  have p1 := div_pos' (a := T) hB
  have g1 := natgcd_one (a := T) hB
  have c1 := cross T B
  unfold sc
  generalize T / gd T B = p at *
  generalize B / gd T B = q at *
  have e : N * q = 27720 * p := by
    have hB' : B ≠ 0 := by omega
    refine Int.eq_of_mul_eq_mul_right hB' ?_
    calc N * q * B = N * B * q := by ac_rfl
      _ = 27720 * T * q := by rw [h]
      _ = 27720 * (T * q) := by ac_rfl
      _ = 27720 * (p * B) := by rw [c1]
      _ = 27720 * p * B := by ac_rfl
  have d1 : q.natAbs ∣ (27720 : Int).natAbs := by
    refine Nat.Coprime.dvd_of_dvd_mul_right (k := q.natAbs) (n := p.natAbs) (by rw [Nat.Coprime, Nat.gcd_comm]; exact g1) ⟨N.natAbs, ?_⟩
    rw [← Int.natAbs_mul, ← e, Int.natAbs_mul, Nat.mul_comm]
  have d2 : q ∣ 27720 := Int.natAbs_dvd_natAbs.mp d1
  obtain ⟨r, hr⟩ := d2
  have hq : (27720 : Int) / q = r := Int.ediv_eq_of_eq_mul_right (by omega) hr
  rw [hq]
  refine Int.eq_of_mul_eq_mul_right (a := q) (by omega) ?_
  rw [e, Int.mul_assoc, Int.mul_comm r q, ← hr, Int.mul_comm]
theorem scaled {t b s d : Int} (hw : Wt t b) (hs : Wt s d) (n : Int) : 27720 * (t * d + s * n * b) = b * d * (sc t b + sc s d * n) := by
  obtain ⟨q, e1, e2, _, _⟩ := dv hw.2.2.1 hw.2.2.2
  obtain ⟨r, e3, e4, _, _⟩ := dv hs.2.2.1 hs.2.2.2
  unfold sc
  rw [e1, e3, Int.mul_add, Int.mul_add]
  congr 1
  · calc 27720 * (t * d) = b * q * (t * d) := by rw [e2]
      _ = b * d * (t * q) := by ac_rfl
  · calc 27720 * (s * n * b) = d * r * (s * n * b) := by rw [e4]
      _ = b * d * (s * r * n) := by ac_rfl
theorem over_iff {t b s d t' b' s' d' : Int} (hw : Wt t b) (hs : Wt s d) (hw' : Wt t' b') (hs' : Wt s' d') (n n' : Int) :
    (t * d + s * n * b) * (b' * d') < (t' * d' + s' * n' * b') * (b * d) ↔ sc t b + sc s d * n < sc t' b' + sc s' d' * n' := by
  have h1 := scaled hw hs n
  have h2 := scaled hw' hs' n'
  have p1 : 0 < b * d := Int.mul_pos (by have := hw.2.2.1; omega) (by have := hs.2.2.1; omega)
  have p2 : 0 < b' * d' := Int.mul_pos (by have := hw'.2.2.1; omega) (by have := hs'.2.2.1; omega)
  generalize t * d + s * n * b = X at *
  generalize t' * d' + s' * n' * b' = Y at *
  generalize b * d = P at *
  generalize b' * d' = R at *
  generalize sc t b + sc s d * n = U at *
  generalize sc t' b' + sc s' d' * n' = V at *
  have e1 : 27720 * (X * R) = P * R * U := by rw [← Int.mul_assoc, h1]; ac_rfl
  have e2 : 27720 * (Y * P) = P * R * V := by rw [← Int.mul_assoc, h2]; ac_rfl
  have hp : 0 < P * R := Int.mul_pos p1 p2
  constructor
  · intro h
    have : P * R * U < P * R * V := by rw [← e1, ← e2]; omega
    exact Int.lt_of_mul_lt_mul_left this (Int.le_of_lt hp)
  · intro h
    have : P * R * U < P * R * V := Int.mul_lt_mul_of_pos_left h hp
    rw [← e1, ← e2] at this
    omega
/-! ### the program -/
theorem wat_eq {n t b s d k u : Int} (hw : Wt t b) (hs : Wt s d) (hu : k ≤ u) (mh : List O) : ar 2 (oP f_weight_at) [.tup [.int n, pr t b, pr s d, .int k], .int u] mh = .ok (low (t * d + s * (u - k) * b) (b * d)) mh := by
  obtain ⟨a0, a1, a2, a3⟩ := hw
  obtain ⟨b0, b1, b2, b3⟩ := hs
  have c1 := fun mh => call_eq (n := 3) (mh := mh) (fn := f_weight_after) (ds := [pr t b, pr s d, .int (u - k)]) rfl (by simp [pr]) (after_eq (by omega) (by omega) (by omega) (by omega) (by omega) (by omega))
  have h1 : ¬ (u < k) := by omega
  refine call_eq rfl (by simp [pr]) fun mh => ?_
  unfold f_weight_at defn b_weight_at
  unfold low pr at *
  simp [c1, h1]
theorem watw_eq {t b s d : Int} (hw : Wt t b) (hs : Wt s d) (n : Int) (mh : List O) : ar 1 (oP f_as_whole) [low (t * d + s * n * b) (b * d)] mh = .ok (.int (sc t b + sc s d * n)) mh := by
  have hB : 0 < b * d := Int.mul_pos (by have := hw.2.2.1; omega) (by have := hs.2.2.1; omega)
  have hB2 : b * d ≤ 144 := by
    have h1 : b * d ≤ 12 * d := Int.mul_le_mul_of_nonneg_right hw.2.2.2 (by have := hs.2.2.1; omega)
    have := hs.2.2.2
    omega
  have h1 := div_pos' (a := t * d + s * n * b) hB
  have h2 := div_le' (a := t * d + s * n * b) hB
  unfold low
  rw [aw_eq h1 (by omega), aw_low hB]
  rw [scaled hw hs n]; ac_rfl
theorem need_eq {n t b s d k u : Int} (h0 : 0 ≤ u) (h1 : u ≤ 1000000000000000) (hu : k ≤ u) (mh : List O) : ar 2 (oP f_need_turn) [.lst [.tup [.int n, pr t b, pr s d, .int k]], .int u] mh = .ok .non mh := by
  have c1 := fun mh => call_eq (n := 3) (mh := mh) (fn := f_is_whole) (ds := [.int u, .int 0, .int 1000000000000000]) rfl (by simp) whole_eq
  have hk : ¬ (u < k) := by omega
  refine call_eq rfl (by simp [pr]) fun mh => ?_
  unfold f_need_turn defn b_need_turn
  unfold pr
  simp [c1, h0, h1, it_need_turn_1_eq, forL, bd_need_turn_1_eq, hk]
theorem needs_eq {n t b s d k u v : Int} (h0 : 0 ≤ u) (h1 : u ≤ v) (h2 : v ≤ 1000000000000000) (hu : k ≤ u) (mh : List O) : ar 3 (oP f_need_turns) [.tup [.int n, pr t b, pr s d, .int k], .int u, .int v] mh = .ok .non mh := by
  have c1 := fun mh => call_eq (n := 3) (mh := mh) (fn := f_is_whole) (ds := [.int v, .int u, .int 1000000000000000]) rfl (by simp) whole_eq
  have c2 := fun mh => need_eq (n := n) (t := t) (b := b) (s := s) (d := d) (k := k) (u := u) h0 (by omega) hu mh
  refine call_eq rfl (by simp [pr]) fun mh => ?_
  unfold f_need_turns defn b_need_turns
  unfold pr at *
  simp [c1, c2, h1, h2]
def L1 (A S A' k v : Int) : Int := if S = 0 then (if 0 < A' - A then v else -1) else (if k + (A' - A - 1) / S < v then k + (A' - A - 1) / S else v)
def L2 (M A' S' v : Int) : Int := if M - A' < 0 then v else if S' = 0 then -1 else v - (M - A') / S' - 1
theorem once_eq {n t b s d k t' b' v : Int} (hw : Wt t b) (hs : Wt s d) (hw' : Wt t' b') (mh : List O) : ar 3 (oP f_last_at_once) [.tup [.int n, pr t b, pr s d, .int k], pr t' b', .int v] mh = .ok (.int (L1 (sc t b) (sc s d) (sc t' b') k v)) mh := by
  have c1 := fun mh => aw_eq (t := t) (b := b) (by have := hw.2.2.1; omega) (by have := hw.2.2.2; omega) mh
  have c2 := fun mh => aw_eq (t := s) (b := d) (by have := hs.2.2.1; omega) (by have := hs.2.2.2; omega) mh
  have c3 := fun mh => aw_eq (t := t') (b := b') (by have := hw'.2.2.1; omega) (by have := hw'.2.2.2; omega) mh
  have q : 0 ≤ sc s d ∧ sc s d ≤ 27720000000 := by
    obtain ⟨r, e3, e4, r0, r1⟩ := dv hs.2.2.1 hs.2.2.2
    unfold sc
    rw [e3]
    refine ⟨Int.mul_nonneg hs.1 (by omega), ?_⟩
    have : s * r ≤ 1000000 * r := Int.mul_le_mul_of_nonneg_right hs.2.1 (by omega)
    omega
  generalize sc t b = A at *
  generalize sc s d = S at *
  generalize sc t' b' = A' at *
  refine call_eq rfl (by simp [pr]) fun mh => ?_
  unfold f_last_at_once defn b_last_at_once L1
  unfold pr at *
  by_cases hS : S = 0
  · by_cases hm : A < A' <;> simp [c1, c2, c3, hS, hm]
  · simp (disch := omega) [c1, c2, c3, hS]
theorem end_eq {n t b s d k t' b' s' d' v : Int} (hw : Wt t b) (hs : Wt s d) (hw' : Wt t' b') (hs' : Wt s' d') (hv : k ≤ v) (mh : List O) : ar 4 (oP f_last_at_end) [.tup [.int n, pr t b, pr s d, .int k], pr t' b', pr s' d', .int v] mh = .ok (.int (L2 (sc t b + sc s d * (v - k)) (sc t' b') (sc s' d') v)) mh := by
  have c0 := fun mh => wat_eq (n := n) (k := k) (u := v) hw hs hv mh
  have c1 := fun mh => watw_eq hw hs (v - k) mh
  have c2 := fun mh => aw_eq (t := s') (b := d') (by have := hs'.2.2.1; omega) (by have := hs'.2.2.2; omega) mh
  have c3 := fun mh => aw_eq (t := t') (b := b') (by have := hw'.2.2.1; omega) (by have := hw'.2.2.2; omega) mh
  have q : 0 ≤ sc s' d' ∧ sc s' d' ≤ 27720000000 := by
    obtain ⟨r, e3, e4, r0, r1⟩ := dv hs'.2.2.1 hs'.2.2.2
    unfold sc
    rw [e3]
    refine ⟨Int.mul_nonneg hs'.1 (by omega), ?_⟩
    have : s' * r ≤ 1000000 * r := Int.mul_le_mul_of_nonneg_right hs'.2.1 (by omega)
    omega
  generalize sc t b + sc s d * (v - k) = M at *
  generalize sc s' d' = S at *
  generalize sc t' b' = A' at *
  generalize low (t * d + s * (v - k) * b) (b * d) = lw at *
  refine call_eq rfl (by simp [pr]) fun mh => ?_
  unfold f_last_at_end defn b_last_at_end L2
  unfold pr at *
  by_cases hm : M - A' < 0
  · simp [c0, c1, c2, c3, hm]
  · by_cases hS : S = 0
    · simp [c0, c1, c2, c3, hm, hS]
    · simp (disch := omega) [c0, c1, c2, c3, hm, hS]
def Lm (a b : Int) : Int := if b > a then b else a
theorem last_eq {n t b s d k t' b' s' d' u v : Int} (hw : Wt t b) (hs : Wt s d) (hw' : Wt t' b') (hs' : Wt s' d') (h0 : 0 ≤ u) (hk : k ≤ u) (h1 : u ≤ v) (h2 : v ≤ 1000000000000000) (mh : List O) :
    ar 5 (oP f_last_able) [.tup [.int n, pr t b, pr s d, .int k], pr t' b', pr s' d', .int u, .int v] mh =
      .ok (if Lm (L1 (sc t b) (sc s d) (sc t' b') k v) (L2 (sc t b + sc s d * (v - k)) (sc t' b') (sc s' d') v) < u then .non else .int (Lm (L1 (sc t b) (sc s d) (sc t' b') k v) (L2 (sc t b + sc s d * (v - k)) (sc t' b') (sc s' d') v))) mh := by
  have c0 := fun mh => needs_eq (n := n) (t := t) (b := b) (s := s) (d := d) (k := k) h0 h1 h2 hk mh
  have c1 := fun mh => once_eq (n := n) (k := k) (v := v) hw hs hw' mh
  have c2 := fun mh => end_eq (n := n) hw hs hw' hs' (k := k) (v := v) (by omega) mh
  generalize L1 (sc t b) (sc s d) (sc t' b') k v = x at *
  generalize L2 (sc t b + sc s d * (v - k)) (sc t' b') (sc s' d') v = y at *
  refine call_eq rfl (by simp [pr]) fun mh => ?_
  unfold f_last_able defn b_last_able Lm
  unfold pr at *
  by_cases h : (if y > x then y else x) < u
  · simp only [gt_iff_lt] at h
    simp [c0, c1, c2, h]
  · simp only [gt_iff_lt] at h
    simp [c0, c1, c2, h]
theorem once_iff {A S A' k v c : Int} (hS : 0 ≤ S) (hk : k ≤ c) (h0 : 0 ≤ c) (hv : c ≤ v) : A + S * (c - k) < A' ↔ c ≤ L1 A S A' k v := by
  unfold L1
  by_cases h : S = 0
  · subst h
    rw [Int.zero_mul, Int.add_zero, if_pos rfl]
    split <;> omega
  · rw [if_neg h]
    have e : c - k ≤ (A' - A - 1) / S ↔ S * (c - k) ≤ A' - A - 1 := by
      rw [Int.mul_comm]
      exact Int.le_ediv_iff_mul_le (by omega)
    generalize (A' - A - 1) / S = q at *
    constructor
    · intro hh
      have := e.mpr (by omega)
      split <;> omega
    · intro hh
      have := e.mp (by split at hh <;> omega)
      omega
theorem end_iff {M A' S' v c : Int} (hS : 0 ≤ S') (h0 : 0 ≤ c) (hv : c ≤ v) : M < A' + S' * (v - c) ↔ c ≤ L2 M A' S' v := by
  unfold L2
  have hp : 0 ≤ S' * (v - c) := Int.mul_nonneg hS (by omega)
  by_cases h : M - A' < 0
  · rw [if_pos h]; omega
  · rw [if_neg h]
    by_cases hz : S' = 0
    · subst hz
      rw [if_pos rfl, Int.zero_mul]; omega
    · rw [if_neg hz]
      have e : (M - A') / S' < v - c ↔ M - A' < S' * (v - c) := by
        rw [Int.mul_comm]
        exact Int.ediv_lt_iff_lt_mul (by omega)
      generalize (M - A') / S' = q at *
      constructor
      · intro hh
        have := e.mpr (by omega)
        omega
      · intro hh
        have := e.mp (by omega)
        omega
theorem ends {A S A' S' k c v x : Int} (h1 : c ≤ x) (h2 : x ≤ v) (h : A + S * (x - k) < A' + S' * (x - c)) : A + S * (c - k) < A' ∨ A + S * (v - k) < A' + S' * (v - c) := by
  have e1 : S * (x - k) = S * (c - k) + S * (x - c) := by rw [← Int.mul_add]; congr 1; omega
  have e2 : S * (v - k) = S * (x - k) + S * (v - x) := by rw [← Int.mul_add]; congr 1; omega
  have e3 : S' * (v - c) = S' * (x - c) + S' * (v - x) := by rw [← Int.mul_add]; congr 1; omega
  rcases Int.le_total S' S with hs | hs
  · have : S' * (x - c) ≤ S * (x - c) := Int.mul_le_mul_of_nonneg_right hs (by omega)
    exact .inl (by omega)
  · have : S * (v - x) ≤ S' * (v - x) := Int.mul_le_mul_of_nonneg_right hs (by omega)
    exact .inr (by omega)
theorem L1_le {A S A' k v : Int} (h : 0 ≤ v) : L1 A S A' k v ≤ v := by
  unfold L1
  split
  · split <;> omega
  · split <;> omega
theorem L2_le {M A' S' v : Int} (h : 0 ≤ v) (hS : 0 ≤ S') : L2 M A' S' v ≤ v := by
  unfold L2
  split
  · omega
  · split
    · omega
    · have : 0 ≤ (M - A') / S' := Int.ediv_nonneg (by omega) hS
      omega
theorem sc_nn {t b : Int} (h : Wt t b) : 0 ≤ sc t b := by
  obtain ⟨r, e3, e4, r0, r1⟩ := dv h.2.2.1 h.2.2.2
  unfold sc
  rw [e3]
  exact Int.mul_nonneg h.1 (by omega)
/-! ### more draws -/
theorem comer_ok {o : O} (h : Ok o) {n t b s d k : Int} (hw : Wt t b) (hs : Wt s d) (r : List O) : ∃ t' b' s' d' o', Ok o' ∧ Wt t' b' ∧ Wt s' d' ∧ ar 2 f_l_comer [.ref 0, .tup [.int n, pr t b, pr s d, .int k]] (o :: r) = .ok (.tup [pr t' b', pr s' d']) (o' :: r) := by
  obtain ⟨v, p1, k1, v0, v1, e1⟩ := pull_ok h (m := 3) (by omega) (by omega) r
  obtain ⟨a, p2, k2, a0, a1, e2⟩ := pull_ok k1 (m := 3) (by omega) (by omega) r
  obtain ⟨x, xa, ea⟩ := pick3 (a := 3) (b := 40) (c := 1000000) a0 a1
  obtain ⟨t1, b1, p3, k3, w3, e3⟩ := weight_ok k2 (m := x) (by omega) (by omega) (w := 12) (by omega) (by omega) r
  obtain ⟨c, p4, k4, c0, c1, e4⟩ := pull_ok k3 (m := 3) (by omega) (by omega) r
  obtain ⟨y, xb, eb⟩ := pick3 (a := 2) (b := 9) (c := 1000000) c0 c1
  obtain ⟨t2, b2, p5, k5, w5, e5⟩ := weight_ok k4 (m := y) (by omega) (by omega) (w := 12) (by omega) (by omega) r
  by_cases h1 : v = 0
  · refine ⟨t, b, s, d, p1, k1, hw, hs, ar_n ?_⟩
    unfold f_l_comer defn b_l_comer
    unfold pr at *
    simp (disch := omega) [e1, h1]
  · by_cases h2 : v = 1
    · refine ⟨t1, b1, s, d, p3, k3, w3, hs, ar_n ?_⟩
      unfold f_l_comer defn b_l_comer
      unfold pr at *
      simp (disch := omega) [e1, h1, h2, e2, e3, ea]
    · refine ⟨t1, b1, t2, b2, p5, k5, w3, w5, ar_n ?_⟩
      unfold f_l_comer defn b_l_comer
      unfold pr at *
      simp (disch := omega) [e1, h1, h2, e2, e3, e4, e5, ea, eb]
theorem begin_ok {o : O} (h : Ok o) {n t b s d k : Int} (h0 : 0 ≤ k) (h1 : k ≤ 1000000000000000) (r : List O) : ∃ u o', Ok o' ∧ k ≤ u ∧ u ≤ 1000000000000000 ∧ ar 2 f_l_begin [.ref 0, .lst [.tup [.int n, pr t b, pr s d, .int k]]] (o :: r) = .ok (.int u) (o' :: r) := by
  obtain ⟨v, p1, k1, v0, v1, e1⟩ := pull_ok h (m := 4) (by omega) (by omega) r
  obtain ⟨x, xa, ea⟩ := pick4 (a := 1) (b := 5) (c := 1000) (d := 1000000000000000) v0 v1
  obtain ⟨y, p2, k2, y0, y1, e2⟩ := pull_ok k1 (m := x) (by omega) (by omega) r
  have lc : cLcX false ci_l_begin_1 (gNm 3) ct_l_begin_1 ce_l_begin_1 [3] [some (.ref 0), some (.lst [.tup [.int n, pr t b, pr s d, .int k]]), none, none] (o :: r) = .ok (.lst [.int k]) (o :: r) := by
    have l := lcL_pure (mh := o :: r) (g := ([.tup [.int n, pr t b, pr s d, .int k]], none)) (tg := gNm 3) (t := ct_l_begin_1) (f := ce_l_begin_1) (ρ := [some (.ref 0), some (.lst [.tup [.int n, pr t b, pr s d, .int k]]), none, none]) (p := fun _ => true) (e := fun _ => .int k) trivial
      [.tup [.int n, pr t b, pr s d, .int k]] (fun x hx => by
        rw [List.mem_singleton.mp hx]
        exact ⟨_, rfl, by rw [ct_l_begin_1_eq]; rfl, fun _ => by rw [ce_l_begin_1_eq]; simp⟩)
    rw [cLc_at (m1 := o :: r) (m2 := o :: r) (g := ([.tup [.int n, pr t b, pr s d, .int k]], none)) (ys := [.int k]) (by rw [ci_l_begin_1_eq]; simp) (by simp) (by simpa using l)]
    rfl
  have mx : oMaxL [.lst [.int 0, .int k]] (o :: r) = .ok (.int k) (o :: r) := by
    rw [oMaxL_ints (ns := [0, k]) rfl (by simp)]
    have : maxI [0, k] = k := by
      show (if k < 0 then 0 else k) = k
      rw [if_neg (by omega)]
    rw [this]
  have ad : oAdd (.lst [.int 0]) (.lst [.int k]) (o :: r) = .ok (.lst [.int 0, .int k]) (o :: r) := oAdd_ll (by simp)
  refine ⟨if k + y < 1000000000000000 then k + y else 1000000000000000, p2, k2, by split <;> omega, by split <;> omega, ar_n ?_⟩
  unfold f_l_begin defn b_l_begin
  simp (disch := omega) [lc, mx, ad, e1, ea, e2]
end K53

namespace K53
open PySem L2 G SX
theorem isw_eq {t b : Int} (mh : List O) : f_is_weight [pr t b] mh = .ok (.bl (decide (0 ≤ t ∧ t ≤ 1000000 ∧ 1 ≤ b ∧ b ≤ 12))) mh := by
  have c1 := fun mh => call_eq (n := 3) (mh := mh) (fn := f_is_whole) (ds := [.int t, .int 0, .int 1000000]) rfl (by simp) whole_eq
  have c2 := fun mh => call_eq (n := 3) (mh := mh) (fn := f_is_whole) (ds := [.int b, .int 1, .int 12]) rfl (by simp) whole_eq
  unfold f_is_weight defn b_is_weight pr
  by_cases h1 : 0 ≤ t <;> by_cases h2 : t ≤ 1000000 <;> simp [isiT, c1, c2, h1, h2]
def lets : List Nat := [97, 98, 99, 100, 101, 102, 103, 104, 105, 106, 107, 108, 109, 110, 111, 112, 113, 114, 115, 116, 117, 118, 119, 120, 121, 122]
theorem c_lets : ("abcdefghijklmnopqrstuvwxyz" : Str) = S lets := by decide +kernel
def lowS (c : Nat) : Bool := decide (97 ≤ c) && decide (c ≤ 122)
theorem mem_lets (c : Nat) : decide (c ∈ lets) = lowS c := by
  unfold lets lowS
  rw [Bool.eq_iff_iff, decide_eq_true_iff, Bool.and_eq_true, decide_eq_true_iff, decide_eq_true_iff]
  simp only [List.mem_cons, List.mem_nil_iff, or_false]
  omega
theorem all_map (a : List Nat) (f : Nat → Bool) : (a.map f).all id = a.all f := by rw [List.all_map]; rfl
theorem oks_lit {a : List Nat} (h : a.all (fun c => decide (c < 0x110000)) = true) : Oks a := fun c hc => of_decide_eq_true (List.all_eq_true.mp h c hc)
def named (t : List Nat) : Bool := decide (1 ≤ t.length ∧ t.length ≤ 8) && t.all lowS
theorem name_eq {a : List Nat} (ho : Oks a) (hl : a.length ≤ 1000) (mh : List O) : ar 1 (oP f_is_name) [.str (S a)] mh = .ok (.bl (named a)) mh := by
  refine call_eq rfl (by simp) fun mh => ?_
  have ln : ∀ mh, oLen [.str (S a)] mh = .ok (.int (a.length : Nat)) mh := fun mh => oLen_S (by omega)
  have lc : cLcX false ci_is_name_1 (gNm 1) ct_is_name_1 ce_is_name_1 [1] [some (.str (S a)), none] mh = .ok (.lst ((a.map lowS).map D.bl)) mh := by
    have l := lcL_map (mh := mh) (h := fun c => .str (S [c])) (g := (a.map fun c => .str (S [c]), none)) (tg := gNm 1) (t := ct_is_name_1) (f := ce_is_name_1) (ρ := [some (.str (S a)), none]) (p := fun _ => true) (e := fun c => .bl (lowS c)) trivial a (fun c hc => by
      refine ⟨[some (.str (S a)), some (.str (S [c]))], by simp, by rw [ct_is_name_1_eq]; simp, fun _ => ?_⟩
      rw [ce_is_name_1_eq, c_lets]
      simp [oInS_S, mem_lets])
    rw [List.filter_eq_self.mpr (fun _ _ => rfl)] at l
    rw [cLc_at (m1 := mh) (m2 := mh) (g := (a.map fun c => .str (S [c]), none)) (by rw [ci_is_name_1_eq]; rfl) (by simp; omega) (by simpa using l)]
    rw [fin_f, List.map_map]; rfl
  have al : oAll [.lst ((a.map lowS).map D.bl)] mh = .ok (.bl (a.all lowS)) mh := by rw [oAll_bls rfl, all_map]
  generalize (a.map lowS).map D.bl = B at lc al
  unfold f_is_name defn b_is_name named
  have h1 : (1 : Int) ≤ (a.length : Nat) ↔ 1 ≤ a.length := by omega
  have h2 : ((a.length : Nat) : Int) ≤ 8 ↔ a.length ≤ 8 := by omega
  generalize a.all lowS = al1 at *
  generalize ((a.length : Nat) : Int) = n at *
  generalize S a = A at *
  by_cases z1 : 1 ≤ a.length
  · have z1' := h1.mpr z1
    by_cases z2 : a.length ≤ 8
    · have z2' := h2.mpr z2
      rw [decide_eq_true ⟨z1, z2⟩]
      simp [isiT, ln, z1', z2', lc, al]
    · have z2' : ¬ (n ≤ 8) := fun z => z2 (h2.mp z)
      rw [decide_eq_false (fun z => z2 z.2)]
      simp [isiT, ln, z1', z2']
  · have z1' : ¬ (1 ≤ n) := fun z => z1 (h1.mp z)
    rw [decide_eq_false (fun z => z1 z.1)]
    simp [isiT, ln, z1']
/-! ### rows of sorts, and sorts -/
structure Rw where
  nm : List Nat
  wt : Int
  wb : Int
  st : Int
  sb : Int
  sp : Int
  tr : Int
def Rw.d (r : Rw) : D := .tup [.str (S r.nm), pr r.wt r.wb, pr r.st r.sb, .int r.sp, .int r.tr]
def lowP (a b : Int) : D := pr (a / gd a b) (b / gd a b)
def sFlds : List Str := ["name", "weight", "speed", "span", "tries"]
def Rw.vs (r : Rw) : List D := [.str (S r.nm), lowP r.wt r.wb, lowP r.st r.sb, .int r.sp, .int r.tr]
def Rw.o (r : Rw) : D := .obj "Sort" sFlds r.vs
def key (a : List Nat) : Key := .inr (S a)
def keysR (rs : List Rw) : List Key := rs.map fun r => key r.nm
def sortsD (rs : List Rw) : D := .obj "Sorts" ["by_name"] [.dic (keysR rs) (rs.map Rw.o)]
structure Wg (a b : Int) : Prop where
  a0 : 0 ≤ a
  a1 : a ≤ 1000000
  b0 : 1 ≤ b
  b1 : b ≤ 12
structure Rw.Ok (r : Rw) : Prop where
  nm : named r.nm = true
  w : Wg r.wt r.wb
  s : Wg r.st r.sb
  sp0 : 1 ≤ r.sp
  sp1 : r.sp ≤ 4
  tr0 : 1 ≤ r.tr
  tr1 : r.tr ≤ 3
theorem named_len {a : List Nat} (h : named a = true) : a.length ≤ 8 := by
  unfold named at h
  rw [Bool.and_eq_true, decide_eq_true_iff] at h
  exact h.1.2
theorem named_oks {a : List Nat} (h : named a = true) : Oks a := by
  unfold named at h
  rw [Bool.and_eq_true] at h
  intro c hc
  have := List.all_eq_true.mp h.2 c hc
  unfold lowS at this
  rw [Bool.and_eq_true, decide_eq_true_iff, decide_eq_true_iff] at this
  omega
theorem whole_call {i l h : Int} (mh : List O) : ar 3 (oP f_is_whole) [.int i, .int l, .int h] mh = .ok (.bl (decide (l ≤ i) && decide (i ≤ h))) mh := call_eq rfl (by simp) whole_eq
theorem whole_yes {i l h : Int} (h0 : l ≤ i) (h1 : i ≤ h) (mh : List O) : ar 3 (oP f_is_whole) [.int i, .int l, .int h] mh = .ok (.bl true) mh := by
  rw [whole_call, decide_eq_true h0, decide_eq_true h1]; rfl
theorem isw_yes {a b : Int} (w : Wg a b) (mh : List O) : ar 1 (oP f_is_weight) [pr a b] mh = .ok (.bl true) mh :=
  call_eq rfl (by simp [pr]) fun mh => by rw [isw_eq, decide_eq_true ⟨w.a0, w.a1, w.b0, w.b1⟩]
theorem low_call {a b : Int} (w : Wg a b) (mh : List O) : ar 2 (oP f_lowest) [.int a, .int b] mh = .ok (lowP a b) mh :=
  call_eq rfl (by simp) fun mh => lowest_eq (by have := w.b0; omega) (by have := w.b1; omega) mh
theorem name_yes {a : List Nat} (h : named a = true) (mh : List O) : ar 1 (oP f_is_name) [.str (S a)] mh = .ok (.bl true) mh := by
  rw [name_eq (named_oks h) (by have := named_len h; omega), h]
theorem row_yes {r : Rw} (ok : r.Ok) (mh : List O) : ar 1 (oP f_is_row) [r.d] mh = .ok (.bl true) mh := by
  refine call_eq rfl rfl fun mh => ?_
  have e1 := name_yes ok.nm
  have e2 := isw_yes ok.w
  have e3 := isw_yes ok.s
  have e4 := whole_yes ok.sp0 ok.sp1
  have e5 := whole_yes ok.tr0 ok.tr1
  unfold f_is_row defn b_is_row Rw.d
  generalize S r.nm = N at *
  generalize pr r.wt r.wb = A at *
  generalize pr r.st r.sb = B at *
  simp [isiT, e1, e2, e3, e4, e5]
theorem sort_init (r : Rw) : f_Sort_init (.ref 0 :: r.vs) [.ins "Sort" [] []] = .ok .non [.ins "Sort" sFlds r.vs] := rfl
theorem sort_made (r : Rw) (m : List O) : oMakeV "Sort" 5 f_Sort_init r.vs m = .ok r.o m := makeV_ok (sort_init r) rfl rfl
def SH (rs : List Rw) : List O := [.ins "Sorts" ["by_name"] [.ref 1], .dic (keysR rs) (rs.map Rw.o)]
theorem fo_by (rs : List Rw) : oFldI fli_by_name "by_name" (.ref 0) (SH rs) = .ok (.ref 1) (SH rs) := rfl
theorem key_ne {a b : List Nat} (h : a ≠ b) : key a ≠ key b := fun z => by
  unfold key at z
  injection z with z
  have := congrArg (fun s : Str => s.cps.toList) z
  simp [S] at this
  exact h this
theorem hasR {rs : List Rw} {a : List Nat} : hasK (keysR rs) (key a) = true ↔ ∃ r ∈ rs, r.nm = a := by
  unfold hasK keysR
  rw [List.any_map, List.any_eq_true]
  constructor
  · rintro ⟨r, hr, h⟩
    refine ⟨r, hr, ?_⟩
    by_cases z : r.nm = a
    · exact z
    · exact absurd (of_decide_eq_true h) (key_ne z)
  · rintro ⟨r, hr, rfl⟩
    exact ⟨r, hr, decide_eq_true rfl⟩
end K53

namespace K53
open PySem L2 G SX
theorem noRef_row (r : Rw) : noRef r.d = true := rfl
theorem noRefs_rows : ∀ (rs : List Rw), noRefs (rs.map Rw.d) = true
  | [] => rfl
  | r :: rs => by
    show (noRef r.d && noRefs (rs.map Rw.d)) = true
    rw [noRef_row, noRefs_rows rs]; rfl
theorem keys_snoc (rs : List Rw) (r : Rw) : keysR (rs ++ [r]) = keysR rs ++ [key r.nm] := by unfold keysR; rw [List.map_append]; rfl
theorem put_row {rs : List Rw} {r : Rw} (h : ∀ z ∈ rs, z.nm ≠ r.nm) (hl : rs.length ≤ 100) : oDPut (.ref 1) (.str (S r.nm)) r.o (SH rs) = some (SH (rs ++ [r])) := by
  have hk : hasK (keysR rs) (key r.nm) = false := by
    rw [Bool.eq_false_iff]
    intro z
    obtain ⟨y, hy, e⟩ := hasR.mp z
    exact h y hy e
  have e : oDPut (.ref 1) (.str (S r.nm)) r.o (SH rs) = if (keysR rs).length < sizeLine then some ((SH rs).set 1 (.dic (putKs (keysR rs) (key r.nm)) (putDs (keysR rs) (rs.map Rw.o) (key r.nm) r.o))) else none := rfl
  rw [e, if_pos (by unfold keysR sizeLine; rw [List.length_map]; omega)]
  unfold putKs putDs
  rw [hk]
  unfold SH
  rw [keys_snoc, List.map_append]
  rfl
theorem in_row {rs : List Rw} {a : List Nat} : oInD false (.str (S a)) (.ref 1) (SH rs) = .ok (.bl (hasK (keysR rs) (key a))) (SH rs) := rfl
/-- one turn of the loop over rows -/
theorem init_turn {rs : List Rw} {r : Rw} (ok : r.Ok) (h : ∀ z ∈ rs, z.nm ≠ r.nm) (hl : rs.length ≤ 100) (X : D) (o3 o4 o5 o6 o7 o8 o2 : Option D) :
    ((gNm 2) r.d [some (.ref 0), some X, o2, o3, o4, o5, o6, o7, o8] (SH rs)).seq bd_Sorts_init_1 = .nx [some (.ref 0), some X, some r.d, some r.o, some (.str (S r.nm)), some (pr r.wt r.wb), some (pr r.st r.sb), some (.int r.sp), some (.int r.tr)] (SH (rs ++ [r])) := by
  have hk : hasK (keysR rs) (key r.nm) = false := by
    rw [Bool.eq_false_iff]
    intro z
    obtain ⟨y, hy, e⟩ := hasR.mp z
    exact h y hy e
  have e1 := row_yes ok (SH rs)
  have e2 : oInD false (.str (S r.nm)) (.ref 1) (SH rs) = .ok (.bl false) (SH rs) := by rw [in_row, hk]
  have e3 := low_call ok.w (SH rs)
  have e4 := low_call ok.s (SH rs)
  have e5 : oMakeV "Sort" 5 f_Sort_init [.str (S r.nm), lowP r.wt r.wb, lowP r.st r.sb, .int r.sp, .int r.tr] (SH rs) = .ok r.o (SH rs) := sort_made r _
  have e6 := put_row h hl
  have e7 := fo_by rs
  have i0 : oIx r.d (.int 0) (SH rs) = .ok (.str (S r.nm)) (SH rs) := rfl
  have i1 : oIx (pr r.wt r.wb) (.int 0) (SH rs) = .ok (.int r.wt) (SH rs) := rfl
  have i2 : oIx (pr r.wt r.wb) (.int 1) (SH rs) = .ok (.int r.wb) (SH rs) := rfl
  have i3 : oIx (pr r.st r.sb) (.int 0) (SH rs) = .ok (.int r.st) (SH rs) := rfl
  have i4 : oIx (pr r.st r.sb) (.int 1) (SH rs) = .ok (.int r.sb) (SH rs) := rfl
  have u : (gUnp 5 (gsCons (gNm 4) (gsCons (gNm 5) (gsCons (gNm 6) (gsCons (gNm 7) (gsCons (gNm 8) gsNil)))))) r.d [some (.ref 0), some X, some r.d, o3, o4, o5, o6, o7, o8] (SH rs) = .nx [some (.ref 0), some X, some r.d, o3, some (.str (S r.nm)), some (pr r.wt r.wb), some (pr r.st r.sb), some (.int r.sp), some (.int r.tr)] (SH rs) := rfl
  generalize SH (rs ++ [r]) = H2 at *
  generalize SH rs = H at *
  generalize r.o = O at *
  generalize r.d = R at *
  generalize S r.nm = N at *
  generalize pr r.wt r.wb = A at *
  generalize pr r.st r.sb = B at *
  generalize lowP r.wt r.wb = LA at *
  generalize lowP r.st r.sb = LB at *
  have g : (gKx (c1 (oFldI fli_by_name "by_name") (cVar 0)) (cVar 4)) O [some (.ref 0), some X, some R, some O, some (.str N), some A, some B, some (.int r.sp), some (.int r.tr)] H = .nx [some (.ref 0), some X, some R, some O, some (.str N), some A, some B, some (.int r.sp), some (.int r.tr)] H2 := by
    unfold gKx
    have a1 : (c1 (oFldI fli_by_name "by_name") (cVar 0)) [some (.ref 0), some X, some R, some O, some (.str N), some A, some B, some (.int r.sp), some (.int r.tr)] H = .ok (.ref 1) H := by simp [e7]
    have a2 : (cVar 4) [some (.ref 0), some X, some R, some O, some (.str N), some A, some B, some (.int r.sp), some (.int r.tr)] H = .ok (.str N) H := rfl
    rw [a1]
    dsimp only
    rw [a2]
    dsimp only
    rw [e6]
  simp [bd_Sorts_init_1_eq, e1, e2, e3, e4, e5, e7, i0, i1, i2, i3, i4, u, g]
structure Rows (rs : List Rw) : Prop where
  ok : ∀ r ∈ rs, r.Ok
  nd : (rs.map Rw.nm).Nodup
  l0 : 1 ≤ rs.length
  l1 : rs.length ≤ 8
theorem nd_take {rs : List Rw} (h : (rs.map Rw.nm).Nodup) {i : Nat} {r : Rw} (hr : rs[i]? = some r) : ∀ z ∈ rs.take i, z.nm ≠ r.nm := by
  intro z hz e
  obtain ⟨j, hj⟩ := List.mem_iff_getElem?.mp hz
  rw [List.getElem?_take] at hj
  split at hj
  · rename_i hlt
    have h1 : (rs.map Rw.nm)[j]? = some z.nm := by rw [List.getElem?_map, hj]; rfl
    have h2 : (rs.map Rw.nm)[i]? = some r.nm := by rw [List.getElem?_map, hr]; rfl
    have := (List.getElem?_inj (by obtain ⟨q, _⟩ := List.getElem?_eq_some_iff.mp h1; exact q) h).mp (h1.trans (by rw [e, ← h2]))
    omega
  · cases hj
theorem init_run {rs : List Rw} (h : Rows rs) : f_Sorts_init [.ref 0, .lst (rs.map Rw.d)] [.ins "Sorts" [] []] = .ok .non (SH rs) := by
  obtain ⟨ρ, mh, e, rfl, o2, o3, o4, o5, o6, o7, o8, rfl⟩ := forL_all (l := rs.map Rw.d) (tg := gNm 2) (b := bd_Sorts_init_1) (rs.map Rw.d) (fun i ρ mh => mh = SH (rs.take i) ∧ ∃ o2 o3 o4 o5 o6 o7 o8, ρ = [some (.ref 0), some (.lst (rs.map Rw.d)), o2, o3, o4, o5, o6, o7, o8])
    (ρ := [some (.ref 0), some (.lst (rs.map Rw.d)), none, none, none, none, none, none, none]) (mh := SH []) ⟨by rw [List.take_zero], _, _, _, _, _, _, _, rfl⟩ (by
    rintro i d ρ mh hd ⟨rfl, o2, o3, o4, o5, o6, o7, o8, rfl⟩
    rw [List.getElem?_map] at hd
    obtain ⟨r, hr, rfl⟩ := Option.map_eq_some_iff.mp hd
    refine ⟨_, _, .inl (init_turn (h.ok r (List.mem_of_getElem? hr)) (nd_take h.nd hr) (by rw [List.length_take]; have := h.l1; omega) _ o3 o4 o5 o6 o7 o8 o2), ?_, _, _, _, _, _, _, _, rfl⟩
    rw [List.take_add_one, hr]; rfl)
  rw [List.length_map, List.take_length] at e
  have hl : ∀ mh, oLen [.lst (rs.map Rw.d)] mh = .ok (.int (rs.length : Nat)) mh := fun mh => by
    rw [show oLen [.lst (rs.map Rw.d)] mh = .ok (.int ((rs.map Rw.d).length : Nat)) mh from oLen_lst, List.length_map]
  have a0 := h.l0
  have a1 := h.l1
  have st : sSetF fli_by_name "by_name" (cVar 0) cDNew [some (.ref 0), some (.lst (rs.map Rw.d)), none, none, none, none, none, none, none] [.ins "Sorts" [] []] = .nx [some (.ref 0), some (.lst (rs.map Rw.d)), none, none, none, none, none, none, none] (SH []) := rfl
  have it : it_Sorts_init_1 [some (.ref 0), some (.lst (rs.map Rw.d)), none, none, none, none, none, none, none] (SH []) = .ok (rs.map Rw.d, none) (SH []) := rfl
  unfold f_Sorts_init defn b_Sorts_init
  generalize rs.map Rw.d = L at *
  generalize SH rs = H2 at *
  generalize SH [] = H1 at *
  have c1 : (1 : Int) ≤ (rs.length : Nat) := by omega
  have c2 : ((rs.length : Nat) : Int) ≤ 8 := by omega
  simp [isiT, hl, c1, c2, st, it, e]
end K53

namespace K53
open PySem L2 G SX
theorem noRef_o (r : Rw) : noRef r.o = true := rfl
theorem noRefs_o : ∀ (rs : List Rw), noRefs (rs.map Rw.o) = true
  | [] => rfl
  | r :: rs => by
    show (noRef r.o && noRefs (rs.map Rw.o)) = true
    rw [noRef_o, noRefs_o rs]; rfl
theorem noRef_sorts (rs : List Rw) : noRef (sortsD rs) = true := by
  show (noRef (.dic (keysR rs) (rs.map Rw.o)) && true) = true
  rw [show noRef (.dic (keysR rs) (rs.map Rw.o)) = noRefs (rs.map Rw.o) from rfl, noRefs_o]; rfl
theorem fz_row (m : List O) (n : Nat) (r : Rw) : fz m (n + 3) r.o = some r.o := rfl
theorem fz_sorts {m : List O} {rs : List Rw} : fz m 12 (sortsD rs) = some (sortsD rs) := by
  have h : fzl (fz m 10) (rs.map Rw.o) = some (rs.map Rw.o) := fzl_self _ fun x hx => by
    obtain ⟨r, _, rfl⟩ := List.mem_map.mp hx
    exact fz_row m 7 r
  show ((fzl (fz m 11) [.dic (keysR rs) (rs.map Rw.o)]).map (D.obj "Sorts" ["by_name"])) = _
  unfold fzl
  rw [show fz m 11 (.dic (keysR rs) (rs.map Rw.o)) = (fzl (fz m 10) (rs.map Rw.o)).map (.dic (keysR rs)) from rfl, h]
  rfl
theorem fz_live (rs : List Rw) : fz (SH rs) 12 (.ref 0) = some (sortsD rs) := by
  have h : fzl (fz (SH rs) 10) (rs.map Rw.o) = some (rs.map Rw.o) := fzl_self _ fun x hx => by
    obtain ⟨r, _, rfl⟩ := List.mem_map.mp hx
    exact fz_row _ 7 r
  show ((fzl (fz (SH rs) 11) [.ref 1]).map (D.obj "Sorts" ["by_name"])) = _
  unfold fzl
  rw [show fz (SH rs) 11 (.ref 1) = (fzl (fz (SH rs) 10) (rs.map Rw.o)).map (.dic (keysR rs)) from rfl, h]
  rfl
theorem fzM_live (rs : List Rw) : fzM (SH rs) 12 (.ref 0) = some (sortsD rs) := by
  have h : fzl (fzM (SH rs) 10) (rs.map Rw.o) = some (rs.map Rw.o) := fzl_self _ fun x hx => by
    obtain ⟨r, _, rfl⟩ := List.mem_map.mp hx
    rfl
  show ((fzl (fzM (SH rs) 11) [.ref 1]).map (D.obj "Sorts" ["by_name"])) = _
  unfold fzl
  rw [show fzM (SH rs) 11 (.ref 1) = (fzl (fzM (SH rs) 10) (rs.map Rw.o)).map (.dic (keysR rs)) from rfl, h]
  rfl
theorem sorts_made {rs : List Rw} (h : Rows rs) (m : List O) : oMakeV "Sorts" 1 f_Sorts_init [.lst (rs.map Rw.d)] m = .ok (sortsD rs) m :=
  makeV_ok (init_run h) (fz_live rs) (by show (noRefs (rs.map Rw.d) && true) = true; rw [noRefs_rows]; rfl)
theorem obj_sorts (rs : List Rw) (m : List O) : oFldI fli_by_name "by_name" (sortsD rs) m = .ok (.dic (keysR rs) (rs.map Rw.o)) m := rfl
def Rw.lowS (r : Rw) : Rw := { r with wt := r.wt / gd r.wt r.wb, wb := r.wb / gd r.wt r.wb, st := r.st / gd r.st r.sb, sb := r.sb / gd r.st r.sb }
theorem low_d (r : Rw) : r.lowS.d = .tup r.vs := rfl
theorem lowP_low {a b : Int} (h : 0 < b) : lowP (a / gd a b) (b / gd a b) = lowP a b := by
  unfold lowP
  rw [gd_red h, Int.ediv_one, Int.ediv_one]
theorem told_run (rs : List Rw) (hl : rs.length ≤ 100) : f_Sorts_rows_told [sortsD rs] [] = .ok (.lst (rs.map fun r => .tup r.vs)) [] := by
  have hk : kVals (kFld fli_by_name 0 "by_name") [some (sortsD rs), none] [] = .ok (rs.map Rw.o, none) [] := rfl
  have l := lcL_map (mh := []) (h := Rw.o) (g := (rs.map Rw.o, none)) (tg := gNm 1) (t := ct_Sorts_rows_told_1) (f := ce_Sorts_rows_told_1) (ρ := [some (sortsD rs), none]) (p := fun _ => true) (e := fun r => .tup r.vs) trivial rs (fun r hr => by
    refine ⟨[some (sortsD rs), some r.o], rfl, rfl, fun _ => ?_⟩
    rfl)
  rw [List.filter_eq_self.mpr (fun _ _ => rfl)] at l
  have lc := cLc_at (w := false) (it := kVals (kFld fli_by_name 0 "by_name")) (own := [1]) (mh := []) (m1 := []) (m2 := []) hk (by show (rs.map Rw.o).length ≤ _; rw [List.length_map]; omega) (by simpa using l)
  have e : (cLockK (kFld fli_by_name 0 "by_name") (cLcX false (kVals (kFld fli_by_name 0 "by_name")) (gNm 1) ct_Sorts_rows_told_1 ce_Sorts_rows_told_1 [1])) [some (sortsD rs), none] [] = .ok (.lst (rs.map fun r => .tup r.vs)) [] := by
    unfold cLockK
    rw [show kFld fli_by_name 0 "by_name" [some (sortsD rs), none] [] = some (keysR rs, rs.map Rw.o) from rfl]
    dsimp only
    rw [lc]
    rfl
  unfold f_Sorts_rows_told defn b_Sorts_rows_told
  generalize sortsD rs = O at *
  simp [e]
end K53

namespace K53
open PySem L2 G SX
theorem wt_of {a b : Int} (w : Wg a b) : Wt a b := ⟨w.a0, w.a1, w.b0, w.b1⟩
theorem low_wt {a b : Int} (w : Wg a b) : Wt (a / gd a b) (b / gd a b) := by
  have hb : 0 < b := by have := w.b0; omega
  have hg := gd_pos (a := a) hb
  exact ⟨Int.ediv_nonneg w.a0 (Int.le_of_lt hg), Int.le_trans (Int.ediv_le_self _ w.a0) w.a1, div_pos' hb, Int.le_trans (div_le' hb) w.b1⟩
theorem sc_low {a b : Int} (w : Wg a b) : sc (a / gd a b) (b / gd a b) = sc a b := by
  obtain ⟨q, e1, e2, e3, e4⟩ := dv w.b0 w.b1
  refine aw_low (by have := w.b0; omega) ?_
  unfold sc
  rw [e1, Int.mul_assoc, Int.mul_comm q b, e2, Int.mul_comm]
/-- a claim -/
structure Cm where
  n : Int
  t : Int
  b : Int
  s : Int
  d : Int
  k : Int
def Cm.D (c : Cm) : G.D := .tup [.int c.n, pr c.t c.b, pr c.s c.d, .int c.k]
structure Cm.Ok (c : Cm) : Prop where
  w : Wt c.t c.b
  s : Wt c.s c.d
  k0 : 0 ≤ c.k
  k1 : c.k ≤ 1000000000000000
/-- until when one of a sort may come -/
def able (c : Cm) (r : Rw) (u v : Int) : Option Int :=
  let x := Lm (L1 (sc c.t c.b) (sc c.s c.d) (sc r.wt r.wb) c.k v) (L2 (sc c.t c.b + sc c.s c.d * (v - c.k)) (sc r.wt r.wb) (sc r.st r.sb) v)
  if x < u then none else some x
def ableD : Option Int → G.D
  | none => .non
  | some t => .int t
theorem able_eq {c : Cm} (hc : c.Ok) {r : Rw} (hr : r.Ok) {u v : Int} (h0 : 0 ≤ u) (hk : c.k ≤ u) (h1 : u ≤ v) (h2 : v ≤ 1000000000000000) (mh : List O) : ar 5 (oP f_last_able) [c.D, pr r.wt r.wb, pr r.st r.sb, .int u, .int v] mh = .ok (ableD (able c r u v)) mh := by
  have e := last_eq (n := c.n) hc.w hc.s (wt_of hr.w) (wt_of hr.s) h0 hk h1 h2 mh
  have e2 : ar 5 (oP f_last_able) [c.D, pr r.wt r.wb, pr r.st r.sb, .int u, .int v] mh = _ := e
  rw [e2]
  unfold able
  generalize Lm (L1 (sc c.t c.b) (sc c.s c.d) (sc r.wt r.wb) c.k v) (L2 (sc c.t c.b + sc c.s c.d * (v - c.k)) (sc r.wt r.wb) (sc r.st r.sb) v) = x
  dsimp only
  split <;> rfl
theorem able_low {c : Cm} (hc : c.Ok) {r : Rw} (hr : r.Ok) {u v : Int} (h0 : 0 ≤ u) (hk : c.k ≤ u) (h1 : u ≤ v) (h2 : v ≤ 1000000000000000) (mh : List O) : ar 5 (oP f_last_able) [c.D, lowP r.wt r.wb, lowP r.st r.sb, .int u, .int v] mh = .ok (ableD (able c r u v)) mh := by
  have e := last_eq (n := c.n) hc.w hc.s (low_wt hr.w) (low_wt hr.s) h0 hk h1 h2 mh
  rw [sc_low hr.w, sc_low hr.s] at e
  have e2 : ar 5 (oP f_last_able) [c.D, lowP r.wt r.wb, lowP r.st r.sb, .int u, .int v] mh = _ := e
  rw [e2]
  unfold able
  generalize Lm (L1 (sc c.t c.b) (sc c.s c.d) (sc r.wt r.wb) c.k v) (L2 (sc c.t c.b + sc c.s c.d * (v - c.k)) (sc r.wt r.wb) (sc r.st r.sb) v) = x
  dsimp only
  split <;> rfl
/-- the best so far -/
def better (b : Option (Int × List Nat)) (t : Option Int) (a : List Nat) : Option (Int × List Nat) := match t with
  | none => b
  | some t => (match b with
    | none => some (t, a)
    | some (t', a') => if t > t' then some (t, a) else some (t', a'))
def best (c : Cm) (u v : Int) (rs : List Rw) : Option (Int × List Nat) := rs.foldl (fun b r => better b (able c r u v) r.nm) none
def bestD : Option (Int × List Nat) → G.D
  | none => .non
  | some (t, a) => .tup [.int t, .str (S a)]
theorem best_turn (b : Option (Int × List Nat)) (t : Option Int) (a : List Nat) {W Z CD : G.D} {u v : Int} {o1 o7 o8 o9 o10 : Option G.D} {m : List O} (he : ar 5 (oP f_last_able) [CD, W, Z, .int u, .int v] m = .ok (ableD t) m) :
    bd_last_comer_1 [some CD, o1, some (.int u), some (.int v), some (bestD b), some (.str (S a)), some W, some Z, o8, o9, o10] m = .nx [some CD, o1, some (.int u), some (.int v), some (bestD (better b t a)), some (.str (S a)), some W, some Z, o8, o9, some (ableD t)] m := by
  rw [bd_last_comer_1_eq]
  have s10 : sSet 10 (cL (ar 5 (oP f_last_able)) (cCons (cVar 0) (cCons (cVar 6) (cCons (cVar 7) (cCons (cVar 2) (cCons (cVar 3) (cNil))))))) [some CD, o1, some (.int u), some (.int v), some (bestD b), some (.str (S a)), some W, some Z, o8, o9, o10] m = .nx [some CD, o1, some (.int u), some (.int v), some (bestD b), some (.str (S a)), some W, some Z, o8, o9, some (ableD t)] m := set_at (cL_at (xs := [CD, W, Z, .int u, .int v]) (m1 := m) rfl he)
  refine seq_at s10 ?_
  clear s10 he
  cases t with
  | none => rfl
  | some t => cases b with
    | none => rfl
    | some p =>
      obtain ⟨t', a'⟩ := p
      have g : oGt (.int t) (.int t') m = .ok (.bl (decide (t' < t))) m := by simp
      have A : (cB (c2 oIsNotX (cVar 10) (cK .non))) [some CD, o1, some (.int u), some (.int v), some (bestD (some (t', a'))), some (.str (S a)), some W, some Z, o8, o9, some (ableD (some t))] m = .ok true m := rfl
      have B : (cB (c2 oIsX (cVar 4) (cK .non))) [some CD, o1, some (.int u), some (.int v), some (bestD (some (t', a'))), some (.str (S a)), some W, some Z, o8, o9, some (ableD (some t))] m = .ok false m := rfl
      have C : (cB (c2 oGt (cVar 10) (c2 oIx (cVar 4) (cK (.int 0))))) [some CD, o1, some (.int u), some (.int v), some (bestD (some (t', a'))), some (.str (S a)), some W, some Z, o8, o9, some (ableD (some t))] m = .ok (decide (t' < t)) m := by
        have q := c2_at (o := oGt) (f := cVar 10) (g := c2 oIx (cVar 4) (cK (.int 0))) (ρ := [some CD, o1, some (.int u), some (.int v), some (bestD (some (t', a'))), some (.str (S a)), some W, some Z, o8, o9, some (ableD (some t))]) (m := m) (m1 := m) (m2 := m) (x := .int t) (y := .int t') rfl rfl g
        rw [cB_eq, q]; rfl
      have T : (tAnd2 (cB (c2 oIsNotX (cVar 10) (cK .non))) (tOr2 (cB (c2 oIsX (cVar 4) (cK .non))) (cB (c2 oGt (cVar 10) (c2 oIx (cVar 4) (cK (.int 0))))))) [some CD, o1, some (.int u), some (.int v), some (bestD (some (t', a'))), some (.str (S a)), some W, some Z, o8, o9, some (ableD (some t))] m = .ok (decide (t' < t)) m := by
        unfold tAnd2
        rw [A, Res.bind_ok, if_pos rfl]
        unfold tOr2
        rw [B]
        exact C
      have hb : better (some (t', a')) (some t) a = if t' < t then some (t, a) else some (t', a') := rfl
      rw [hb]
      by_cases h : t' < t
      · rw [decide_eq_true h] at T
        rw [if_pos h]
        exact if_yes T rfl
      · rw [decide_eq_false h] at T
        rw [if_neg h]
        exact if_no T
end K53

namespace K53
open PySem L2 G SX
/-! ### rows drawn -/
def nms8 : List (List Nat) := [[114, 117, 115, 104], [112, 108, 97, 105, 110], [115, 108, 111, 119], [111, 100, 100], [97], [122, 122], [108, 97, 116, 101], [97, 98, 99, 100, 101, 102, 103, 104]]
theorem nms8_ok : ∀ a ∈ nms8, named a = true := by decide
theorem nms8_nd : nms8.Nodup := by decide
def strD (L : List (List Nat)) : List G.D := L.map fun a => .str (S a)
theorem rows_args {o1 p2 p3 : O} {T : List O} {a : List Nat} {W Z : G.D} {v x : Int} {c : G.D} {o2 o3 : Option G.D} {J : Nat} (e2 : ar 2 f_l_pull [.ref 0, .int 4] (o1 :: T) = .ok (.int v) (p2 :: T)) (e3 : ar 2 f_l_pull [.ref 0, .int 3] (p2 :: T) = .ok (.int x) (p3 :: T)) :
    (cCons (cL oTup (cCons (cVar 5) (cCons (cVar 6) (cCons (cVar 7) (cCons (c2 oAdd (cK (.int 1)) (cL (ar 2 f_l_pull) (cCons (cVar 0) (cCons (cK (.int 4)) (cNil))))) (cCons (c2 oAdd (cK (.int 1)) (cL (ar 2 f_l_pull) (cCons (cVar 0) (cCons (cK (.int 3)) (cNil))))) (cNil))))))) (cNil)) [some (.ref 0), some c, o2, o3, some (.ref J), some (.str (S a)), some W, some Z] (o1 :: T) = .ok [.tup [.str (S a), W, Z, .int (1 + v), .int (1 + x)]] (p3 :: T) := by
  simp [e2, e3]
theorem rows_step {o o1 p2 p3 : O} {T T' : List O} {a : List Nat} {W Z : G.D} {v x : Int} {c : G.D} {o2 o3 o5 o6 o7 : Option G.D} {J : Nat} {L : List G.D} (e1 : ar 2 f_l_comer [.ref 0, c] (o :: T) = .ok (.tup [W, Z]) (o1 :: T)) (e2 : ar 2 f_l_pull [.ref 0, .int 4] (o1 :: T) = .ok (.int v) (p2 :: T)) (e3 : ar 2 f_l_pull [.ref 0, .int 3] (p2 :: T) = .ok (.int x) (p3 :: T))
    (hJ : (o1 :: T)[J]? = some (.lst L)) (ap : oAppend (.ref J) [.tup [.str (S a), W, Z, .int (1 + v), .int (1 + x)]] (p3 :: T) = .ok .non (p3 :: T')) :
    bd_l_rows_1 [some (.ref 0), some c, o2, o3, some (.ref J), some (.str (S a)), o6, o7] (o :: T) = .nx [some (.ref 0), some c, o2, o3, some (.ref J), some (.str (S a)), some W, some Z] (p3 :: T') := by
  have ra := rows_args (a := a) (W := W) (Z := Z) (c := c) (o2 := o2) (o3 := o3) (J := J) e2 e3
  have u : (gUnp 2 (gsCons (gNm 6) (gsCons (gNm 7) (gsNil)))) (.tup [W, Z]) [some (.ref 0), some c, o2, o3, some (.ref J), some (.str (S a)), o6, o7] (o1 :: T) = .nx [some (.ref 0), some c, o2, o3, some (.ref J), some (.str (S a)), some W, some Z] (o1 :: T) := rfl
  have s1 : sAsg (cL (ar 2 f_l_comer) (cCons (cVar 0) (cCons (cVar 1) (cNil)))) (gUnp 2 (gsCons (gNm 6) (gsCons (gNm 7) (gsNil)))) [some (.ref 0), some c, o2, o3, some (.ref J), some (.str (S a)), o6, o7] (o :: T) = .nx [some (.ref 0), some c, o2, o3, some (.ref J), some (.str (S a)), some W, some Z] (o1 :: T) := by
    simp [e1, u]
  rw [bd_l_rows_1_eq]
  refine seq_at s1 ?_
  rw [sDrop_eq, cM_at (n := J) (m1 := o1 :: T) (ds := L) rfl hJ, ra, Res.bind_ok, ap]
  rfl
theorem rows_turn {o : O} (h : Ok o) {c : Cm} (hc : c.Ok) (r : List O) {a : List Nat} (ha : named a = true) {rs : List Rw} (hl : rs.length ≤ 8) (o2 o3 o5 o6 o7 : Option G.D) : ∃ o' q q6 q7, Ok o' ∧ q.Ok ∧ q.nm = a ∧
    ((gNm 5) (.str (S a)) [some (.ref 0), some c.D, o2, o3, some (.ref (r.length + 1)), o5, o6, o7] (o :: (r ++ [.lst (rs.map Rw.d)]))).seq bd_l_rows_1 = .nx [some (.ref 0), some c.D, o2, o3, some (.ref (r.length + 1)), some (.str (S a)), q6, q7] (o' :: (r ++ [.lst ((rs ++ [q]).map Rw.d)])) := by
  obtain ⟨t, b, s, d, o1, k1, w1, w2, e1⟩ := comer_ok h (n := c.n) (k := c.k) hc.w hc.s (r ++ [.lst (rs.map Rw.d)])
  obtain ⟨v, p2, k2, v0, v1, e2⟩ := pull_ok k1 (m := 4) (by omega) (by omega) (r ++ [.lst (rs.map Rw.d)])
  obtain ⟨x, p3, k3, x0, x1, e3⟩ := pull_ok k2 (m := 3) (by omega) (by omega) (r ++ [.lst (rs.map Rw.d)])
  have hq : (⟨a, t, b, s, d, 1 + v, 1 + x⟩ : Rw).Ok := ⟨ha, ⟨w1.1, w1.2.1, w1.2.2.1, w1.2.2.2⟩, ⟨w2.1, w2.2.1, w2.2.2.1, w2.2.2.2⟩, by show 1 ≤ 1 + v; omega, by show 1 + v ≤ 4; omega, by show 1 ≤ 1 + x; omega, by show 1 + x ≤ 3; omega⟩
  have hix : ∀ z : O, (z :: (r ++ [.lst (rs.map Rw.d)]))[r.length + 1]? = some (.lst (rs.map Rw.d)) := fun z => by simp
  have ap := oAppend_at (d := (⟨a, t, b, s, d, 1 + v, 1 + x⟩ : Rw).d) (mh := p3 :: (r ++ [.lst (rs.map Rw.d)])) (n := r.length + 1) (ds := rs.map Rw.d) (hix p3) (by rw [List.length_map]; omega)
  have es : (p3 :: (r ++ [O.lst (rs.map Rw.d)])).set (r.length + 1) (.lst (rs.map Rw.d ++ [(⟨a, t, b, s, d, 1 + v, 1 + x⟩ : Rw).d])) = p3 :: (r ++ [.lst ((rs ++ [(⟨a, t, b, s, d, 1 + v, 1 + x⟩ : Rw)]).map Rw.d)]) := by
    rw [List.set_cons_succ, List.set_append_right _ _ (by omega), Nat.sub_self, List.map_append]
    rfl
  rw [es] at ap
  exact ⟨p3, ⟨a, t, b, s, d, 1 + v, 1 + x⟩, _, _, k3, hq, rfl, rows_step (o5 := o5) e1 e2 e3 (hix o1) ap⟩
end K53

namespace K53
open PySem L2 G SX
theorem cat_eq {A B : List G.D} (h : A.length + B.length ≤ 1000) (m : List O) : oAdd (.lst A) (.lst B) m = .ok (.lst (A ++ B)) m := by
  show (if A.length + B.length ≤ sizeLine then Res.ok (G.D.lst (A ++ B)) m else .stuck) = _
  rw [if_pos (sl_1000 (by omega))]
theorem sl_to {L : List G.D} {i : Nat} (hi : i ≤ L.length) (hl : L.length ≤ 100) (m : List O) : oSlL (.lst L) none (some (i : Int)) m = .ok (.lst (L.take i)) m := by
  show oLst (cutD L none (some (i : Int))) m = _
  unfold cutD
  rw [HT.sIx_none, HT.sIx_nat, List.drop_zero, Nat.sub_zero, Nat.min_eq_left hi, oLst_s (by rw [List.length_take]; omega)]
theorem sl_from {L : List G.D} {i : Nat} (hi : i ≤ L.length) (hl : L.length ≤ 100) (m : List O) : oSlL (.lst L) (some (i : Int)) none m = .ok (.lst (L.drop i)) m := by
  show oLst (cutD L (some (i : Int)) none) m = _
  unfold cutD
  rw [HT.sIx_none, HT.sIx_nat, Nat.min_eq_left hi, List.take_of_length_le (by rw [List.length_drop]; omega), oLst_s (by rw [List.length_drop]; omega)]
theorem cSl_at {o : G.D → Option Int → Option Int → List O → Res G.D} {f : CE} {l u : CO} {ρ : En} {m m1 m2 m3 : List O} {x : G.D} {lo hi : Option Int} {r : Res G.D} (hf : f ρ m = .ok x m1) (hl : l ρ m1 = .ok lo m2) (hu : u ρ m2 = .ok hi m3) (h : o x lo hi m3 = r) : cSl o f l u ρ m = r := by
  unfold cSl
  rw [hf, Res.bind_ok, hl, Res.bind_ok, hu, Res.bind_ok, h]
theorem coS_at {f : CE} {ρ : En} {m m1 : List O} {i : Int} (h : f ρ m = .ok (.int i) m1) : coS f ρ m = .ok (some i) m1 := by
  unfold coS
  rw [h]; rfl
theorem iL_at {f : CE} {ρ : En} {m m1 : List O} {ds : List G.D} (h : f ρ m = .ok (.lst ds) m1) : iL f ρ m = .ok (ds, none) m1 := by
  rw [iL_eq, h]; rfl
theorem drop_at {f : CE} {ρ : En} {m m1 : List O} {x : G.D} (h : f ρ m = .ok x m1) : sDrop f ρ m = .nx ρ m1 := by
  rw [sDrop_eq, h]; rfl
theorem for_at {it : CI} {tg : CG} {b : CS} {ρ : En} {m m1 : List O} {g : Its} {o : Out} (h : it ρ m = .ok g m1) (h2 : forL g tg b g.1 ρ m1 = o) : sFor it tg b ρ m = o := by
  rw [sFor_eq, h, Res.toS_ok, h2]
theorem rot_ok {k : Nat} (hk : k ≤ 8) : (nms8.drop k ++ nms8.take k).Nodup ∧ (nms8.drop k ++ nms8.take k).length = 8 ∧ ∀ a ∈ nms8.drop k ++ nms8.take k, named a = true := by
  refine ⟨?_, ?_, fun a h => ?_⟩
  · have h : (nms8.take k ++ nms8.drop k).Nodup := by rw [List.take_append_drop]; exact nms8_nd
    exact (List.perm_append_comm.nodup_iff).mp h
  · rw [List.length_append, List.length_drop, List.length_take]
    show 8 - k + min k 8 = 8
    omega
  · rcases List.mem_append.mp h with z | z
    · exact nms8_ok a (List.mem_of_mem_drop z)
    · exact nms8_ok a (List.mem_of_mem_take z)
theorem strD8 : [G.D.str "rush", .str "plain", .str "slow", .str "odd", .str "a", .str "zz", .str "late", .str "abcdefgh"] = strD nms8 := by
  have h1 : ("rush" : Str) = S [114, 117, 115, 104] := by decide +kernel
  have h2 : ("plain" : Str) = S [112, 108, 97, 105, 110] := by decide +kernel
  have h3 : ("slow" : Str) = S [115, 108, 111, 119] := by decide +kernel
  have h4 : ("odd" : Str) = S [111, 100, 100] := by decide +kernel
  have h5 : ("a" : Str) = S [97] := by decide +kernel
  have h6 : ("zz" : Str) = S [122, 122] := by decide +kernel
  have h7 : ("late" : Str) = S [108, 97, 116, 101] := by decide +kernel
  have h8 : ("abcdefgh" : Str) = S [97, 98, 99, 100, 101, 102, 103, 104] := by decide +kernel
  rw [h1, h2, h3, h4, h5, h6, h7, h8]
  rfl
theorem rows_ok {o : O} (h : Ok o) {c : Cm} (hc : c.Ok) (r : List O) : ∃ o' rs, Ok o' ∧ Rows rs ∧ ar 2 f_l_rows [.ref 0, c.D] (o :: r) = .ok (.ref (r.length + 1)) (o' :: (r ++ [.lst (rs.map Rw.d)])) := by
  obtain ⟨k, p1, k1, a0, a1, e1⟩ := pull_ok h (m := 8) (by omega) (by omega) r
  obtain ⟨j, p2, k2, b0, b1, e2⟩ := pull_ok k1 (m := 8) (by omega) (by omega) (r ++ [.lst []])
  obtain ⟨kn, hkn, hk8⟩ : ∃ kn : Nat, k = (kn : Int) ∧ kn < 8 := ⟨k.toNat, by omega, by omega⟩
  obtain ⟨jn, hjn, hj8⟩ : ∃ jn : Nat, 1 + j = (jn : Int) ∧ (1 ≤ jn ∧ jn ≤ 8) := ⟨(1 + j).toNat, by omega, by omega, by omega⟩
  subst hkn
  obtain ⟨nd, ln, nmd⟩ := rot_ok (k := kn) (by omega)
  let N : List (List Nat) := (nms8.drop kn ++ nms8.take kn).take jn
  have hN : N.Nodup := nd.sublist (List.take_sublist _ _)
  have hNl : N.length = jn := by show ((nms8.drop kn ++ nms8.take kn).take jn).length = jn; rw [List.length_take, ln]; omega
  have hNn : ∀ a ∈ N, named a = true := fun a ha => nmd a (List.mem_of_mem_take ha)
  obtain ⟨ρ, mh, e, o', rs, ko, hok, hnm, rfl, o5, o6, o7, rfl⟩ := forL_all (l := strD N) (tg := gNm 5) (b := bd_l_rows_1) (strD N)
    (fun i ρ mh => ∃ o' rs, Ok o' ∧ (∀ q ∈ rs, Rw.Ok q) ∧ rs.map Rw.nm = N.take i ∧ mh = o' :: (r ++ [.lst (rs.map Rw.d)]) ∧ ∃ o5 o6 o7, ρ = [some (.ref 0), some c.D, some (.lst (strD nms8)), some (.int (kn : Nat)), some (.ref (r.length + 1)), o5, o6, o7])
    (ρ := [some (.ref 0), some c.D, some (.lst (strD nms8)), some (.int (kn : Nat)), some (.ref (r.length + 1)), none, none, none]) (mh := p2 :: (r ++ [.lst []])) ⟨p2, [], k2, by simp, by simp, rfl, _, _, _, rfl⟩ (by
    rintro i d ρ mh hd ⟨o', rs, ko, hok, hnm, rfl, o5, o6, o7, rfl⟩
    unfold strD at hd
    rw [List.getElem?_map] at hd
    obtain ⟨a, ha, rfl⟩ := Option.map_eq_some_iff.mp hd
    have hil := (List.getElem?_eq_some_iff.mp ha).1
    have hrl : rs.length = i := by
      have := congrArg List.length hnm
      rw [List.length_map, List.length_take] at this
      omega
    obtain ⟨o2, q, q6, q7, ko2, hq, hqn, et⟩ := rows_turn ko hc r (hNn a (List.mem_of_getElem? ha)) (rs := rs) (by omega) (some (.lst (strD nms8))) (some (.int (kn : Nat))) o5 o6 o7
    refine ⟨_, _, .inl et, o2, rs ++ [q], ko2, fun z hz => ?_, ?_, rfl, _, _, _, rfl⟩
    · rcases List.mem_append.mp hz with y | y
      · exact hok z y
      · rw [List.mem_singleton.mp y]; exact hq
    · rw [List.map_append, hnm, List.take_add_one, ha]
      show _ ++ [q.nm] = _
      rw [hqn]; rfl)
  have hfin : rs.map Rw.nm = N := by
    rw [hnm, show (strD N).length = N.length from by unfold strD; rw [List.length_map], List.take_length]
  have hlen : rs.length = jn := by rw [← hNl, ← hfin, List.length_map]
  refine ⟨o', rs, ko, ⟨hok, by rw [hfin]; exact hN, by omega, by omega⟩, ar_n ?_⟩
  have A8 : (strD nms8).length = 8 := rfl
  have hN2 : strD N = ((strD nms8).drop kn ++ (strD nms8).take kn).take jn := by
    show (((nms8.drop kn ++ nms8.take kn).take jn).map _) = _
    unfold strD
    rw [List.map_take, List.map_append, List.map_drop, List.map_take]
  have hs2 : sSet 2 (cL oLst (cCons (cK (.str "rush")) (cCons (cK (.str "plain")) (cCons (cK (.str "slow")) (cCons (cK (.str "odd")) (cCons (cK (.str "a")) (cCons (cK (.str "zz")) (cCons (cK (.str "late")) (cCons (cK (.str "abcdefgh")) (cNil)))))))))) [some (.ref 0), some c.D, none, none, none, none, none, none] (o :: r) = .nx [some (.ref 0), some c.D, some (.lst (strD nms8)), none, none, none, none, none] (o :: r) := by
    rw [← strD8]
    exact set_at (cL_at (m1 := o :: r) rfl (oLst_s (by simp)))
  have hs3 : sSet 3 (cL (ar 2 f_l_pull) (cCons (cVar 0) (cCons (cK (.int 8)) (cNil)))) [some (.ref 0), some c.D, some (.lst (strD nms8)), none, none, none, none, none] (o :: r) = .nx [some (.ref 0), some c.D, some (.lst (strD nms8)), some (.int (kn : Nat)), none, none, none, none] (p1 :: r) := set_at (cL_at (xs := [.ref 0, .int 8]) (m1 := o :: r) rfl e1)
  have hs4 : sSet 4 (cL oNew (cNil)) [some (.ref 0), some c.D, some (.lst (strD nms8)), some (.int (kn : Nat)), none, none, none, none] (p1 :: r) = .nx [some (.ref 0), some c.D, some (.lst (strD nms8)), some (.int (kn : Nat)), some (.ref (r.length + 1)), none, none, none] (p1 :: (r ++ [.lst []])) := set_at (cL_at (xs := []) (m1 := p1 :: r) rfl (oNew_s (by simp)))
  have hit : it_l_rows_1 [some (.ref 0), some c.D, some (.lst (strD nms8)), some (.int (kn : Nat)), some (.ref (r.length + 1)), none, none, none] (p1 :: (r ++ [.lst []])) = .ok (strD N, none) (p2 :: (r ++ [.lst []])) := by
    rw [it_l_rows_1_eq, hN2]
    clear hs2 hs3 hs4 e hfin hlen hok hnm hN hNl hNn
    generalize (p1 :: (r ++ [O.lst []])) = M1 at *
    generalize (p2 :: (r ++ [O.lst []])) = M2 at *
    generalize strD nms8 = L at *
    refine iL_at ?_
    refine cSl_at (x := .lst (L.drop kn ++ L.take kn)) (lo := none) (hi := some (jn : Int)) (m1 := M1) (m2 := M1) (m3 := M2) (c2_at (m1 := M1) (m2 := M1) (cSl_at (m1 := M1) (m2 := M1) (m3 := M1) rfl (coS_at (i := (kn : Int)) rfl) rfl (sl_from (by omega) (by omega) M1)) (cSl_at (m1 := M1) (m2 := M1) (m3 := M1) rfl rfl (coS_at (i := (kn : Int)) rfl) (sl_to (by omega) (by omega) M1)) (cat_eq (by rw [List.length_drop, List.length_take]; omega) M1)) rfl (coS_at (c2_at (x := .int 1) (y := .int j) (m1 := M1) (m2 := M2) rfl (cL_at (xs := [.ref 0, .int 8]) (m1 := M1) rfl e2) ?_)) (sl_to ?_ ?_ M2)
    · rw [← hjn]; rfl
    · rw [List.length_append, List.length_drop, List.length_take]; omega
    · rw [List.length_append, List.length_drop, List.length_take]; omega
  unfold f_l_rows
  refine defn_rt ?_
  show b_l_rows [some (.ref 0), some c.D, none, none, none, none, none, none] (o :: r) = _
  unfold b_l_rows
  exact seq_at hs2 (seq_at hs3 (seq_at hs4 (seq_at (for_at hit e) rfl)))
end K53

namespace K53
open PySem L2 G SX
theorem best_loop {c : Cm} {u v : Int} (rs : List Rw) (W Z : Rw → G.D) (m : List O) (he : ∀ r ∈ rs, ar 5 (oP f_last_able) [c.D, W r, Z r, .int u, .int v] m = .ok (ableD (able c r u v)) m) (g : Its) (hg : guard g m) (o1 : Option G.D) :
    ∃ q5 q6 q7 q8 q9 q10, forL g (gUnp 5 (gsCons (gNm 5) (gsCons (gNm 6) (gsCons (gNm 7) (gsCons (gNm 8) (gsCons (gNm 9) (gsNil))))))) bd_last_comer_1 (rs.map fun r => .tup [.str (S r.nm), W r, Z r, .int r.sp, .int r.tr]) [some c.D, o1, some (.int u), some (.int v), some .non, none, none, none, none, none, none] m = .nx [some c.D, o1, some (.int u), some (.int v), some (bestD (best c u v rs)), q5, q6, q7, q8, q9, q10] m := by
  obtain ⟨ρ, mh, e, rfl, q5, q6, q7, q8, q9, q10, rfl⟩ := forL_inv (g := g) (tg := gUnp 5 (gsCons (gNm 5) (gsCons (gNm 6) (gsCons (gNm 7) (gsCons (gNm 8) (gsCons (gNm 9) (gsNil))))))) (b := bd_last_comer_1) (rs.map fun r => G.D.tup [.str (S r.nm), W r, Z r, .int r.sp, .int r.tr])
    (fun i ρ mh => mh = m ∧ ∃ q5 q6 q7 q8 q9 q10, ρ = [some c.D, o1, some (.int u), some (.int v), some (bestD (best c u v (rs.take i))), q5, q6, q7, q8, q9, q10]) [some c.D, o1, some (.int u), some (.int v), some .non, none, none, none, none, none, none] m ⟨rfl, _, _, _, _, _, _, rfl⟩ (fun i ρ mh _ h => by rw [h.1]; exact hg) (by
    rintro i d ρ mh hd ⟨rfl, q5, q6, q7, q8, q9, q10, rfl⟩
    rw [List.getElem?_map] at hd
    obtain ⟨r, hr, rfl⟩ := Option.map_eq_some_iff.mp hd
    have hb : best c u v (rs.take (i + 1)) = better (best c u v (rs.take i)) (able c r u v) r.nm := by
      unfold best
      rw [List.take_add_one, hr, Option.toList_some, List.foldl_append]
      rfl
    refine ⟨_, _, .inl ?_, rfl, some (.str (S r.nm)), some (W r), some (Z r), some (.int r.sp), some (.int r.tr), some (ableD (able c r u v)), rfl⟩
    rw [hb]
    exact best_turn (best c u v (rs.take i)) (able c r u v) r.nm (CD := c.D) (o1 := o1) (W := W r) (Z := Z r) (o7 := q7) (o8 := some (.int r.sp)) (o9 := some (.int r.tr)) (o10 := q10) (he r (List.mem_of_getElem? hr)))
  rw [List.length_map, List.take_length] at e
  exact ⟨_, _, _, _, _, _, e⟩
theorem noRef_c (c : Cm) : noRef c.D = true := rfl
theorem noRef_best (b : Option (Int × List Nat)) : noRef (bestD b) = true := by
  cases b with
  | none => rfl
  | some p => rfl
section
variable {c : Cm} (hc : c.Ok) {rs : List Rw} (h : Rows rs) {u v : Int} (h0 : 0 ≤ u) (hk : c.k ≤ u) (h1 : u ≤ v) (h2 : v ≤ 1000000000000000)
include hc h h0 hk h1 h2
theorem last_comer_eq (mh : List O) : ar 4 (oP f_last_comer) [c.D, sortsD rs, .int u, .int v] mh = .ok (bestD (best c u v rs)) mh := by
  refine call_eq rfl (by show (noRef c.D && (noRef (sortsD rs) && true)) = true; rw [noRef_sorts]; rfl) fun m => ?_
  have nd := needs_eq (n := c.n) (t := c.t) (b := c.b) (s := c.s) (d := c.d) (k := c.k) h0 h1 h2 hk m
  have s1 : sDrop (cL (ar 3 (oP f_need_turns)) (cCons (cVar 0) (cCons (cVar 2) (cCons (cVar 3) (cNil))))) [some c.D, some (sortsD rs), some (.int u), some (.int v), none, none, none, none, none, none, none] m = .nx [some c.D, some (sortsD rs), some (.int u), some (.int v), none, none, none, none, none, none, none] m := drop_at (cL_at (xs := [c.D, .int u, .int v]) (m1 := m) rfl nd)
  have tl : oP f_Sorts_rows_told [sortsD rs] m = .ok (.lst (rs.map fun r => .tup r.vs)) m := oP_eq (show noRefs [sortsD rs] = true by show (noRef (sortsD rs) && true) = true; rw [noRef_sorts]; rfl) (told_run rs (by have := h.l1; omega))
  have hit : it_last_comer_1 [some c.D, some (sortsD rs), some (.int u), some (.int v), some .non, none, none, none, none, none, none] m = .ok (rs.map fun r => .tup r.vs, none) m := by
    rw [it_last_comer_1_eq]
    refine iL_at ?_
    rw [cMeth_at (n := 0) (f := oP f_Sorts_rows_told) (o := sortsD rs) (m1 := m) (m2 := m) (ds := []) rfl rfl rfl rfl]
    exact tl
  obtain ⟨q5, q6, q7, q8, q9, q10, e⟩ := best_loop (c := c) (u := u) (v := v) rs (fun r => lowP r.wt r.wb) (fun r => lowP r.st r.sb) m (fun r hr => able_low hc (h.ok r hr) h0 hk h1 h2 m) (rs.map fun r => .tup r.vs, none) trivial (some (sortsD rs))
  unfold f_last_comer
  refine defn_rt ?_
  show b_last_comer [some c.D, some (sortsD rs), some (.int u), some (.int v), none, none, none, none, none, none, none] m = _
  unfold b_last_comer
  exact seq_at s1 (seq_at (m1 := m) rfl (seq_at (for_at hit e) rfl))
theorem due_eq {mh : List O} {L : Nat} (hL : mh[L]? = some (.lst (rs.map Rw.d))) : ar 4 f_l_due [c.D, .ref L, .int u, .int v] mh = .ok (bestD (best c u v rs)) mh := by
  refine ar_n ?_
  have hit : it_l_due_1 [some c.D, some (.ref L), some (.int u), some (.int v), some .non, none, none, none, none, none, none] mh = .ok (rs.map Rw.d, some (L, rs.map Rw.d)) mh := by
    rw [it_l_due_1_eq, iL_eq]
    exact oIts_ref hL
  obtain ⟨q5, q6, q7, q8, q9, q10, e⟩ := best_loop (c := c) (u := u) (v := v) rs (fun r => pr r.wt r.wb) (fun r => pr r.st r.sb) mh (fun r hr => able_eq hc (h.ok r hr) h0 hk h1 h2 mh) (rs.map Rw.d, some (L, rs.map Rw.d)) hL (some (.ref L))
  unfold f_l_due
  refine defn_rt ?_
  show b_l_due [some c.D, some (.ref L), some (.int u), some (.int v), none, none, none, none, none, none, none] mh = _
  unfold b_l_due
  exact seq_at (m1 := mh) rfl (seq_at (for_at hit e) rfl)
end
end K53

namespace K53
open PySem L2 G SX
/-! ### things that are no turns -/
structure Thing (y : G.D) : Prop where
  nr : noRef y = true
  same : ∀ mh, sameS mh 6 y y
  isb : ∃ b, ∀ mh, oIsi [y, .ty "bool"] mh = .ok (.bl b) mh
def NotW (x : G.D) (lo : Int) : Prop := ∀ mh, ar 3 (oP f_is_whole) [x, .int lo, .int 1000000000000000] mh = .ok (.bl false) mh
/-- no turn for this claim -/
def NoT (x : G.D) (c : Cm) : Prop := NotW x 0 ∨ ∃ w : Int, x = .int w ∧ 0 ≤ w ∧ w ≤ 1000000000000000 ∧ w < c.k
theorem th_int (i : Int) : Thing (.int i) := ⟨rfl, fun mh => .inl ⟨.int i, rfl, rfl⟩, false, fun mh => rfl⟩
theorem th_bl (b : Bool) : Thing (.bl b) := ⟨rfl, fun mh => .inl ⟨.bool b, rfl, rfl⟩, true, fun mh => rfl⟩
theorem th_non : Thing .non := ⟨rfl, fun mh => .inl ⟨.none, rfl, rfl⟩, false, fun mh => rfl⟩
theorem th_str (x : Str) (h : PyData.strOk x = true) : Thing (.str x) := ⟨rfl, fun mh => .inl ⟨.str x, by show (if PyData.strOk x = true then some (PyData.str x) else none) = _; rw [if_pos h], by show (if PyData.strOk x = true then some (PyData.str x) else none) = _; rw [if_pos h]⟩, false, fun mh => rfl⟩
theorem th_lst0 : Thing (.lst []) := ⟨rfl, fun mh => .inl ⟨.list [], rfl, rfl⟩, false, fun mh => rfl⟩
theorem th_lst (i : Int) : Thing (.lst [.int i]) := ⟨rfl, fun mh => .inl ⟨.list [.int i], rfl, rfl⟩, false, fun mh => rfl⟩
theorem th_tup (i : Int) : Thing (.tup [.int i]) := ⟨rfl, fun mh => .inl ⟨.tuple [.int i], rfl, rfl⟩, false, fun mh => rfl⟩
theorem th_dic : Thing (.dic [] []) := ⟨rfl, fun mh => .inr (.inr ⟨[], [], [], [], rfl, rfl, rfl, fun i k d h1 h2 => by simp at h1⟩), false, fun mh => rfl⟩
theorem nw_of {x : G.D} {lo : Int} (nr : noRef x = true) (h : ∀ mh, oIsi [x, .ty "int"] mh = .ok (.bl false) mh) : NotW x lo := fun mh => call_eq rfl (by simp [noRefs, noRef, nr]) fun mh => by
  unfold f_is_whole defn b_is_whole
  simp [h]
theorem nw_bl (b : Bool) (lo : Int) : NotW (.bl b) lo := fun mh => call_eq rfl (by simp) fun mh => by
  unfold f_is_whole defn b_is_whole
  simp [isiT]
theorem nw_int {i lo : Int} (h : i < lo ∨ 1000000000000000 < i) : NotW (.int i) lo := fun mh => by
  rw [whole_call]
  congr 2
  rcases h with h | h
  · have : ¬ lo ≤ i := by omega
    simp [this]
  · have : ¬ i ≤ 1000000000000000 := by omega
    simp [this]
theorem nw_non (lo : Int) : NotW .non lo := nw_of rfl fun _ => rfl
theorem nw_str (x : Str) (lo : Int) : NotW (.str x) lo := nw_of rfl fun _ => rfl
theorem nw_lst0 (lo : Int) : NotW (.lst []) lo := nw_of rfl fun _ => rfl
theorem nw_lst (i lo : Int) : NotW (.lst [.int i]) lo := nw_of rfl fun _ => rfl
theorem nw_tup (i lo : Int) : NotW (.tup [.int i]) lo := nw_of rfl fun _ => rfl
theorem nw_dic (lo : Int) : NotW (.dic [] []) lo := nw_of rfl fun _ => rfl
abbrev TH (k : Int) : List G.D := [.int (-1), .int 1000000000000001, .bl true, .bl false, .non, .str "0", .lst [.int 0], .tup [.int 0], .dic [] [], .int (-1000000000000000000000000000000), .lst [], .int (k - 1)]
theorem th_pick {c : Cm} (hc : c.Ok) {v : Int} (v0 : 0 ≤ v) (v1 : v < 12) : ∃ x, NoT x c ∧ Thing x ∧ ∀ mh, oIx (.lst (TH c.k)) (.int v) mh = .ok x mh := by
  have : v = 0 ∨ v = 1 ∨ v = 2 ∨ v = 3 ∨ v = 4 ∨ v = 5 ∨ v = 6 ∨ v = 7 ∨ v = 8 ∨ v = 9 ∨ v = 10 ∨ v = 11 := by omega
  rcases this with rfl | rfl | rfl | rfl | rfl | rfl | rfl | rfl | rfl | rfl | rfl | rfl
  · exact ⟨_, .inl (nw_int (by omega)), th_int _, fun mh => rfl⟩
  · exact ⟨_, .inl (nw_int (by omega)), th_int _, fun mh => rfl⟩
  · exact ⟨_, .inl (nw_bl _ _), th_bl _, fun mh => rfl⟩
  · exact ⟨_, .inl (nw_bl _ _), th_bl _, fun mh => rfl⟩
  · exact ⟨_, .inl (nw_non _), th_non, fun mh => rfl⟩
  · exact ⟨_, .inl (nw_str _ _), th_str _ (by decide +kernel), fun mh => rfl⟩
  · exact ⟨_, .inl (nw_lst _ _), th_lst _, fun mh => rfl⟩
  · exact ⟨_, .inl (nw_tup _ _), th_tup _, fun mh => rfl⟩
  · exact ⟨_, .inl (nw_dic _), th_dic, fun mh => rfl⟩
  · exact ⟨_, .inl (nw_int (by omega)), th_int _, fun mh => rfl⟩
  · exact ⟨_, .inl (nw_lst0 _), th_lst0, fun mh => rfl⟩
  · refine ⟨.int (c.k - 1), ?_, th_int _, fun mh => rfl⟩
    have a := hc.k0
    have b := hc.k1
    by_cases z : c.k = 0
    · exact .inl (nw_int (by omega))
    · exact .inr ⟨_, rfl, by omega, by omega, by omega⟩
abbrev LH (k u : Int) : List G.D := (TH k).take 11 ++ [.int (u - 1)]
theorem lh_pick {k u v : Int} (u0 : 0 ≤ u) (v0 : 0 ≤ v) (v1 : v < 12) : ∃ x, NotW x u ∧ Thing x ∧ ∀ mh, oIx (.lst (LH k u)) (.int v) mh = .ok x mh := by
  have : v = 0 ∨ v = 1 ∨ v = 2 ∨ v = 3 ∨ v = 4 ∨ v = 5 ∨ v = 6 ∨ v = 7 ∨ v = 8 ∨ v = 9 ∨ v = 10 ∨ v = 11 := by omega
  rcases this with rfl | rfl | rfl | rfl | rfl | rfl | rfl | rfl | rfl | rfl | rfl | rfl
  · exact ⟨_, nw_int (by omega), th_int _, fun mh => rfl⟩
  · exact ⟨_, nw_int (by omega), th_int _, fun mh => rfl⟩
  · exact ⟨_, nw_bl _ _, th_bl _, fun mh => rfl⟩
  · exact ⟨_, nw_bl _ _, th_bl _, fun mh => rfl⟩
  · exact ⟨_, nw_non _, th_non, fun mh => rfl⟩
  · exact ⟨_, nw_str _ _, th_str _ (by decide +kernel), fun mh => rfl⟩
  · exact ⟨_, nw_lst _ _, th_lst _, fun mh => rfl⟩
  · exact ⟨_, nw_tup _ _, th_tup _, fun mh => rfl⟩
  · exact ⟨_, nw_dic _, th_dic, fun mh => rfl⟩
  · exact ⟨_, nw_int (by omega), th_int _, fun mh => rfl⟩
  · exact ⟨_, nw_lst0 _, th_lst0, fun mh => rfl⟩
  · exact ⟨.int (u - 1), nw_int (by omega), th_int _, fun mh => rfl⟩
/-! ### refused -/
theorem need_err {c : Cm} {x : G.D} (t : Thing x) (h : NoT x c) (mh : List O) : ar 2 (oP f_need_turn) [.lst [c.D], x] mh = .err "NoTurn" [.str "turn", x] mh := by
  refine call_err ?_ (by show ((noRef c.D && true) && (noRef x && true)) = true; rw [t.nr]; rfl)
  rcases h with h | ⟨w, rfl, h0, h3, hw⟩
  · unfold f_need_turn defn b_need_turn
    simp [h []]
  · have e0 : gUnp 4 (gsCons (gNm 2) (gsCons (gNm 3) (gsCons (gNm 4) (gsCons (gNm 5) gsNil)))) c.D [some (.lst [c.D]), some (.int w), none, none, none, none] [] = .nx [some (.lst [c.D]), some (.int w), some (.int c.n), some (pr c.t c.b), some (pr c.s c.d), some (.int c.k)] [] := rfl
    have e1 : bd_need_turn_1 [some (.lst [c.D]), some (.int w), some (.int c.n), some (pr c.t c.b), some (pr c.s c.d), some (.int c.k)] [] = .err "NoTurn" [.str "turn", .int w] [some (.lst [c.D]), some (.int w), some (.int c.n), some (pr c.t c.b), some (pr c.s c.d), some (.int c.k)] [] := by
      rw [bd_need_turn_1_eq]
      simp [hw, sRaise]
    have e : forL ([c.D], none) (gUnp 4 (gsCons (gNm 2) (gsCons (gNm 3) (gsCons (gNm 4) (gsCons (gNm 5) gsNil))))) bd_need_turn_1 [c.D] [some (.lst [c.D]), some (.int w), none, none, none, none] [] = .err "NoTurn" [.str "turn", .int w] [some (.lst [c.D]), some (.int w), some (.int c.n), some (pr c.t c.b), some (pr c.s c.d), some (.int c.k)] [] := by
      unfold forL
      rw [if_pos (show G.guard ([c.D], none) [] from trivial), e0]
      show (match bd_need_turn_1 [some (.lst [c.D]), some (.int w), some (.int c.n), some (pr c.t c.b), some (pr c.s c.d), some (.int c.k)] [] with
            | .nx ρ' m' => _
            | .ct ρ' m' => _
            | .bk ρ' m' => _
            | o => o) = _
      rw [e1]
    have hit : it_need_turn_1 [some (.lst [c.D]), some (.int w), none, none, none, none] [] = .ok ([c.D], none) [] := rfl
    unfold f_need_turn defn b_need_turn
    generalize c.D = C at *
    simp [whole_call, h0, h3, hit, e]
theorem needs_err {c : Cm} {x y : G.D} (t : Thing x) (hy : noRef y = true) (h : NoT x c) (mh : List O) : ar 3 (oP f_need_turns) [c.D, x, y] mh = .err "NoTurn" [.str "turn", x] mh := by
  refine call_err ?_ (by show (noRef c.D && (noRef x && (noRef y && true))) = true; rw [t.nr, hy]; rfl)
  have e := need_err t h []
  unfold f_need_turns defn b_need_turns
  generalize c.D = C at *
  simp [e]
theorem needs_err2 {c : Cm} {u : Int} {y : G.D} (h0 : 0 ≤ u) (h1 : u ≤ 1000000000000000) (hk : c.k ≤ u) (t : Thing y) (h : NotW y u) (mh : List O) : ar 3 (oP f_need_turns) [c.D, .int u, y] mh = .err "NoTurn" [.str "turn", y] mh := by
  refine call_err ?_ (by show (noRef c.D && (true && (noRef y && true))) = true; rw [t.nr]; rfl)
  have e : ar 2 (oP f_need_turn) [.lst [c.D], .int u] [] = .ok .non [] := need_eq h0 h1 hk []
  have e2 := h []
  unfold f_need_turns defn b_need_turns
  generalize c.D = C at *
  simp [e, e2]
section
variable {c : Cm} {x y z : G.D} (hn : ar 3 (oP f_need_turns) [c.D, x, y] [] = .err "NoTurn" [.str "turn", z] []) (hx : noRef x = true) (hy : noRef y = true)
include hn hx hy
theorem able_err {W Z : G.D} (hW : noRef W = true) (hZ : noRef Z = true) (mh : List O) : ar 5 (oP f_last_able) [c.D, W, Z, x, y] mh = .err "NoTurn" [.str "turn", z] mh := by
  refine call_err ?_ (by show (noRef c.D && (noRef W && (noRef Z && (noRef x && (noRef y && true))))) = true; rw [hW, hZ, hx, hy]; rfl)
  unfold f_last_able defn b_last_able
  generalize c.D = C at *
  simp [hn]
theorem comer_err (rs : List Rw) (mh : List O) : ar 4 (oP f_last_comer) [c.D, sortsD rs, x, y] mh = .err "NoTurn" [.str "turn", z] mh := by
  refine call_err ?_ (by show (noRef c.D && (noRef (sortsD rs) && (noRef x && (noRef y && true)))) = true; rw [noRef_sorts, hx, hy]; rfl)
  unfold f_last_comer defn b_last_comer
  generalize c.D = C at *
  generalize sortsD rs = Ob at *
  simp [hn]
end
end K53

namespace K53
open PySem L2 G SX
theorem isTT : isOne isTab "NoTurn" (.glb "NoTurn") = some true := by decide +kernel
theorem isTV : isOne isTab "NoTurn" (.ty "ValueError") = some true := by decide +kernel
theorem isWT : is_WaitError "NoTurn" = some true := by decide +kernel
theorem flT : ("NoTurn" : Str) ∈ fld_turn := by decide +kernel
theorem drop_err {f : CE} {ρ : En} {m m1 : List O} {c : Str} {es : List G.D} (h : f ρ m = .err c es m1) : sDrop f ρ m = .err c es ρ m1 := by
  rw [sDrop_eq, h]; rfl
theorem fzA_live {m : List O} {L : Nat} {rs : List Rw} (hL : m[L]? = some (.lst (rs.map Rw.d))) : fzl (fzA m 12) [.ref L] = some [.lst (rs.map Rw.d)] := by
  have e : fzA m 12 (.ref L) = some (.lst (rs.map Rw.d)) := by
    show (match m[L]? with
      | some (.lst ds) => (fzl (fzA m 11) ds).map G.D.lst
      | _ => none) = _
    rw [hL]
    show ((fzl (fzA _ 11) (rs.map Rw.d)).map G.D.lst) = _
    rw [fzl_self _ fun x hx => by
      obtain ⟨r, _, rfl⟩ := List.mem_map.mp hx
      rfl]
    rfl
  unfold fzl
  rw [e]; rfl
theorem fzA_val (m : List O) (L : List Rw) : fzl (fzA m 12) [.lst (L.map Rw.d)] = some [.lst (L.map Rw.d)] := by
  have e : fzA m 12 (.lst (L.map Rw.d)) = some (.lst (L.map Rw.d)) := by
    show ((fzl (fzA _ 11) (L.map Rw.d)).map G.D.lst) = _
    rw [fzl_self _ fun x hx => by
      obtain ⟨r, _, rfl⟩ := List.mem_map.mp hx
      rfl]
    rfl
  unfold fzl
  rw [e]; rfl
theorem sorts_live {rs : List Rw} (h : Rows rs) {m : List O} {L : Nat} (hL : m[L]? = some (.lst (rs.map Rw.d))) : oMakeL "Sorts" 1 f_Sorts_init [.ref L] m = .ok (sortsD rs) m :=
  makeL_ok (fzA_live hL) (init_run h) (fzM_live _) (by show (noRefs (rs.map Rw.d) && true) = true; rw [noRefs_rows]; rfl)
theorem sorts_val {rs : List Rw} (h : Rows rs) (m : List O) : oMakeL "Sorts" 1 f_Sorts_init [.lst (rs.map Rw.d)] m = .ok (sortsD rs) m :=
  makeL_ok (fzA_val m rs) (init_run h) (fzM_live _) (by show (noRefs (rs.map Rw.d) && true) = true; rw [noRefs_rows]; rfl)
theorem make_at {fa : CA} {ρ : En} {m m1 : List O} {ds : List G.D} {r : Res G.D} (h : fa ρ m = .ok ds m1) (h2 : oMakeL "Sorts" 1 f_Sorts_init ds m1 = r) : cMakeL "Sorts" 1 f_Sorts_init fa ρ m = r := by
  rw [cMakeL_eq, h, Res.bind_ok, h2]
section
variable {w : Int} {c : Cm} {L : Nat} {x y z : G.D} {m : List O}
theorem caught_turn (h : tb_l_caught_1 [some (.int w), some c.D, some (.ref L), some x, some y, some .non, none] m = .err "NoTurn" [.str "turn", z] [some (.int w), some c.D, some (.ref L), some x, some y, some .non, none] m) :
    ar 5 f_l_caught [.int w, c.D, .ref L, x, y] m = .ok (.lst [z]) m := by
  refine ar_n ?_
  have i1 := fun mh => isO_glb (mh := mh) (ns := ["turn"]) (es := [z]) isTT
  have i3 := fun mh => isO_ty (mh := mh) (ns := ["turn"]) (es := [z]) isTV
  have i4 := fun mh => fld_ok (mh := mh) (f := "turn") (y := z) flT
  have nw : oLst [z] m = .ok (.lst [z]) m := oLst_s (by simp)
  have e := fun g => sTry_err (g := g) (i := 6) h isWT exObj_one
  unfold f_l_caught defn b_l_caught
  generalize c.D = C at *
  simp [e, i1, i3, i4, nw]
theorem caught_none (h : tb_l_caught_1 [some (.int w), some c.D, some (.ref L), some x, some y, some .non, none] m = .nx [some (.int w), some c.D, some (.ref L), some x, some y, some .non, none] m) :
    ar 5 f_l_caught [.int w, c.D, .ref L, x, y] m = .ok .non m := by
  refine ar_n ?_
  have e := fun is g => sTry_nx (is := is) (g := g) (i := 6) h
  unfold f_l_caught defn b_l_caught
  generalize c.D = C at *
  simp [e]
end
theorem args0 {w : Int} {C x y : G.D} {L : Nat} {m : List O} {r : Rw} {rs : List Rw} (hL : m[L]? = some (.lst ((r :: rs).map Rw.d))) (o5 o6 : Option G.D) :
    (cCons (cVar 1) (cCons (c2 oIx (c2 oIx (cVar 2) (cK (.int 0))) (cK (.int 1))) (cCons (c2 oIx (c2 oIx (cVar 2) (cK (.int 0))) (cK (.int 2))) (cCons (cVar 3) (cCons (cVar 4) (cNil)))))) [some (.int w), some C, some (.ref L), some x, some y, o5, o6] m = .ok [C, pr r.wt r.wb, pr r.st r.sb, x, y] m := by
  have i0 : oIx (.ref L) (.int 0) m = .ok r.d m := oIx_ref _ hL (by exact atI_nat (j := 0) rfl)
  exact cC_at (m1 := m) rfl (cC_at (m1 := m) (c2_at (m1 := m) (m2 := m) (c2_at (m1 := m) (m2 := m) rfl rfl i0) rfl rfl) (cC_at (m1 := m) (c2_at (m1 := m) (m2 := m) (c2_at (m1 := m) (m2 := m) rfl rfl i0) rfl rfl) (cC_at (m1 := m) rfl (cC_at (m1 := m) rfl rfl))))
theorem args1 {w : Int} {C x y : G.D} {L : Nat} {m : List O} {rs : List Rw} (h : Rows rs) (hL : m[L]? = some (.lst (rs.map Rw.d))) (o5 o6 : Option G.D) :
    (cCons (cVar 1) (cCons (cMakeL "Sorts" 1 f_Sorts_init (cCons (cVar 2) (cNil))) (cCons (cVar 3) (cCons (cVar 4) (cNil))))) [some (.int w), some C, some (.ref L), some x, some y, o5, o6] m = .ok [C, sortsD rs, x, y] m :=
  cC_at (m1 := m) rfl (cC_at (m1 := m) (make_at (m1 := m) rfl (sorts_live h hL)) (cC_at (m1 := m) rfl (cC_at (m1 := m) rfl rfl)))
theorem q0t {ρ : En} {m : List O} (h : cVar 0 ρ m = .ok (.int 0) m) : cB (c2 oEq (cVar 0) (cK (.int 0))) ρ m = .ok true m := by
  simp [h]
theorem q0f {ρ : En} {m : List O} (h : cVar 0 ρ m = .ok (.int 1) m) : cB (c2 oEq (cVar 0) (cK (.int 0))) ρ m = .ok false m := by
  simp [h]
section
variable {rs : List Rw} (h : Rows rs) {m : List O} {L : Nat} (hL : m[L]? = some (.lst (rs.map Rw.d))) {c : Cm} {w : Int} (hw : w = 0 ∨ w = 1)
include h hL hw
theorem way_err {x y z : G.D} (hn : ar 3 (oP f_need_turns) [c.D, x, y] [] = .err "NoTurn" [.str "turn", z] []) (hx : noRef x = true) (hy : noRef y = true) : ar 5 f_l_caught [.int w, c.D, .ref L, x, y] m = .ok (.lst [z]) m := by
  refine caught_turn ?_
  rw [tb_l_caught_1_eq]
  rcases hw with rfl | rfl
  · refine if_yes (m1 := m) (q0t rfl) (drop_err ?_)
    cases rs with
    | nil => exact absurd h.l0 (by decide)
    | cons r rs => exact cL_at (m1 := m) (args0 hL _ _) (able_err hn hx hy rfl rfl m)
  · refine if_else (m1 := m) (q0f rfl) (drop_err ?_)
    exact cL_at (m1 := m) (args1 h hL _ _) (comer_err hn hx hy rs m)
theorem way_good (hc : c.Ok) {u v : Int} (h0 : 0 ≤ u) (hk : c.k ≤ u) (h1 : u ≤ v) (h2 : v ≤ 1000000000000000) : ar 5 f_l_caught [.int w, c.D, .ref L, .int u, .int v] m = .ok .non m := by
  refine caught_none ?_
  rw [tb_l_caught_1_eq]
  rcases hw with rfl | rfl
  · refine if_yes (m1 := m) (q0t rfl) ?_
    cases rs with
    | nil => exact absurd h.l0 (by decide)
    | cons r rs => exact drop_at (cL_at (m1 := m) (args0 hL _ _) (able_eq hc (h.ok r (List.mem_cons_self ..)) h0 hk h1 h2 m))
  · refine if_else (m1 := m) (q0f rfl) ?_
    exact drop_at (cL_at (m1 := m) (args1 h hL _ _) (last_comer_eq hc h h0 hk h1 h2 m))
end
theorem same_no {ρ : En} {m : List O} {i j : Nat} {x : G.D} (t : Thing x) (hi : cVar i ρ m = .ok (.lst [x]) m) (hj : cVar j ρ m = .ok x m) : tOr2 (cB (c2 (oSame false) (cVar i) (cL oLst (cCons (cVar j) (cNil))))) (cB (c2 oNe (cL oIsi (cCons (c2 oIx (cVar i) (cK (.int 0))) (cCons (cK (.ty "bool")) (cNil)))) (cL oIsi (cCons (cVar j) (cCons (cK (.ty "bool")) (cNil)))))) ρ m = .ok false m := by
  obtain ⟨b, hb⟩ := t.isb
  refine or_no (m1 := m) ?_ ?_
  · rw [cB_eq, c2_at (m1 := m) (m2 := m) hi (cL_at (m1 := m) (cC_at (m1 := m) hj rfl) (oLst_s (by simp))) (oSame_eq rfl rfl (.cons (t.same m) .nil))]
    rfl
  · have n : oNe (.bl b) (.bl b) m = .ok (.bl false) m := oNe_self (by trivial)
    rw [cB_eq, c2_at (m1 := m) (m2 := m) (x := .bl b) (y := .bl b) (cL_at (m1 := m) (cC_at (m1 := m) (c2_at (m1 := m) (m2 := m) hi rfl rfl) (cC_at (m1 := m) rfl rfl)) (hb m)) (cL_at (m1 := m) (cC_at (m1 := m) hj (cC_at (m1 := m) rfl rfl)) (hb m)) n]
    rfl
theorem is_none {f : CE} {ρ : En} {m : List O} (h : f ρ m = .ok .non m) : cB (c2 oIsNotX f (cK .non)) ρ m = .ok false m := by
  rw [cB_eq, c2_at (m1 := m) (m2 := m) (x := .non) (y := .non) h rfl rfl]
  rfl
section
variable {rs : List Rw} (h : Rows rs) {m : List O} {L : Nat} (hL : m[L]? = some (.lst (rs.map Rw.d))) {c : Cm} (hc : c.Ok) {u : Int} (h0 : 0 ≤ u) (hk : c.k ≤ u) (h1 : u ≤ 1000000000000000) {x y : G.D} (tx : Thing x) (ty : Thing y) (nx : NoT x c) (ny : NotW y u) {w : Int} (hw : w = 0 ∨ w = 1)
include h hL hc h0 hk h1 tx ty nx ny hw
theorem refused_in (A : G.D) (o8 o9 : Option G.D) : ∃ q8 q9, sFor it_l_refused_1 (gNm 8) bd_l_refused_1 [some (.ref 0), some c.D, some (.ref L), some (.int u), some A, some x, some y, some (.int w), o8, o9] m = .nx [some (.ref 0), some c.D, some (.ref L), some (.int u), some A, some x, some y, some (.int w), q8, q9] m := by
  have hit : it_l_refused_1 [some (.ref 0), some c.D, some (.ref L), some (.int u), some A, some x, some y, some (.int w), o8, o9] m = .ok ([.int u, x, y], none) m := by
    rw [it_l_refused_1_eq]
    exact iL_at (cL_at (m1 := m) rfl (oLst_s (by simp)))
  obtain ⟨ρ, mh, e, rfl, q8, q9, rfl⟩ := forL_all (l := [.int u, x, y]) (tg := gNm 8) (b := bd_l_refused_1) [.int u, x, y] (fun i ρ mh => mh = m ∧ ∃ q8 q9, ρ = [some (.ref 0), some c.D, some (.ref L), some (.int u), some A, some x, some y, some (.int w), q8, q9])
    (ρ := [some (.ref 0), some c.D, some (.ref L), some (.int u), some A, some x, some y, some (.int w), o8, o9]) (mh := m) ⟨rfl, _, _, rfl⟩ (by
    rintro i d ρ mh hd ⟨rfl, q8, q9, rfl⟩
    have hr : noRef d = true := by
      have := List.mem_of_getElem? hd
      simp only [List.mem_cons, List.not_mem_nil, or_false] at this
      rcases this with rfl | rfl | rfl
      · rfl
      · exact tx.nr
      · exact ty.nr
    refine ⟨_, _, .inl ?_, rfl, some d, some (.lst [x]), rfl⟩
    show bd_l_refused_1 [some (.ref 0), some c.D, some (.ref L), some (.int u), some A, some x, some y, some (.int w), some d, q9] mh = _
    rw [bd_l_refused_1_eq]
    refine seq_at (m1 := mh) (set_at (cL_at (xs := [.int w, c.D, .ref L, x, d]) (m1 := mh) rfl (way_err h hL hw (needs_err tx hr nx []) tx.nr hr))) ?_
    exact if_no (same_no tx rfl rfl))
  exact ⟨_, _, for_at hit e⟩
theorem refused_way (A : G.D) (o8 o9 : Option G.D) : ∃ q8 q9, bd_l_refused_2 [some (.ref 0), some c.D, some (.ref L), some (.int u), some A, some x, some y, some (.int w), o8, o9] m = .nx [some (.ref 0), some c.D, some (.ref L), some (.int u), some A, some x, some y, some (.int w), q8, q9] m := by
  obtain ⟨q8, q9, e⟩ := refused_in h hL hc h0 hk h1 tx ty nx ny hw A o8 o9
  refine ⟨q8, some (.lst [y]), ?_⟩
  rw [bd_l_refused_2_eq]
  refine seq_at e ?_
  refine seq_at (m1 := m) (set_at (cL_at (xs := [.int w, c.D, .ref L, .int u, y]) (m1 := m) rfl (way_err h hL hw (needs_err2 h0 h1 hk ty ny []) rfl ty.nr))) ?_
  refine seq_at (m1 := m) (if_no (same_no ty rfl rfl)) ?_
  have k0 := hc.k0
  have k1 := hc.k1
  refine seq_at (m1 := m) (if_no (is_none (cL_at (xs := [.int w, c.D, .ref L, .int c.k, .int c.k]) (m1 := m) rfl (way_good h hL hw hc k0 (Int.le_refl _) (Int.le_refl _) k1)))) ?_
  have p : ∀ ρ, (c2 oPow (cK (.int 10)) (cK (.int 15))) ρ m = .ok (.int 1000000000000000) m := fun ρ => by simp
  exact if_no (is_none (cL_at (xs := [.int w, c.D, .ref L, .int 1000000000000000, .int 1000000000000000]) (m1 := m) (cC_at (m1 := m) rfl (cC_at (m1 := m) rfl (cC_at (m1 := m) rfl (cC_at (m1 := m) (p _) (cC_at (m1 := m) (p _) rfl))))) (way_good h hL hw hc (by omega) k1 (Int.le_refl _) (Int.le_refl _))))
end
theorem th_list {C : G.D} {k : Int} (hC : ∀ m, oIx C (.int 3) m = .ok (.int k) m) {ρ : En} {m : List O} (h1 : cVar 1 ρ m = .ok C m) : cL oLst (cCons (c1 oNeg (cK (.int 1))) (cCons (c2 oAdd (c2 oPow (cK (.int 10)) (cK (.int 15))) (cK (.int 1))) (cCons (cK (.bl true)) (cCons (cK (.bl false)) (cCons (cK .non) (cCons (cK (.str "0")) (cCons (cL oLst (cCons (cK (.int 0)) (cNil))) (cCons (cL oTup (cCons (cK (.int 0)) (cNil))) (cCons (cDNil) (cCons (c2 oSub (cK (.int 0)) (c2 oPow (cK (.int 10)) (cK (.int 30)))) (cCons (cL oLst (cNil)) (cCons (c2 oSub (c2 oIx (cVar 1) (cK (.int 3))) (cK (.int 1))) (cNil))))))))))))) ρ m = .ok (.lst (TH k)) m := by
  have dn : cDNil ρ m = .ok (.dic [] []) m := rfl
  have o13 : oLst (TH k) m = .ok (.lst (TH k)) m := oLst_s (by simp)
  have o1 : oLst [.int 0] m = .ok (.lst [.int 0]) m := oLst_s (by simp)
  have o2 : oTup [.int 0] m = .ok (.tup [.int 0]) m := rfl
  have o0 : oLst [] m = .ok (.lst []) m := oLst_s (by simp)
  simp [dn, o13, o1, o2, o0, hC, h1]
theorem refused_ok {o : O} (ho : Ok o) {r : List O} {rs : List Rw} (h : Rows rs) {L : Nat} (hL : ∀ o : O, (o :: r)[L]? = some (.lst (rs.map Rw.d))) {c : Cm} (hc : c.Ok) {u : Int} (h0 : 0 ≤ u) (hk : c.k ≤ u) (h1 : u ≤ 1000000000000000) : ∃ m, ar 4 f_l_refused [.ref 0, c.D, .ref L, .int u] (o :: r) = .ok (.bl true) m := by
  obtain ⟨v, p1, k1, v0, v1, e1⟩ := pull_ok ho (m := 12) (by omega) (by omega) r
  obtain ⟨v', p2, k2, v0', v1', e2⟩ := pull_ok k1 (m := 12) (by omega) (by omega) r
  obtain ⟨x, nx, tx, ex⟩ := th_pick hc v0 v1
  obtain ⟨y, ny, ty, ey⟩ := lh_pick (k := c.k) (u := u) h0 v0' v1'
  refine ⟨p2 :: r, ar_n ?_⟩
  have hL2 := hL p2
  have s4 : sSet 4 (cL oLst (cCons (c1 oNeg (cK (.int 1))) (cCons (c2 oAdd (c2 oPow (cK (.int 10)) (cK (.int 15))) (cK (.int 1))) (cCons (cK (.bl true)) (cCons (cK (.bl false)) (cCons (cK .non) (cCons (cK (.str "0")) (cCons (cL oLst (cCons (cK (.int 0)) (cNil))) (cCons (cL oTup (cCons (cK (.int 0)) (cNil))) (cCons (cDNil) (cCons (c2 oSub (cK (.int 0)) (c2 oPow (cK (.int 10)) (cK (.int 30)))) (cCons (cL oLst (cNil)) (cCons (c2 oSub (c2 oIx (cVar 1) (cK (.int 3))) (cK (.int 1))) (cNil)))))))))))))) [some (.ref 0), some c.D, some (.ref L), some (.int u), none, none, none, none, none, none] (o :: r) = .nx [some (.ref 0), some c.D, some (.ref L), some (.int u), some (.lst (TH c.k)), none, none, none, none, none] (o :: r) := set_at (th_list (C := c.D) (fun m => rfl) rfl)
  have ad : oAdd (.lst ((TH c.k).take 11)) (.lst [.int (u - 1)]) (p1 :: r) = .ok (.lst (LH c.k u)) (p1 :: r) := cat_eq (by simp) _
  have sl : oSlL (.lst (TH c.k)) none (some ((11 : Nat) : Int)) (p1 :: r) = .ok (.lst ((TH c.k).take 11)) (p1 :: r) := sl_to (by simp) (by simp) _
  generalize hT : G.D.lst (TH c.k) = T at *
  generalize hU : G.D.lst (LH c.k u) = U at *
  have s5 : sSet 5 (c2 oIx (cVar 4) (cL (ar 2 f_l_pull) (cCons (cVar 0) (cCons (cK (.int 12)) (cNil))))) [some (.ref 0), some c.D, some (.ref L), some (.int u), some T, none, none, none, none, none] (o :: r) = .nx [some (.ref 0), some c.D, some (.ref L), some (.int u), some T, some x, none, none, none, none] (p1 :: r) :=
    set_at (c2_at (m1 := o :: r) (m2 := p1 :: r) rfl (cL_at (xs := [.ref 0, .int 12]) (m1 := o :: r) rfl e1) (ex _))
  have s6 : sSet 6 (c2 oIx (c2 oAdd (cSl oSlL (cVar 4) (coN) (coS (cK (.int 11)))) (cL oLst (cCons (c2 oSub (cVar 3) (cK (.int 1))) (cNil)))) (cL (ar 2 f_l_pull) (cCons (cVar 0) (cCons (cK (.int 12)) (cNil))))) [some (.ref 0), some c.D, some (.ref L), some (.int u), some T, some x, none, none, none, none] (p1 :: r) = .nx [some (.ref 0), some c.D, some (.ref L), some (.int u), some T, some x, some y, none, none, none] (p2 :: r) :=
    set_at (c2_at (m1 := p1 :: r) (m2 := p2 :: r) (c2_at (m1 := p1 :: r) (m2 := p1 :: r) (cSl_at (m1 := p1 :: r) (m2 := p1 :: r) (m3 := p1 :: r) rfl rfl (coS_at rfl) sl) (cL_at (m1 := p1 :: r) (cC_at (x := .int (u - 1)) (m1 := p1 :: r) (by simp) rfl) (oLst_s (by simp))) ad) (cL_at (xs := [.ref 0, .int 12]) (m1 := p1 :: r) rfl e2) (ey _))
  generalize p2 :: r = M at *
  obtain ⟨ρ, mh, e, rfl, q7, q8, q9, rfl⟩ := forL_all (l := rngL 0 2) (tg := gNm 7) (b := bd_l_refused_2) (rngL 0 2) (fun i ρ mh => mh = M ∧ ∃ q7 q8 q9, ρ = [some (.ref 0), some c.D, some (.ref L), some (.int u), some T, some x, some y, q7, q8, q9])
    (ρ := [some (.ref 0), some c.D, some (.ref L), some (.int u), some T, some x, some y, none, none, none]) (mh := M) ⟨rfl, _, _, _, rfl⟩ (by
    rintro i d ρ mh hd ⟨rfl, q7, q8, q9, rfl⟩
    obtain ⟨hi, rfl⟩ := rngL_get hd
    obtain ⟨n8, n9, e⟩ := refused_way h hL2 hc h0 hk h1 tx ty nx ny (w := 0 + (i : Nat)) (by omega) T q8 q9
    exact ⟨_, _, .inl e, rfl, _, _, _, rfl⟩)
  have hit : it_l_refused_2 [some (.ref 0), some c.D, some (.ref L), some (.int u), some T, some x, some y, none, none, none] mh = .ok (rngL 0 2, none) mh := by
    rw [it_l_refused_2_eq]
    exact iR1_at rfl rfl
  unfold f_l_refused
  refine defn_rt ?_
  show b_l_refused [some (.ref 0), some c.D, some (.ref L), some (.int u), none, none, none, none, none, none] (o :: r) = _
  unfold b_l_refused
  exact seq_at s4 (seq_at s5 (seq_at s6 (seq_at (for_at hit e) rfl)))
end K53

namespace K53
open PySem L2 G SX
def BOk (b : Option (Int × List Nat)) : Prop := ∀ p, b = some p → named p.2 = true
theorem best_ok {c : Cm} {u v : Int} : ∀ (rs : List Rw), (∀ r ∈ rs, r.Ok) → ∀ b, BOk b → BOk (rs.foldl (fun b r => better b (able c r u v) r.nm) b)
  | [], _, b, hb => hb
  | r :: rs, h, b, hb => by
    rw [List.foldl_cons]
    refine best_ok rs (fun z hz => h z (List.mem_cons_of_mem _ hz)) _ ?_
    have hn := (h r List.mem_cons_self).nm
    generalize able c r u v = t
    cases t with
    | none => exact hb
    | some t => cases b with
      | none => intro p hp; cases hp; exact hn
      | some q =>
        obtain ⟨t', a'⟩ := q
        show BOk (if t > t' then some (t, r.nm) else some (t', a'))
        split
        · intro p hp; cases hp; exact hn
        · exact hb
theorem okP_best {b : Option (Int × List Nat)} (h : BOk b) : okP 12 (bestD b) := by
  cases b with
  | none => trivial
  | some p =>
    obtain ⟨t, a⟩ := p
    intro x hx
    simp only [List.mem_cons, List.not_mem_nil, or_false] at hx
    rcases hx with rfl | rfl
    · trivial
    · exact (named_oks (h _ rfl)).str
theorem rows_rev {rs : List Rw} (h : Rows rs) : Rows rs.reverse :=
  ⟨fun r hr => h.ok r (List.mem_reverse.mp hr), by rw [List.map_reverse]; exact (List.reverse_perm _).nodup_iff.mpr h.nd, by rw [List.length_reverse]; exact h.l0, by rw [List.length_reverse]; exact h.l1⟩
theorem ne_no {f g : CE} {ρ : En} {m : List O} {x : G.D} (hf : f ρ m = .ok x m) (hg : g ρ m = .ok x m) (k : okP 12 x) : cB (c2 oNe f g) ρ m = .ok false m := by
  rw [cB_eq, c2_at (m1 := m) (m2 := m) hf hg (oNe_self k)]
  rfl
theorem found_no {b : Option (Int × List Nat)} (h : BOk b) {ρ : En} {m : List O} (h9 : cVar 9 ρ m = .ok (bestD b) m) (h7 : cVar 7 ρ m = .ok (bestD b) m) :
    tOr2 (cB (c2 oNe (cVar 9) (cVar 7))) (tAnd2 (cB (c2 oIsNotX (cVar 7) (cK .non))) (tOr2 (tNot1 (cB (cL oIsi (cCons (cVar 9) (cCons (cK (.ty "tuple")) (cNil)))))) (cB (cL oIsi (cCons (c2 oIx (cVar 9) (cK (.int 0))) (cCons (cK (.ty "bool")) (cNil))))))) ρ m = .ok false m := by
  refine or_no (ne_no h9 h7 (okP_best h)) ?_
  cases b with
  | none =>
    unfold tAnd2
    rw [is_none h7]; rfl
  | some p =>
    obtain ⟨t, a⟩ := p
    have q : cB (c2 oIsNotX (cVar 7) (cK .non)) ρ m = .ok true m := by
      rw [cB_eq, c2_at (m1 := m) (m2 := m) h7 rfl rfl]; rfl
    unfold tAnd2
    rw [q, Res.bind_ok, if_pos rfl]
    refine or_no (m1 := m) (ask (cL_at (m1 := m) (cC_at (m1 := m) h9 (cC_at (m1 := m) rfl rfl)) rfl)) ?_
    rw [cB_eq, cL_at (m1 := m) (cC_at (m1 := m) (c2_at (m1 := m) (m2 := m) h9 rfl rfl) (cC_at (m1 := m) rfl rfl)) rfl]
    rfl
theorem and_yes {f g : CE} {ρ : En} {m m1 : List O} {r : Res G.D} (hf : f ρ m = .ok (.bl true) m1) (hg : g ρ m1 = r) : cAnd2 f g ρ m = r := by
  rw [cAnd2_eq, hf, Res.bind_ok]
  exact hg
section
variable {c : Cm} (hc : c.Ok) {rs : List Rw} (h : Rows rs) {u v : Int} (h0 : 0 ≤ u) (hk : c.k ≤ u) (h1 : u ≤ v) (h2 : v ≤ 1000000000000000)
include hc h h0 hk h1 h2
/-- the last comer, asked by these four things -/
theorem ask_comer {i0 i1 i2 i3 : CE} {ρ : En} {m : List O} (e0 : i0 ρ m = .ok c.D m) (e1 : i1 ρ m = .ok (sortsD rs) m) (e2 : i2 ρ m = .ok (.int u) m) (e3 : i3 ρ m = .ok (.int v) m) : cL (ar 4 (oP f_last_comer)) (cCons i0 (cCons i1 (cCons i2 (cCons i3 (cNil))))) ρ m = .ok (bestD (best c u v rs)) m :=
  cL_at (m1 := m) (cC_at (m1 := m) e0 (cC_at (m1 := m) e1 (cC_at (m1 := m) e2 (cC_at (m1 := m) e3 rfl)))) (last_comer_eq hc h h0 hk h1 h2 m)
theorem ask_due {i0 i1 i2 i3 : CE} {ρ : En} {m : List O} {L : Nat} (hL : m[L]? = some (.lst (rs.map Rw.d))) (e0 : i0 ρ m = .ok c.D m) (e1 : i1 ρ m = .ok (.ref L) m) (e2 : i2 ρ m = .ok (.int u) m) (e3 : i3 ρ m = .ok (.int v) m) : cL (ar 4 f_l_due) (cCons i0 (cCons i1 (cCons i2 (cCons i3 (cNil))))) ρ m = .ok (bestD (best c u v rs)) m :=
  cL_at (m1 := m) (cC_at (m1 := m) e0 (cC_at (m1 := m) e1 (cC_at (m1 := m) e2 (cC_at (m1 := m) e3 rfl)))) (due_eq hc h h0 hk h1 h2 hL)
end
theorem good_eq (c0 : Int) : ∃ mh, f_l_good [.int c0] [] = .ok (.bl true) mh := by
  obtain ⟨o, k0, e0⟩ := begun_ok c0
  obtain ⟨o1, ls, cs, k1, hcl, hl, e1⟩ := claims_ok k0 (m := 1) (by omega) (by omega)
  have hcl4 : Cl (.tup [.int 4, pr 3 2, pr 1 1, .int 0]) := ⟨_, _, _, _, _, _, rfl, by unfold Wt; omega, by unfold Wt; omega, by omega, by omega⟩
  obtain ⟨cl, hcl, ecl⟩ : ∃ cl, Cl cl ∧ ∀ mh, oIx (.lst (cs ++ [.tup [.int 4, pr 3 2, pr 1 1, .int 0]])) (.int 0) mh = .ok cl mh := by
    cases cs with
    | nil => exact ⟨_, hcl4, fun mh => by simp⟩
    | cons x xs => exact ⟨x, hcl x List.mem_cons_self, fun mh => by simp⟩
  obtain ⟨n, t, b, s, d, k, rfl, hw, hs, hk0, hk1⟩ := hcl
  obtain ⟨c, rfl, rfl, rfl, rfl, rfl, rfl⟩ : ∃ c : Cm, c.n = n ∧ c.t = t ∧ c.b = b ∧ c.s = s ∧ c.d = d ∧ c.k = k := ⟨⟨n, t, b, s, d, k⟩, rfl, rfl, rfl, rfl, rfl, rfl⟩
  have hc : c.Ok := ⟨hw, hs, hk0, hk1⟩
  have ecl : ∀ mh, oIx (.lst (cs ++ [.tup [.int 4, pr 3 2, pr 1 1, .int 0]])) (.int 0) mh = .ok c.D mh := ecl
  obtain ⟨o2, rs, k2, hR, e2⟩ := rows_ok k1 hc [.lst ls, .lst cs]
  have e2 : ar 2 f_l_rows [.ref 0, c.D] [o1, .lst ls, .lst cs] = .ok (.ref 3) [o2, .lst ls, .lst cs, .lst (rs.map Rw.d)] := e2
  obtain ⟨u, o3, k3, u0, u1, e3⟩ := begin_ok k2 (n := c.n) (t := c.t) (b := c.b) (s := c.s) (d := c.d) hk0 hk1 [.lst ls, .lst cs, .lst (rs.map Rw.d)]
  have e3 : ar 2 f_l_begin [.ref 0, .lst [c.D]] [o2, .lst ls, .lst cs, .lst (rs.map Rw.d)] = .ok (.int u) [o3, .lst ls, .lst cs, .lst (rs.map Rw.d)] := e3
  obtain ⟨z, o4, k4, z0, z1, e4⟩ := pull_ok k3 (m := 3) (by omega) (by omega) [.lst ls, .lst cs, .lst (rs.map Rw.d)]
  obtain ⟨x, xa, ex⟩ := pick3 (a := 9) (b := 1000) (c := 1000000000000000) z0 z1
  obtain ⟨y, o5, k5, y0, y1, e5⟩ := pull_ok k4 (m := x) (by omega) (by omega) [.lst ls, .lst cs, .lst (rs.map Rw.d)]
  obtain ⟨t', b', s', d', o6, k6, hw', hs', e6⟩ := comer_ok k5 hw hs (n := c.n) (k := c.k) [.lst ls, .lst cs, .lst (rs.map Rw.d)]
  have e6 : ar 2 f_l_comer [.ref 0, c.D] [o5, .lst ls, .lst cs, .lst (rs.map Rw.d)] = .ok (.tup [pr t' b', pr s' d']) [o6, .lst ls, .lst cs, .lst (rs.map Rw.d)] := e6
  obtain ⟨c', hc', hc'k, hc'D⟩ : ∃ c' : Cm, c'.Ok ∧ c'.k = c.k ∧ c'.D = .tup [.int c.n, pr t' b', pr s' d', .int c.k] := ⟨⟨c.n, t', b', s', d', c.k⟩, ⟨hw', hs', hk0, hk1⟩, rfl, rfl⟩
  generalize hv : (if u + y < 1000000000000000 then u + y else 1000000000000000 : Int) = v
  have v0 : u ≤ v ∧ v ≤ 1000000000000000 := by subst hv; split <;> omega
  have hRr := rows_rev hR
  have B1 : BOk (best c u v rs) := best_ok rs hR.ok none (fun p hp => by cases hp)
  have B2 : BOk (best c' u v rs) := best_ok rs hR.ok none (fun p hp => by cases hp)
  have B3 : BOk (best c u v rs.reverse) := best_ok rs.reverse hRr.ok none (fun p hp => by cases hp)
  have u00 : 0 ≤ u := by omega
  -- the heap behind the first draws
  have L5 : ∀ o : O, ([o, .lst ls, .lst cs, .lst (rs.map Rw.d)] : List O)[3]? = some (.lst (rs.map Rw.d)) := fun o => rfl
  have LR : ∀ o : O, (o :: [.lst ls, .lst cs, .lst (rs.reverse.map Rw.d)] : List O)[3]? = some (.lst (rs.reverse.map Rw.d)) := fun o => rfl
  have rv : ([o6, .lst ls, .lst cs, .lst (rs.map Rw.d)] : List O).set 3 (.lst (rs.map Rw.d).reverse) = [o6, .lst ls, .lst cs, .lst (rs.reverse.map Rw.d)] := by
    rw [List.map_reverse]; rfl
  obtain ⟨mf, eR⟩ := refused_ok k6 hRr LR hc u00 u0 u1
  refine ⟨mf, ?_⟩
  have hLr := LR o6
  have hl6 := L5 o6
  have hl5 := L5 o5
  have rvx := oReverse_at hl6
  rw [rv] at rvx
  have lo : ∀ (o : O), oListOf [.ref 3] [o, .lst ls, .lst cs, .lst (rs.map Rw.d)] = .ok (.lst (rs.map Rw.d)) [o, .lst ls, .lst cs, .lst (rs.map Rw.d)] := fun o => oListOf_v (seqOf_ref (L5 o)) (by rw [List.length_map]; have := hR.l1; omega)
  have lr : oListOf [.ref 3] [o6, .lst ls, .lst cs, .lst (rs.reverse.map Rw.d)] = .ok (.lst (rs.reverse.map Rw.d)) [o6, .lst ls, .lst cs, .lst (rs.reverse.map Rw.d)] := oListOf_v (seqOf_ref hLr) (by rw [List.length_map]; have := hRr.l1; omega)
  have lo5 := lo o5
  have ad : oAdd (.ref 2) (.lst [.tup [.int 4, pr 3 2, pr 1 1, .int 0]]) [o1, .lst ls, .lst cs] = .ok (.lst (cs ++ [.tup [.int 4, pr 3 2, pr 1 1, .int 0]])) [o1, .lst ls, .lst cs] := oAdd_rl rfl (by simp; omega)
  have s2 : (c2 oIx (c2 oAdd (cL (ar 2 f_l_claims) (cCons (cVar 1) (cCons (cK (.int 1)) (cNil)))) (cL oLst (cCons (cL oTup (cCons (cK (.int 4)) (cCons (cL oTup (cCons (cK (.int 3)) (cCons (cK (.int 2)) (cNil)))) (cCons (cL oTup (cCons (cK (.int 1)) (cCons (cK (.int 1)) (cNil)))) (cCons (cK (.int 0)) (cNil)))))) (cNil)))) (cK (.int 0))) [some (.int c0), some (.ref 0), none, none, none, none, none, none, none, none, none] [o] = .ok c.D [o1, .lst ls, .lst cs] :=
    c2_at (m1 := [o1, .lst ls, .lst cs]) (m2 := [o1, .lst ls, .lst cs]) (c2_at (m1 := [o1, .lst ls, .lst cs]) (m2 := [o1, .lst ls, .lst cs]) (cL_at (xs := [.ref 0, .int 1]) (m1 := [o]) rfl e1) (cL_at (xs := [.tup [.int 4, pr 3 2, pr 1 1, .int 0]]) (m1 := [o1, .lst ls, .lst cs]) rfl (oLst_s (by simp))) ad) rfl (ecl _)
  have pm : ∀ m, oMin2 [.int 1000000000000000, .int (u + y)] m = .ok (.int v) m := fun m => by rw [oMin2_int, hv]
  have pw : ∀ (ρ : En) m, (c2 oPow (cK (.int 10)) (cK (.int 15))) ρ m = .ok (.int 1000000000000000) m := fun ρ m => by simp
  generalize hM1 : ([o1, .lst ls, .lst cs] : List O) = M1 at *
  generalize hM2 : ([o2, .lst ls, .lst cs, .lst (rs.map Rw.d)] : List O) = M2 at *
  generalize hM3 : ([o3, .lst ls, .lst cs, .lst (rs.map Rw.d)] : List O) = M3 at *
  generalize hM4 : ([o4, .lst ls, .lst cs, .lst (rs.map Rw.d)] : List O) = M4 at *
  generalize hM5 : ([o5, .lst ls, .lst cs, .lst (rs.map Rw.d)] : List O) = M5 at *
  generalize hM6 : ([o6, .lst ls, .lst cs, .lst (rs.map Rw.d)] : List O) = M6 at *
  generalize hM7 : ([o6, .lst ls, .lst cs, .lst (rs.reverse.map Rw.d)] : List O) = M7 at *
  have s5 : (cL oMin2 (cCons (c2 oPow (cK (.int 10)) (cK (.int 15))) (cCons (c2 oAdd (cVar 4) (cL (ar 2 f_l_pull) (cCons (cVar 1) (cCons (c2 oIx (cL oLst (cCons (cK (.int 9)) (cCons (cK (.int 1000)) (cCons (c2 oPow (cK (.int 10)) (cK (.int 15))) (cNil))))) (cL (ar 2 f_l_pull) (cCons (cVar 1) (cCons (cK (.int 3)) (cNil))))) (cNil))))) (cNil)))) [some (.int c0), some (.ref 0), some c.D, some (.ref 3), some (.int u), none, none, none, none, none, none] M3 = .ok (.int v) M5 :=
    cL_at (m1 := M5) (cC_at (m1 := M3) (pw _ _) (cC_at (m1 := M5) (c2_at (x := .int u) (y := .int y) (m1 := M3) (m2 := M5) rfl (cL_at (xs := [.ref 0, .int x]) (m1 := M4) (cC_at (m1 := M3) rfl (cC_at (m1 := M4) (c2_at (x := .lst [.int 9, .int 1000, .int 1000000000000000]) (y := .int z) (m1 := M3) (m2 := M4) (cL_at (m1 := M3) (cC_at (m1 := M3) rfl (cC_at (m1 := M3) rfl (cC_at (m1 := M3) (pw _ _) rfl))) (oLst_s (by simp))) (cL_at (xs := [.ref 0, .int 3]) (m1 := M3) rfl e4) (ex _)) rfl)) e5) rfl) rfl)) (pm _)
  have s6 : (cMakeL "Sorts" 1 f_Sorts_init (cCons (cL oListOf (cCons (cVar 3) (cNil))) (cNil))) [some (.int c0), some (.ref 0), some c.D, some (.ref 3), some (.int u), some (.int v), none, none, none, none, none] M5 = .ok (sortsD rs) M5 :=
    make_at (m1 := M5) (cC_at (m1 := M5) (cL_at (m1 := M5) rfl lo5) rfl) (sorts_val hR M5)
  have s7 : (cL (ar 4 f_l_due) (cCons (cVar 2) (cCons (cVar 3) (cCons (cVar 4) (cCons (cVar 5) (cNil)))))) [some (.int c0), some (.ref 0), some c.D, some (.ref 3), some (.int u), some (.int v), some (sortsD rs), none, none, none, none] M5 = .ok (bestD (best c u v rs)) M5 := ask_due hc hR u00 u0 v0.1 v0.2 hl5 rfl rfl rfl rfl
  obtain ⟨ρ, mh, eL, rfl, q8, q9, rfl⟩ := forL_all (l := rngL 0 2) (tg := gNm 8) (b := bd_l_good_1) (rngL 0 2) (fun i ρ mh => mh = M5 ∧ ∃ q8 q9, ρ = [some (.int c0), some (.ref 0), some c.D, some (.ref 3), some (.int u), some (.int v), some (sortsD rs), some (bestD (best c u v rs)), q8, q9, none])
    (ρ := [some (.int c0), some (.ref 0), some c.D, some (.ref 3), some (.int u), some (.int v), some (sortsD rs), some (bestD (best c u v rs)), none, none, none]) (mh := M5) ⟨rfl, _, _, rfl⟩ (by
    rintro i d ρ mh hd ⟨rfl, q8, q9, rfl⟩
    refine ⟨_, _, .inl ?_, rfl, some d, some (bestD (best c u v rs)), rfl⟩
    show bd_l_good_1 [some (.int c0), some (.ref 0), some c.D, some (.ref 3), some (.int u), some (.int v), some (sortsD rs), some (bestD (best c u v rs)), some d, q9, none] mh = _
    rw [bd_l_good_1_eq]
    exact seq_at (m1 := mh) (set_at (ask_comer hc hR u00 u0 v0.1 v0.2 rfl rfl rfl rfl)) (if_no (found_no B1 rfl rfl)))
  have hit : it_l_good_1 [some (.int c0), some (.ref 0), some c.D, some (.ref 3), some (.int u), some (.int v), some (sortsD rs), some (bestD (best c u v rs)), none, none, none] mh = .ok (rngL 0 2, none) mh := by
    rw [it_l_good_1_eq]
    exact iR1_at rfl rfl
  have s10 : (c2 oAdd (c2 oAdd (cL oTup (cCons (c2 oIx (cVar 2) (cK (.int 0))) (cNil))) (cL (ar 2 f_l_comer) (cCons (cVar 1) (cCons (cVar 2) (cNil))))) (cL oTup (cCons (c2 oIx (cVar 2) (cK (.int 3))) (cNil)))) [some (.int c0), some (.ref 0), some c.D, some (.ref 3), some (.int u), some (.int v), some (sortsD rs), some (bestD (best c u v rs)), q8, q9, none] mh = .ok c'.D M6 := by
    refine c2_at (x := .tup [.int c.n, pr t' b', pr s' d']) (y := .tup [.int c.k]) (m1 := M6) (m2 := M6) (c2_at (x := .tup [.int c.n]) (y := .tup [pr t' b', pr s' d']) (m1 := mh) (m2 := M6) rfl (cL_at (xs := [.ref 0, c.D]) (m1 := mh) rfl e6) ?_) rfl ?_
    · show (if [G.D.int c.n].length + [pr t' b', pr s' d'].length ≤ sizeLine then Res.ok (G.D.tup ([.int c.n] ++ [pr t' b', pr s' d'])) M6 else .stuck) = _
      rw [if_pos (sl_1000 (by simp))]; rfl
    · show (if [G.D.int c.n, pr t' b', pr s' d'].length + [G.D.int c.k].length ≤ sizeLine then Res.ok (G.D.tup ([.int c.n, pr t' b', pr s' d'] ++ [.int c.k])) M6 else .stuck) = _
      rw [if_pos (sl_1000 (by simp)), hc'D]; rfl
  have i11 : cB (c2 oNe (cL (ar 4 (oP f_last_comer)) (cCons (cVar 10) (cCons (cVar 6) (cCons (cVar 4) (cCons (cVar 5) (cNil)))))) (cL (ar 4 f_l_due) (cCons (cVar 10) (cCons (cVar 3) (cCons (cVar 4) (cCons (cVar 5) (cNil))))))) [some (.int c0), some (.ref 0), some c.D, some (.ref 3), some (.int u), some (.int v), some (sortsD rs), some (bestD (best c u v rs)), q8, q9, some c'.D] M6 = .ok false M6 :=
    ne_no (ask_comer hc' hR u00 (by omega) v0.1 v0.2 rfl rfl rfl rfl) (ask_due hc' hR u00 (by omega) v0.1 v0.2 hl6 rfl rfl rfl rfl) (okP_best B2)
  have s12 : sDrop (cM oReverse (cVar 3) cNil) [some (.int c0), some (.ref 0), some c.D, some (.ref 3), some (.int u), some (.int v), some (sortsD rs), some (bestD (best c u v rs)), q8, q9, some c'.D] M6 = .nx [some (.int c0), some (.ref 0), some c.D, some (.ref 3), some (.int u), some (.int v), some (sortsD rs), some (bestD (best c u v rs)), q8, q9, some c'.D] M7 :=
    drop_at (by rw [cM_at (n := 3) (m1 := M6) (ds := rs.map Rw.d) rfl hl6]; exact rvx)
  have mk : (cMakeL "Sorts" 1 f_Sorts_init (cCons (cL oListOf (cCons (cVar 3) (cNil))) (cNil))) [some (.int c0), some (.ref 0), some c.D, some (.ref 3), some (.int u), some (.int v), some (sortsD rs), some (bestD (best c u v rs)), q8, q9, some c'.D] M7 = .ok (sortsD rs.reverse) M7 :=
    make_at (m1 := M7) (cC_at (m1 := M7) (cL_at (m1 := M7) rfl lr) rfl) (sorts_val hRr M7)
  have i13 : cB (c2 oNe (cL (ar 4 (oP f_last_comer)) (cCons (cVar 2) (cCons (cMakeL "Sorts" 1 f_Sorts_init (cCons (cL oListOf (cCons (cVar 3) (cNil))) (cNil))) (cCons (cVar 4) (cCons (cVar 5) (cNil)))))) (cL (ar 4 f_l_due) (cCons (cVar 2) (cCons (cVar 3) (cCons (cVar 4) (cCons (cVar 5) (cNil))))))) [some (.int c0), some (.ref 0), some c.D, some (.ref 3), some (.int u), some (.int v), some (sortsD rs), some (bestD (best c u v rs)), q8, q9, some c'.D] M7 = .ok false M7 :=
    ne_no (ask_comer hc hRr u00 u0 v0.1 v0.2 rfl mk rfl rfl) (ask_due hc hRr u00 u0 v0.1 v0.2 hLr rfl rfl rfl rfl) (okP_best B3)
  have fin : (cAnd2 (c2 oEq (cL (ar 4 (oP f_last_comer)) (cCons (cVar 2) (cCons (cVar 6) (cCons (cVar 4) (cCons (cVar 5) (cNil)))))) (cVar 7)) (cL (ar 4 f_l_refused) (cCons (cVar 1) (cCons (cVar 2) (cCons (cVar 3) (cCons (cVar 4) (cNil))))))) [some (.int c0), some (.ref 0), some c.D, some (.ref 3), some (.int u), some (.int v), some (sortsD rs), some (bestD (best c u v rs)), q8, q9, some c'.D] M7 = .ok (.bl true) mf :=
    and_yes (m1 := M7) (c2_at (m1 := M7) (m2 := M7) (ask_comer hc hR u00 u0 v0.1 v0.2 rfl rfl rfl rfl) rfl (oEq_self (okP_best B1))) (cL_at (xs := [.ref 0, c.D, .ref 3, .int u]) (m1 := M7) rfl eR)
  unfold f_l_good
  refine defn_rt ?_
  show b_l_good [some (.int c0), none, none, none, none, none, none, none, none, none, none] [] = _
  unfold b_l_good
  refine seq_at (set_at (cL_at (xs := [.int c0]) (m1 := []) rfl e0)) ?_
  refine seq_at (set_at s2) ?_
  refine seq_at (set_at (cL_at (xs := [.ref 0, c.D]) (m1 := M1) rfl e2)) ?_
  refine seq_at (set_at (cL_at (xs := [.ref 0, .lst [c.D]]) (m1 := M2) (cC_at (m1 := M2) rfl (cC_at (m1 := M2) (cL_at (m1 := M2) rfl (oLst_s (by simp))) rfl)) e3)) ?_
  refine seq_at (set_at s5) ?_
  refine seq_at (set_at s6) ?_
  refine seq_at (set_at s7) ?_
  refine seq_at (for_at hit eL) ?_
  refine seq_at (set_at s10) ?_
  refine seq_at (if_no i11) ?_
  refine seq_at s12 ?_
  refine seq_at (if_no i13) ?_
  exact ret_at fin
theorem turn {ns : List Int} (hn : ns.length ≤ 63) {k : Int} (hk : 0 ≤ k) (hk2 : k ≤ 25) (mh : List O) :
    bd_law_1 [some (.lst (ns.map G.D.int)), some (.int k)] mh = .nx [some (.lst (ns.map G.D.int)), some (.int k)] mh := by
  have c1 := fun mh => call_eq (n := 2) (mh := mh) (fn := f_l_cell) (ds := [.lst (ns.map G.D.int), .int k]) rfl (by simp) (fun mh => cell_eq hn hk mh (by omega))
  generalize (if k < ns.length then ns.getD k.toNat 0 else 7919 * k + 13) = cl at c1
  obtain ⟨m', hg⟩ := good_eq cl
  have c2 := fun mh => call_bl (n := 1) (mh := mh) hg (by simp)
  rw [bd_law_1_eq]
  simp [c1, c2]
theorem holds (ns : List Int) (hn : ns.length ≤ 63) : ∃ mh, f_law [.lst (ns.map G.D.int)] [] = .ok (.bl true) mh := by
  obtain ⟨m, hm, hr⟩ : ∃ m : Nat, m ≤ 10 ∧ ∀ (o1 : Option G.D) (mh : List O), it_law_1 [some (.lst (ns.map G.D.int)), o1] mh = .ok (rngL 0 m, none) mh := by
    generalize hj : (if (if (8 : Int) < (ns.length : Nat) then (8 : Int) else (ns.length : Nat)) > 2 then (if (8 : Int) < (ns.length : Nat) then (8 : Int) else (ns.length : Nat)) else 2) = j
    have hj2 : 0 ≤ j ∧ j ≤ 10 := by subst hj; split <;> split <;> omega
    refine ⟨j.toNat, by omega, fun o1 mh => ?_⟩
    have rg : ∀ mh, oRng1 [.int j] mh = .ok (rngL 0 j.toNat, none) mh := fun mh => oRng1_ok (by omega) (by omega)
    rw [it_law_1_eq]
    simp only [gt_iff_lt] at hj
    simp [hj, rg]
  obtain ⟨ρ, mh, e, rfl, o1, rfl⟩ := forL_all (l := rngL 0 m) (tg := gNm 1) (b := bd_law_1) (rngL 0 m) (fun _ ρ mh => mh = [] ∧ ∃ o1, ρ = [some (.lst (ns.map G.D.int)), o1]) (ρ := [some (.lst (ns.map G.D.int)), none]) (mh := []) ⟨rfl, _, rfl⟩ (by
    rintro i d ρ mh hd ⟨rfl, o1, rfl⟩
    obtain ⟨hi, rfl⟩ := rngL_get hd
    exact ⟨_, _, .inl (by simpa using turn hn (k := 0 + (i : Nat)) (by omega) (by omega) []), rfl, _, rfl⟩)
  refine ⟨[], ?_⟩
  unfold f_law defn b_law
  simp [hr, e]
end K53

open PySem PySem.W PyProof.Rows
set_option maxRecDepth 100000 in
set_option maxHeartbeats 0 in
theorem PySem.Challenge.cw_greywait_k53_last_comer_of_all_sorts_holds : PySem.Challenge.rw_greywait_k53_last_comer_of_all_sorts.Holds := by
  w_on; o_law; k_head; (case hw => w_witness2)
  k_fill
  refine G.walk (l := PySem.Challenge.rw_greywait_k53_last_comer_of_all_sorts) (k := 10) (x := "_law_script") (f := K53.f_law) rfl rfl ⟨rfl, by decide, by decide⟩ (fun w h Y => PySem.W.kIn_of Y) K53.holds ?L ?F
  case L =>
    intro w
    refine' _root_.G.lamOk_00 ?z1 ?z2
    (case z1 => k_is)
    (case z2 => k_is)
  case F =>
    intro w mg fa h LO KX G hmg
    refine' K53.all_mk LO KX G hmg ?zc_Sorts ?cg_Sorts ?ch_Sorts ?co_Sorts ?cs_Sorts ?cm_Sorts ?ck_Sorts ?fo_Sorts_by_name ?zc_Sort ?cg_Sort ?ch_Sort ?co_Sort ?cs_Sort ?cm_Sort ?ck_Sort ?fo_Sort_name ?fo_Sort_span ?fo_Sort_speed ?fo_Sort_tries ?fo_Sort_weight ?a1 ?l1 ?c1 ?k1 ?a2 ?l2 ?c2 ?k2 ?a3 ?l3 ?c3 ?k3 ?a4 ?l4 ?c4 ?k4 ?a5 ?l5 ?c5 ?k5 ?a6 ?l6 ?c6 ?k6 ?a7 ?l7 ?c7 ?k7 ?a8 ?l8 ?c8 ?k8 ?a9 ?l9 ?c9 ?k9 ?a10 ?l10 ?c10 ?k10 ?a11 ?l11 ?c11 ?k11 ?a12 ?l12 ?c12 ?k12 ?fm_Sorts_rows_told ?l13 ?c13 ?k13 ?j13 ?a14 ?l14 ?c14 ?k14 ?a15 ?l15 ?c15 ?k15 ?a16 ?l16 ?c16 ?k16 ?a17 ?l17 ?c17 ?k17 ?a18 ?l18 ?c18 ?k18 ?a19 ?l19 ?c19 ?k19 ?a20 ?l20 ?c20 ?k20 ?a21 ?l21 ?c21 ?k21 ?a22 ?l22 ?c22 ?k22 ?a23 ?l23 ?c23 ?k23 ?a24 ?l24 ?c24 ?k24 ?a25 ?l25 ?c25 ?k25 ?fm_Sort_init ?l26 ?c26 ?k26 ?j26 ?fm_Sorts_init ?l27 ?c27 ?k27 ?j27 ?a28 ?l28 ?c28 ?k28 ?a29 ?l29 ?c29 ?k29 ?a30 ?l30 ?c30 ?k30 ?a31 ?l31 ?c31 ?k31 ?z_ValueError ?z_abs ?z_all ?z_bool ?z_int ?z_isinstance ?z_len ?z_list ?z_max ?z_min ?z_range ?z_str ?z_tuple ?z_ALL_BOTTOMS ?z_FAR ?z_LETTERS ?z_MOST_BOTTOM ?z_MOST_SORTS ?z_MOST_SPAN ?z_MOST_TOP ?z_MOST_TRIES ?zc_NoTurn ?zc_WaitError ?zc_NoSorts ?iC_NoTurn ?li_NoTurn ?ci_NoTurn ?ki_NoTurn ?tI_NoTurn ?T_NoTurn ?q0_NoSorts ?k0_NoSorts ?s0_NoSorts ?t0_NoSorts ?ib_WaitError ?fo_NoTurn ?ex_NoTurn ?ex_WaitError ?xf_NoTurn ?is_NoTurn_NoTurn ?is_NoTurn_ValueError ?is_WaitError_NoTurn ?is_WaitError_ValueError ?em_WaitError_NoTurn ?em_WaitError_WaitError
    (case zc_Sorts => k_is)
    (case cg_Sorts => k_is)
    (case ch_Sorts => k_is)
    (case co_Sorts => k_is)
    (case cs_Sorts => k_is)
    (case cm_Sorts => k_is)
    (case ck_Sorts => k_is)
    (case fo_Sorts_by_name => k_is)
    (case zc_Sort => k_is)
    (case cg_Sort => k_is)
    (case ch_Sort => k_is)
    (case co_Sort => k_is)
    (case cs_Sort => k_is)
    (case cm_Sort => k_is)
    (case ck_Sort => k_is)
    (case fo_Sort_name => k_is)
    (case fo_Sort_span => k_is)
    (case fo_Sort_speed => k_is)
    (case fo_Sort_tries => k_is)
    (case fo_Sort_weight => k_is)
    (case a1 => k_is)
    (case l1 => k_is)
    (case c1 => k_is)
    (case k1 => k_is)
    (case a2 => k_is)
    (case l2 => k_is)
    (case c2 => k_is)
    (case k2 => k_is)
    (case a3 => k_is)
    (case l3 => k_is)
    (case c3 => k_is)
    (case k3 => k_is)
    (case a4 => k_is)
    (case l4 => k_is)
    (case c4 => k_is)
    (case k4 => k_is)
    (case a5 => k_is)
    (case l5 => k_is)
    (case c5 => k_is)
    (case k5 => k_is)
    (case a6 => k_is)
    (case l6 => k_is)
    (case c6 => k_is)
    (case k6 => k_is)
    (case a7 => k_is)
    (case l7 => k_is)
    (case c7 => k_is)
    (case k7 => k_is)
    (case a8 => k_is)
    (case l8 => k_is)
    (case c8 => k_is)
    (case k8 => k_is)
    (case a9 => k_is)
    (case l9 => k_is)
    (case c9 => k_is)
    (case k9 => k_is)
    (case a10 => k_is)
    (case l10 => k_is)
    (case c10 => k_is)
    (case k10 => k_is)
    (case a11 => k_is)
    (case l11 => k_is)
    (case c11 => k_is)
    (case k11 => k_is)
    (case a12 => k_is)
    (case l12 => k_is)
    (case c12 => k_is)
    (case k12 => k_is)
    (case fm_Sorts_rows_told => k_is)
    (case l13 => k_is)
    (case c13 => k_is)
    (case k13 => k_is)
    (case j13 => k_is)
    (case a14 => k_is)
    (case l14 => k_is)
    (case c14 => k_is)
    (case k14 => k_is)
    (case a15 => k_is)
    (case l15 => k_is)
    (case c15 => k_is)
    (case k15 => k_is)
    (case a16 => k_is)
    (case l16 => k_is)
    (case c16 => k_is)
    (case k16 => k_is)
    (case a17 => k_is)
    (case l17 => k_is)
    (case c17 => k_is)
    (case k17 => k_is)
    (case a18 => k_is)
    (case l18 => k_is)
    (case c18 => k_is)
    (case k18 => k_is)
    (case a19 => k_is)
    (case l19 => k_is)
    (case c19 => k_is)
    (case k19 => k_is)
    (case a20 => k_is)
    (case l20 => k_is)
    (case c20 => k_is)
    (case k20 => k_is)
    (case a21 => k_is)
    (case l21 => k_is)
    (case c21 => k_is)
    (case k21 => k_is)
    (case a22 => k_is)
    (case l22 => k_is)
    (case c22 => k_is)
    (case k22 => k_is)
    (case a23 => k_is)
    (case l23 => k_is)
    (case c23 => k_is)
    (case k23 => k_is)
    (case a24 => k_is)
    (case l24 => k_is)
    (case c24 => k_is)
    (case k24 => k_is)
    (case a25 => k_is)
    (case l25 => k_is)
    (case c25 => k_is)
    (case k25 => k_is)
    (case fm_Sort_init => k_is)
    (case l26 => k_is)
    (case c26 => k_is)
    (case k26 => k_is)
    (case j26 => k_is)
    (case fm_Sorts_init => k_is)
    (case l27 => k_is)
    (case c27 => k_is)
    (case k27 => k_is)
    (case j27 => k_is)
    (case a28 => k_is)
    (case l28 => k_is)
    (case c28 => k_is)
    (case k28 => k_is)
    (case a29 => k_is)
    (case l29 => k_is)
    (case c29 => k_is)
    (case k29 => k_is)
    (case a30 => k_is)
    (case l30 => k_is)
    (case c30 => k_is)
    (case k30 => k_is)
    (case a31 => k_is)
    (case l31 => k_is)
    (case c31 => k_is)
    (case k31 => k_is)
    (case z_ValueError => k_is)
    (case z_abs => k_is)
    (case z_all => k_is)
    (case z_bool => k_is)
    (case z_int => k_is)
    (case z_isinstance => k_is)
    (case z_len => k_is)
    (case z_list => k_is)
    (case z_max => k_is)
    (case z_min => k_is)
    (case z_range => k_is)
    (case z_str => k_is)
    (case z_tuple => k_is)
    (case z_ALL_BOTTOMS => k_is)
    (case z_FAR => k_is)
    (case z_LETTERS => k_is)
    (case z_MOST_BOTTOM => k_is)
    (case z_MOST_SORTS => k_is)
    (case z_MOST_SPAN => k_is)
    (case z_MOST_TOP => k_is)
    (case z_MOST_TRIES => k_is)
    (case zc_NoTurn => k_is)
    (case zc_WaitError => k_is)
    (case zc_NoSorts => k_is)
    (case iC_NoTurn => k_is)
    (case li_NoTurn => k_is)
    (case ci_NoTurn => k_is)
    (case ki_NoTurn => k_is)
    (case tI_NoTurn => k_is)
    (case T_NoTurn => refine' _root_.G.oexC_mk ?x1 ?x2 ?x3 ?x4 ?x5 ?x6; (case x1 => k_is); (case x2 => rfl); (case x3 => k_is); (case x4 => k_is); (case x5 => k_is); (case x6 => k_is))
    (case q0_NoSorts => k_exc)
    (case k0_NoSorts => k_is)
    (case s0_NoSorts => k_is)
    (case t0_NoSorts => k_is)
    (case ib_WaitError => refine' ⟨?x1, ?x2, ?x3, ?x4⟩; (case x1 => k_is); (case x2 => k_is); (case x3 => k_is); (case x4 => k_is))
    (case fo_NoTurn => k_is)
    (case ex_NoTurn => refine' ⟨?x1, ?x2, ?x3, ?x4, ?x5, ?x6, ?x7, ?x8⟩; (case x1 => k_is); (case x2 => k_is); (case x3 => k_is); (case x4 => k_is); (case x5 => k_is); (case x6 => k_is); (case x7 => k_is); (case x8 => k_is))
    (case ex_WaitError => refine' ⟨?x1, ?x2, ?x3, ?x4, ?x5, ?x6, ?x7, ?x8⟩; (case x1 => k_is); (case x2 => k_is); (case x3 => k_is); (case x4 => k_is); (case x5 => k_is); (case x6 => k_is); (case x7 => k_is); (case x8 => k_is))
    (case xf_NoTurn => refine' ⟨?x1, ?x2, ?x3, ?x4⟩; (case x1 => k_is); (case x2 => k_is); (case x3 => k_is); (case x4 => k_is))
    (case is_NoTurn_NoTurn => exact _root_.G.kit_self)
    (case is_NoTurn_ValueError => refine' _root_.G.kit_typ ?x1; (case x1 => k_is))
    (case is_WaitError_NoTurn => refine' _root_.G.kit_own ?x1 ?x2 ?x3 ?x4; (case x1 => k_is); (case x2 => k_is); (case x3 => k_is); (case x4 => rfl))
    (case is_WaitError_ValueError => refine' _root_.G.kit_typ ?x1; (case x1 => k_is))
    (case em_WaitError_NoTurn => refine' PySem.W.exm_ref ?x1 ?x2 ?x3 ?x4; (case x1 => k_is); (case x2 => k_is); (case x3 => k_is); (case x4 => k_is))
    (case em_WaitError_WaitError => refine' PySem.W.exm_ref ?x1 ?x2 ?x3 ?x4; (case x1 => k_is); (case x2 => k_is); (case x3 => k_is); (case x4 => k_is))
