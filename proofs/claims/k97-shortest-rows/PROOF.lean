import PyProof.Rows.All
import Wide.All
import OpenK.AllK
import Wide.FinOn
import HandS.ForMost
import KE.KDictKeyed
import HandS.Defaults
import HandS.IsInst
import HandS.StrMore
import HandS.TupLe
import KE.KDictDisplayH
import HandS.More
import KE.KSortedM
import HandS.HeadHook2
import HandS.Wide
import KE.KStateDown
import HandS.Exc
import HandS.WordsExc
import HandS.Head0
import HandS.Head1
import HandS.Head2
import HandS.HeadEnd
import HandS.HeadHook1
import PySem.Challenge.RW_keeldeep_k97_shortest_whole_rows
set_option Elab.async false
set_option linter.all false
set_option maxRecDepth 100000
set_option maxHeartbeats 4000000
/-! The D layer: plain values over the hand layer. Core: values, worlds, steps. -/
namespace Dl
open PySem PySem.Spec PyProof.Rows L2

inductive D where
  | non | bl (b : Bool) | int (i : Int) | str (x : Str) | tup (l : List D) | lst (l : List D)
  | ty (n : String) | ins (c : Nat) (l : List D) | dk (ks : List Key) (l : List D) | dn (ks : List NestedKey) (l : List D) | pool

/-- the state of the law's own draws -/
structure Pool where
  gs : List Int
  ss : List Int
  t : Int

/-- a world: the tracked heap, what in it never changes again, where the pool stands, what it holds -/
structure Wd where
  H : Hp
  W : Hp
  pa : Option (Addr × Addr)
  ps : Option Pool
  sf : Option Addr := none

/-- the program's classes by number: where the class stands, its fields in order -/
structure Cl where
  ad : Nat → Addr
  fl : Nat → List Str

section
variable (K : PySem.W.Frag) (cl : Cl)
mutual
def Rep (w : Wd) : D → V → Prop
  | .non, v => v = .non
  | .bl b, v => v = .bl b
  | .int i, v => v = .int i
  | .str x, v => v = .str x
  | .tup l, v => ∃ a vs, v = .ref a ∧ SqT K w.W a vs ∧ Reps w l vs
  | .lst l, v => ∃ a vs, v = .ref a ∧ SqL K w.W a vs ∧ Reps w l vs
  | .ins c l, v => ∃ a dx vs, v = .ref a ∧ w.W a = some (.ins (cl.ad c) dx ((cl.fl c).zip vs)) ∧ vs.length = (cl.fl c).length ∧ Reps w l vs
  | .ty n, v => v = .ty n
  | .pool, v => ∃ a g, v = .ref a ∧ w.pa = some (a, g)
  | .dk _ _, _ => False
  | .dn _ _, _ => False
def Reps (w : Wd) : List D → List V → Prop
  | [], vs => vs = []
  | d :: ds, vs => ∃ v vs', vs = v :: vs' ∧ Rep w d v ∧ Reps w ds vs'
end
end

def inP (pa : Option (Addr × Addr)) (b : Addr) : Prop := ∃ a g, pa = some (a, g) ∧ (b = a ∨ b = g)

/-- the pool's three objects -/
def PoolAt (w : Wd) (a g : Addr) (p : Pool) : Prop := ∃ s : Addr, w.H a = some (.lst [.ref g, .ref s, .int p.t]) ∧ w.H g = some (.lst (p.gs.map .int)) ∧ w.H s = some (.lst (p.ss.map .int)) ∧
  w.W s = w.H s ∧ w.W a = none ∧ w.W g = none ∧ a ≠ g

structure WOk (w : Wd) : Prop where
  sub : ∀ b o, w.W b = some o → w.H b = some o
  no : w.pa = none → w.ps = none
  pool : ∀ a g, w.pa = some (a, g) → ∃ p, w.ps = some p ∧ PoolAt w a g p

/-- what stood never changes: weak growth -/
structure Wm (w w' : Wd) : Prop where
  w_ : ∀ b o, w.W b = some o → w'.W b = some o
  pa : ∀ x, w.pa = some x → w'.pa = some x
  sf : w'.sf = w.sf
theorem Wm.refl (w : Wd) : Wm w w := ⟨fun _ _ h => h, fun _ h => h, rfl⟩
theorem Wm.trans {a b c : Wd} (x : Wm a b) (y : Wm b c) : Wm a c := ⟨fun p o h => y.w_ p o (x.w_ p o h), fun p h => y.pa p (x.pa p h), y.sf.trans x.sf⟩

/-- a step that leaves what is tracked as it is, but for the pool -/
structure Le (w w' : Wd) : Prop where
  h : ∀ b o, w.H b = some o → ¬ inP w.pa b → w'.H b = some o
  w_ : ∀ b, w.H b ≠ none → w'.W b = w.W b
  pa : ∀ x, w.pa = some x → w'.pa = some x
  fr : ∀ b, w.H b ≠ none → inP w'.pa b → inP w.pa b
  dom : ∀ b, w.H b ≠ none → w'.H b ≠ none
  sf : w'.sf = w.sf
  ok : WOk w'
theorem Le.refl {w : Wd} (o : WOk w) : Le w w := ⟨fun _ _ h _ => h, fun _ _ => rfl, fun _ h => h, fun _ _ h => h, fun _ h => h, rfl, o⟩
theorem Le.trans {a b c : Wd} (x : Le a b) (y : Le b c) : Le a c :=
  ⟨fun p o h n => y.h p o (x.h p o h n) fun z => n (x.fr p (by rw [h]; exact fun e => nomatch e) z),
   fun p h => (y.w_ p (x.dom p h)).trans (x.w_ p h), fun p h => y.pa p (x.pa p h), fun p h z => x.fr p h (y.fr p (x.dom p h) z), fun p h => y.dom p (x.dom p h), y.sf.trans x.sf, y.ok⟩
theorem Le.wm {w w' : Wd} (l : Le w w') (o : WOk w) : Wm w w' :=
  ⟨fun b ob h => by rw [l.w_ b (by rw [o.sub b ob h]; exact fun e => nomatch e)]; exact h, l.pa, l.sf⟩

section
variable {K : PySem.W.Frag} {cl : Cl} {w w' : Wd}
theorem sqT_mono {H H' : Hp} {a : Addr} {xs : List V} (e : ∀ b o, H b = some o → H' b = some o) (h : SqT K H a xs) : SqT K H' a xs := by
  rcases h with (h | ⟨o, h⟩) | h
  · exact .inl (.inl (e _ _ h))
  · exact .inl (.inr ⟨o, e _ _ h⟩)
  · exact .inr h
theorem sqL_mono {H H' : Hp} {a : Addr} {xs : List V} (e : ∀ b o, H b = some o → H' b = some o) (h : SqL K H a xs) : SqL K H' a xs := by
  rcases h with (h | ⟨o, h⟩) | h
  · exact .inl (.inl (e _ _ h))
  · exact .inl (.inr ⟨o, e _ _ h⟩)
  · exact .inr h
mutual
theorem Rep.mono2 (h1 : ∀ b o, w.W b = some o → w'.W b = some o) (h2 : ∀ x, w.pa = some x → w'.pa = some x) : ∀ (d : D) (v : V), Rep K cl w d v → Rep K cl w' d v
  | .non, _, h => h
  | .bl _, _, h => h
  | .int _, _, h => h
  | .str _, _, h => h
  | .ty _, _, h => h
  | .tup l, v, h => by
    obtain ⟨a, vs, e, s, r⟩ := h
    exact ⟨a, vs, e, sqT_mono h1 s, Reps.mono2 h1 h2 l vs r⟩
  | .lst l, v, h => by
    obtain ⟨a, vs, e, s, r⟩ := h
    exact ⟨a, vs, e, sqL_mono h1 s, Reps.mono2 h1 h2 l vs r⟩
  | .ins c l, v, h => by
    obtain ⟨a, dx, vs, e, s, n, r⟩ := h
    exact ⟨a, dx, vs, e, h1 _ _ s, n, Reps.mono2 h1 h2 l vs r⟩
  | .pool, v, h => by
    obtain ⟨a, g, e, p⟩ := h
    exact ⟨a, g, e, h2 _ p⟩
  | .dk _ _, _, h => h.elim
  | .dn _ _, _, h => h.elim
theorem Reps.mono2 (h1 : ∀ b o, w.W b = some o → w'.W b = some o) (h2 : ∀ x, w.pa = some x → w'.pa = some x) : ∀ (ds : List D) (vs : List V), Reps K cl w ds vs → Reps K cl w' ds vs
  | [], _, h => h
  | d :: ds, vs, h => by
    obtain ⟨v, vs', e, r, t⟩ := h
    exact ⟨v, vs', e, Rep.mono2 h1 h2 d v r, Reps.mono2 h1 h2 ds vs' t⟩
end
theorem Rep.mono (m : Wm w w') (d : D) (v : V) (h : Rep K cl w d v) : Rep K cl w' d v := Rep.mono2 m.w_ m.pa d v h
theorem Reps.mono (m : Wm w w') (ds : List D) (vs : List V) (h : Reps K cl w ds vs) : Reps K cl w' ds vs := Reps.mono2 m.w_ m.pa ds vs h
theorem Reps.length : ∀ {ds : List D} {vs : List V}, Reps K cl w ds vs → ds.length = vs.length
  | [], _, h => by rw [show _ = [] from h]; rfl
  | _ :: _, _, h => by
    obtain ⟨v, vs', e, _, t⟩ := h
    rw [e, List.length_cons, List.length_cons, Reps.length t]
theorem Reps.get : ∀ {ds : List D} {vs : List V} {i : Nat} {d : D}, Reps K cl w ds vs → ds[i]? = some d → ∃ v, vs[i]? = some v ∧ Rep K cl w d v
  | [], _, i, d, h, e => by cases i <;> cases e
  | d0 :: ds, vs, i, d, h, e => by
    obtain ⟨v, vs', ev, r, t⟩ := h
    subst ev
    cases i with
    | zero => cases e; exact ⟨v, rfl, r⟩
    | succ i =>
      obtain ⟨u, e1, r1⟩ := Reps.get (i := i) (d := d) t e
      exact ⟨u, e1, r1⟩
theorem Reps.getV : ∀ {ds : List D} {vs : List V} {i : Nat} {v : V}, Reps K cl w ds vs → vs[i]? = some v → ∃ d, ds[i]? = some d ∧ Rep K cl w d v
  | [], _, i, v, h, e => by rw [show _ = [] from h] at e; cases i <;> cases e
  | d0 :: ds, vs, i, v, h, e => by
    obtain ⟨v0, vs', ev, r, t⟩ := h
    subst ev
    cases i with
    | zero => cases e; exact ⟨d0, rfl, r⟩
    | succ i =>
      obtain ⟨u, e1, r1⟩ := Reps.getV (i := i) (v := v) t e
      exact ⟨u, e1, r1⟩
theorem Reps.append : ∀ {ds : List D} {vs : List V} {ds' : List D} {vs' : List V}, Reps K cl w ds vs → Reps K cl w ds' vs' → Reps K cl w (ds ++ ds') (vs ++ vs')
  | [], _, _, _, h, h' => by rw [show _ = [] from h]; exact h'
  | d :: ds, _, _, _, h, h' => by
    obtain ⟨v, vs', e, r, t⟩ := h
    subst e
    exact ⟨v, _, rfl, r, Reps.append t h'⟩
theorem Reps.one {d : D} {v : V} (h : Rep K cl w d v) : Reps K cl w [d] [v] := ⟨v, [], rfl, h, rfl⟩
theorem Reps.ints : ∀ {ns : List Int} {vs : List V}, Reps K cl w (ns.map .int) vs → vs = ns.map .int
  | [], _, h => h
  | n :: ns, _, h => by
    obtain ⟨v, vs', e, r, t⟩ := h
    rw [e, show v = .int n from r, Reps.ints t]
    rfl
theorem Reps.of_ints : ∀ {ns : List Int}, Reps K cl w (ns.map .int) (ns.map .int)
  | [] => rfl
  | n :: ns => ⟨_, _, rfl, rfl, Reps.of_ints⟩
theorem Reps.bls : ∀ {ns : List Bool} {vs : List V}, Reps K cl w (ns.map .bl) vs → vs = ns.map .bl
  | [], _, h => h
  | n :: ns, _, h => by
    obtain ⟨v, vs', e, r, t⟩ := h
    rw [e, show v = .bl n from r, Reps.bls t]
    rfl
theorem Reps.drop : ∀ {ds : List D} {vs : List V} (n : Nat), Reps K cl w ds vs → Reps K cl w (ds.drop n) (vs.drop n)
  | _, _, 0, h => h
  | [], _, n + 1, h => by rw [show _ = [] from h]; rfl
  | d :: ds, _, n + 1, h => by
    obtain ⟨v, vs', e, r, t⟩ := h
    subst e
    exact Reps.drop n t
theorem Reps.take : ∀ {ds : List D} {vs : List V} (n : Nat), Reps K cl w ds vs → Reps K cl w (ds.take n) (vs.take n)
  | _, _, 0, h => rfl
  | [], _, n + 1, h => by rw [show _ = [] from h]; rfl
  | d :: ds, _, n + 1, h => by
    obtain ⟨v, vs', e, r, t⟩ := h
    subst e
    exact ⟨v, _, rfl, r, Reps.take n t⟩
end

/-! ### keys -/
mutual
def key1 : D → Option NestedKey
  | .int i => some (.num i)
  | .str x => some (.text x)
  | .non => some .none
  | .tup l => match keyL l with
    | some ks => some (.tup ks)
    | none => none
  | _ => none
def keyL : List D → Option (List NestedKey)
  | [] => some []
  | d :: ds => match key1 d with
    | some k => match keyL ds with
      | some ks => some (k :: ks)
      | none => none
    | none => none
end
/-- the key of a tuple -/
def keyOf (d : D) : Option NestedKey := match d with
  | .tup l => match keyL l with
    | some ks => if NestedKey.depth (.tup ks) ≤ 8 then some (.tup ks) else none
    | none => none
  | _ => none
def skey : D → Option Key
  | .int i => some (.inl i)
  | .str x => some (.inr x)
  | _ => none

/-! ### containers that a slot owns, or that were just read -/
/-- what the layer's words stand over -/
structure Gm where
  P : Program
  W : World
  K : PySem.W.Frag
  cl : Cl
/-- the entries of a dict with nested keys: key, the key's tuple, value -/
def NEnt (P : Program) (W : World) (xs : List (NestedKey × Addr × Value)) (a : Addr) (h : Heap) : Prop := (a == sysModules) = false ∧ ∃ o es ep, h.get? a = some o ∧ o.ExactDict ∧ o.data = .dict es ep ∧ es.toList = xs.map (entryOfKey (nestedKind P W)) ∧ (xs.map (·.1)).Nodup

section
variable (G : Gm)
/-- the container at a -/
def OwnAt (w : Wd) (a : Addr) : D → Prop
  | .lst l => ∃ vs, w.H a = some (.lst vs) ∧ Reps G.K G.cl w l vs
  | .dk ks l => ∃ kvs : List (Key × V), w.H a = some (.dK kvs) ∧ kvs.map (·.1) = ks ∧ Reps G.K G.cl w l (kvs.map (·.2)) ∧ ks.Nodup
  | .dn ks l => ∃ (xs : List (NestedKey × Addr × Value)) (vs : List V), w.H a = some (.ext (NEnt G.P G.W xs a)) ∧ xs.map (·.1) = ks ∧ (∀ x ∈ xs, ∃ d, keyOf d = some x.1 ∧ Rep G.K G.cl w d (.ref x.2.1)) ∧
      Vals vs (xs.map (·.2.2)) ∧ Reps G.K G.cl w l vs
  | .ins c l => w.sf = some a ∧ ∃ dx vs, w.H a = some (.ins (G.cl.ad c) dx (((G.cl.fl c).take l.length).zip vs)) ∧ l.length ≤ (G.cl.fl c).length ∧ Reps G.K G.cl w l vs
  | _ => False
structure Own (w : Wd) (a : Addr) (d : D) : Prop where
  w_ : w.W a = none
  np : ¬ inP w.pa a
  at_ : OwnAt G w a d
/-- a value as it may be looked at: lasting, or a container that a slot owns -/
def RepR (w : Wd) (d : D) (v : V) : Prop := Rep G.K G.cl w d v ∨ ∃ a, v = .ref a ∧ Own G w a d
def Rp (b : Bool) (w : Wd) (d : D) (v : V) : Prop := match b with
  | true => Rep G.K G.cl w d v
  | false => RepR G w d v
end
section
variable {G : Gm} {w w' : Wd}
theorem OwnAt.some {a : Addr} {d : D} (h : OwnAt G w a d) : ∃ o, w.H a = some o := by
  cases d with
  | lst l => obtain ⟨vs, e, _⟩ := h; exact ⟨_, e⟩
  | dk ks l => obtain ⟨vs, e, _⟩ := h; exact ⟨_, e⟩
  | dn ks l => obtain ⟨xs, vs, e, _⟩ := h; exact ⟨_, e⟩
  | ins c l => obtain ⟨_, dx, vs, e, _⟩ := h; exact ⟨_, e⟩
  | _ => exact h.elim
/-- it stays where its object stays and nothing lasting goes -/
theorem OwnAt.keep {a : Addr} {d : D} (h : OwnAt G w a d) (e : w'.H a = w.H a) (m : Wm w w') : OwnAt G w' a d := by
  cases d with
  | lst l => obtain ⟨vs, q, r⟩ := h; exact ⟨vs, e.trans q, Reps.mono m _ _ r⟩
  | dk ks l => obtain ⟨kvs, q, q2, r, n⟩ := h; exact ⟨kvs, e.trans q, q2, Reps.mono m _ _ r, n⟩
  | dn ks l =>
    obtain ⟨xs, vs, q, q2, q3, q4, r⟩ := h
    exact ⟨xs, vs, e.trans q, q2, fun x hx => let ⟨d, e1, r1⟩ := q3 x hx; ⟨d, e1, Rep.mono m _ _ r1⟩, q4, Reps.mono m _ _ r⟩
  | ins c l => obtain ⟨z, dx, vs, q, q2, r⟩ := h; exact ⟨m.sf.trans z, dx, vs, e.trans q, q2, Reps.mono m _ _ r⟩
  | _ => exact h.elim
theorem Own.le {a : Addr} {d : D} (h : Own G w a d) (l : Le w w') (o : WOk w) : Own G w' a d := by
  obtain ⟨ob, e⟩ := h.at_.some
  have ne : w.H a ≠ none := by rw [e]; exact fun q => nomatch q
  exact ⟨(l.w_ a ne).trans h.w_, fun z => h.np (l.fr a ne z), h.at_.keep ((l.h a ob e h.np).trans e.symm) (l.wm o)⟩
theorem RepR.le {d : D} {v : V} (h : RepR G w d v) (l : Le w w') (o : WOk w) : RepR G w' d v := by
  rcases h with h | ⟨a, e, h⟩
  · exact .inl (Rep.mono (l.wm o) _ _ h)
  · exact .inr ⟨a, e, h.le l o⟩
theorem Rp.le {b : Bool} {d : D} {v : V} (h : Rp G b w d v) (l : Le w w') (o : WOk w) : Rp G b w' d v := by
  cases b with
  | true => exact Rep.mono (l.wm o) d v h
  | false => exact RepR.le h l o
theorem Rp.of {b : Bool} {d : D} {v : V} (h : Rep G.K G.cl w d v) : Rp G b w d v := by
  cases b with
  | true => exact h
  | false => exact .inl h
theorem Rp.weak {b : Bool} {d : D} {v : V} (h : Rp G b w d v) : RepR G w d v := by
  cases b with
  | true => exact .inl h
  | false => exact h
end

/-! ### slots -/
inductive Cell where
  | val (d : D) | own (d : D)
abbrev Rho := List (Option Cell)

/-- the slots in the world w; w0: the world at the def's entry -/
structure SInv (G : Gm) (w0 : Wd) (ρ : Rho) (σ : L2.St) (w : Wd) : Prop where
  le : Le w0 w
  val : ∀ (i : Nat) (d : D), ρ[i]? = some (some (.val d)) → ∃ v, σ[i]? = some (some v) ∧ Rep G.K G.cl w d v
  own : ∀ (i : Nat) (d : D), ρ[i]? = some (some (.own d)) → ∃ a, σ[i]? = some (some (.ref a)) ∧ w0.H a = none ∧ Own G w a d
  sep : ∀ (i j : Nat) (d d' : D) (a : Addr), ρ[i]? = some (some (.own d)) → ρ[j]? = some (some (.own d')) → σ[i]? = some (some (.ref a)) → σ[j]? = some (some (.ref a)) → i = j
  len : ρ.length = σ.length
section
variable {G : Gm} {w0 w w' : Wd} {ρ : Rho} {σ : L2.St}
theorem SInv.ok (S : SInv G w0 ρ σ w) : WOk w := S.le.ok
theorem SInv.step (S : SInv G w0 ρ σ w) (l : Le w w') : SInv G w0 ρ σ w' :=
  ⟨S.le.trans l, fun i d e => let ⟨v, e1, r⟩ := S.val i d e; ⟨v, e1, Rep.mono (l.wm S.ok) _ _ r⟩, fun i d e => let ⟨a, e1, e2, r⟩ := S.own i d e; ⟨a, e1, e2, r.le l S.ok⟩, S.sep, S.len⟩
theorem get_set_ne {α : Type} {l : List α} {i j : Nat} {x : α} (h : i ≠ j) : (l.set i x)[j]? = l[j]? := List.getElem?_set_ne h
theorem get_set_same {α : Type} {l : List α} {i : Nat} {x y : α} (h : (l.set i x)[i]? = some y) : y = x ∧ i < l.length := by
  by_cases hi : i < l.length
  · rw [List.getElem?_set_self hi] at h
    exact ⟨(Option.some.inj h).symm, hi⟩
  · rw [List.getElem?_eq_none_iff.mpr (by rw [List.length_set]; omega)] at h
    cases h
/-- a name is stored -/
theorem SInv.set {i : Nat} {d : D} {v : V} (S : SInv G w0 ρ σ w) (r : Rep G.K G.cl w d v) : SInv G w0 (ρ.set i (some (.val d))) (σ.set i (some v)) w := by
  refine ⟨S.le, fun j d' e => ?_, fun j d' e => ?_, fun j k d1 d2 a e1 e2 f1 f2 => ?_, by rw [List.length_set, List.length_set, S.len]⟩
  · by_cases h : i = j
    · subst h
      obtain ⟨q, hi⟩ := get_set_same e
      cases q
      exact ⟨v, List.getElem?_set_self (by rw [← S.len]; exact hi), r⟩
    · rw [get_set_ne h] at e ⊢
      exact S.val j d' e
  · by_cases h : i = j
    · subst h
      obtain ⟨q, _⟩ := get_set_same e
      cases q
    · rw [get_set_ne h] at e ⊢
      exact S.own j d' e
  · by_cases h : i = j
    · subst h
      obtain ⟨q, _⟩ := get_set_same e1
      cases q
    · by_cases h' : i = k
      · subst h'
        obtain ⟨q, _⟩ := get_set_same e2
        cases q
      · rw [get_set_ne h] at e1 f1
        rw [get_set_ne h'] at e2 f2
        exact S.sep j k d1 d2 a e1 e2 f1 f2
/-- a name is stored that owns a new container -/
theorem SInv.setOwn {i : Nat} {d : D} {a : Addr} (S : SInv G w0 ρ σ w) (h0 : w0.H a = none) (o : Own G w a d) (hn : ∀ (j : Nat) (d' : D), ρ[j]? = some (some (.own d')) → σ[j]? ≠ some (some (.ref a))) :
    SInv G w0 (ρ.set i (some (.own d))) (σ.set i (some (.ref a))) w := by
  refine ⟨S.le, fun j d' e => ?_, fun j d' e => ?_, fun j k d1 d2 b e1 e2 f1 f2 => ?_, by rw [List.length_set, List.length_set, S.len]⟩
  · by_cases h : i = j
    · subst h
      obtain ⟨q, hi⟩ := get_set_same e
      cases q
    · rw [get_set_ne h] at e ⊢
      exact S.val j d' e
  · by_cases h : i = j
    · subst h
      obtain ⟨q, hi⟩ := get_set_same e
      cases q
      exact ⟨a, List.getElem?_set_self (by rw [← S.len]; exact hi), h0, o⟩
    · rw [get_set_ne h] at e ⊢
      exact S.own j d' e
  · by_cases h : i = j
    · subst h
      obtain ⟨q, hi⟩ := get_set_same e1
      by_cases h' : i = k
      · exact h'
      · rw [get_set_ne h'] at e2 f2
        obtain ⟨q2, _⟩ := get_set_same f1
        cases q2
        exact absurd f2 (hn k d2 e2)
    · by_cases h' : i = k
      · subst h'
        rw [get_set_ne h] at e1 f1
        obtain ⟨q2, _⟩ := get_set_same f2
        cases q2
        exact absurd f1 (hn j d1 e1)
      · rw [get_set_ne h] at e1 f1
        rw [get_set_ne h'] at e2 f2
        exact S.sep j k d1 d2 b e1 e2 f1 f2
/-- an owned container is changed: the heap at a, all else as it was -/
theorem SInv.change {i : Nat} {d d' : D} {a : Addr} {o : HO} (S : SInv G w0 ρ σ w) (e : ρ[i]? = some (some (.own d))) (ea : σ[i]? = some (some (.ref a)))
    (o' : OwnAt G { w with H := upd w.H a o } a d') : SInv G w0 (ρ.set i (some (.own d'))) σ { w with H := upd w.H a o } := by
  obtain ⟨a', ea', h0, ow⟩ := S.own i d e
  rw [ea] at ea'
  cases ea'
  have m : Wm w { w with H := upd w.H a o } := ⟨fun _ _ h => h, fun _ h => h, rfl⟩
  have nW : ∀ b ob, w.W b = some ob → b ≠ a := fun b ob h z => by rw [z, ow.w_] at h; cases h
  have ok : WOk { w with H := upd w.H a o } := by
    refine ⟨fun b ob h => ?_, S.ok.no, fun p g h => ?_⟩
    · show upd w.H a o b = some ob
      rw [upd_ne (nW b ob h)]
      exact S.ok.sub b ob h
    · obtain ⟨q, e1, s, h1, h2, h3, h4, h5, h6, h7⟩ := S.ok.pool p g h
      have np1 : p ≠ a := fun z => ow.np ⟨p, g, h, .inl z.symm⟩
      have np2 : g ≠ a := fun z => ow.np ⟨p, g, h, .inr z.symm⟩
      have np3 : s ≠ a := fun z => by rw [z, ow.w_] at h4; rw [← z] at h4; rw [← h4] at h3; cases h3
      refine ⟨q, e1, s, ?_, ?_, ?_, ?_, h5, h6, h7⟩
      · show upd w.H a o p = _
        rw [upd_ne np1]; exact h1
      · show upd w.H a o g = _
        rw [upd_ne np2]; exact h2
      · show upd w.H a o s = _
        rw [upd_ne np3]; exact h3
      · show w.W s = upd w.H a o s
        rw [upd_ne np3]; exact h4
  have hd : ∀ b, w0.H b ≠ none → b ≠ a := fun b h z => h (z ▸ h0)
  refine ⟨⟨fun b ob h n => ?_, S.le.w_, S.le.pa, S.le.fr, fun b h => ?_, S.le.sf, ok⟩, fun j dj ej => ?_, fun j dj ej => ?_, fun j k d1 d2 b e1 e2 f1 f2 => ?_, by rw [List.length_set, S.len]⟩
  · show upd w.H a o b = some ob
    rw [upd_ne (hd b (by rw [h]; exact fun q => nomatch q))]
    exact S.le.h b ob h n
  · show upd w.H a o b ≠ none
    rw [upd_ne (hd b h)]
    exact S.le.dom b h
  · by_cases hj : i = j
    · subst hj
      obtain ⟨q, _⟩ := get_set_same ej
      cases q
    · rw [get_set_ne hj] at ej
      obtain ⟨v, f, r⟩ := S.val j dj ej
      exact ⟨v, f, Rep.mono m _ _ r⟩
  · by_cases hj : i = j
    · subst hj
      obtain ⟨q, _⟩ := get_set_same ej
      cases q
      exact ⟨a, ea, h0, ow.w_, ow.np, o'⟩
    · rw [get_set_ne hj] at ej
      obtain ⟨b, f, h0b, ob⟩ := S.own j dj ej
      have hb : b ≠ a := fun z => hj (S.sep i j d dj a e ej ea (z ▸ f))
      exact ⟨b, f, h0b, ob.w_, ob.np, ob.at_.keep (upd_ne hb) m⟩
  · have back : ∀ (n : Nat) (dn : D), (ρ.set i (some (Cell.own d')))[n]? = some (some (.own dn)) → ∃ dm, ρ[n]? = some (some (.own dm)) := fun n dn en => by
      by_cases hn : i = n
      · subst hn; exact ⟨d, e⟩
      · rw [get_set_ne hn] at en; exact ⟨dn, en⟩
    obtain ⟨m1, g1⟩ := back j d1 e1
    obtain ⟨m2, g2⟩ := back k d2 e2
    exact S.sep j k m1 m2 b g1 g2 f1 f2
/-- an owned list becomes lasting -/
def frz (i : Nat) (ρ : Rho) : Rho := match ρ[i]? with
  | some (some (.own (.lst l))) => ρ.set i (some (.val (.lst l)))
  | _ => ρ
theorem SInv.freeze (i : Nat) (S : SInv G w0 ρ σ w) : ∃ w', w'.H = w.H ∧ w'.ps = w.ps ∧ Wm w w' ∧ SInv G w0 (frz i ρ) σ w' := by
  unfold frz
  split
  case h_2 => exact ⟨w, rfl, rfl, .refl w, S⟩
  case h_1 l e =>
  obtain ⟨a, ea, h0, ow⟩ := S.own i _ e
  obtain ⟨vs, hv, r⟩ := id ow.at_
  have m : Wm w { w with W := upd w.W a (.lst vs) } := ⟨fun b ob h => by
    show upd w.W a _ b = _
    rw [upd_ne (fun z => by rw [z, ow.w_] at h; cases h)]
    exact h, fun _ h => h, rfl⟩
  refine ⟨{ w with W := upd w.W a (.lst vs) }, rfl, rfl, m, ?_⟩
  have ok : WOk { w with W := upd w.W a (.lst vs) } := by
    refine ⟨fun b ob h => ?_, S.ok.no, fun p g h => ?_⟩
    · have h : upd w.W a (.lst vs) b = some ob := h
      by_cases hb : b = a
      · subst hb; rw [upd_same] at h; cases h; exact hv
      · rw [upd_ne hb] at h; exact S.ok.sub b ob h
    · obtain ⟨q, e1, s, h1, h2, h3, h4, h5, h6, h7⟩ := S.ok.pool p g h
      have np1 : p ≠ a := fun z => ow.np ⟨p, g, h, .inl z.symm⟩
      have np2 : g ≠ a := fun z => ow.np ⟨p, g, h, .inr z.symm⟩
      have np3 : s ≠ a := fun z => by rw [z, ow.w_] at h4; rw [← z] at h4; rw [← h4] at h3; cases h3
      refine ⟨q, e1, s, h1, h2, h3, ?_, ?_, ?_, h7⟩
      · show upd w.W a _ s = _
        rw [upd_ne np3]; exact h4
      · show upd w.W a _ p = _
        rw [upd_ne np1]; exact h5
      · show upd w.W a _ g = _
        rw [upd_ne np2]; exact h6
  refine ⟨⟨S.le.h, fun b h => ?_, S.le.pa, S.le.fr, S.le.dom, S.le.sf, ok⟩, fun j dj ej => ?_, fun j dj ej => ?_, fun j k d1 d2 b e1 e2 f1 f2 => ?_, by rw [List.length_set, S.len]⟩
  · show upd w.W a _ b = _
    rw [upd_ne (fun z => h (by rw [z]; exact h0))]
    exact S.le.w_ b h
  · by_cases hj : i = j
    · subst hj
      obtain ⟨q, _⟩ := get_set_same ej
      cases q
      exact ⟨_, ea, a, vs, rfl, .inl (.inl upd_same), Reps.mono m _ _ r⟩
    · rw [get_set_ne hj] at ej
      obtain ⟨v, f, r⟩ := S.val j dj ej
      exact ⟨v, f, Rep.mono m _ _ r⟩
  · by_cases hj : i = j
    · subst hj
      obtain ⟨q, _⟩ := get_set_same ej
      cases q
    · rw [get_set_ne hj] at ej
      obtain ⟨b, f, h0b, ob⟩ := S.own j dj ej
      have hb : b ≠ a := fun z => hj (S.sep i j _ dj a e ej ea (z ▸ f))
      refine ⟨b, f, h0b, ?_, ob.np, ob.at_.keep rfl m⟩
      show upd w.W a _ b = none
      rw [upd_ne hb]
      exact ob.w_
  · have back : ∀ (n : Nat) (dn : D), (ρ.set i (some (Cell.val (.lst l))))[n]? = some (some (.own dn)) → ρ[n]? = some (some (.own dn)) := fun n dn en => by
      by_cases hn : i = n
      · subst hn
        obtain ⟨q, _⟩ := get_set_same en
        cases q
      · rw [get_set_ne hn] at en; exact en
    exact S.sep j k d1 d2 b (back j d1 e1) (back k d2 e2) f1 f2
end

/-! ### denotations -/
abbrev M (α : Type) := Option Pool → Option (α × Option Pool)
abbrev FE := Rho → M D
abbrev FT := Rho → M Bool
abbrev FA := Rho → M (List D)
inductive Out where
  | nx (ρ : Rho) | rt (d : D) | bk (ρ : Rho) | ct (ρ : Rho)
abbrev FS := Rho → M Out

section
variable (G : Gm)
def tD (b : Bool) (f : FE) : TE := fun σ H Q => ∃ w0 ρ w d ps', w.H = H ∧ SInv G w0 ρ σ w ∧ f ρ w.ps = some (d, ps') ∧ ∀ v w', Le w w' → w'.ps = ps' → Rp G b w' d v → Q v w'.H
def tDT (f : FT) : TT := fun σ H Q => ∃ w0 ρ w b ps', w.H = H ∧ SInv G w0 ρ σ w ∧ f ρ w.ps = some (b, ps') ∧ ∀ w', Le w w' → w'.ps = ps' → Q b w'.H
/-- the values of a list, each so -/
def Rps (b : Bool) (w : Wd) : List D → List V → Prop
  | [], vs => vs = []
  | d :: ds, vs => ∃ v vs', vs = v :: vs' ∧ Rp G b w d v ∧ Rps b w ds vs'
def tDA (b : Bool) (f : FA) : TA := fun σ H Q => ∃ w0 ρ w ds ps', w.H = H ∧ SInv G w0 ρ σ w ∧ f ρ w.ps = some (ds, ps') ∧ ∀ vs w', Le w w' → w'.ps = ps' → Rps G b w' ds vs → Q vs w'.H
/-- what follows an end -/
def Fin (D : Ends) (w0 w : Wd) (o : Out) (ps' : Option Pool) : Prop := match o with
  | .nx ρ' => ∀ σ' w', SInv G w0 ρ' σ' w' → Wm w w' → w'.ps = ps' → D.nx σ' w'.H
  | .rt d => ∀ v w', Le w0 w' → Wm w w' → w'.ps = ps' → Rep G.K G.cl w' d v → D.rt v w'.H
  | .bk ρ' => ∀ σ' w', SInv G w0 ρ' σ' w' → Wm w w' → w'.ps = ps' → D.bk σ' w'.H
  | .ct ρ' => ∀ σ' w', SInv G w0 ρ' σ' w' → Wm w w' → w'.ps = ps' → D.ct σ' w'.H
def tS (f : FS) : TS := fun D σ H => ∃ w0 ρ w o ps', w.H = H ∧ SInv G w0 ρ σ w ∧ f ρ w.ps = some (o, ps') ∧ Fin G D w0 w o ps'
end
def gx (X : Cx) (cl : Cl) : Gm := ⟨X.prog, X.w, X.K, cl⟩
def PD (X : Cx) (cl : Cl) (b : Bool) (e : Expr) (f : FE) : Prop := PE X e (tD (gx X cl) b f)
def TD (X : Cx) (cl : Cl) (e : Expr) (f : FT) : Prop := PT X e (tDT (gx X cl) f)
def WD (X : Cx) (cl : Cl) (e : Expr) (f : FT) : Prop := PW X e (tDT (gx X cl) f)
def AD (X : Cx) (cl : Cl) (b : Bool) (es : List Expr) (f : FA) : Prop := PA X es (tDA (gx X cl) b f)
def SD (X : Cx) (cl : Cl) (st : Stmt) (f : FS) : Prop := PS X st (tS (gx X cl) f)
def SsD (X : Cx) (cl : Cl) (st : List Stmt) (f : FS) : Prop := PSs X st (tS (gx X cl) f)

section
variable {G : Gm} {w0 w w' : Wd} {b : Bool}
theorem Rps.le : ∀ {ds : List D} {vs : List V}, Rps G b w ds vs → Le w w' → WOk w → Rps G b w' ds vs
  | [], _, h, _, _ => h
  | d :: ds, _, h, l, o => by
    obtain ⟨v, vs', e, r, t⟩ := h
    exact ⟨v, vs', e, r.le l o, Rps.le t l o⟩
theorem Rps.reps : ∀ {ds : List D} {vs : List V}, Rps G true w ds vs → Reps G.K G.cl w ds vs
  | [], _, h => h
  | d :: ds, _, h => by
    obtain ⟨v, vs', e, r, t⟩ := h
    exact ⟨v, vs', e, r, Rps.reps t⟩
theorem Fin.wm {D : Ends} {o : Out} {ps' : Option Pool} (h : Fin G D w0 w o ps') (m : Wm w w') : Fin G D w0 w' o ps' := by
  cases o with
  | nx ρ => exact fun σ w2 S m2 e => h σ w2 S (m.trans m2) e
  | rt d => exact fun v w2 l m2 e r => h v w2 l (m.trans m2) e r
  | bk ρ => exact fun σ w2 S m2 e => h σ w2 S (m.trans m2) e
  | ct ρ => exact fun σ w2 S m2 e => h σ w2 S (m.trans m2) e
end
section
variable {X : Cx} {e : Expr} {es : List Expr} {st : Stmt} {sts : List Stmt}
theorem pe_mono {t t' : TE} (h : PE X e t) (m : ∀ σ H Q, t' σ H Q → t σ H Q) : PE X e t' := ⟨fun pins s σ H Q I q => h.run pins s σ H Q I (m _ _ _ q)⟩
theorem pt_mono {t t' : TT} (h : PT X e t) (m : ∀ σ H Q, t' σ H Q → t σ H Q) : PT X e t' := ⟨fun pins s σ H Q I q => h.run pins s σ H Q I (m _ _ _ q)⟩
theorem pw_mono {t t' : TT} (h : PW X e t) (m : ∀ σ H Q, t' σ H Q → t σ H Q) : PW X e t' := ⟨fun wh pins s σ H Q I q => h.run wh pins s σ H Q I (m _ _ _ q)⟩
theorem pa_mono {t t' : TA} (h : PA X es t) (m : ∀ σ H Q, t' σ H Q → t σ H Q) : PA X es t' := ⟨fun pos pins s σ H Q I q => h.run pos pins s σ H Q I (m _ _ _ q)⟩
theorem ps_mono {t t' : TS} (h : PS X st t) (m : ∀ D σ H, t' D σ H → t D σ H) : PS X st t' := ⟨fun pins s σ H D I q => h.run pins s σ H D I (m _ _ _ q)⟩
theorem pss_mono {t t' : TS} (h : PSs X sts t) (m : ∀ D σ H, t' D σ H → t D σ H) : PSs X sts t' := ⟨fun pins s σ H D I q => h.run pins s σ H D I (m _ _ _ q)⟩
end
end Dl

/-! The D layer: rules for expressions, tests, arguments, statements. -/
namespace Dl
open PySem PySem.Spec PyProof.Rows L2

/-! ### the monad -/
def ret {α : Type} (a : α) : M α := fun p => some (a, p)
def bd {α β : Type} (m : M α) (k : α → M β) : M β := fun p => match m p with
  | some (a, p') => k a p'
  | none => none
def lft {α : Type} (o : Option α) : M α := fun p => match o with
  | some a => some (a, p)
  | none => none
theorem bd_some {α β : Type} {m : M α} {k : α → M β} {p : Option Pool} {r : β × Option Pool} (h : bd m k p = some r) : ∃ a p', m p = some (a, p') ∧ k a p' = some r := by
  unfold bd at h
  split at h
  · exact ⟨_, _, by assumption, h⟩
  · cases h
theorem lft_some {α : Type} {o : Option α} {p : Option Pool} {r : α × Option Pool} (h : lft o p = some r) : o = some r.1 ∧ p = r.2 := by
  unfold lft at h
  split at h
  · cases h; exact ⟨rfl, rfl⟩
  · cases h
theorem ret_some {α : Type} {a : α} {p : Option Pool} {r : α × Option Pool} (h : ret a p = some r) : r = (a, p) := (Option.some.inj h).symm

/-! ### new objects -/
def Wd.add (w : Wd) (p : Addr) (o : HO) : Wd := { w with H := upd w.H p o, W := upd w.W p o }
def Wd.addH (w : Wd) (p : Addr) (o : HO) : Wd := { w with H := upd w.H p o }
section
variable {w : Wd} {p : Addr} {o : HO}
theorem WOk.none (ok : WOk w) (h : w.H p = none) : w.W p = none := by
  cases q : w.W p with
  | none => rfl
  | some u => rw [ok.sub p u q] at h; cases h
theorem PoolAt.grow {w w' : Wd} {a g : Addr} {q : Pool} (h : PoolAt w a g q) (hp : w.H p = none) (e : ∀ b, b ≠ p → w'.H b = w.H b) (e' : ∀ b, b ≠ p → w'.W b = w.W b) : PoolAt w' a g q := by
  obtain ⟨s, h1, h2, h3, h4, h5, h6, h7⟩ := h
  have n1 : a ≠ p := fun z => by rw [z, hp] at h1; cases h1
  have n2 : g ≠ p := fun z => by rw [z, hp] at h2; cases h2
  have n3 : s ≠ p := fun z => by rw [z, hp] at h3; cases h3
  exact ⟨s, (e a n1).trans h1, (e g n2).trans h2, (e s n3).trans h3, by rw [e' s n3, e s n3]; exact h4, (e' a n1).trans h5, (e' g n2).trans h6, h7⟩
theorem le_add (ok : WOk w) (hp : w.H p = none) : Le w (w.add p o) := by
  have ne : ∀ b, w.H b ≠ none → b ≠ p := fun b h z => h (z ▸ hp)
  refine ⟨fun b u h _ => ?_, fun b h => ?_, fun _ h => h, fun _ _ h => h, fun b h => ?_, rfl, ⟨fun b u h => ?_, ok.no, fun a g h => ?_⟩⟩
  · show upd w.H p o b = some u
    rw [upd_ne (ne b (by rw [h]; exact fun q => nomatch q))]; exact h
  · show upd w.W p o b = w.W b
    rw [upd_ne (ne b h)]
  · show upd w.H p o b ≠ none
    rw [upd_ne (ne b h)]; exact h
  · have h : upd w.W p o b = some u := h
    show upd w.H p o b = some u
    by_cases hb : b = p
    · subst hb; rw [upd_same] at h ⊢; exact h
    · rw [upd_ne hb] at h ⊢; exact ok.sub b u h
  · obtain ⟨q, e, pa⟩ := ok.pool a g h
    exact ⟨q, e, pa.grow hp (fun b hb => upd_ne hb) (fun b hb => upd_ne hb)⟩
theorem le_addH (ok : WOk w) (hp : w.H p = none) : Le w (w.addH p o) := by
  have ne : ∀ b, w.H b ≠ none → b ≠ p := fun b h z => h (z ▸ hp)
  refine ⟨fun b u h _ => ?_, fun b h => rfl, fun _ h => h, fun _ _ h => h, fun b h => ?_, rfl, ⟨fun b u h => ?_, ok.no, fun a g h => ?_⟩⟩
  · show upd w.H p o b = some u
    rw [upd_ne (ne b (by rw [h]; exact fun q => nomatch q))]; exact h
  · show upd w.H p o b ≠ none
    rw [upd_ne (ne b h)]; exact h
  · show upd w.H p o b = some u
    have h : w.W b = some u := h
    rw [upd_ne (fun z => by rw [z, ok.none hp] at h; cases h)]; exact ok.sub b u h
  · obtain ⟨q, e, pa⟩ := ok.pool a g h
    exact ⟨q, e, pa.grow hp (fun b hb => upd_ne hb) (fun b hb => rfl)⟩
end

section
variable {X : Cx} {cl : Cl} {b : Bool} {e e1 e2 : Expr} {es : List Expr} {pos : Pos} {fa fb : FE} {f : FE} {ft fu : FT} {fs : FA}

/-! ### names, constants -/
def dVar (i : Nat) : FE := fun ρ p => match ρ[i]? with
  | some (some (.val d)) => some (d, p)
  | _ => none
def dOwn (i : Nat) : FE := fun ρ p => match ρ[i]? with
  | some (some (.own d)) => some (d, p)
  | _ => none
def dC (d : D) : FE := fun _ p => some (d, p)
theorem pd_var {i : Nat} {x : Str} (hN : X.N[i]? = some x) (hv : Vis X.env.scope x) (hd : (x == ("__debug__" : Str)) = false := by decide) (hcd : (x == ("__classdict__" : Str)) = false := by decide) : PD X cl b (.Name x pos) (dVar i) :=
  pe_mono (pe_var hN hv hd hcd) fun σ H Q ⟨w0, ρ, w, d, ps', eH, S, ef, k⟩ => by
    unfold dVar at ef
    split at ef
    · rename_i d0 er
      cases ef
      obtain ⟨v, ev, r⟩ := S.val i _ er
      refine ⟨v, ev, ?_⟩
      rw [← eH]
      exact k v w (.refl S.ok) rfl (.of r)
    · cases ef
theorem pd_own {i : Nat} {x : Str} (hN : X.N[i]? = some x) (hv : Vis X.env.scope x) (hd : (x == ("__debug__" : Str)) = false := by decide) (hcd : (x == ("__classdict__" : Str)) = false := by decide) : PD X cl false (.Name x pos) (dOwn i) :=
  pe_mono (pe_var hN hv hd hcd) fun σ H Q ⟨w0, ρ, w, d, ps', eH, S, ef, k⟩ => by
    unfold dOwn at ef
    split at ef
    · rename_i d0 er
      cases ef
      obtain ⟨a, ev, _, r⟩ := S.own i _ er
      refine ⟨.ref a, ev, ?_⟩
      rw [← eH]
      exact k _ w (.refl S.ok) rfl (.inr ⟨a, rfl, r⟩)
    · cases ef
theorem pd_const {v : V} {d : D} (h : PE X e (tC v)) (r : ∀ w, Rep X.K cl w d v) : PD X cl b e (dC d) :=
  pe_mono h fun σ H Q ⟨w0, ρ, w, d', ps', eH, S, ef, k⟩ => by
    cases ef
    show Q v H
    rw [← eH]
    exact k v w (.refl S.ok) rfl (.of (r w))
theorem pd_int {i : Int} {j} : PD X cl b (.Constant (.int i) j pos) (dC (.int i)) := pd_const pe_int fun _ => rfl
theorem pd_bl {i : Bool} {j} : PD X cl b (.Constant (.bool i) j pos) (dC (.bl i)) := pd_const pe_bl fun _ => rfl
theorem pd_non {j} : PD X cl b (.Constant .none j pos) (dC .non) := pd_const pe_non fun _ => rfl
theorem pd_str {x : Str} {j} : PD X cl b (.Constant (.str x) j pos) (dC (.str x)) := pd_const pe_str fun _ => rfl
theorem pd_glI {x : Str} {i : Int} (hg : Gl X x) (hm : ∃ t, X.mg x = some (.int i t)) (hd : (x == ("__debug__" : Str)) = false := by decide) : PD X cl b (.Name x pos) (dC (.int i)) :=
  let ⟨t, h⟩ := hm; pd_const (pe_glob (v := .int i) hg h ⟨t, rfl⟩ hd) fun _ => rfl
theorem pd_glS {x z : Str} (hg : Gl X x) (hm : ∃ t, X.mg x = some (.str z t)) (hd : (x == ("__debug__" : Str)) = false := by decide) : PD X cl b (.Name x pos) (dC (.str z)) :=
  let ⟨t, h⟩ := hm; pd_const (pe_glob (v := .str z) hg h ⟨t, rfl⟩ hd) fun _ => rfl

/-! ### operators by values -/
def OpS (G : Gm) (r : R2) (g : D → D → Option D) : Prop := ∀ w x y dx dy z, WOk w → RepR G w dx x → RepR G w dy y → g dx dy = some z →
  ∀ Q : VK, (∀ v w', Le w w' → w'.ps = w.ps → Rep G.K G.cl w' z v → Q v w'.H) → r x y w.H Q
def UnS (G : Gm) (r : V → Hp → VK → Prop) (g : D → Option D) : Prop := ∀ w x dx z, WOk w → RepR G w dx x → g dx = some z →
  ∀ Q : VK, (∀ v w', Le w w' → w'.ps = w.ps → Rep G.K G.cl w' z v → Q v w'.H) → r x w.H Q
def CallS (G : Gm) (r : List V → Hp → VK → Prop) (g : List D → Option D) : Prop := ∀ w ds vs z, WOk w → Rps G false w ds vs → g ds = some z →
  ∀ Q : VK, (∀ v w', Le w w' → w'.ps = w.ps → Rep G.K G.cl w' z v → Q v w'.H) → r vs w.H Q
def dOp (g : D → D → Option D) (fa fb : FE) : FE := fun ρ => bd (fa ρ) fun x => bd (fb ρ) fun y => lft (g x y)
def dUn (g : D → Option D) (fa : FE) : FE := fun ρ => bd (fa ρ) fun x => lft (g x)
theorem op_red {G : Gm} {r : R2} {g : D → D → Option D} {ta tb : TE} (hs : OpS G r g) (ha : ∀ σ H Q, tD G false fa σ H Q → ta σ H Q) (hb : ∀ σ H Q, tD G false fb σ H Q → tb σ H Q) :
    ∀ σ H Q, tD G b (dOp g fa fb) σ H Q → tOp r ta tb σ H Q := fun σ H Q ⟨w0, ρ, w, z, ps', eH, S, ef, k⟩ => by
  obtain ⟨x, p1, ex, ef⟩ := bd_some ef
  obtain ⟨y, p2, ey, ef⟩ := bd_some ef
  obtain ⟨eg, ep⟩ := lft_some ef
  refine ha σ H _ ⟨w0, ρ, w, x, p1, eH, S, ex, fun vx w1 l1 q1 r1 => ?_⟩
  refine hb σ w1.H _ ⟨w0, ρ, w1, y, p2, rfl, S.step l1, by rw [q1]; exact ey, fun vy w2 l2 q2 r2 => ?_⟩
  refine hs w2 vx vy x y z l2.ok (RepR.le r1 l2 l1.ok) r2 eg Q fun v w3 l3 q3 r3 => ?_
  exact k v w3 (l1.trans (l2.trans l3)) (q3.trans (q2.trans ep)) (.of r3)
theorem pd_op {op : Operator} {r : R2} {g : D → D → Option D} (ho : OpR X (binaryOp op) r) (hs : OpS (gx X cl) r g) (ha : PD X cl false e1 fa) (hb : PD X cl false e2 fb) : PD X cl b (.BinOp e1 op e2 pos) (dOp g fa fb) :=
  pe_mono (pe_op ho ha hb) (op_red hs (fun _ _ _ h => h) fun _ _ _ h => h)
theorem pd_un {op : UnaryOp} {r : V → Hp → VK → Prop} {g : D → Option D} (ho : UnR X (unaryOp op) r) (hs : UnS (gx X cl) r g) (ha : PD X cl false e fa) : PD X cl b (.UnaryOp op e pos) (dUn g fa) :=
  pe_mono (pe_un ho ha) fun σ H Q ⟨w0, ρ, w, z, ps', eH, S, ef, k⟩ => by
    obtain ⟨x, p1, ex, ef⟩ := bd_some ef
    obtain ⟨eg, ep⟩ := lft_some ef
    refine ⟨w0, ρ, w, x, p1, eH, S, ex, fun vx w1 l1 q1 r1 => ?_⟩
    exact hs w1 vx x z l1.ok r1 eg Q fun v w3 l3 q3 r3 => k v w3 (l1.trans l3) (q3.trans (q1.trans ep)) (.of r3)
theorem pd_cmp {op : CmpOp} {r : R2} {g : D → D → Option D} (ho : OpR X (compareOp op) r) (hs : OpS (gx X cl) r g) (ha : PD X cl false e1 fa) (hb : PD X cl false e2 fb) (hm : behindInMarks op e2 = false) : PD X cl b (.Compare e1 [op] [e2] pos) (dOp g fa fb) :=
  pe_mono (pe_cmpR ho ha hb hm) (op_red hs (fun _ _ _ h => h) fun _ _ _ h => h)
/-- a truth value -/
def asB : D → Option Bool
  | .bl k => some k
  | _ => none
def dB (f : FE) : FT := fun ρ => bd (f ρ) fun x => lft (asB x)
theorem asB_some {d : D} {k : Bool} (h : asB d = some k) : d = .bl k := by
  cases d <;> first | (cases h; rfl) | cases h
theorem td_cmp {op : CmpOp} {r : R2} {g : D → D → Option D} (ho : OpR X (compareOp op) r) (hs : OpS (gx X cl) r g) (ha : PD X cl false e1 fa) (hb : PD X cl false e2 fb) (hm : behindInMarks op e2 = false) : TD X cl (.Compare e1 [op] [e2] pos) (dB (dOp g fa fb)) :=
  pt_mono (pt_cmpR ho ha hb hm) fun σ H Q ⟨w0, ρ, w, k, ps', eH, S, ef, q⟩ => by
    obtain ⟨z, p1, ez, ef⟩ := bd_some ef
    obtain ⟨ek, ep⟩ := lft_some ef
    refine op_red (b := true) hs (fun _ _ _ h => h) (fun _ _ _ h => h) σ H _ ⟨w0, ρ, w, z, p1, eH, S, ez, fun v w1 l1 q1 r1 => ?_⟩
    rw [asB_some ek] at r1
    exact ⟨k, r1, q w1 l1 (q1.trans ep)⟩
/-- an expression whose value is a truth value -/
theorem td_val (h : PD X cl true e f) (he : ∀ whole, isTrue e X.env whole = (do let v ← whole; standAt e.pos; holding [v] (truthy v)) := by intro _; rfl) : TD X cl e (dB f) :=
  pt_mono (pt_val h he) fun σ H Q ⟨w0, ρ, w, k, ps', eH, S, ef, q⟩ => by
    obtain ⟨z, p1, ez, ef⟩ := bd_some ef
    obtain ⟨ek, ep⟩ := lft_some ef
    refine ⟨w0, ρ, w, z, p1, eH, S, ez, fun v w1 l1 q1 r1 => ?_⟩
    rw [asB_some ek] at r1
    exact ⟨k, r1, q w1 l1 (q1.trans ep)⟩
/-! ### chains -/
def dChain (g g' : D → D → Option D) (fa fb fc : FE) : FE := fun ρ => bd (fa ρ) fun x => bd (fb ρ) fun y => bd (lft (g x y)) fun z => bd (lft (asB z)) fun k =>
  match k with
  | true => bd (fc ρ) fun u => lft (g' y u)
  | false => ret (.bl false)
theorem chain_red {G : Gm} {r r' : R2} {g g' : D → D → Option D} {fc : FE} {ta tb tc : TE} (hs : OpS G r g) (hs' : OpS G r' g') (ha : ∀ σ H Q, tD G false fa σ H Q → ta σ H Q) (hb : ∀ σ H Q, tD G false fb σ H Q → tb σ H Q)
    (hc : ∀ σ H Q, tD G false fc σ H Q → tc σ H Q) : ∀ σ H Q, tD G b (dChain g g' fa fb fc) σ H Q → tChain r r' ta tb tc σ H Q := fun σ H Q ⟨w0, ρ, w, z, ps', eH, S, ef, k⟩ => by
  obtain ⟨x, p1, ex, ef⟩ := bd_some ef
  obtain ⟨y, p2, ey, ef⟩ := bd_some ef
  obtain ⟨u, p3, eu, ef⟩ := bd_some ef
  obtain ⟨eg, ep⟩ := lft_some eu
  obtain ⟨t, p4, et, ef⟩ := bd_some ef
  obtain ⟨ek, ep'⟩ := lft_some et
  refine ha σ H _ ⟨w0, ρ, w, x, p1, eH, S, ex, fun vx w1 l1 q1 r1 => ?_⟩
  refine hb σ w1.H _ ⟨w0, ρ, w1, y, p2, rfl, S.step l1, by rw [q1]; exact ey, fun vy w2 l2 q2 r2 => ?_⟩
  refine hs w2 vx vy x y u l2.ok (RepR.le r1 l2 l1.ok) r2 eg _ fun v w3 l3 q3 r3 => ?_
  rw [asB_some ek] at r3
  refine ⟨t, r3, ?_⟩
  have e3 : w3.ps = p4 := q3.trans (q2.trans (ep.trans ep'))
  cases t with
  | false =>
    have := ret_some ef
    cases this
    rw [if_neg Bool.false_ne_true]
    exact k (.bl false) w3 (l1.trans (l2.trans l3)) e3 (.of rfl)
  | true =>
    rw [if_pos rfl]
    obtain ⟨u2, p5, eu2, ef⟩ := bd_some ef
    obtain ⟨eg', ep5⟩ := lft_some ef
    refine hc σ w3.H _ ⟨w0, ρ, w3, u2, p5, rfl, ((S.step l1).step l2).step l3, by rw [e3]; exact eu2, fun vu w4 l4 q4 r4 => ?_⟩
    refine hs' w4 vy vu y u2 z l4.ok (RepR.le (RepR.le r2 l3 l2.ok) l4 l3.ok) r4 eg' Q fun v w5 l5 q5 r5 => ?_
    exact k v w5 (l1.trans (l2.trans (l3.trans (l4.trans l5)))) (q5.trans (q4.trans ep5)) (.of r5)
theorem pd_chain {op op' : CmpOp} {r r' : R2} {g g' : D → D → Option D} {e3 : Expr} {fc : FE} (ho : OpR X (compareOp op) r) (hs : OpS (gx X cl) r g) (ho' : OpR X (compareOp op') r') (hs' : OpS (gx X cl) r' g')
    (ha : PD X cl false e1 fa) (hb : PD X cl false e2 fb) (hc : PD X cl false e3 fc) (hm : lastMarks [op, op'] [e2, e3] = false := by with_unfolding_all rfl) : PD X cl b (.Compare e1 [op, op'] [e2, e3] pos) (dChain g g' fa fb fc) :=
  pe_mono (pe_chain ho ho' ha hb hc hm) (chain_red hs hs' (fun _ _ _ h => h) (fun _ _ _ h => h) fun _ _ _ h => h)
theorem td_chain {op op' : CmpOp} {r r' : R2} {g g' : D → D → Option D} {e3 : Expr} {fc : FE} (ho : OpR X (compareOp op) r) (hs : OpS (gx X cl) r g) (ho' : OpR X (compareOp op') r') (hs' : OpS (gx X cl) r' g')
    (ha : PD X cl false e1 fa) (hb : PD X cl false e2 fb) (hc : PD X cl false e3 fc) (hm : lastMarks [op, op'] [e2, e3] = false := by with_unfolding_all rfl) : TD X cl (.Compare e1 [op, op'] [e2, e3] pos) (dB (dChain g g' fa fb fc)) :=
  pt_mono (pt_chain ho ho' ha hb hc hm) fun σ H Q ⟨w0, ρ, w, k, ps', eH, S, ef, q⟩ => by
    obtain ⟨z, p1, ez, ef⟩ := bd_some ef
    obtain ⟨ek, ep⟩ := lft_some ef
    refine chain_red (b := true) hs hs' (fun _ _ _ h => h) (fun _ _ _ h => h) (fun _ _ _ h => h) σ H _ ⟨w0, ρ, w, z, p1, eH, S, ez, fun v w1 l1 q1 r1 => ?_⟩
    rw [asB_some ek] at r1
    exact ⟨k, r1, q w1 l1 (q1.trans ep)⟩

/-! ### and, or, not -/
def dAnd (ft fu : FT) : FT := fun ρ => bd (ft ρ) fun k => match k with
  | true => fu ρ
  | false => ret false
def dOr (ft fu : FT) : FT := fun ρ => bd (ft ρ) fun k => match k with
  | true => ret true
  | false => fu ρ
def dNot (ft : FT) : FT := fun ρ => bd (ft ρ) fun k => ret (!k)
/-- a test as a value -/
def dV (ft : FT) : FE := fun ρ => bd (ft ρ) fun k => ret (.bl k)
variable {rest : List Expr}
theorem wd_and1 (ha : TD X cl e ft) : WD X cl (.BoolOp .And [e] pos) ft := pw_mono (pw_and1 ha) fun _ _ _ h => h
theorem wd_or1 (ha : TD X cl e ft) : WD X cl (.BoolOp .Or [e] pos) ft := pw_mono (pw_or1 ha) fun _ _ _ h => h
theorem wd_and (ha : TD X cl e ft) (hb : WD X cl (.BoolOp .And (e2 :: rest) pos) fu) : WD X cl (.BoolOp .And (e :: e2 :: rest) pos) (dAnd ft fu) :=
  pw_mono (pw_and ha hb) fun σ H Q ⟨w0, ρ, w, k, ps', eH, S, ef, q⟩ => by
    obtain ⟨t, p1, et, ef⟩ := bd_some ef
    refine ⟨w0, ρ, w, t, p1, eH, S, et, fun w1 l1 q1 => ?_⟩
    cases t with
    | true =>
      rw [if_pos rfl]
      exact ⟨w0, ρ, w1, k, ps', rfl, S.step l1, by rw [q1]; exact ef, fun w2 l2 q2 => q w2 (l1.trans l2) q2⟩
    | false =>
      cases ret_some ef
      rw [if_neg Bool.false_ne_true]
      exact q w1 l1 q1
theorem wd_or (ha : TD X cl e ft) (hb : WD X cl (.BoolOp .Or (e2 :: rest) pos) fu) : WD X cl (.BoolOp .Or (e :: e2 :: rest) pos) (dOr ft fu) :=
  pw_mono (pw_or ha hb) fun σ H Q ⟨w0, ρ, w, k, ps', eH, S, ef, q⟩ => by
    obtain ⟨t, p1, et, ef⟩ := bd_some ef
    refine ⟨w0, ρ, w, t, p1, eH, S, et, fun w1 l1 q1 => ?_⟩
    cases t with
    | true =>
      cases ret_some ef
      rw [if_pos rfl]
      exact q w1 l1 q1
    | false =>
      rw [if_neg Bool.false_ne_true]
      exact ⟨w0, ρ, w1, k, ps', rfl, S.step l1, by rw [q1]; exact ef, fun w2 l2 q2 => q w2 (l1.trans l2) q2⟩
theorem td_w (h : WD X cl e ft) : TD X cl e ft := PW.pt h
theorem td_not (ha : TD X cl e ft) : TD X cl (.UnaryOp .Not e pos) (dNot ft) :=
  pt_mono (pt_not ha) fun σ H Q ⟨w0, ρ, w, k, ps', eH, S, ef, q⟩ => by
    obtain ⟨t, p1, et, ef⟩ := bd_some ef
    cases ret_some ef
    exact ⟨w0, ρ, w, t, _, eH, S, et, fun w1 l1 q1 => q w1 l1 q1⟩
/-- .. as values, truth values all -/
theorem pd_one {op} (h : PD X cl b e f) : PD X cl b (.BoolOp op [e] pos) f := pe_one h
def dAndV (fa fb : FE) : FE := fun ρ => bd (fa ρ) fun x => bd (lft (asB x)) fun k => match k with
  | true => fb ρ
  | false => ret (.bl false)
def dOrV (fa fb : FE) : FE := fun ρ => bd (fa ρ) fun x => bd (lft (asB x)) fun k => match k with
  | true => ret (.bl true)
  | false => fb ρ
def dNotV (fa : FE) : FE := fun ρ => bd (fa ρ) fun x => bd (lft (asB x)) fun k => ret (.bl (!k))
theorem pd_and (ha : PD X cl true e fa) (hb : PD X cl b (.BoolOp .And (e2 :: rest) pos) fb) : PD X cl b (.BoolOp .And (e :: e2 :: rest) pos) (dAndV fa fb) :=
  pe_mono (pe_and ha hb) fun σ H Q ⟨w0, ρ, w, z, ps', eH, S, ef, q⟩ => by
    obtain ⟨x, p1, ex, ef⟩ := bd_some ef
    obtain ⟨t, p2, et, ef⟩ := bd_some ef
    obtain ⟨ek, ep⟩ := lft_some et
    refine ⟨w0, ρ, w, x, p1, eH, S, ex, fun v w1 l1 q1 r1 => ?_⟩
    rw [asB_some ek] at r1
    refine ⟨t, r1, ?_⟩
    have e1 : w1.ps = p2 := q1.trans ep
    cases t with
    | true =>
      rw [if_pos rfl]
      exact ⟨w0, ρ, w1, z, ps', rfl, S.step l1, by rw [e1]; exact ef, fun v w2 l2 q2 r2 => q v w2 (l1.trans l2) q2 r2⟩
    | false =>
      cases ret_some ef
      rw [if_neg Bool.false_ne_true]
      exact q _ w1 l1 e1 (.of rfl)
theorem pd_or (ha : PD X cl true e fa) (hb : PD X cl b (.BoolOp .Or (e2 :: rest) pos) fb) : PD X cl b (.BoolOp .Or (e :: e2 :: rest) pos) (dOrV fa fb) :=
  pe_mono (pe_or ha hb) fun σ H Q ⟨w0, ρ, w, z, ps', eH, S, ef, q⟩ => by
    obtain ⟨x, p1, ex, ef⟩ := bd_some ef
    obtain ⟨t, p2, et, ef⟩ := bd_some ef
    obtain ⟨ek, ep⟩ := lft_some et
    refine ⟨w0, ρ, w, x, p1, eH, S, ex, fun v w1 l1 q1 r1 => ?_⟩
    rw [asB_some ek] at r1
    refine ⟨t, r1, ?_⟩
    have e1 : w1.ps = p2 := q1.trans ep
    cases t with
    | true =>
      cases ret_some ef
      rw [if_pos rfl]
      exact q _ w1 l1 e1 (.of rfl)
    | false =>
      rw [if_neg Bool.false_ne_true]
      exact ⟨w0, ρ, w1, z, ps', rfl, S.step l1, by rw [e1]; exact ef, fun v w2 l2 q2 r2 => q v w2 (l1.trans l2) q2 r2⟩
theorem pd_not (ha : PD X cl true e fa) : PD X cl b (.UnaryOp .Not e pos) (dNotV fa) :=
  pe_mono (pe_not ha) fun σ H Q ⟨w0, ρ, w, z, ps', eH, S, ef, q⟩ => by
    obtain ⟨x, p1, ex, ef⟩ := bd_some ef
    obtain ⟨t, p2, et, ef⟩ := bd_some ef
    obtain ⟨ek, ep⟩ := lft_some et
    have e3 := ret_some ef
    cases e3
    refine ⟨w0, ρ, w, x, p1, eH, S, ex, fun v w1 l1 q1 r1 => ?_⟩
    rw [asB_some ek] at r1
    exact ⟨t, r1, q _ w1 l1 (q1.trans ep) (.of rfl)⟩
def dIf (ft : FT) (fa fb : FE) : FE := fun ρ => bd (ft ρ) fun k => match k with
  | true => fa ρ
  | false => fb ρ
theorem pd_if {c : Expr} (hc : TD X cl c ft) (ha : PD X cl b e1 fa) (hb : PD X cl b e2 fb) : PD X cl b (.IfExp c e1 e2 pos) (dIf ft fa fb) :=
  pe_mono (pe_ifExp hc ha hb) fun σ H Q ⟨w0, ρ, w, z, ps', eH, S, ef, q⟩ => by
    obtain ⟨t, p1, et, ef⟩ := bd_some ef
    refine ⟨w0, ρ, w, t, p1, eH, S, et, fun w1 l1 q1 => ?_⟩
    cases t with
    | true =>
      rw [if_pos rfl]
      exact ⟨w0, ρ, w1, z, ps', rfl, S.step l1, by rw [q1]; exact ef, fun v w2 l2 q2 r2 => q v w2 (l1.trans l2) q2 r2⟩
    | false =>
      rw [if_neg Bool.false_ne_true]
      exact ⟨w0, ρ, w1, z, ps', rfl, S.step l1, by rw [q1]; exact ef, fun v w2 l2 q2 r2 => q v w2 (l1.trans l2) q2 r2⟩

/-! ### arguments, displays -/
def dNil : FA := fun _ => ret []
def dCons (f : FE) (fs : FA) : FA := fun ρ => bd (f ρ) fun x => bd (fs ρ) fun xs => ret (x :: xs)
theorem ad_nil : AD X cl b [] dNil := pa_mono pa_nil fun σ H Q ⟨w0, ρ, w, z, ps', eH, S, ef, q⟩ => by
  cases ret_some ef
  show Q [] H
  rw [← eH]
  exact q [] w (.refl S.ok) rfl rfl
theorem ad_cons (ha : PD X cl b e f) (hr : AD X cl b es fs) (hs : starEach (e :: es) X.env = (false, eval e X.env) :: starEach es X.env := by rfl) : AD X cl b (e :: es) (dCons f fs) :=
  pa_mono (pa_cons ha hr hs) fun σ H Q ⟨w0, ρ, w, z, ps', eH, S, ef, q⟩ => by
    obtain ⟨x, p1, ex, ef⟩ := bd_some ef
    obtain ⟨xs, p2, exs, ef⟩ := bd_some ef
    cases ret_some ef
    refine ⟨w0, ρ, w, x, p1, eH, S, ex, fun v w1 l1 q1 r1 => ?_⟩
    refine ⟨w0, ρ, w1, xs, _, rfl, S.step l1, by rw [q1]; exact exs, fun vs w2 l2 q2 r2 => ?_⟩
    exact q (v :: vs) w2 (l1.trans l2) q2 ⟨v, vs, rfl, r1.le l2 l1.ok, r2⟩
def dTup (fs : FA) : FE := fun ρ => bd (fs ρ) fun xs => if xs.length ≤ 1000 then ret (.tup xs) else lft none
def dLst (fs : FA) : FE := fun ρ => bd (fs ρ) fun xs => if xs.length ≤ 1000 then ret (.lst xs) else lft none
theorem ite_ret {α : Type} {c : Prop} [Decidable c] {a : α} {p : Option Pool} {r : α × Option Pool} (h : (if c then ret a else lft none) p = some r) : c ∧ r = (a, p) := by
  by_cases hc : c
  · rw [if_pos hc] at h; exact ⟨hc, ret_some h⟩
  · rw [if_neg hc] at h; exact absurd (lft_some h).1 (fun z => nomatch z)
theorem line1000 {n : Nat} (h : n ≤ 1000) : n ≤ sizeLine := Nat.le_of_lt (small1000 h)
theorem pd_tup {x1} (h : AD X cl true es fs) : PD X cl b (.Tuple es x1 pos) (dTup fs) :=
  pe_mono (pe_tup h) fun σ H Q ⟨w0, ρ, w, z, ps', eH, S, ef, q⟩ => by
    obtain ⟨xs, p1, exs, ef⟩ := bd_some ef
    obtain ⟨hl, e⟩ := ite_ret ef
    cases e
    refine ⟨w0, ρ, w, xs, _, eH, S, exs, fun vs w1 l1 q1 r1 => ?_⟩
    have r1 := Rps.reps r1
    refine ⟨line1000 (by rw [← r1.length]; exact hl), fun p hp => ?_⟩
    have l2 : Le w1 (w1.add p (.tup vs)) := le_add l1.ok hp
    exact q (.ref p) (w1.add p (.tup vs)) (l1.trans l2) q1 (.of ⟨p, vs, rfl, .inl (.inl upd_same), Reps.mono (l2.wm l1.ok) _ _ r1⟩)
theorem pd_lst (h : AD X cl true es fs) : PD X cl b (.List es pos) (dLst fs) :=
  pe_mono (pe_lst h) fun σ H Q ⟨w0, ρ, w, z, ps', eH, S, ef, q⟩ => by
    obtain ⟨xs, p1, exs, ef⟩ := bd_some ef
    obtain ⟨hl, e⟩ := ite_ret ef
    cases e
    refine ⟨w0, ρ, w, xs, _, eH, S, exs, fun vs w1 l1 q1 r1 => ?_⟩
    have r1 := Rps.reps r1
    refine ⟨line1000 (by rw [← r1.length]; exact hl), fun p hp => ?_⟩
    have l2 : Le w1 (w1.add p (.lst vs)) := le_add l1.ok hp
    exact q (.ref p) (w1.add p (.lst vs)) (l1.trans l2) q1 (.of ⟨p, vs, rfl, .inl (.inl upd_same), Reps.mono (l2.wm l1.ok) _ _ r1⟩)

/-! ### calls of built-ins, methods, subscripts, fields -/
def dCall (g : List D → Option D) (fs : FA) : FE := fun ρ => bd (fs ρ) fun xs => lft (g xs)
theorem call_red {r : List V → Hp → VK → Prop} {g : List D → Option D} {G : Gm} {ta : TA} (hs : CallS G r g) (ha : ∀ σ H Q, tDA G false fs σ H Q → ta σ H Q) : ∀ σ H Q, tD G b (dCall g fs) σ H Q → tCB r ta σ H Q :=
  fun σ H Q ⟨w0, ρ, w, z, ps', eH, S, ef, q⟩ => by
    obtain ⟨xs, p1, exs, ef⟩ := bd_some ef
    obtain ⟨eg, ep⟩ := lft_some ef
    refine ha σ H _ ⟨w0, ρ, w, xs, p1, eH, S, exs, fun vs w1 l1 q1 r1 => ?_⟩
    exact hs w1 xs vs z l1.ok r1 eg Q fun v w2 l2 q2 r2 => q v w2 (l1.trans l2) (q2.trans (q1.trans ep)) (.of r2)
theorem pd_callB {id : String} {x : Str} {p : Pos} {r : List V → Hp → VK → Prop} {g : List D → Option D} (hc : CallR X (.builtin id) r) (hs : CallS (gx X cl) r g) (hg : Gl X x) (hm : X.mg x = none) (hv : bootBuiltins x = some (.builtin id)) (ha : AD X cl false (e :: es) fs)
    (hn : x ≠ "__name__" := by decide) (hdb : (x == ("__debug__" : Str)) = false := by decide)
    (he : starEach (e :: es) X.env = (false, eval e X.env) :: starEach es X.env := by rfl) (hpl : (backTo pos (starEach es X.env)).any (·.1) = false := by rfl) : PD X cl b (.Call (.Name x p) (e :: es) [] pos) (dCall g fs) :=
  pe_mono (pe_callB hc hg hm hv ha hn hdb he hpl) (call_red hs fun _ _ _ h => h)
theorem pd_callTy {T : String} {x : Str} {p : Pos} {r : List V → Hp → VK → Prop} {g : List D → Option D} (hc : CallR X (.type T) r) (hs : CallS (gx X cl) r g) (hg : Gl X x) (hm : X.mg x = none) (hv : bootBuiltins x = some (.type T)) (ha : AD X cl false (e :: es) fs)
    (hn : x ≠ "__name__" := by decide) (hdb : (x == ("__debug__" : Str)) = false := by decide)
    (he : starEach (e :: es) X.env = (false, eval e X.env) :: starEach es X.env := by rfl) (hpl : (backTo pos (starEach es X.env)).any (·.1) = false := by rfl) : PD X cl b (.Call (.Name x p) (e :: es) [] pos) (dCall g fs) :=
  pe_mono (pe_callTy hc hg hm hv ha hn hdb he hpl) (call_red hs fun _ _ _ h => h)
theorem pd_ix {r : R2} {g : D → D → Option D} (hr : IxR X r) (hs : OpS (gx X cl) r g) (ha : PD X cl false e1 fa) (hb : PD X cl false e2 fb) (hp : PlainIx e2) : PD X cl b (.Subscript e1 e2 pos) (dOp g fa fb) :=
  pe_mono (pe_ix hr ha hb hp) (op_red hs (fun _ _ _ h => h) fun _ _ _ h => h)
def dBm (g : D → List D → Option D) (fa : FE) (fs : FA) : FE := fun ρ => bd (fa ρ) fun o => match o with
  | .str x => bd (fs ρ) fun xs => lft (g (.str x) xs)
  | _ => lft none
/-- o.m(a), m a method of a text -/
theorem pd_bmS {name : Str} {apos cpos : Pos} {id : String} {r : V → List V → Hp → VK → Prop} {g : D → List D → Option D} (pa : PlainAttrs "str") (slot : Slot "str" name id) (hty : typeOf (.builtin id) = pure (.type "method_descriptor")) (hm : MtR X id r)
    (hs : ∀ w x z y dx, WOk w → dx = .str x → g dx z = some y → ∀ vs, Rps (gx X cl) false w z vs → ∀ Q : VK, (∀ v w', Le w w' → w'.ps = w.ps → Rep X.K cl w' y v → Q v w'.H) → r (.str x) vs w.H Q)
    (ho : PD X cl true e1 fa) (ha : AD X cl false (e :: es) fs)
    (hbase : attributeBase e1 name X.env (eval e1 X.env) = eval e1 X.env := by rfl)
    (hfew : ((backTo cpos (starEach (e :: es) X.env)).all (fun x => !x.1) && (backToKw cpos (keywordEach [] X.env)).all (fun x => x.1.isSome)
      && decide ((e :: es).length + ([] : List Keyword).length + (if ([] : List Keyword).isEmpty then 0 else 1) < 30)) = true := by rfl)
    (hline : (apos.endLine == cpos.line) = true := by rfl) (hst : starEach (e :: es) X.env = (false, eval e X.env) :: starEach es X.env := by rfl) (hplain : (backTo cpos (starEach es X.env)).any (·.1) = false := by rfl) :
    PD X cl b (.Call (.Attribute e1 name apos) (e :: es) [] cpos) (dBm g fa fs) :=
  pe_mono (pe_bm pa slot hty hm ho ha hbase hfew hline hst hplain) fun σ H Q ⟨w0, ρ, w, z, ps', eH, S, ef, q⟩ => by
    obtain ⟨o, p1, eo, ef⟩ := bd_some ef
    cases o with
    | str x =>
      obtain ⟨xs, p2, exs, ef⟩ := bd_some ef
      obtain ⟨eg, ep⟩ := lft_some ef
      refine ⟨w0, ρ, w, .str x, p1, eH, S, eo, fun v w1 l1 q1 r1 => ?_⟩
      have ev : v = .str x := r1
      subst ev
      refine ⟨rfl, w0, ρ, w1, xs, p2, rfl, S.step l1, by rw [q1]; exact exs, fun vs w2 l2 q2 r2 => ?_⟩
      exact hs w2 x xs z _ l2.ok rfl eg vs r2 Q fun v w3 l3 q3 r3 => q v w3 (l1.trans (l2.trans l3)) (q3.trans (q2.trans ep)) (.of r3)
    | _ => exact absurd (lft_some ef).1 (fun z => nomatch z)
/-- the i-th field of an instance of class c -/
def dFld (c i : Nat) (fa : FE) : FE := fun ρ => bd (fa ρ) fun o => lft (match o with
  | .ins c' l => if c' = c then l[i]? else none
  | _ => none)
theorem zip_lookup {names : List Str} : ∀ {vs : List V} {i : Nat} {f : Str} {v : V}, names.Nodup → names[i]? = some f → vs[i]? = some v → (names.zip vs).lookup f = some v := by
  induction names with
  | nil => intro vs i f v _ h; cases i <;> cases h
  | cons n ns ih =>
    intro vs i f v nd h hv
    rw [List.nodup_cons] at nd
    cases vs with
    | nil => cases i <;> cases hv
    | cons u us =>
      cases i with
      | zero =>
        have h1 : n = f := Option.some.inj h
        have h2 : u = v := Option.some.inj hv
        subst h1 h2
        show (match n == n with | true => some u | false => (ns.zip us).lookup n) = some u
        rw [beq_self_eq_true]
      | succ i =>
        have h' : ns[i]? = some f := h
        have ne : (f == n) = false := beq_eq_false_iff_ne.mpr fun z => nd.1 (z ▸ List.mem_of_getElem? h')
        show (match f == n with | true => some u | false => (ns.zip us).lookup f) = some v
        rw [ne]
        exact ih nd.2 h' hv
theorem pd_fld {f : Str} {c i : Nat} (hc : Cls X.K (cl.ad c)) (hn : NoAttr X.K (cl.ad c) f) (hnd : (cl.fl c).Nodup) (hi : (cl.fl c)[i]? = some f) (ha : PD X cl true e fa) (hb : attributeBase e f X.env (eval e X.env) = eval e X.env := by rfl) : PD X cl b (.Attribute e f pos) (dFld c i fa) :=
  pe_mono (pe_fld ha hb) fun σ H Q ⟨w0, ρ, w, z, ps', eH, S, ef, q⟩ => by
    obtain ⟨o, p1, eo, ef⟩ := bd_some ef
    obtain ⟨eg, ep⟩ := lft_some ef
    split at eg
    case h_2 => cases eg
    case h_1 c' l =>
    by_cases hcc : c' = c
    · rw [if_pos hcc] at eg
      subst hcc
      refine ⟨w0, ρ, w, _, p1, eH, S, eo, fun v w1 l1 q1 r1 => ?_⟩
      obtain ⟨a, dx, vs, ev, hW, hlen, rs⟩ := r1
      obtain ⟨u, eu, ru⟩ := rs.get eg
      exact ⟨a, _, dx, _, u, ev, l1.ok.sub _ _ hW, hc, hn, zip_lookup hnd hi eu, q u w1 l1 (q1.trans ep) (.of ru)⟩
    · rw [if_neg hcc] at eg
      cases eg
end
end Dl

/-! The D layer: defs, calls of defs, statements, loops, comprehensions. -/
namespace Dl
open PySem PySem.Spec PyProof.Rows L2

/-! ### a def's promise -/
def spD (K : PySem.W.Frag) (cl : Cl) (n : Nat) (g : List D → M D) : Sp := fun vs H Q _ => ∃ w ds d ps', w.H = H ∧ WOk w ∧ Reps K cl w ds vs ∧ ds.length = n ∧ g ds w.ps = some (d, ps') ∧
  ∀ v w', Le w w' → w'.ps = ps' → Rep K cl w' d v → Q v w'.H
theorem spD_len {K : PySem.W.Frag} {cl : Cl} {n : Nat} {g : List D → M D} : ∀ vs H Q E, spD K cl n g vs H Q E → vs.length = n := fun vs H Q E ⟨w, ds, d, ps', _, _, r, hl, _⟩ => by rw [← r.length]; exact hl
section
variable {X : Cx} {cl : Cl} {b : Bool} {e : Expr} {es : List Expr} {pos : Pos} {fs : FA}
def dFn (g : List D → M D) (fs : FA) : FE := fun ρ => bd (fs ρ) g
theorem pd_call {CX : CXT} {k n : Nat} {f : Addr} {fd : FuncData} {ps : List Str} {E : XK} {x : Str} {p : Pos} {g : List D → M D} (F : FnOk X.prog X.w X.K X.mg X.base CX k f fd ps (spD X.K cl n g)) (hl : (e :: es).length = n) (hr : Room k X.A) (hg : Gl X x) (hm : X.mg x = some (.ref f)) (hk : PySem.W.keepIn X.K (.ref f) = true)
    (hb : Binds X.K fd ps []) (hx : Passes CX X E) (ha : AD X cl true (e :: es) fs)
    (hfs : ∀ ρ p r, fs ρ p = some r → r.1.length = (e :: es).length) (hdb : (x == ("__debug__" : Str)) = false := by decide) (he : starEach (e :: es) X.env = (false, eval e X.env) :: starEach es X.env := by rfl) (hpl : (backTo pos (starEach es X.env)).any (·.1) = false := by rfl) :
    PD X cl b (.Call (.Name x p) (e :: es) [] pos) (dFn g fs) :=
  pe_mono (pe_call (E := E) F hr hg hm hk hb .nil hx ha hdb he hpl) fun σ H Q ⟨w0, ρ, w, z, ps', eH, S, ef, q⟩ => by
    obtain ⟨xs, p1, exs, ef⟩ := bd_some ef
    refine ⟨w0, ρ, w, xs, p1, eH, S, exs, fun vs w1 l1 q1 r1 => ?_⟩
    show spD X.K cl n g (vs ++ []) w1.H Q E
    rw [List.append_nil]
    refine ⟨w1, xs, z, ps', rfl, l1.ok, Rps.reps r1, (hfs _ _ _ exs).trans hl, by rw [q1]; exact ef, fun v w2 l2 q2 r2 => ?_⟩
    exact q v w2 (l1.trans l2) q2 (.of r2)
theorem dNil_len {ρ : Rho} {p : Option Pool} {r : List D × Option Pool} (h : dNil ρ p = some r) : r.1.length = 0 := by cases ret_some h; rfl
theorem dCons_len {n : Nat} {f : FE} {fs : FA} (h : ∀ ρ p r, fs ρ p = some r → r.1.length = n) : ∀ ρ p r, dCons f fs ρ p = some r → r.1.length = n + 1 := fun ρ p r e => by
  obtain ⟨x, p1, ex, e⟩ := bd_some e
  obtain ⟨xs, p2, exs, e⟩ := bd_some e
  cases ret_some e
  rw [List.length_cons, h _ _ _ exs]
end

/-! ### statements -/
def dNext : FS := fun ρ => ret (.nx ρ)
def dSeq (f g : FS) : FS := fun ρ => bd (f ρ) fun o => match o with
  | .nx ρ' => g ρ'
  | o => ret o
def dRet (f : FE) : FS := fun ρ => bd (f ρ) fun x => ret (.rt x)
def dRetN : FS := fun _ => ret (.rt .non)
def dBrk : FS := fun ρ => ret (.bk ρ)
def dCnt : FS := fun ρ => ret (.ct ρ)
def dIfS (c : FT) (f g : FS) : FS := fun ρ => bd (c ρ) fun k => match k with
  | true => f ρ
  | false => g ρ
def dNo : FS := fun _ => lft none
/-- slot i := the value -/
def dSet (i : Nat) (f : FE) : FS := fun ρ => bd (f ρ) fun x => ret (.nx (ρ.set i (some (.val x))))
/-- slot i := a new list of these -/
def dNew (i : Nat) (fs : FA) : FS := fun ρ => bd (fs ρ) fun xs => if xs.length ≤ 1000 then ret (.nx (ρ.set i (some (.own (.lst xs))))) else lft none
/-- slot i owns a list: append -/
def appC (c : Option (Option Cell)) (x : D) : Option Cell := match c with
  | some (some (.own (.lst l))) => if l.length < 100000 then some (.own (.lst (l ++ [x]))) else none
  | _ => none
def dApp (i : Nat) (f : FE) : FS := fun ρ => bd (f ρ) fun x => bd (lft (appC ρ[i]? x)) fun c => ret (.nx (ρ.set i (some c)))
theorem appC_some {c : Option (Option Cell)} {x : D} {r : Cell} (h : appC c x = some r) : ∃ l, c = some (some (.own (.lst l))) ∧ l.length < 100000 ∧ r = .own (.lst (l ++ [x])) := by
  unfold appC at h
  split at h
  · rename_i l
    by_cases hl : l.length < 100000
    · rw [if_pos hl] at h
      exact ⟨l, rfl, hl, (Option.some.inj h).symm⟩
    · rw [if_neg hl] at h
      cases h
  · cases h
def dFrz (i : Nat) (f : FS) : FS := fun ρ => f (frz i ρ)
section
variable {X : Cx} {cl : Cl} {b : Bool} {e : Expr} {es : List Expr} {pos : Pos} {fs : FA} {st : Stmt} {sts : List Stmt} {f : FE} {ft : FT} {u v : FS}
theorem ss_nil : SsD X cl [] dNext := pss_mono pss_nil fun D σ H ⟨w0, ρ, w, o, ps', eH, S, ef, q⟩ => by
  cases ret_some ef
  show D.nx σ H
  rw [← eH]
  exact q σ w S (.refl w) rfl
theorem ss_cons (h1 : SD X cl st u) (h2 : SsD X cl sts v) : SsD X cl (st :: sts) (dSeq u v) := pss_mono (pss_cons h1 h2) fun D σ H ⟨w0, ρ, w, o, ps', eH, S, ef, q⟩ => by
  obtain ⟨o1, p1, e1, ef⟩ := bd_some ef
  refine ⟨w0, ρ, w, o1, p1, eH, S, e1, ?_⟩
  cases o1 with
  | nx ρ1 => exact fun σ1 w1 S1 m1 q1 => ⟨w0, ρ1, w1, o, ps', rfl, S1, by rw [q1]; exact ef, q.wm m1⟩
  | rt d => cases ret_some ef; exact q
  | bk ρ1 => cases ret_some ef; exact q
  | ct ρ1 => cases ret_some ef; exact q
theorem ss_one (h1 : SD X cl st u) : SsD X cl [st] u := pss_mono (pss_one h1) fun _ _ _ h => h
theorem sd_ret (h : PD X cl true e f) : SD X cl (.Return (some e) pos) (dRet f) := ps_mono (ps_ret h) fun D σ H ⟨w0, ρ, w, o, ps', eH, S, ef, q⟩ => by
  obtain ⟨x, p1, ex, ef⟩ := bd_some ef
  cases ret_some ef
  exact ⟨w0, ρ, w, x, _, eH, S, ex, fun v w1 l1 q1 r1 => q v w1 (S.le.trans l1) (l1.wm S.ok) q1 r1⟩
theorem sd_retN : SD X cl (.Return none pos) dRetN := ps_mono ps_retN fun D σ H ⟨w0, ρ, w, o, ps', eH, S, ef, q⟩ => by
  cases ret_some ef
  show D.rt .non H
  rw [← eH]
  exact q .non w S.le (.refl w) rfl rfl
theorem sd_brk : SD X cl (.Break pos) dBrk := ps_mono ps_break fun D σ H ⟨w0, ρ, w, o, ps', eH, S, ef, q⟩ => by
  cases ret_some ef
  show D.bk σ H
  rw [← eH]
  exact q σ w S (.refl w) rfl
theorem sd_cnt : SD X cl (.Continue pos) dCnt := ps_mono ps_continue fun D σ H ⟨w0, ρ, w, o, ps', eH, S, ef, q⟩ => by
  cases ret_some ef
  show D.ct σ H
  rw [← eH]
  exact q σ w S (.refl w) rfl
theorem sd_pass : SD X cl (.Pass pos) dNext := ps_mono ps_pass fun D σ H ⟨w0, ρ, w, o, ps', eH, S, ef, q⟩ => by
  cases ret_some ef
  show D.nx σ H
  rw [← eH]
  exact q σ w S (.refl w) rfl
theorem sd_if {c : Expr} {s1 s2 : List Stmt} (hc : TD X cl c ft) (h1 : SsD X cl s1 u) (h2 : SsD X cl s2 v) : SD X cl (.If c s1 s2 pos) (dIfS ft u v) := ps_mono (ps_if hc h1 h2) fun D σ H ⟨w0, ρ, w, o, ps', eH, S, ef, q⟩ => by
  obtain ⟨k, p1, ek, ef⟩ := bd_some ef
  refine ⟨w0, ρ, w, k, p1, eH, S, ek, fun w1 l1 q1 => ?_⟩
  cases k with
  | true =>
    rw [if_pos rfl]
    exact ⟨w0, ρ, w1, o, ps', rfl, S.step l1, by rw [q1]; exact ef, q.wm (l1.wm S.ok)⟩
  | false =>
    rw [if_neg Bool.false_ne_true]
    exact ⟨w0, ρ, w1, o, ps', rfl, S.step l1, by rw [q1]; exact ef, q.wm (l1.wm S.ok)⟩
/-- never reached -/
theorem sd_no : SD X cl st dNo := ps_mono ps_never fun D σ H ⟨w0, ρ, w, o, ps', eH, S, ef, q⟩ => absurd (lft_some ef).1 (fun z => nomatch z)
theorem ss_no : SsD X cl sts dNo := pss_mono pss_never fun D σ H ⟨w0, ρ, w, o, ps', eH, S, ef, q⟩ => absurd (lft_some ef).1 (fun z => nomatch z)
theorem sd_set {i : Nat} {x : Str} {pos' : Pos} (hN : X.N.Nodup) (hi : X.N[i]? = some x) (hx : Loc X.env.scope x) (he : PD X cl true e f) (hs : swapsWith e (some (.Name x pos')) pos.line X.env = pure false := by rfl)
    (hf : X.fn x = true ∨ X.env.scope.names.lookup x = some .local := by first | exact .inl rfl | exact .inr rfl | assumption) : SD X cl (.Assign [.Name x pos'] e pos) (dSet i f) :=
  ps_mono (ps_set hN hi hx he hs hf) fun D σ H ⟨w0, ρ, w, o, ps', eH, S, ef, q⟩ => by
    obtain ⟨z, p1, ex, ef⟩ := bd_some ef
    cases ret_some ef
    refine ⟨w0, ρ, w, z, _, eH, S, ex, fun v w1 l1 q1 r1 => ?_⟩
    exact q _ w1 ((S.step l1).set r1) (l1.wm S.ok) q1
theorem own_new {G : Gm} {w0 w : Wd} {ρ : Rho} {σ : L2.St} {p : Addr} {o : HO} (S : SInv G w0 ρ σ w) (hp : w.H p = none) : ∀ (j : Nat) (d' : D), ρ[j]? = some (some (.own d')) → σ[j]? ≠ some (some (.ref p)) := fun j d' e z => by
  obtain ⟨a, e1, _, o1⟩ := S.own j d' e
  rw [z] at e1
  cases e1
  obtain ⟨u, eu⟩ := o1.at_.some
  rw [hp] at eu
  cases eu
theorem fresh0 {w0 w : Wd} {p : Addr} (l : Le w0 w) (hp : w.H p = none) : w0.H p = none := by
  cases h : w0.H p with
  | none => rfl
  | some o => exact absurd hp (l.dom p (by rw [h]; exact fun q => nomatch q))
theorem np_of {w : Wd} {p : Addr} (ok : WOk w) (hp : w.H p = none) : ¬ inP w.pa p := fun ⟨a, g, e, h⟩ => by
  obtain ⟨q, _, s, h1, h2, _⟩ := ok.pool a g e
  rcases h with h | h
  · rw [h, h1] at hp; cases hp
  · rw [h, h2] at hp; cases hp
theorem sd_new {i : Nat} {x : Str} {pos' pl : Pos} (hN : X.N.Nodup) (hi : X.N[i]? = some x) (hx : Loc X.env.scope x) (he : AD X cl true es fs) (hs : swapsWith (.List es pl) (some (.Name x pos')) pos.line X.env = pure false := by rfl)
    (hf : X.fn x = true ∨ X.env.scope.names.lookup x = some .local := by first | exact .inl rfl | exact .inr rfl | assumption) : SD X cl (.Assign [.Name x pos'] (.List es pl) pos) (dNew i fs) :=
  ps_mono (ps_set hN hi hx (pe_lst he) hs hf) fun D σ H ⟨w0, ρ, w, o, ps', eH, S, ef, q⟩ => by
    obtain ⟨xs, p1, exs, ef⟩ := bd_some ef
    obtain ⟨hl, e⟩ := ite_ret ef
    cases e
    refine ⟨w0, ρ, w, xs, _, eH, S, exs, fun vs w1 l1 q1 r1 => ?_⟩
    have r1 := Rps.reps r1
    refine ⟨line1000 (by rw [← r1.length]; exact hl), fun p hp => ?_⟩
    have l2 : Le w1 (w1.addH p (.lst vs)) := le_addH l1.ok hp
    have S1 := S.step l1
    refine q _ (w1.addH p (.lst vs)) ((S1.step l2).setOwn (fresh0 S1.le hp) ⟨?_, np_of (w := w1) l1.ok hp, vs, upd_same, Reps.mono (l2.wm l1.ok) _ _ r1⟩ (own_new (o := .lst vs) S1 hp)) ((l1.trans l2).wm S.ok) q1
    exact l1.ok.none hp
theorem sd_app {i : Nat} {x : Str} {p1 p2 p3 pos' : Pos} (hN : X.N[i]? = some x) (hv : Vis X.env.scope x) (he : PD X cl true e f)
    (hd : (x == ("__debug__" : Str)) = false := by decide) (hcd : (x == ("__classdict__" : Str)) = false := by decide)
    (hbase : attributeBase (.Name x p1) "append" X.env (eval (.Name x p1) X.env) = eval (.Name x p1) X.env := by rfl)
    (hfew : ((backTo p3 (starEach [e] X.env)).all (fun x => !x.1) && (backToKw p3 (keywordEach [] X.env)).all (fun x => x.1.isSome)
      && decide ([e].length + ([] : List Keyword).length + (if ([] : List Keyword).isEmpty then 0 else 1) < 30)) = true := by rfl)
    (hline : (p2.endLine == p3.line) = true := by rfl) (hst : starEach [e] X.env = (false, eval e X.env) :: starEach [] X.env := by rfl) (hplain : (backTo p3 (starEach [] X.env)).any (·.1) = false := by rfl)
    (hs : swapsWith (.Call (.Attribute (.Name x p1) "append" p2) [e] [] p3) none pos'.line X.env = pure false := by rfl) :
    SD X cl (.Expr (.Call (.Attribute (.Name x p1) "append" p2) [e] [] p3) pos') (dApp i f) :=
  ps_mono (ps_expr (pe_bm PySem.F.plainAttrs_list PySem.F.slot_list_append PySem.F.type_list_append mt_append (pe_var hN hv hd hcd) (pa_cons he pa_nil hst) hbase hfew hline hst hplain) hs) fun D σ H ⟨w0, ρ, w, o, ps', eH, S, ef, q⟩ => by
    obtain ⟨z, pq, ez, ef⟩ := bd_some ef
    obtain ⟨c, pc, ec, ef⟩ := bd_some ef
    obtain ⟨e1, e2⟩ := lft_some ec
    obtain ⟨l, er, hl, e3⟩ := appC_some e1
    have e4 := ret_some ef
    cases e4
    have e3 : c = .own (.lst (l ++ [z])) := e3
    subst e3
    have e2 : pq = ps' := e2
    subst e2
    obtain ⟨a, ea, h0, ow⟩ := S.own i _ er
    obtain ⟨vs, hH, rs⟩ := id ow.at_
    refine ⟨.ref a, ea, .inl ⟨rfl, vs, SqL.of (by rw [← eH]; exact hH)⟩, ?_⟩
    refine ⟨w0, ρ, w, z, _, eH, S, ez, fun v w1 l1 q1 r1 => ?_⟩
    have S1 := S.step l1
    obtain ⟨a', ea', _, ow1⟩ := S1.own i _ er
    rw [ea] at ea'
    cases ea'
    obtain ⟨vs', hH', rs'⟩ := id ow1.at_
    refine ⟨a, vs', v, rfl, rfl, hH', ?_, ?_⟩
    · rw [← rs'.length]; exact Nat.lt_of_lt_of_le hl (by decide)
    · refine q σ { w1 with H := upd w1.H a (.lst (vs' ++ [v])) } (S1.change er ea ⟨vs' ++ [v], upd_same, ?_⟩) ?_ q1
      · have m1 : Wm w1 { w1 with H := upd w1.H a (.lst (vs' ++ [v])) } := ⟨fun _ _ h => h, fun _ h => h, rfl⟩
        exact Reps.append (Reps.mono m1 _ _ rs') (Reps.one (Rep.mono m1 _ _ r1))
      · exact (l1.wm S.ok).trans ⟨fun _ _ h => h, fun _ h => h, rfl⟩
/-- an owned list becomes lasting ahead of a statement -/
theorem sd_frz (i : Nat) (h : SD X cl st u) : SD X cl st (dFrz i u) := ps_mono h fun D σ H ⟨w0, ρ, w, o, ps', eH, S, ef, q⟩ => by
  obtain ⟨w', e1, e2, m, S'⟩ := S.freeze i
  exact ⟨w0, frz i ρ, w', o, ps', e1.trans eH, S', by rw [e2]; exact ef, q.wm m⟩
/-- a def's value dropped -/
def dDrop (f : FE) : FS := fun ρ => bd (f ρ) fun _ => ret (.nx ρ)
theorem sd_expr (h : PD X cl true e f) (hs : swapsWith e none pos.line X.env = pure false := by rfl) : SD X cl (.Expr e pos) (dDrop f) := ps_mono (ps_expr h hs) fun D σ H ⟨w0, ρ, w, o, ps', eH, S, ef, q⟩ => by
  obtain ⟨x, p1, ex, ef⟩ := bd_some ef
  cases ret_some ef
  exact ⟨w0, ρ, w, x, _, eH, S, ex, fun v w1 l1 q1 r1 => q σ w1 (S.step l1) (l1.wm S.ok) q1⟩
end

/-! ### targets -/
abbrev FG := D → Rho → Option Rho
def gD (G : Gm) (t : FG) : TG := fun v σ H Q => ∃ w0 ρ w d ρ', w.H = H ∧ SInv G w0 ρ σ w ∧ Rep G.K G.cl w d v ∧ t d ρ = some ρ' ∧ ∀ σ', SInv G w0 ρ' σ' w → Q σ' H
def gsD (G : Gm) (t : List D → Rho → Option Rho) : TGs := fun vs σ H Q => ∃ w0 ρ w ds ρ', w.H = H ∧ SInv G w0 ρ σ w ∧ Reps G.K G.cl w ds vs ∧ t ds ρ = some ρ' ∧ ∀ σ', SInv G w0 ρ' σ' w → Q σ' H
def GD (X : Cx) (cl : Cl) (tg : Expr) (t : FG) : Prop := PG X tg (gD (gx X cl) t)
def GsD (X : Cx) (cl : Cl) (tgs : List Expr) (t : List D → Rho → Option Rho) : Prop := PGs X tgs (gsD (gx X cl) t)
theorem pg_mono {X : Cx} {tg : Expr} {t t' : TG} (h : PG X tg t) (m : ∀ v σ H Q, t' v σ H Q → t v σ H Q) : PG X tg t' := ⟨fun pins s σ H v u Q I r q => h.run pins s σ H v u Q I r (m _ _ _ _ q)⟩
theorem pgs_mono {X : Cx} {tg : List Expr} {t t' : TGs} (h : PGs X tg t) (m : ∀ v σ H Q, t' v σ H Q → t v σ H Q) : PGs X tg t' := ⟨fun pins s σ H v u Q I r q => h.run pins s σ H v u Q I r (m _ _ _ _ q)⟩
def gNm (i : Nat) : FG := fun d ρ => some (ρ.set i (some (.val d)))
def gNl : List D → Rho → Option Rho := fun ds ρ => match ds with
  | [] => some ρ
  | _ => none
def gCn (t : FG) (u : List D → Rho → Option Rho) : List D → Rho → Option Rho := fun ds ρ => match ds with
  | d :: ds => (t d ρ).bind (u ds)
  | [] => none
def gTp (n : Nat) (t : List D → Rho → Option Rho) : FG := fun d ρ => match d with
  | .tup l => if l.length = n then t l ρ else none
  | _ => none
section
variable {X : Cx} {cl : Cl} {pos : Pos} {t : FG} {ts : List D → Rho → Option Rho} {e : Expr} {es : List Expr}
theorem gd_name {i : Nat} {x : Str} (hN : X.N.Nodup) (hi : X.N[i]? = some x) (hx : Loc X.env.scope x) (hf : X.fn x = true ∨ X.env.scope.names.lookup x = some .local := by first | exact .inl rfl | exact .inr rfl | assumption) : GD X cl (.Name x pos) (gNm i) :=
  pg_mono (pg_name hN hi hx hf) fun v σ H Q ⟨w0, ρ, w, d, ρ', eH, S, r, et, q⟩ => by
    cases et
    exact q _ (S.set r)
theorem gs_nil : GsD X cl [] gNl := pgs_mono pgs_nil fun vs σ H Q ⟨w0, ρ, w, ds, ρ', eH, S, r, et, q⟩ => by
  cases ds with
  | nil => cases et; exact ⟨r, q σ S⟩
  | cons _ _ => cases et
theorem gs_cons (h1 : GD X cl e t) (h2 : GsD X cl es ts) (hs : (assignEach (e :: es) X.env).map (·.2) = assign e X.env :: (assignEach es X.env).map (·.2) := by rfl) : GsD X cl (e :: es) (gCn t ts) :=
  pgs_mono (pgs_cons h1 h2 hs) fun vs σ H Q ⟨w0, ρ, w, ds, ρ', eH, S, r, et, q⟩ => by
    cases ds with
    | nil => cases et
    | cons d ds =>
      obtain ⟨v, vs', ev, r1, r2⟩ := r
      obtain ⟨ρ1, e1, e2⟩ := Option.bind_eq_some_iff.mp et
      exact ⟨v, vs', ev, w0, ρ, w, d, ρ1, eH, S, r1, e1, fun σ1 S1 => ⟨w0, ρ1, w, ds, ρ', eH, S1, r2, e2, q⟩⟩
theorem gd_tup {k n : Nat} (hc : X.calm = true) (h : GsD X cl es ts) (hn : (assignEach es X.env).length = n := by rfl) (hst : (assignEach es X.env).findIdx? (·.1) = none := by rfl) : GD X cl (.Tuple es k pos) (gTp n ts) :=
  pg_mono (pg_tup hc h hn hst) fun v σ H Q ⟨w0, ρ, w, d, ρ', eH, S, r, et, q⟩ => by
    unfold gTp at et
    split at et
    case h_2 => cases et
    case h_1 l =>
    by_cases hl : l.length = n
    · rw [if_pos hl] at et
      obtain ⟨a, vs, ev, hs, rs⟩ := r
      refine ⟨a, vs, ev, sqT_mono (fun b o h => by rw [← eH]; exact S.ok.sub b o h) hs, by rw [← rs.length]; exact hl, ?_⟩
      exact ⟨w0, ρ, w, l, ρ', eH, S, rs, et, q⟩
    · rw [if_neg hl] at et; cases et
end
/-- targets := value -/
def dAsg (t : FG) (f : FE) : FS := fun ρ => bd (f ρ) fun x => bd (lft (t x ρ)) fun ρ' => ret (.nx ρ')
theorem sd_asg {X : Cx} {cl : Cl} {tg e : Expr} {f : FE} {t : FG} {pos : Pos} (he : PD X cl true e f) (hg : GD X cl tg t) (hs : swapsWithSole [tg] e pos.line X.env = pure false := by rfl) (hw : swappedStores [tg] e X.env = pure none := by rfl)
    (h1 : (assignEach [tg] X.env).map (·.2) = [assign tg X.env] := by rfl) : SD X cl (.Assign [tg] e pos) (dAsg t f) :=
  ps_mono (ps_asg he hg hs hw h1) fun D σ H ⟨w0, ρ, w, o, ps', eH, S, ef, q⟩ => by
    obtain ⟨x, p1, ex, ef⟩ := bd_some ef
    obtain ⟨ρ', p2, et, ef⟩ := bd_some ef
    obtain ⟨e1, e2⟩ := lft_some et
    have e3 := ret_some ef
    cases e3
    refine ⟨w0, ρ, w, x, p1, eH, S, ex, fun v w1 l1 q1 r1 => ?_⟩
    exact ⟨w0, ρ, w1, x, ρ', rfl, S.step l1, r1, e1, fun σ' S' => q σ' w1 S' (l1.wm S.ok) (q1.trans e2)⟩

/-! ### what is walked -/
def WalkD (K : PySem.W.Frag) (cl : Cl) (J : It) (w : Wd) (ds : List D) : Prop := ∀ w2, Wm w w2 → WOk w2 → ∀ i : Nat,
  (∀ d, ds[i]? = some d → J.go i w2.H ∧ ∀ x H', J.yld i w2.H x H' → ∃ w3, w3.H = H' ∧ Le w2 w3 ∧ w3.ps = w2.ps ∧ Rep K cl w3 d x) ∧ (ds.length ≤ i → J.stop i w2.H)
def iD (G : Gm) (f : FA) : TI := fun σ H R => ∃ w0 ρ w ds ps', w.H = H ∧ SInv G w0 ρ σ w ∧ f ρ w.ps = some (ds, ps') ∧ ∀ J w', Le w w' → w'.ps = ps' → WalkD G.K G.cl J w' ds → R J w'.H
def ID (X : Cx) (cl : Cl) (tg iter : Expr) (f : FA) : Prop := PI X tg iter (iD (gx X cl) f)
theorem pi_mono {X : Cx} {tg iter : Expr} {t t' : TI} (h : PI X tg iter t) (m : ∀ σ H R, t' σ H R → t σ H R) : PI X tg iter t' := ⟨fun pins s σ H R I q => h.run pins s σ H R I (m _ _ _ q)⟩
def asL : D → Option (List D)
  | .lst l => some l
  | _ => none
def asT : D → Option (List D)
  | .tup l => some l
  | _ => none
def chs (x : Str) : List D := x.cps.toList.map fun c => .str ⟨#[c]⟩
def asS : D → Option (List D)
  | .str x => some (chs x)
  | _ => none
def upTo (lo : Int) (n : Nat) : List D := (List.range n).map fun (i : Nat) => D.int (lo + (i : Int))
def dIt (g : D → Option (List D)) (f : FE) : FA := fun ρ => bd (f ρ) fun x => lft (g x)
def dItA (g : List D → Option (List D)) (f : FA) : FA := fun ρ => bd (f ρ) fun x => lft (g x)
def rng1 : List D → Option (List D)
  | [.int j] => if -(2 ^ 62) ≤ j ∧ j < 2 ^ 62 then some (upTo 0 j.toNat) else none
  | _ => none
def rng2 : List D → Option (List D)
  | [.int i, .int j] => if -(2 ^ 62) ≤ i ∧ i < 2 ^ 62 ∧ -(2 ^ 62) ≤ j ∧ j < 2 ^ 62 then some (upTo i (j - i).toNat) else none
  | _ => none
section
variable {X : Cx} {cl : Cl} {tg e e2 : Expr} {f : FE} {fs : FA} {p pos : Pos}
theorem id_list (h : PD X cl true e f) : ID X cl tg e (dIt asL f) := pi_mono (pi_list h) fun σ H R ⟨w0, ρ, w, ds, ps', eH, S, ef, q⟩ => by
  obtain ⟨x, p1, ex, ef⟩ := bd_some ef
  obtain ⟨eg, ep⟩ := lft_some ef
  refine ⟨w0, ρ, w, x, p1, eH, S, ex, fun v w1 l1 q1 r1 => ?_⟩
  cases x with
  | lst l =>
    cases eg
    obtain ⟨a, vs, ev, hs, rs⟩ := r1
    refine ⟨a, ev, ⟨vs, sqL_mono l1.ok.sub hs⟩, q _ w1 l1 (q1.trans ep) fun w2 m ok2 i => ⟨fun d hd => ?_, fun hi => ?_⟩⟩
    · obtain ⟨u, eu, ru⟩ := rs.get hd
      have h2 : SqL X.K w2.H a vs := sqL_mono (fun b o z => ok2.sub b o (m.w_ b o z)) hs
      refine ⟨⟨vs, u, h2, eu⟩, fun x H' ⟨e1, e2⟩ => ⟨w2, e1.symm, .refl ok2, rfl, ?_⟩⟩
      have e3 := e2 vs h2
      rw [eu] at e3
      cases e3
      exact Rep.mono m _ _ ru
    · exact ⟨vs, sqL_mono (fun b o z => ok2.sub b o (m.w_ b o z)) hs, by rw [← rs.length]; exact hi⟩
  | _ => cases eg
theorem id_tup (h : PD X cl true e f) : ID X cl tg e (dIt asT f) := pi_mono (pi_tup h) fun σ H R ⟨w0, ρ, w, ds, ps', eH, S, ef, q⟩ => by
  obtain ⟨x, p1, ex, ef⟩ := bd_some ef
  obtain ⟨eg, ep⟩ := lft_some ef
  refine ⟨w0, ρ, w, x, p1, eH, S, ex, fun v w1 l1 q1 r1 => ?_⟩
  cases x with
  | tup l =>
    cases eg
    obtain ⟨a, vs, ev, hs, rs⟩ := r1
    refine ⟨a, ev, ⟨vs, sqT_mono l1.ok.sub hs⟩, q _ w1 l1 (q1.trans ep) fun w2 m ok2 i => ⟨fun d hd => ?_, fun hi => ?_⟩⟩
    · obtain ⟨u, eu, ru⟩ := rs.get hd
      have h2 : SqT X.K w2.H a vs := sqT_mono (fun b o z => ok2.sub b o (m.w_ b o z)) hs
      refine ⟨⟨vs, u, h2, eu⟩, fun x H' ⟨e1, e2⟩ => ⟨w2, e1.symm, .refl ok2, rfl, ?_⟩⟩
      have e3 := e2 vs h2
      rw [eu] at e3
      cases e3
      exact Rep.mono m _ _ ru
    · exact ⟨vs, sqT_mono (fun b o z => ok2.sub b o (m.w_ b o z)) hs, by rw [← rs.length]; exact hi⟩
  | _ => cases eg
theorem walk_str {x : Str} {w : Wd} : WalkD X.K cl (Its x) w (chs x) := fun w2 m ok2 i => ⟨fun d hd => by
    unfold chs at hd
    rw [List.getElem?_map] at hd
    obtain ⟨c, hc, e⟩ := Option.map_eq_some_iff.mp hd
    subst e
    have hc' : x.cps[i]? = some c := by rw [← Array.getElem?_toList]; exact hc
    refine ⟨(Array.getElem?_eq_some_iff.mp hc').1, fun v H' ⟨e1, c2, e2, e3⟩ => ⟨w2, e1.symm, .refl ok2, rfl, ?_⟩⟩
    rw [hc'] at e2
    cases e2
    exact e3, fun hi => by
    unfold chs at hi
    rw [List.length_map, Array.length_toList] at hi
    exact hi⟩
theorem id_str (h : PD X cl true e f) : ID X cl tg e (dIt asS f) := pi_mono (pi_str h) fun σ H R ⟨w0, ρ, w, ds, ps', eH, S, ef, q⟩ => by
  obtain ⟨x, p1, ex, ef⟩ := bd_some ef
  obtain ⟨eg, ep⟩ := lft_some ef
  refine ⟨w0, ρ, w, x, p1, eH, S, ex, fun v w1 l1 q1 r1 => ?_⟩
  cases x with
  | str x =>
    cases eg
    exact ⟨x, r1, q _ w1 l1 (q1.trans ep) walk_str⟩
  | _ => cases eg
theorem walk_rng {lo : Int} {n : Nat} {w : Wd} : WalkD X.K cl (Itr lo n) w (upTo lo n) := fun w2 m ok2 i => ⟨fun d hd => by
    unfold upTo at hd
    rw [List.getElem?_map] at hd
    obtain ⟨c, hc, e⟩ := Option.map_eq_some_iff.mp hd
    subst e
    obtain ⟨hi, hc⟩ := List.getElem?_eq_some_iff.mp hc
    rw [List.length_range] at hi
    rw [List.getElem_range] at hc
    subst hc
    exact ⟨hi, fun v H' ⟨e1, e2⟩ => ⟨w2, e1.symm, .refl ok2, rfl, e2⟩⟩, fun hi => by
    unfold upTo at hi
    rw [List.length_map, List.length_range] at hi
    exact hi⟩
theorem id_rng1 (hg : Gl X "range") (hm : X.mg "range" = none) (ha : AD X cl false [e] fs) (hs : starEach [e] X.env = [(false, eval e X.env)] := by rfl) : ID X cl tg (.Call (.Name "range" p) [e] [] pos) (dItA rng1 fs) :=
  pi_mono (pi_range1 hg hm ha hs) fun σ H R ⟨w0, ρ, w, ds, ps', eH, S, ef, q⟩ => by
    obtain ⟨x, p1, ex, ef⟩ := bd_some ef
    obtain ⟨eg, ep⟩ := lft_some ef
    refine ⟨w0, ρ, w, x, p1, eH, S, ex, fun vs w1 l1 q1 r1 => ?_⟩
    unfold rng1 at eg
    split at eg
    case h_2 => cases eg
    case h_1 j =>
    by_cases hj : -(2 ^ 62) ≤ j ∧ j < 2 ^ 62
    · rw [if_pos hj] at eg
      cases eg
      obtain ⟨v, vs', e1, r2, r3⟩ := r1
      have r3 : vs' = [] := r3
      have r2 : v = .int j := r2.elim (fun z => z) fun ⟨_, _, z⟩ => z.at_.elim
      subst e1 r2 r3
      exact ⟨j, rfl, hj.1, hj.2, q _ w1 l1 (q1.trans ep) walk_rng⟩
    · rw [if_neg hj] at eg; cases eg
theorem id_rng2 (hg : Gl X "range") (hm : X.mg "range" = none) (ha : AD X cl false [e, e2] fs) (hs : starEach [e, e2] X.env = [(false, eval e X.env), (false, eval e2 X.env)] := by rfl) (hs2 : starEach [e2] X.env = [(false, eval e2 X.env)] := by rfl) : ID X cl tg (.Call (.Name "range" p) [e, e2] [] pos) (dItA rng2 fs) :=
  pi_mono (pi_range2 hg hm ha hs hs2) fun σ H R ⟨w0, ρ, w, ds, ps', eH, S, ef, q⟩ => by
    obtain ⟨x, p1, ex, ef⟩ := bd_some ef
    obtain ⟨eg, ep⟩ := lft_some ef
    refine ⟨w0, ρ, w, x, p1, eH, S, ex, fun vs w1 l1 q1 r1 => ?_⟩
    unfold rng2 at eg
    split at eg
    case h_2 => cases eg
    case h_1 i j =>
    by_cases hj : -(2 ^ 62) ≤ i ∧ i < 2 ^ 62 ∧ -(2 ^ 62) ≤ j ∧ j < 2 ^ 62
    · rw [if_pos hj] at eg
      cases eg
      obtain ⟨v, vs', e1, r2, v2, vs2, e2, r3, r4⟩ := r1
      have r4 : vs2 = [] := r4
      have r2 : v = .int i := r2.elim (fun z => z) fun ⟨_, _, z⟩ => z.at_.elim
      have r3 : v2 = .int j := r3.elim (fun z => z) fun ⟨_, _, z⟩ => z.at_.elim
      subst e2 e1 r2 r3 r4
      exact ⟨i, j, rfl, hj, q _ w1 l1 (q1.trans ep) walk_rng⟩
    · rw [if_neg hj] at eg; cases eg
end

/-! ### for -/
def loopD (t : FG) (s : FS) : List D → Rho → M Out
  | [], ρ => ret (.nx ρ)
  | d :: ds, ρ => bd (lft (t d ρ)) fun ρ1 => bd (s ρ1) fun o => match o with
    | .nx ρ2 => loopD t s ds ρ2
    | .ct ρ2 => loopD t s ds ρ2
    | .bk ρ2 => ret (.nx ρ2)
    | .rt d => ret (.rt d)
def dFor (t : FG) (fi : FA) (s : FS) : FS := fun ρ => bd (fi ρ) fun ds => loopD t s ds ρ
theorem sd_for {X : Cx} {cl : Cl} {tg iter : Expr} {body : List Stmt} {fi : FA} {t : FG} {s : FS} {pos : Pos} (hp : PassesOwn (model X.prog X.w) X.A X.env X.xe) (hc : X.calm = true) (hi : ID X cl tg iter fi) (hg : GD X cl tg t) (hb : SsD X cl body s)
    (hs : ∀ x, foldedSetIterable iter X.env x = pure x := by intro _; rfl) : SD X cl (.For tg iter body [] pos) (dFor t fi s) :=
  ps_mono (ps_for hp hc hi hg hb hs) fun D σ H ⟨w0, ρ, w, o, ps', eH, S, ef, q⟩ => by
    obtain ⟨ds, p1, ei, ef⟩ := bd_some ef
    refine ⟨w0, ρ, w, ds, p1, eH, S, ei, fun J w1 l1 q1 wk => ?_⟩
    refine ⟨fun i m σ' H' => m = ds.length - i ∧ i ≤ ds.length ∧ ∃ ρ' w', w'.H = H' ∧ SInv (gx X cl) w0 ρ' σ' w' ∧ Wm w1 w' ∧ loopD t s (ds.drop i) ρ' w'.ps = some (o, ps'), ⟨ds.length, by simp, Nat.zero_le _, ρ, w1, rfl, S.step l1, .refl w1, by rw [List.drop_zero, q1]; exact ef⟩, ?_⟩
    rintro i m σ' H' ⟨rfl, hi, ρ', w', rfl, S', m', el⟩
    have q' := q.wm ((l1.wm S.ok).trans m')
    by_cases hlt : i < ds.length
    · obtain ⟨hd, _⟩ := wk w' m' S'.ok i
      obtain ⟨go, yl⟩ := hd ds[i] (by simp [hlt])
      rw [List.drop_eq_getElem_cons hlt] at el
      obtain ⟨ρ1, p2, e1, el⟩ := bd_some el
      obtain ⟨et, ep⟩ := lft_some e1
      obtain ⟨o1, p3, es, el⟩ := bd_some el
      refine .inr ⟨go, fun σ2 H2 => ∃ ρ2 w2, w2.H = H2 ∧ SInv (gx X cl) w0 ρ2 σ2 w2 ∧ Wm w1 w2 ∧ loopD t s (ds.drop (i + 1)) ρ2 w2.ps = some (o, ps'), fun σ2 H2 ⟨ρ2, w2, a1, a2, a3, a4⟩ => ⟨ds.length - (i + 1), by omega, rfl, hlt, ρ2, w2, a1, a2, a3, a4⟩, fun x H2 y => ?_⟩
      obtain ⟨w3, e3, l3, q3, r3⟩ := yl x H2 y
      subst e3
      refine ⟨w0, ρ', w3, ds[i], ρ1, rfl, S'.step l3, r3, et, fun σ4 S4 => ?_⟩
      have m3 : Wm w1 w3 := m'.trans (l3.wm S'.ok)
      refine ⟨w0, ρ1, w3, o1, p3, rfl, S4, by rw [q3, ep]; exact es, ?_⟩
      have q3' := q.wm ((l1.wm S.ok).trans m3)
      cases o1 with
      | nx ρ5 => exact fun σ5 w5 S5 m5 q5 => ⟨ρ5, w5, rfl, S5, m3.trans m5, by rw [q5]; exact el⟩
      | ct ρ5 => exact fun σ5 w5 S5 m5 q5 => ⟨ρ5, w5, rfl, S5, m3.trans m5, by rw [q5]; exact el⟩
      | bk ρ5 => cases ret_some el; exact q3'
      | rt d => cases ret_some el; exact q3'
    · obtain ⟨_, st⟩ := wk w' m' S'.ok i
      have e : i = ds.length := by omega
      refine .inl ⟨st (by omega), ?_⟩
      rw [e, List.drop_length] at el
      have e2 := ret_some el
      cases e2
      exact q' σ' w' S' (.refl w') rfl
/-! ### the rule for a def -/
def runD (n : Nat) (s : FS) : List D → M D := fun ds => bd (s (ds.map (fun d => some (Cell.val d)) ++ List.replicate (n - ds.length) none)) fun o => match o with
  | .rt d => ret d
  | .nx _ => ret .non
  | _ => lft none
theorem start_inv {G : Gm} {N : List Str} {w : Wd} {ds : List D} {vs : List V} (ok : WOk w) (r : Reps G.K G.cl w ds vs) : SInv G w (ds.map (fun d => some (Cell.val d)) ++ List.replicate (N.length - ds.length) none) (L2.start N vs) w := by
  have hl := r.length
  have gt : ∀ (i : Nat) (c : Cell), (ds.map (fun d => some (Cell.val d)) ++ List.replicate (N.length - ds.length) (none : Option Cell))[i]? = some (some c) → ∃ d, ds[i]? = some d ∧ c = .val d := fun i c e => by
    by_cases hi : i < ds.length
    · rw [List.getElem?_append_left (by rw [List.length_map]; exact hi), List.getElem?_map] at e
      obtain ⟨d, hd, ec⟩ := Option.map_eq_some_iff.mp e
      exact ⟨d, hd, (Option.some.inj ec).symm⟩
    · rw [List.getElem?_append_right (by rw [List.length_map]; omega)] at e
      have := List.mem_of_getElem? e
      rw [List.mem_replicate] at this
      exact absurd this.2 (fun z => nomatch z)
  refine ⟨.refl ok, fun i d e => ?_, fun i d e => ?_, fun i j d d' a e => ?_, ?_⟩
  · obtain ⟨d', hd, ec⟩ := gt i _ e
    cases ec
    obtain ⟨v, hv, rv⟩ := r.get hd
    refine ⟨v, ?_, rv⟩
    unfold L2.start
    rw [List.getElem?_append_left (by rw [List.length_map]; exact (List.getElem?_eq_some_iff.mp hv).1), List.getElem?_map, hv]
    rfl
  · obtain ⟨d', hd, ec⟩ := gt i _ e
    cases ec
  · obtain ⟨d', hd, ec⟩ := gt i _ e
    cases ec
  · unfold L2.start
    rw [List.length_append, List.length_append, List.length_map, List.length_map, List.length_replicate, List.length_replicate, hl]
theorem fn_D {P : Program} {W : World} {K : PySem.W.Frag} {mg : Str → Option Value} {base : Heap} {CX : CXT} {x qual : Str} {ar : Arguments} {bo : List Stmt} {sc : Scope} {f : Addr} {fd : FuncData} {N ps : List Str} {k : Nat} {cl : Cl} {s : FS}
    (F : FunD K x qual ar bo sc [] [] f fd) (S : FnScope N ps sc)
    (hbody : ∀ (cdv : Value) (A : Around) (outer : List Env) (s0 : Shared) (H : Hp) (E : XK), Room k (A.deeper (envOfC qual sc s0.heap.objs.size f cdv)) → SsD (cxOf CX P W K mg base N qual sc f cdv A outer s0 H E).nox cl bo s) :
    FnOk P W K mg base CX (k + 1) f fd ps (spD K cl ps.length (runD N.length s)) := by
  refine F.ok S spD_len fun cdv A outer s0 H vs Q E hr h => ?_
  refine ⟨_, PSs.nox (hbody cdv A outer s0 H E hr), ?_⟩
  obtain ⟨w, ds, d, ps', eH, ok, r, hl, eg, q⟩ := h
  obtain ⟨o, p1, eo, eg⟩ := bd_some eg
  refine ⟨w, _, w, o, p1, eH, start_inv ok r, eo, ?_⟩
  cases o with
  | rt d' =>
    cases ret_some eg
    exact fun v w' l m e r => q v w' l e r
  | nx ρ =>
    cases ret_some eg
    exact fun σ w' S' m e => q .non w' S'.le e rfl
  | bk _ => exact absurd (lft_some eg).1 (fun z => nomatch z)
  | ct _ => exact absurd (lft_some eg).1 (fun z => nomatch z)
end Dl

/-! The D layer: new containers as results, comprehensions, operators' and built-ins' instances. -/
namespace Dl
open PySem PySem.Spec PyProof.Rows L2

/-! ### steps at an owned object -/
theorem wok_upd {w : Wd} {a : Addr} {o : HO} (ok : WOk w) (hw : w.W a = none) (np : ¬ inP w.pa a) : WOk { w with H := upd w.H a o } := by
  have nW : ∀ b ob, w.W b = some ob → b ≠ a := fun b ob h z => by rw [z, hw] at h; cases h
  refine ⟨fun b ob h => ?_, ok.no, fun p g h => ?_⟩
  · show upd w.H a o b = some ob
    rw [upd_ne (nW b ob h)]
    exact ok.sub b ob h
  · obtain ⟨q, e1, s, h1, h2, h3, h4, h5, h6, h7⟩ := ok.pool p g h
    have np1 : p ≠ a := fun z => np ⟨p, g, h, .inl z.symm⟩
    have np2 : g ≠ a := fun z => np ⟨p, g, h, .inr z.symm⟩
    have np3 : s ≠ a := fun z => by rw [z, hw] at h4; rw [← z] at h4; rw [← h4] at h3; cases h3
    refine ⟨q, e1, s, ?_, ?_, ?_, ?_, h5, h6, h7⟩
    · show upd w.H a o p = _
      rw [upd_ne np1]; exact h1
    · show upd w.H a o g = _
      rw [upd_ne np2]; exact h2
    · show upd w.H a o s = _
      rw [upd_ne np3]; exact h3
    · show w.W s = upd w.H a o s
      rw [upd_ne np3]; exact h4
theorem le_upd {w1 w : Wd} {a : Addr} {o : HO} (l : Le w1 w) (h0 : w1.H a = none) (hw : w.W a = none) (np : ¬ inP w.pa a) : Le w1 { w with H := upd w.H a o } := by
  have hd : ∀ b, w1.H b ≠ none → b ≠ a := fun b h z => h (by rw [z]; exact h0)
  refine ⟨fun b ob h n => ?_, l.w_, l.pa, l.fr, fun b h => ?_, l.sf, wok_upd l.ok hw np⟩
  · show upd w.H a o b = some ob
    rw [upd_ne (hd b (by rw [h]; exact fun q => nomatch q))]
    exact l.h b ob h n
  · show upd w.H a o b ≠ none
    rw [upd_ne (hd b h)]
    exact l.dom b h
theorem wok_frz {w : Wd} {a : Addr} {o : HO} (ok : WOk w) (hH : w.H a = some o) (hw : w.W a = none) (np : ¬ inP w.pa a) : WOk { w with W := upd w.W a o } := by
  refine ⟨fun b ob h => ?_, ok.no, fun p g h => ?_⟩
  · have h : upd w.W a o b = some ob := h
    by_cases hb : b = a
    · subst hb; rw [upd_same] at h; cases h; exact hH
    · rw [upd_ne hb] at h; exact ok.sub b ob h
  · obtain ⟨q, e1, s, h1, h2, h3, h4, h5, h6, h7⟩ := ok.pool p g h
    have np1 : p ≠ a := fun z => np ⟨p, g, h, .inl z.symm⟩
    have np2 : g ≠ a := fun z => np ⟨p, g, h, .inr z.symm⟩
    have np3 : s ≠ a := fun z => by rw [z, hw] at h4; rw [← z] at h4; rw [← h4] at h3; cases h3
    refine ⟨q, e1, s, h1, h2, h3, ?_, ?_, ?_, h7⟩
    · show upd w.W a _ s = _
      rw [upd_ne np3]; exact h4
    · show upd w.W a _ p = _
      rw [upd_ne np1]; exact h5
    · show upd w.W a _ g = _
      rw [upd_ne np2]; exact h6
theorem le_frz {w1 w : Wd} {a : Addr} {o : HO} (l : Le w1 w) (h0 : w1.H a = none) (hH : w.H a = some o) (hw : w.W a = none) (np : ¬ inP w.pa a) : Le w1 { w with W := upd w.W a o } := by
  refine ⟨l.h, fun b h => ?_, l.pa, l.fr, l.dom, l.sf, wok_frz l.ok hH hw np⟩
  show upd w.W a o b = _
  rw [upd_ne (fun z => h (by rw [z]; exact h0))]
  exact l.w_ b h
theorem wm_frz {w : Wd} {a : Addr} {o : HO} (hw : w.W a = none) : Wm w { w with W := upd w.W a o } := ⟨fun b ob h => by
  show upd w.W a o b = _
  rw [upd_ne (fun z => by rw [z, hw] at h; cases h)]
  exact h, fun _ h => h, rfl⟩

/-! ### an expression that hands out a new list -/
def tDo (G : Gm) (f : FE) : TE := fun σ H Q => ∃ w0 ρ w d ps', w.H = H ∧ SInv G w0 ρ σ w ∧ f ρ w.ps = some (d, ps') ∧ ∀ a w', Le w w' → w'.ps = ps' → w.H a = none → Own G w' a d → Q (.ref a) w'.H
def OD (X : Cx) (cl : Cl) (e : Expr) (f : FE) : Prop := PE X e (tDo (gx X cl) f) ∧ ∀ ρ p r, f ρ p = some r → ∃ l, r.1 = .lst l
theorem pd_own_ {X : Cx} {cl : Cl} {b : Bool} {e : Expr} {f : FE} (h : OD X cl e f) : PD X cl b e f := pe_mono h.1 fun σ H Q ⟨w0, ρ, w, d, ps', eH, S, ef, q⟩ => by
  refine ⟨w0, ρ, w, d, ps', eH, S, ef, fun a w1 l1 q1 h0 ow => ?_⟩
  obtain ⟨l, el⟩ := h.2 _ _ _ ef
  have el : d = .lst l := el
  subst el
  obtain ⟨vs, hv, r⟩ := id ow.at_
  have m : Wm w1 { w1 with W := upd w1.W a (.lst vs) } := wm_frz ow.w_
  exact q (.ref a) { w1 with W := upd w1.W a (.lst vs) } (le_frz l1 h0 hv ow.w_ ow.np) q1 (.of ⟨a, vs, rfl, .inl (.inl upd_same), Reps.mono m _ _ r⟩)
section
variable {X : Cx} {cl : Cl} {b : Bool} {e : Expr} {es : List Expr} {pos : Pos} {fs : FA} {f : FE}
theorem od_lst (h : AD X cl true es fs) : OD X cl (.List es pos) (dLst fs) := ⟨pe_mono (pe_lst h) fun σ H Q ⟨w0, ρ, w, z, ps', eH, S, ef, q⟩ => by
    obtain ⟨xs, p1, exs, ef⟩ := bd_some ef
    obtain ⟨hl, e⟩ := ite_ret ef
    cases e
    refine ⟨w0, ρ, w, xs, _, eH, S, exs, fun vs w1 l1 q1 r1 => ?_⟩
    have r1 := Rps.reps r1
    refine ⟨line1000 (by rw [← r1.length]; exact hl), fun p hp => ?_⟩
    have l2 : Le w1 (w1.addH p (.lst vs)) := le_addH l1.ok hp
    exact q p (w1.addH p (.lst vs)) (l1.trans l2) q1 (fresh0 l1 hp) ⟨l1.ok.none hp, np_of (w := w1) l1.ok hp, vs, upd_same, Reps.mono (l2.wm l1.ok) _ _ r1⟩,
  fun ρ p r h => by
    obtain ⟨xs, p1, exs, h⟩ := bd_some h
    obtain ⟨_, e⟩ := ite_ret h
    exact ⟨xs, by rw [e]⟩⟩
/-- slot i := the new list, owned -/
def dSetO (i : Nat) (f : FE) : FS := fun ρ => bd (f ρ) fun x => ret (.nx (ρ.set i (some (.own x))))
theorem sd_setO {i : Nat} {x : Str} {pos' : Pos} (hN : X.N.Nodup) (hi : X.N[i]? = some x) (hx : Loc X.env.scope x) (he : OD X cl e f) (hs : swapsWith e (some (.Name x pos')) pos.line X.env = pure false := by rfl)
    (hf : X.fn x = true ∨ X.env.scope.names.lookup x = some .local := by first | exact .inl rfl | exact .inr rfl | assumption) : SD X cl (.Assign [.Name x pos'] e pos) (dSetO i f) :=
  ps_mono (ps_set hN hi hx he.1 hs hf) fun D σ H ⟨w0, ρ, w, o, ps', eH, S, ef, q⟩ => by
    obtain ⟨x, p1, ex, ef⟩ := bd_some ef
    cases ret_some ef
    refine ⟨w0, ρ, w, x, _, eH, S, ex, fun a w1 l1 q1 h0 ow => ?_⟩
    have S1 := S.step l1
    refine q _ w1 (S1.setOwn (fresh0 S.le h0) ow fun j d' e z => ?_) (l1.wm S.ok) q1
    exact own_new (o := .lst []) S h0 j d' e z

/-! ### comprehensions: one for over a name, at most one test -/
def lcD (i : Nat) (ft : FT) (fe : FE) (ρ : Rho) : List D → List D → M D
  | [], acc => ret (.lst acc)
  | d :: ds, acc => bd (ft (ρ.set i (some (.val d)))) fun k => match k with
    | true => bd (fe (ρ.set i (some (.val d)))) fun y => if acc.length < 100000 then lcD i ft fe ρ ds (acc ++ [y]) else lft none
    | false => lcD i ft fe ρ ds acc
def dLc (i : Nat) (fi : FA) (ft : FT) (fe : FE) : FE := fun ρ => bd (fi ρ) fun ds => lcD i ft fe ρ ds []
def dYes : FT := fun _ => ret true
theorem lcD_lst {i : Nat} {ft : FT} {fe : FE} {ρ : Rho} : ∀ (ds acc : List D) {p : Option Pool} {r : D × Option Pool}, lcD i ft fe ρ ds acc p = some r → ∃ l, r.1 = .lst l
  | [], acc, p, r, h => by cases ret_some h; exact ⟨_, rfl⟩
  | d :: ds, acc, p, r, h => by
    obtain ⟨k, p1, e1, h⟩ := bd_some h
    cases k with
    | false => exact lcD_lst ds acc h
    | true =>
      obtain ⟨y, p2, e2, h⟩ := bd_some h
      by_cases hl : acc.length < 100000
      · rw [if_pos hl] at h; exact lcD_lst ds _ h
      · rw [if_neg hl] at h; exact absurd (lft_some h).1 (fun z => nomatch z)
theorem lc_red {wi : TI} {tt : TT} {te : TE} {i : Nat} {fi : FA} {ft : FT} {fe : FE} {G : Gm} (hi : ∀ σ H R, iD G fi σ H R → wi σ H R) (ht : ∀ σ H Q, tDT G ft σ H Q → tt σ H Q) (he : ∀ σ H Q, tD G true fe σ H Q → te σ H Q) :
    ∀ σ H Q, tDo G (dLc i fi ft fe) σ H Q → tLc wi (gName i) tt te [i] σ H Q := fun σ H Q ⟨w0, ρ, w, z, ps', eH, S, ef, q⟩ => by
  obtain ⟨ds, p1, ed, ef⟩ := bd_some ef
  refine hi σ H _ ⟨w0, ρ, w, ds, p1, eH, S, ed, fun J w1 l1 q1 wk => ?_⟩
  intro Dn hD
  have l1' : Le w1 (w1.addH Dn (.lst [])) := le_addH l1.ok hD
  refine ⟨fun n m H' => m = ds.length - n ∧ n ≤ ds.length ∧ ∃ w2 acc vacc, w2.H = H' ∧ Le w1 w2 ∧ w2.H Dn = some (.lst vacc) ∧ w2.W Dn = none ∧ ¬ inP w2.pa Dn ∧ Reps G.K G.cl w2 acc vacc ∧ lcD i ft fe ρ (ds.drop n) acc w2.ps = some (z, ps'),
    ⟨ds.length, by simp, Nat.zero_le _, w1.addH Dn (.lst []), [], [], rfl, l1', upd_same, l1.ok.none hD, np_of (w := w1) l1.ok hD, rfl, by rw [List.drop_zero]; show lcD i ft fe ρ ds [] w1.ps = _; rw [q1]; exact ef⟩, ?_⟩
  rintro n m H' ⟨rfl, hn, w2, acc, vacc, rfl, l2, hv, hw, np, ra, el⟩
  by_cases hlt : n < ds.length
  · obtain ⟨hd, _⟩ := wk w2 (l2.wm l1.ok) l2.ok n
    obtain ⟨go, yl⟩ := hd ds[n] (by simp [hlt])
    rw [List.drop_eq_getElem_cons hlt] at el
    refine .inr ⟨go, fun H3 => ∃ w3 acc vacc, w3.H = H3 ∧ Le w1 w3 ∧ w3.H Dn = some (.lst vacc) ∧ w3.W Dn = none ∧ ¬ inP w3.pa Dn ∧ Reps G.K G.cl w3 acc vacc ∧ lcD i ft fe ρ (ds.drop (n + 1)) acc w3.ps = some (z, ps'),
      fun H3 ⟨w3, acc, vacc, a1, a2, a3, a4, a5, a6, a7⟩ => ⟨ds.length - (n + 1), by omega, rfl, hlt, w3, acc, vacc, a1, a2, a3, a4, a5, a6, a7⟩, fun x H3 y => ?_⟩
    obtain ⟨w3, e3, l3, q3, r3⟩ := yl x H3 y
    subst e3
    have l13 : Le w1 w3 := l2.trans l3
    have hv3 : w3.H Dn = some (.lst vacc) := l3.h Dn _ hv np
    have hw3 : w3.W Dn = none := (l3.w_ Dn (by rw [hv]; exact fun q => nomatch q)).trans hw
    have np3 : ¬ inP w3.pa Dn := fun z => np (l3.fr Dn (by rw [hv]; exact fun q => nomatch q) z)
    have ra3 := Reps.mono (l3.wm l2.ok) _ _ ra
    show wipe ((wipe σ [i]).set i (some x)) [i] = wipe σ [i] ∧ _
    have es : (wipe σ [i]).set i (some x) = σ.set i (some x) := by
      show (σ.set i none).set i (some x) = _
      rw [List.set_set]
    refine ⟨by rw [es]; show (σ.set i (some x)).set i none = σ.set i none; rw [List.set_set], ?_⟩
    rw [es]
    have S3 : SInv G w0 (ρ.set i (some (.val ds[n]))) (σ.set i (some x)) w3 := (S.step (l1.trans l13)).set r3
    obtain ⟨k, p2, ek, el⟩ := bd_some el
    refine ht _ _ _ ⟨w0, _, w3, k, p2, rfl, S3, by rw [q3]; exact ek, fun w4 l4 q4 => ?_⟩
    have l14 : Le w1 w4 := l13.trans l4
    have hv4 : w4.H Dn = some (.lst vacc) := l4.h Dn _ hv3 np3
    have hw4 : w4.W Dn = none := (l4.w_ Dn (by rw [hv3]; exact fun q => nomatch q)).trans hw3
    have np4 : ¬ inP w4.pa Dn := fun z => np3 (l4.fr Dn (by rw [hv3]; exact fun q => nomatch q) z)
    have ra4 := Reps.mono (l4.wm l3.ok) _ _ ra3
    cases k with
    | false =>
      refine iteF ?_
      exact ⟨w4, acc, vacc, rfl, l14, hv4, hw4, np4, ra4, by rw [q4]; exact el⟩
    | true =>
      refine iteT ?_
      obtain ⟨y, p3, ey, el⟩ := bd_some el
      by_cases hl : acc.length < 100000
      · rw [if_pos hl] at el
        refine he _ _ _ ⟨w0, _, w4, y, p3, rfl, S3.step l4, by rw [q4]; exact ey, fun yv w5 l5 q5 r5 => ?_⟩
        have hv5 : w5.H Dn = some (.lst vacc) := l5.h Dn _ hv4 np4
        have hw5 : w5.W Dn = none := (l5.w_ Dn (by rw [hv4]; exact fun q => nomatch q)).trans hw4
        have np5 : ¬ inP w5.pa Dn := fun z => np4 (l5.fr Dn (by rw [hv4]; exact fun q => nomatch q) z)
        have ra5 := Reps.mono (l5.wm l4.ok) _ _ ra4
        refine ⟨vacc, hv5, by rw [← ra5.length]; exact Nat.lt_of_lt_of_le hl (by decide), ?_⟩
        have m5 : Wm w5 { w5 with H := upd w5.H Dn (.lst (vacc ++ [yv])) } := ⟨fun _ _ h => h, fun _ h => h, rfl⟩
        exact ⟨{ w5 with H := upd w5.H Dn (.lst (vacc ++ [yv])) }, acc ++ [y], vacc ++ [yv], rfl, le_upd (l14.trans l5) hD hw5 np5, upd_same, hw5, np5,
          Reps.append (Reps.mono m5 _ _ ra5) (Reps.one (Rep.mono m5 _ _ r5)), by show lcD i ft fe ρ _ _ w5.ps = _; rw [q5]; exact el⟩
      · rw [if_neg hl] at el; exact absurd (lft_some el).1 (fun z => nomatch z)
  · obtain ⟨_, st⟩ := wk w2 (l2.wm l1.ok) l2.ok n
    have e : n = ds.length := by omega
    refine .inl ⟨st (by omega), ?_⟩
    rw [e, List.drop_length] at el
    have e2 := ret_some el
    cases e2
    exact q Dn w2 (l1.trans l2) rfl (fresh0 l1 hD) ⟨hw, np, vacc, hv, ra⟩
abbrev BX (X : Cx) (scope : Scope) (s : Shared) (H : Hp) (C : Addr) (cs : List (Str × Addr)) (fp : List Addr) : Cx := X.blk s H scope (compEnvC scope cs C X.env) fp
theorem od_lc {elt iter : Expr} {scope : Scope} {i : Nat} {x : Str} {px : Pos} {fi : FA} {fe : FE} (hc : X.calm = true) (hN : X.N.Nodup) (hi : ID X cl (.Name x px) iter fi) (ok : BlkOk X.N X.env.scope scope [(x, i)])
    (hg : ∀ (s : Shared) (H : Hp) (C : Addr) (cs : List (Str × Addr)) (fp : List Addr), PG (BX X scope s H C cs fp) (.Name x px) (gName i))
    (he : ∀ (s : Shared) (H : Hp) (C : Addr) (cs : List (Str × Addr)) (fp : List Addr), PD (BX X scope s H C cs fp) cl true elt fe) (hs : ∀ x, foldedSetIterable iter X.env x = pure x := by intro _; rfl) :
    OD X cl (.ListComp elt [⟨.Name x px, iter, [], 0⟩] scope pos) (dLc i fi dYes fe) :=
  ⟨pe_mono (pe_lc (own := [(x, i)]) (g := gName i) (tt := tYes) (te := tD (gx X cl) true fe) hc hN hi ok hg (fun _ _ _ _ _ => pts_nil) he hs)
    (lc_red (fun _ _ _ h => h) (fun σ H Q ⟨w0, ρ, w, k, ps', eH, S, ef, q⟩ => by
      cases ret_some ef
      show Q true H
      rw [← eH]
      exact q w (.refl S.ok) rfl) fun _ _ _ h => h),
   fun ρ p r h => by obtain ⟨ds, p1, e, h⟩ := bd_some h; exact lcD_lst _ _ h⟩
theorem od_lcIf {elt iter c : Expr} {scope : Scope} {i : Nat} {x : Str} {px : Pos} {fi : FA} {ft : FT} {fe : FE} (hc : X.calm = true) (hN : X.N.Nodup) (hi : ID X cl (.Name x px) iter fi) (ok : BlkOk X.N X.env.scope scope [(x, i)])
    (hg : ∀ (s : Shared) (H : Hp) (C : Addr) (cs : List (Str × Addr)) (fp : List Addr), PG (BX X scope s H C cs fp) (.Name x px) (gName i))
    (ht : ∀ (s : Shared) (H : Hp) (C : Addr) (cs : List (Str × Addr)) (fp : List Addr), TD (BX X scope s H C cs fp) cl c ft)
    (he : ∀ (s : Shared) (H : Hp) (C : Addr) (cs : List (Str × Addr)) (fp : List Addr), PD (BX X scope s H C cs fp) cl true elt fe) (hs : ∀ x, foldedSetIterable iter X.env x = pure x := by intro _; rfl) :
    OD X cl (.ListComp elt [⟨.Name x px, iter, [c], 0⟩] scope pos) (dLc i fi ft fe) :=
  ⟨pe_mono (pe_lc (own := [(x, i)]) (g := gName i) (tt := tDT (gx X cl) ft) (te := tD (gx X cl) true fe) hc hN hi ok hg (fun s H C cs fp => pts_one (ht s H C cs fp)) he hs)
    (lc_red (fun _ _ _ h => h) (fun _ _ _ h => h) fun _ _ _ h => h),
   fun ρ p r h => by obtain ⟨ds, p1, e, h⟩ := bd_some h; exact lcD_lst _ _ h⟩
/-- y = [..]: lasting -/
theorem sd_setLc {elt iter : Expr} {scope : Scope} {i j : Nat} {x y : Str} {px py spos : Pos} {fi : FA} {fe : FE} (hc : X.calm = true) (hN : X.N.Nodup) (hy : X.N[j]? = some y) (hyl : X.env.scope.names.lookup y = some .local)
    (hsw : swapsWith (.ListComp elt [⟨.Name x px, iter, [], 0⟩] scope pos) (some (.Name y py)) spos.line X.env = pure true) (hi : ID X cl (.Name x px) iter fi) (ok : BlkOk X.N X.env.scope scope [(x, i)])
    (hg : ∀ (s : Shared) (H : Hp) (C : Addr) (cs : List (Str × Addr)) (fp : List Addr), PG (BX X scope s H C cs fp) (.Name x px) (gName i))
    (he : ∀ (s : Shared) (H : Hp) (C : Addr) (cs : List (Str × Addr)) (fp : List Addr), PD (BX X scope s H C cs fp) cl true elt fe) (hs : ∀ x, foldedSetIterable iter X.env x = pure x := by intro _; rfl) :
    SD X cl (.Assign [.Name y py] (.ListComp elt [⟨.Name x px, iter, [], 0⟩] scope pos) spos) (dSetO j (dLc i fi dYes fe)) :=
  ps_mono (ps_setLc (own := [(x, i)]) (g := gName i) (tt := tYes) (te := tD (gx X cl) true fe) hc hN hy hyl hsw hi ok hg (fun _ _ _ _ _ => pts_nil) he hs) fun D σ H ⟨w0, ρ, w, o, ps', eH, S, ef, q⟩ => by
    obtain ⟨x, p1, ex, ef⟩ := bd_some ef
    cases ret_some ef
    refine lc_red (G := gx X cl) (fi := fi) (ft := dYes) (fe := fe) (fun _ _ _ h => h) (fun σ H Q ⟨w0, ρ, w, k, ps', eH, S, ef, q⟩ => by
      cases ret_some ef
      show Q true H
      rw [← eH]
      exact q w (.refl S.ok) rfl) (fun _ _ _ h => h) σ H _ ⟨w0, ρ, w, x, _, eH, S, ex, fun a w1 l1 q1 h0 ow => ?_⟩
    have S1 := S.step l1
    refine q _ w1 (S1.setOwn (fresh0 S.le h0) ow fun j d' e z => ?_) (l1.wm S.ok) q1
    exact own_new (o := .lst []) S h0 j d' e z
theorem sd_setLcIf {elt iter c : Expr} {scope : Scope} {i j : Nat} {x y : Str} {px py spos : Pos} {fi : FA} {ft : FT} {fe : FE} (hc : X.calm = true) (hN : X.N.Nodup) (hy : X.N[j]? = some y) (hyl : X.env.scope.names.lookup y = some .local)
    (hsw : swapsWith (.ListComp elt [⟨.Name x px, iter, [c], 0⟩] scope pos) (some (.Name y py)) spos.line X.env = pure true) (hi : ID X cl (.Name x px) iter fi) (ok : BlkOk X.N X.env.scope scope [(x, i)])
    (hg : ∀ (s : Shared) (H : Hp) (C : Addr) (cs : List (Str × Addr)) (fp : List Addr), PG (BX X scope s H C cs fp) (.Name x px) (gName i))
    (ht : ∀ (s : Shared) (H : Hp) (C : Addr) (cs : List (Str × Addr)) (fp : List Addr), TD (BX X scope s H C cs fp) cl c ft)
    (he : ∀ (s : Shared) (H : Hp) (C : Addr) (cs : List (Str × Addr)) (fp : List Addr), PD (BX X scope s H C cs fp) cl true elt fe) (hs : ∀ x, foldedSetIterable iter X.env x = pure x := by intro _; rfl) :
    SD X cl (.Assign [.Name y py] (.ListComp elt [⟨.Name x px, iter, [c], 0⟩] scope pos) spos) (dSetO j (dLc i fi ft fe)) :=
  ps_mono (ps_setLc (own := [(x, i)]) (g := gName i) (tt := tDT (gx X cl) ft) (te := tD (gx X cl) true fe) hc hN hy hyl hsw hi ok hg (fun s H C cs fp => pts_one (ht s H C cs fp)) he hs) fun D σ H ⟨w0, ρ, w, o, ps', eH, S, ef, q⟩ => by
    obtain ⟨x, p1, ex, ef⟩ := bd_some ef
    cases ret_some ef
    refine lc_red (G := gx X cl) (fi := fi) (ft := ft) (fe := fe) (fun _ _ _ h => h) (fun _ _ _ h => h) (fun _ _ _ h => h) σ H _ ⟨w0, ρ, w, x, _, eH, S, ex, fun a w1 l1 q1 h0 ow => ?_⟩
    have S1 := S.step l1
    refine q _ w1 (S1.setOwn (fresh0 S.le h0) ow fun j d' e z => ?_) (l1.wm S.ok) q1
    exact own_new (o := .lst []) S h0 j d' e z
end
end Dl

/-! The D layer: instances: operators, subscripts, built-ins. -/
namespace Dl
open PySem PySem.Spec PyProof.Rows L2

section
variable {G : Gm} {w : Wd} {v : V}
theorem RepR.int {i : Int} (h : RepR G w (.int i) v) : v = .int i := h.elim (fun z => z) fun ⟨_, _, z⟩ => z.at_.elim
theorem RepR.str {x : Str} (h : RepR G w (.str x) v) : v = .str x := h.elim (fun z => z) fun ⟨_, _, z⟩ => z.at_.elim
theorem RepR.bl {x : Bool} (h : RepR G w (.bl x) v) : v = .bl x := h.elim (fun z => z) fun ⟨_, _, z⟩ => z.at_.elim
theorem RepR.ty {x : String} (h : RepR G w (.ty x) v) : v = .ty x := h.elim (fun z => z) fun ⟨_, _, z⟩ => z.at_.elim
theorem RepR.non (h : RepR G w .non v) : v = .non := h.elim (fun z => z) fun ⟨_, _, z⟩ => z.at_.elim
theorem RepR.tup {l : List D} (h : RepR G w (.tup l) v) (ok : WOk w) : ∃ a vs, v = .ref a ∧ SqT G.K w.H a vs ∧ Reps G.K G.cl w l vs := h.elim (fun ⟨a, vs, e, s, r⟩ => ⟨a, vs, e, sqT_mono ok.sub s, r⟩) fun ⟨_, _, z⟩ => z.at_.elim
theorem RepR.lst {l : List D} (h : RepR G w (.lst l) v) (ok : WOk w) : ∃ a vs, v = .ref a ∧ SqL G.K w.H a vs ∧ Reps G.K G.cl w l vs := h.elim (fun ⟨a, vs, e, s, r⟩ => ⟨a, vs, e, sqL_mono ok.sub s, r⟩) fun ⟨a, e, z⟩ => let ⟨vs, hv, r⟩ := z.at_; ⟨a, vs, e, .inl (.inl hv), r⟩
theorem RepR.dk {ks : List Key} {l : List D} (h : RepR G w (.dk ks l) v) : ∃ a, v = .ref a ∧ Own G w a (.dk ks l) := h.elim (fun z => z.elim) fun z => z
theorem RepR.dn {ks : List NestedKey} {l : List D} (h : RepR G w (.dn ks l) v) : ∃ a, v = .ref a ∧ Own G w a (.dn ks l) := h.elim (fun z => z.elim) fun z => z
end

/-! ### the size line -/
theorem line_eq : sizeLine = 16777216 := sizeLine_eq

/-! ### operators on numbers and texts -/
def gAdd : D → D → Option D
  | .int i, .int j => some (.int (i + j))
  | .str x, .str y => if x.length + y.length ≤ 100000 then some (.str (x ++ y)) else none
  | _, _ => none
def gSub : D → D → Option D
  | .int i, .int j => some (.int (i - j))
  | _, _ => none
def gMul : D → D → Option D
  | .int i, .int j => if (-(2 ^ 64) < i ∧ i < 2 ^ 64) ∨ (-(2 ^ 64) < j ∧ j < 2 ^ 64) then some (.int (i * j)) else none
  | .str x, .int j => if 0 ≤ j ∧ j ≤ 100 ∧ x.length ≤ 1000 then some (.str ⟨((List.replicate j.toNat x.cps.toList).flatten).toArray⟩) else none
  | _, _ => none
def gFdiv : D → D → Option D
  | .int i, .int j => if 0 < j ∧ j < 1073741824 then some (.int (i / j)) else none
  | _, _ => none
def gMod : D → D → Option D
  | .int i, .int j => if 0 < j then some (.int (i % j)) else none
  | _, _ => none
def gPow : D → D → Option D
  | .int i, .int j => if 0 ≤ j ∧ j ≤ 1000000 ∧ i.natAbs < 2 ^ 64 then some (.int (i ^ j.toNat)) else none
  | _, _ => none
def gNeg : D → Option D
  | .int i => some (.int (-i))
  | _ => none
def gCmp (f : Int → Int → Bool) : D → D → Option D
  | .int i, .int j => some (.bl (f i j))
  | _, _ => none
abbrev gLt := gCmp fun i j => decide (i < j)
abbrev gLe := gCmp fun i j => decide (i ≤ j)
abbrev gGt := gCmp fun i j => decide (j < i)
abbrev gGe := gCmp fun i j => decide (j ≤ i)
def sc : D → Option V
  | .non => some .non
  | .bl b => some (.bl b)
  | .int i => some (.int i)
  | .str x => some (.str x)
  | _ => none
def gEq (dx dy : D) : Option D := match sc dx, sc dy with
  | some x, some y => if scal x y = true then some (.bl (decide (x = y))) else none
  | _, _ => none
def gNe (dx dy : D) : Option D := match sc dx, sc dy with
  | some x, some y => if scal x y = true then some (.bl (!decide (x = y))) else none
  | _, _ => none
def gIsN (dx dy : D) : Option D := match dy with
  | .non => match dx with
    | .non => some (.bl true)
    | .dk _ _ => none
    | .dn _ _ => none
    | _ => some (.bl false)
  | _ => none
def gNotN (dx dy : D) : Option D := match dy with
  | .non => match dx with
    | .non => some (.bl false)
    | .dk _ _ => none
    | .dn _ _ => none
    | _ => some (.bl true)
  | _ => none
/-- one sign in a text -/
def gInS : D → D → Option D
  | .str x, .str z => match x.cps.toList with
    | [c] => some (.bl (decide (c ∈ z.cps.toList)))
    | _ => none
  | _, _ => none
def gNotInS : D → D → Option D
  | .str x, .str z => match x.cps.toList with
    | [c] => some (.bl (!decide (c ∈ z.cps.toList)))
    | _ => none
  | _, _ => none
section
variable {G : Gm} {X : Cx} {cl : Cl}
theorem os_I0 {g : Int → Int → V} {gd : D → D → Option D} (h : ∀ dx dy z, gd dx dy = some z → ∃ i j, dx = .int i ∧ dy = .int j ∧ ∀ w, Rep G.K G.cl w z (g i j)) : OpS G (rI0 g) gd := fun w x y dx dy z ok rx ry e Q q => by
  obtain ⟨i, j, rfl, rfl, r⟩ := h dx dy z e
  exact ⟨i, j, rx.int, ry.int, q _ w (.refl ok) rfl (r w)⟩
theorem os_I {C : Int → Int → Prop} {g : Int → Int → V} {gd : D → D → Option D} (h : ∀ dx dy z, gd dx dy = some z → ∃ i j, dx = .int i ∧ dy = .int j ∧ C i j ∧ ∀ w, Rep G.K G.cl w z (g i j)) : OpS G (rI C g) gd := fun w x y dx dy z ok rx ry e Q q => by
  obtain ⟨i, j, rfl, rfl, c, r⟩ := h dx dy z e
  exact ⟨i, j, rx.int, ry.int, c, q _ w (.refl ok) rfl (r w)⟩
theorem os_or {r r' : R2} {g : D → D → Option D} (h : ∀ w x y dx dy z, WOk w → RepR G w dx x → RepR G w dy y → g dx dy = some z → ∀ Q : VK, (∀ v w', Le w w' → w'.ps = w.ps → Rep G.K G.cl w' z v → Q v w'.H) → r x y w.H Q ∨ r' x y w.H Q) : OpS G (fun x y H Q => r x y H Q ∨ r' x y H Q) g := h
theorem os_add : OpS G (fun x y H Q => rI0 (fun i j => .int (i + j)) x y H Q ∨ ∃ i j, x = .str i ∧ y = .str j ∧ i.length + j.length ≤ sizeLine ∧ Q (.str (i ++ j)) H) gAdd := fun w x y dx dy z ok rx ry e Q q => by
  unfold gAdd at e
  split at e
  · cases e
    exact .inl ⟨_, _, rx.int, ry.int, q _ w (.refl ok) rfl rfl⟩
  · rename_i a b
    by_cases hl : a.length + b.length ≤ 100000
    · rw [if_pos hl] at e
      cases e
      exact .inr ⟨_, _, rx.str, ry.str, Nat.le_trans hl (by rw [line_eq]; decide), q _ w (.refl ok) rfl rfl⟩
    · rw [if_neg hl] at e; cases e
  · cases e
theorem ho_add : OpR X (binaryOp .Add) (fun x y H Q => rI0 (fun i j => .int (i + j)) x y H Q ∨ ∃ i j, x = .str i ∧ y = .str j ∧ i.length + j.length ≤ sizeLine ∧ Q (.str (i ++ j)) H) := op_add.or op_add_str
theorem os_sub : OpS G (rI0 fun i j => .int (i - j)) gSub := os_I0 fun dx dy z e => by
  unfold gSub at e
  split at e
  · cases e; exact ⟨_, _, rfl, rfl, fun _ => rfl⟩
  · cases e
theorem os_fdiv : OpS G (rI CDiv fun i j => .int (i / j)) gFdiv := os_I fun dx dy z e => by
  unfold gFdiv at e
  split at e
  · rename_i i j
    by_cases h : 0 < j ∧ j < 1073741824
    · rw [if_pos h] at e; cases e; exact ⟨_, _, rfl, rfl, h, fun _ => rfl⟩
    · rw [if_neg h] at e; cases e
  · cases e
theorem os_mod : OpS G (rI (fun _ j => 0 < j) fun i j => .int (i % j)) gMod := os_I fun dx dy z e => by
  unfold gMod at e
  split at e
  · rename_i i j
    by_cases h : 0 < j
    · rw [if_pos h] at e; cases e; exact ⟨_, _, rfl, rfl, h, fun _ => rfl⟩
    · rw [if_neg h] at e; cases e
  · cases e
theorem os_pow : OpS G (rI CPow fun i j => .int (i ^ j.toNat)) gPow := os_I fun dx dy z e => by
  unfold gPow at e
  split at e
  · rename_i i j
    by_cases h : 0 ≤ j ∧ j ≤ 1000000 ∧ i.natAbs < 2 ^ 64
    · rw [if_pos h] at e; cases e; exact ⟨_, _, rfl, rfl, h, fun _ => rfl⟩
    · rw [if_neg h] at e; cases e
  · cases e
theorem os_neg : UnS G (rU fun i => .int (-i)) gNeg := fun w x dx z ok rx e Q q => by
  unfold gNeg at e
  split at e
  · cases e; exact ⟨_, rx.int, q _ w (.refl ok) rfl rfl⟩
  · cases e
theorem os_cmp {f : Int → Int → Bool} : OpS G (rI0 fun i j => .bl (f i j)) (gCmp f) := os_I0 fun dx dy z e => by
  unfold gCmp at e
  split at e
  · cases e; exact ⟨_, _, rfl, rfl, fun _ => rfl⟩
  · cases e
theorem sc_rep {w : Wd} {d : D} {v x : V} (h : RepR G w d v) (e : sc d = some x) : v = x := by
  cases d with
  | non => cases e; exact h.non
  | bl b => cases e; exact h.bl
  | int i => cases e; exact h.int
  | str y => cases e; exact h.str
  | _ => cases e
theorem os_eq : OpS G rEq gEq := fun w x y dx dy z ok rx ry e Q q => by
  unfold gEq at e
  split at e
  · rename_i x' y' ex ey
    rw [sc_rep rx ex, sc_rep ry ey]
    by_cases h : scal x' y' = true
    · rw [if_pos h] at e; cases e; exact ⟨h, q _ w (.refl ok) rfl rfl⟩
    · rw [if_neg h] at e; cases e
  · cases e
theorem os_ne : OpS G rNe gNe := fun w x y dx dy z ok rx ry e Q q => by
  unfold gNe at e
  split at e
  · rename_i x' y' ex ey
    rw [sc_rep rx ex, sc_rep ry ey]
    by_cases h : scal x' y' = true
    · rw [if_pos h] at e; cases e; exact ⟨h, q _ w (.refl ok) rfl rfl⟩
    · rw [if_neg h] at e; cases e
  · cases e
def isNonD : D → Bool
  | .non => true
  | _ => false
theorem nonD {w : Wd} {d : D} {v : V} (h : RepR G w d v) : decide (v = V.non) = isNonD d := by
  cases d with
  | non => rw [h.non]; rfl
  | bl b => rw [h.bl]; rfl
  | int i => rw [h.int]; rfl
  | str y => rw [h.str]; rfl
  | ty y => rw [h.ty]; rfl
  | tup l => rcases h with ⟨a, vs, e, _⟩ | ⟨a, e, _⟩ <;> (rw [e]; rfl)
  | lst l => rcases h with ⟨a, vs, e, _⟩ | ⟨a, e, _⟩ <;> (rw [e]; rfl)
  | ins c l => rcases h with ⟨a, dx, vs, e, _⟩ | ⟨a, e, _⟩ <;> (rw [e]; rfl)
  | pool => rcases h with ⟨a, g, e, _⟩ | ⟨a, e, _⟩ <;> (rw [e]; rfl)
  | dk ks l => rcases h with z | ⟨a, e, _⟩; exact z.elim; rw [e]; rfl
  | dn ks l => rcases h with z | ⟨a, e, _⟩; exact z.elim; rw [e]; rfl
theorem os_isN : OpS G (fun x y H Q => y = .non ∧ Q (.bl (decide (x = .non))) H) gIsN := fun w x y dx dy z ok rx ry e Q q => by
  cases dy with
  | non =>
    refine ⟨ry.non, ?_⟩
    rw [nonD rx]
    refine q _ w (.refl ok) rfl ?_
    cases dx <;> first | (cases e; rfl) | cases e
  | _ => cases e
theorem os_notN : OpS G (fun x y H Q => y = .non ∧ Q (.bl (!decide (x = .non))) H) gNotN := fun w x y dx dy z ok rx ry e Q q => by
  cases dy with
  | non =>
    refine ⟨ry.non, ?_⟩
    rw [nonD rx]
    refine q _ w (.refl ok) rfl ?_
    cases dx <;> first | (cases e; rfl) | cases e
  | _ => cases e
theorem str_of {x : Str} {c : Nat} (h : x.cps.toList = [c]) : x = ⟨#[c]⟩ := by
  cases x with
  | mk cps =>
    have h : cps.toList = [c] := h
    have : cps = #[c] := by rw [← Array.toArray_toList (xs := cps), h]
    rw [this]
theorem os_inS : OpS G (fun x y H Q => ∃ (c : Nat) (z : Str), x = .str ⟨#[c]⟩ ∧ y = .str z ∧ Q (.bl (decide (c ∈ z.cps.toList))) H) gInS := fun w x y dx dy z ok rx ry e Q q => by
  unfold gInS at e
  split at e
  · rename_i a b
    split at e
    · rename_i c hc
      cases e
      exact ⟨c, b, by rw [rx.str, str_of hc], ry.str, q _ w (.refl ok) rfl rfl⟩
    · cases e
  · cases e
theorem os_notInS : OpS G (fun x y H Q => ∃ (c : Nat) (z : Str), x = .str ⟨#[c]⟩ ∧ y = .str z ∧ Q (.bl (!decide (c ∈ z.cps.toList))) H) gNotInS := fun w x y dx dy z ok rx ry e Q q => by
  unfold gNotInS at e
  split at e
  · rename_i a b
    split at e
    · rename_i c hc
      cases e
      exact ⟨c, b, by rw [rx.str, str_of hc], ry.str, q _ w (.refl ok) rfl rfl⟩
    · cases e
  · cases e
/-! ### subscripts -/
def gIx : D → D → Option D
  | .lst l, .int i => atI l i
  | .tup l, .int i => atI l i
  | .str x, .int i => if x.length ≤ 100000 then (atI x.cps.toList i).map fun c => .str ⟨#[c]⟩ else none
  | _, _ => none
theorem Reps.atI {w : Wd} {l : List D} {vs : List V} {i : Int} {d : D} (r : Reps G.K G.cl w l vs) (h : L2.atI l i = some d) : ∃ v, L2.atI vs i = some v ∧ Rep G.K G.cl w d v := by
  unfold L2.atI at h ⊢
  rw [r.length] at h
  obtain ⟨j, hj, e⟩ := Option.bind_eq_some_iff.mp h
  obtain ⟨v, ev, rv⟩ := r.get e
  exact ⟨v, by rw [hj]; exact ev, rv⟩
theorem os_ix : OpS G (rIx G.K) gIx := fun w x y dx dy z ok rx ry e Q q => by
  unfold gIx at e
  split at e
  · obtain ⟨a, vs, ea, hs, r⟩ := rx.lst ok
    obtain ⟨v, ev, rv⟩ := Reps.atI r e
    exact .inl ⟨a, vs, _, v, ea, ry.int, hs, ev, q v w (.refl ok) rfl rv⟩
  · obtain ⟨a, vs, ea, hs, r⟩ := rx.tup ok
    obtain ⟨v, ev, rv⟩ := Reps.atI r e
    exact .inr (.inl ⟨a, vs, _, v, ea, ry.int, hs, ev, q v w (.refl ok) rfl rv⟩)
  · rename_i s i
    by_cases hl : s.length ≤ 100000
    · rw [if_pos hl] at e
      obtain ⟨c, hc, ec⟩ := Option.map_eq_some_iff.mp e
      subst ec
      exact .inr (.inr ⟨s, i, c, rx.str, ry.int, Nat.le_trans hl (by rw [line_eq]; decide), hc, q _ w (.refl ok) rfl rfl⟩)
    · rw [if_neg hl] at e; cases e
  · cases e
end

/-! ### built-ins -/
section
variable {G : Gm} {X : Cx} {cl : Cl}
theorem rps1 {w : Wd} {d : D} {vs : List V} (h : Rps G false w [d] vs) : ∃ v, vs = [v] ∧ RepR G w d v := by
  obtain ⟨v, vs', e, r, t⟩ := h
  rw [show vs' = [] from t] at e
  exact ⟨v, e, r⟩
theorem rps2 {w : Wd} {d d2 : D} {vs : List V} (h : Rps G false w [d, d2] vs) : ∃ v v2, vs = [v, v2] ∧ RepR G w d v ∧ RepR G w d2 v2 := by
  obtain ⟨v, vs', e, r, t⟩ := h
  obtain ⟨v2, e2, r2⟩ := rps1 t
  rw [e2] at e
  exact ⟨v, v2, e, r, r2⟩
def gAbs : List D → Option D
  | [.int i] => some (.int (if i < 0 then -i else i))
  | _ => none
def gMax2 : List D → Option D
  | [.int i, .int j] => some (.int (if j > i then j else i))
  | _ => none
def gMin2 : List D → Option D
  | [.int i, .int j] => some (.int (if j < i then j else i))
  | _ => none
def gInt : List D → Option D
  | [.int i] => some (.int i)
  | [.bl k] => some (.int (if k then 1 else 0))
  | _ => none
def gLen : List D → Option D
  | [.lst l] => some (.int l.length)
  | [.tup l] => some (.int l.length)
  | [.str x] => if x.length ≤ 100000 then some (.int x.length) else none
  | _ => none
def gList : List D → Option D
  | [.lst l] => some (.lst l)
  | [.tup l] => some (.lst l)
  | _ => none
def gTuple : List D → Option D
  | [.lst l] => some (.tup l)
  | [.tup l] => some (.tup l)
  | _ => none
def allB : List D → Option (List Bool)
  | [] => some []
  | .bl k :: r => (allB r).map (k :: ·)
  | _ => none
def gAll : List D → Option D
  | [.lst l] => (allB l).map fun bs => .bl (bs.all id)
  | _ => none
def gAny : List D → Option D
  | [.lst l] => (allB l).map fun bs => .bl (bs.any id)
  | _ => none
def allI : List D → Option (List Int)
  | [] => some []
  | .int k :: r => (allI r).map (k :: ·)
  | _ => none
def leastI : List Int → Int
  | [] => 0
  | [a] => a
  | a :: r => let m := leastI r; if a ≤ m then a else m
def mostI : List Int → Int
  | [] => 0
  | [a] => a
  | a :: r => let m := mostI r; if m ≤ a then a else m
theorem leastI_spec : ∀ {l : List Int}, l ≠ [] → leastI l ∈ l ∧ ∀ y ∈ l, leastI l ≤ y
  | [], h => (h rfl).elim
  | [a], _ => ⟨List.mem_singleton.mpr rfl, fun y hy => by rw [List.mem_singleton.mp hy]; exact Int.le_refl _⟩
  | a :: b :: r, _ => by
    obtain ⟨h1, h2⟩ := leastI_spec (l := b :: r) (fun z => nomatch z)
    show (if a ≤ leastI (b :: r) then a else leastI (b :: r)) ∈ _ ∧ ∀ y ∈ _, (if a ≤ leastI (b :: r) then a else leastI (b :: r)) ≤ y
    by_cases h : a ≤ leastI (b :: r)
    · rw [if_pos h]
      refine ⟨List.mem_cons_self, fun y hy => ?_⟩
      rcases List.mem_cons.mp hy with rfl | hy
      · exact Int.le_refl _
      · exact Int.le_trans h (h2 y hy)
    · rw [if_neg h]
      refine ⟨List.mem_cons_of_mem _ h1, fun y hy => ?_⟩
      rcases List.mem_cons.mp hy with rfl | hy
      · omega
      · exact h2 y hy
theorem mostI_spec : ∀ {l : List Int}, l ≠ [] → mostI l ∈ l ∧ ∀ y ∈ l, y ≤ mostI l
  | [], h => (h rfl).elim
  | [a], _ => ⟨List.mem_singleton.mpr rfl, fun y hy => by rw [List.mem_singleton.mp hy]; exact Int.le_refl _⟩
  | a :: b :: r, _ => by
    obtain ⟨h1, h2⟩ := mostI_spec (l := b :: r) (fun z => nomatch z)
    show (if mostI (b :: r) ≤ a then a else mostI (b :: r)) ∈ _ ∧ ∀ y ∈ _, y ≤ (if mostI (b :: r) ≤ a then a else mostI (b :: r))
    by_cases h : mostI (b :: r) ≤ a
    · rw [if_pos h]
      refine ⟨List.mem_cons_self, fun y hy => ?_⟩
      rcases List.mem_cons.mp hy with rfl | hy
      · exact Int.le_refl _
      · exact Int.le_trans (h2 y hy) h
    · rw [if_neg h]
      refine ⟨List.mem_cons_of_mem _ h1, fun y hy => ?_⟩
      rcases List.mem_cons.mp hy with rfl | hy
      · omega
      · exact h2 y hy
def gMinL : List D → Option D
  | [.lst l] => (allI l).bind fun ns => if ns.isEmpty then none else some (.int (leastI ns))
  | _ => none
def gMaxL : List D → Option D
  | [.lst l] => (allI l).bind fun ns => if ns.isEmpty then none else some (.int (mostI ns))
  | _ => none
def gSum : List D → Option D
  | [.lst l] => (allI l).map fun ns => .int ns.sum
  | _ => none
theorem allB_eq : ∀ {l : List D} {bs : List Bool}, allB l = some bs → l = bs.map .bl
  | [], bs, h => by cases h; rfl
  | d :: r, bs, h => by
    cases d with
    | bl k =>
      obtain ⟨bs', e, e2⟩ := Option.map_eq_some_iff.mp h
      rw [← e2, List.map_cons, ← allB_eq e]
    | _ => cases h
theorem allI_eq : ∀ {l : List D} {bs : List Int}, allI l = some bs → l = bs.map .int
  | [], bs, h => by cases h; rfl
  | d :: r, bs, h => by
    cases d with
    | int k =>
      obtain ⟨bs', e, e2⟩ := Option.map_eq_some_iff.mp h
      rw [← e2, List.map_cons, ← allI_eq e]
    | _ => cases h
theorem cs_abs : CallS G (fun xs H Q => ∃ i, xs = [.int i] ∧ Q (.int (if i < 0 then -i else i)) H) gAbs := fun w ds vs z ok r e Q q => by
  unfold gAbs at e
  split at e
  · obtain ⟨v, ev, rv⟩ := rps1 r
    cases e
    exact ⟨_, by rw [ev, rv.int], q _ w (.refl ok) rfl rfl⟩
  · cases e
theorem cs_max2 : CallS G (fun xs H Q => ∃ i j, xs = [.int i, .int j] ∧ Q (.int (if j > i then j else i)) H) gMax2 := fun w ds vs z ok r e Q q => by
  unfold gMax2 at e
  split at e
  · obtain ⟨v, v2, ev, rv, rv2⟩ := rps2 r
    cases e
    exact ⟨_, _, by rw [ev, rv.int, rv2.int], q _ w (.refl ok) rfl rfl⟩
  · cases e
theorem cs_min2 : CallS G (fun xs H Q => ∃ i j, xs = [.int i, .int j] ∧ Q (.int (if j < i then j else i)) H) gMin2 := fun w ds vs z ok r e Q q => by
  unfold gMin2 at e
  split at e
  · obtain ⟨v, v2, ev, rv, rv2⟩ := rps2 r
    cases e
    exact ⟨_, _, by rw [ev, rv.int, rv2.int], q _ w (.refl ok) rfl rfl⟩
  · cases e
theorem cs_int : CallS G (fun xs H Q => (∃ i, xs = [.int i] ∧ Q (.int i) H) ∨ ∃ k, xs = [.bl k] ∧ Q (.int (if k then 1 else 0)) H) gInt := fun w ds vs z ok r e Q q => by
  unfold gInt at e
  split at e
  · obtain ⟨v, ev, rv⟩ := rps1 r
    cases e
    exact .inl ⟨_, by rw [ev, rv.int], q _ w (.refl ok) rfl rfl⟩
  · obtain ⟨v, ev, rv⟩ := rps1 r
    cases e
    exact .inr ⟨_, by rw [ev, rv.bl], q _ w (.refl ok) rfl rfl⟩
  · cases e
theorem cs_len : CallS G (fun xs H Q => ∃ x n, xs = [x] ∧ LenV G.K x H n ∧ Q (.int n) H) gLen := fun w ds vs z ok r e Q q => by
  unfold gLen at e
  split at e
  · obtain ⟨v, ev, rv⟩ := rps1 r
    cases e
    obtain ⟨a, us, ea, hs, rs⟩ := rv.lst ok
    exact ⟨v, _, ev, by rw [ea]; exact .inl ⟨us, hs, rs.length⟩, q _ w (.refl ok) rfl rfl⟩
  · obtain ⟨v, ev, rv⟩ := rps1 r
    cases e
    obtain ⟨a, us, ea, hs, rs⟩ := rv.tup ok
    exact ⟨v, _, ev, by rw [ea]; exact .inr ⟨us, hs, rs.length⟩, q _ w (.refl ok) rfl rfl⟩
  · rename_i x
    obtain ⟨v, ev, rv⟩ := rps1 r
    by_cases hl : x.length ≤ 100000
    · rw [if_pos hl] at e
      cases e
      exact ⟨v, x.length, ev, by rw [rv.str]; exact ⟨Nat.le_trans hl (by rw [line_eq]; decide), rfl⟩, q _ w (.refl ok) rfl rfl⟩
    · rw [if_neg hl] at e; cases e
  · cases e
theorem cs_list : CallS G (fun xs H Q => ∃ p ys, xs = [.ref p] ∧ (SqL G.K H p ys ∨ SqT G.K H p ys) ∧ ∀ l, H l = none → Q (.ref l) (upd H l (.lst ys))) gList := fun w ds vs z ok r e Q q => by
  have fin : ∀ (l : List D) (us : List V), Reps G.K G.cl w l us → z = .lst l → ∀ p, w.H p = none → Q (.ref p) (upd w.H p (.lst us)) := fun l us rs ez p hp => by
    have l2 : Le w (w.add p (.lst us)) := le_add ok hp
    refine q _ (w.add p (.lst us)) l2 rfl ?_
    rw [ez]
    exact ⟨p, us, rfl, .inl (.inl upd_same), Reps.mono (l2.wm ok) _ _ rs⟩
  unfold gList at e
  split at e
  · obtain ⟨v, ev, rv⟩ := rps1 r
    cases e
    obtain ⟨a, us, ea, hs, rs⟩ := rv.lst ok
    exact ⟨a, us, by rw [ev, ea], .inl hs, fin _ us rs rfl⟩
  · obtain ⟨v, ev, rv⟩ := rps1 r
    cases e
    obtain ⟨a, us, ea, hs, rs⟩ := rv.tup ok
    exact ⟨a, us, by rw [ev, ea], .inr hs, fin _ us rs rfl⟩
  · cases e
theorem cs_tuple : CallS G (fun xs H Q => ∃ p ys, xs = [.ref p] ∧ ((SqL G.K H p ys ∧ ∀ l, H l = none → Q (.ref l) (upd H l (.tup ys))) ∨ (SqT G.K H p ys ∧ Q (.ref p) H))) gTuple := fun w ds vs z ok r e Q q => by
  unfold gTuple at e
  split at e
  · rename_i l
    obtain ⟨v, ev, rv⟩ := rps1 r
    cases e
    obtain ⟨a, us, ea, hs, rs⟩ := rv.lst ok
    refine ⟨a, us, by rw [ev, ea], .inl ⟨hs, fun p hp => ?_⟩⟩
    have l2 : Le w (w.add p (.tup us)) := le_add ok hp
    exact q _ (w.add p (.tup us)) l2 rfl ⟨p, us, rfl, .inl (.inl upd_same), Reps.mono (l2.wm ok) _ _ rs⟩
  · rename_i l
    obtain ⟨v, ev, rv⟩ := rps1 r
    cases e
    rcases rv with ⟨a, us, ea, hs, rs⟩ | ⟨_, _, z⟩
    · exact ⟨a, us, by rw [ev, ea], .inr ⟨sqT_mono ok.sub hs, q _ w (.refl ok) rfl ⟨a, us, rfl, hs, rs⟩⟩⟩
    · exact z.at_.elim
  · cases e
theorem cs_all : CallS G (fun vs H Q => ∃ (a : Addr) (bs : List Bool), vs = [V.ref a] ∧ SqL G.K H a (bs.map V.bl) ∧ Q (.bl (bs.all id)) H) gAll := fun w ds vs z ok r e Q q => by
  unfold gAll at e
  split at e
  · obtain ⟨v, ev, rv⟩ := rps1 r
    obtain ⟨bs, eb, ez⟩ := Option.map_eq_some_iff.mp e
    have el := allB_eq eb
    subst el ez
    obtain ⟨a, us, ea, hs, rs⟩ := rv.lst ok
    rw [Reps.bls rs] at hs
    exact ⟨a, bs, by rw [ev, ea], hs, q _ w (.refl ok) rfl rfl⟩
  · cases e
theorem cs_any : CallS G (fun vs H Q => ∃ (a : Addr) (bs : List Bool), vs = [V.ref a] ∧ SqL G.K H a (bs.map V.bl) ∧ Q (.bl (bs.any id)) H) gAny := fun w ds vs z ok r e Q q => by
  unfold gAny at e
  split at e
  · obtain ⟨v, ev, rv⟩ := rps1 r
    obtain ⟨bs, eb, ez⟩ := Option.map_eq_some_iff.mp e
    have el := allB_eq eb
    subst el ez
    obtain ⟨a, us, ea, hs, rs⟩ := rv.lst ok
    rw [Reps.bls rs] at hs
    exact ⟨a, bs, by rw [ev, ea], hs, q _ w (.refl ok) rfl rfl⟩
  · cases e
theorem cs_minL : CallS G (rMin G.K) gMinL := fun w ds vs z ok r e Q q => by
  unfold gMinL at e
  split at e
  · obtain ⟨v, ev, rv⟩ := rps1 r
    obtain ⟨ns, eb, ez⟩ := Option.bind_eq_some_iff.mp e
    have el := allI_eq eb
    subst el
    obtain ⟨a, us, ea, hs, rs⟩ := rv.lst ok
    rw [Reps.ints rs] at hs
    cases ns with
    | nil => cases ez
    | cons n ns =>
      cases ez
      obtain ⟨h1, h2⟩ := leastI_spec (l := n :: ns) (fun z => nomatch z)
      refine ⟨a, n :: ns, by rw [ev, ea], hs, Nat.succ_pos _, fun m hm hle => ?_⟩
      have em : m = leastI (n :: ns) := Int.le_antisymm (hle _ h1) (h2 m hm)
      rw [em]
      exact q _ w (.refl ok) rfl rfl
  · cases e
theorem cs_maxL : CallS G (rMax G.K) gMaxL := fun w ds vs z ok r e Q q => by
  unfold gMaxL at e
  split at e
  · obtain ⟨v, ev, rv⟩ := rps1 r
    obtain ⟨ns, eb, ez⟩ := Option.bind_eq_some_iff.mp e
    have el := allI_eq eb
    subst el
    obtain ⟨a, us, ea, hs, rs⟩ := rv.lst ok
    rw [Reps.ints rs] at hs
    cases ns with
    | nil => cases ez
    | cons n ns =>
      cases ez
      obtain ⟨h1, h2⟩ := mostI_spec (l := n :: ns) (fun z => nomatch z)
      refine ⟨a, n :: ns, by rw [ev, ea], hs, Nat.succ_pos _, fun m hm hle => ?_⟩
      have em : m = mostI (n :: ns) := Int.le_antisymm (h2 m hm) (hle _ h1)
      rw [em]
      exact q _ w (.refl ok) rfl rfl
  · cases e
end
end Dl

/-! The D layer: dicts with keys that are tuples of tuples and numbers; dicts of numbers and texts. -/
namespace Dl
open PySem PySem.Spec PyProof.Rows L2

section
variable {X : Cx} {cl : Cl} {pins : List (Addr × Obj)} {σ : L2.St} {s : Shared} {w : Wd}
/-! ### keys -/
mutual
theorem nest_is (I : Inv X pins σ w.H s) (ok : WOk w) : ∀ (d : D) (v : V) (u : Value) (k : NestedKey), Rep X.K cl w d v → key1 d = some k → RelV v u → NestedIs s.heap k u
  | .non, v, u, k, r, e, ru => by
    have r : v = .non := r
    subst r
    have ru : u = Value.none := ru
    subst ru
    cases e
    exact .none
  | .int i, v, u, k, r, e, ru => by
    have r : v = .int i := r
    subst r
    obtain ⟨t, ru⟩ := ru
    subst ru
    cases e
    exact .int i t
  | .str x, v, u, k, r, e, ru => by
    have r : v = .str x := r
    subst r
    obtain ⟨t, ru⟩ := ru
    subst ru
    cases e
    exact .text x t
  | .tup l, v, u, k, r, e, ru => by
    obtain ⟨a, vs, ev, hs, rs⟩ := r
    subst ev
    have ru : u = Value.ref a := ru
    subst ru
    have e : (match keyL l with | some ks => some (NestedKey.tup ks) | none => none) = some k := e
    split at e
    · rename_i ks ek
      cases e
      obtain ⟨its, rv, ⟨o, ho, hc, n, hd⟩, _⟩ := I.tuple (sqT_mono ok.sub hs)
      exact .tup ho hc hd (by simpa using nest_all I ok l vs its ks rs ek rv)
    · cases e
  | .bl _, _, _, _, _, e, _ => by cases e
  | .ty _, _, _, _, _, e, _ => by cases e
  | .lst _, _, _, _, _, e, _ => by cases e
  | .ins _ _, _, _, _, _, e, _ => by cases e
  | .dk _ _, _, _, _, _, e, _ => by cases e
  | .dn _ _, _, _, _, _, e, _ => by cases e
  | .pool, _, _, _, _, e, _ => by cases e
theorem nest_all (I : Inv X pins σ w.H s) (ok : WOk w) : ∀ (ds : List D) (vs : List V) (us : List Value) (ks : List NestedKey), Reps X.K cl w ds vs → keyL ds = some ks → Vals vs us → NestedAll s.heap ks us
  | [], vs, us, ks, r, e, ru => by
    have r : vs = [] := r
    subst r
    cases ru
    cases e
    exact .nil
  | d :: ds, vs, us, ks, r, e, ru => by
    obtain ⟨v, vs', ev, r1, r2⟩ := r
    subst ev
    cases ru with
    | cons q1 q2 =>
      have e : (match key1 d with
        | some k => match keyL ds with
          | some ks => some (k :: ks)
          | none => none
        | none => none) = some ks := e
      split at e
      · rename_i k1 ek1
        split at e
        · rename_i ks2 ek2
          cases e
          exact .cons (nest_is I ok d v _ k1 r1 ek1 q1) (nest_all I ok ds vs' _ ks2 r2 ek2 q2)
        · cases e
      · cases e
end
theorem keyOf_key1 {d : D} {k : NestedKey} (h : keyOf d = some k) : key1 d = some k ∧ k.depth ≤ 8 ∧ ∃ l, d = .tup l := by
  unfold keyOf at h
  split at h
  · rename_i l
    split at h
    · rename_i ks ek
      by_cases hd : NestedKey.depth (.tup ks) ≤ 8
      · rw [if_pos hd] at h
        cases h
        refine ⟨?_, hd, l, rfl⟩
        show (match keyL l with | some ks => some (NestedKey.tup ks) | none => none) = _
        rw [ek]
      · rw [if_neg hd] at h; cases h
    · cases h
  · cases h
/-- the key at a, for the library -/
theorem key_at (I : Inv X pins σ w.H s) (ok : WOk w) {d : D} {k : NestedKey} {v : V} {u : Value} (h : keyOf d = some k) (r : Rep X.K cl w d v) (ru : RelV v u) : ∃ a, v = .ref a ∧ u = .ref a ∧ (nestedKind X.prog X.w).is s.heap k a := by
  obtain ⟨h1, h2, l, rfl⟩ := keyOf_key1 h
  obtain ⟨a, vs, ev, hs, rs⟩ := id r
  subst ev
  have ru' : u = Value.ref a := ru
  exact ⟨a, rfl, ru', ru' ▸ nest_is I ok _ _ _ _ r h1 ru, h2⟩
theorem dn_at (I : Inv X pins σ w.H s) (ok : WOk w) {a : Addr} {xs : List (NestedKey × Addr × Value)} (e : w.H a = some (.ext (NEnt X.prog X.w xs a))) (hk : ∀ x ∈ xs, ∃ d, keyOf d = some x.1 ∧ Rep X.K cl w d (.ref x.2.1)) :
    (a == sysModules) = false ∧ s.heap.DictOfH (nestedKind X.prog X.w) a xs := by
  obtain ⟨⟨h0, o, es, ep, h1, h2, h3, h4, h5⟩, _⟩ := (show ObjOk X.prog X.w w.H s.heap a (.ext (NEnt X.prog X.w xs a)) from I.hok a _ e)
  refine ⟨h0, o, es, ep, h1, h2, h3, h4, fun x hx => ?_, h5⟩
  obtain ⟨d, ed, rd⟩ := hk x hx
  obtain ⟨b, e1, e2, q⟩ := key_at I ok ed rd (u := .ref x.2.1) rfl
  cases e1
  exact q
theorem atKey_mem {xs : List (NestedKey × Addr × Value)} {k : NestedKey} : (atKey xs k).isSome = decide (k ∈ xs.map (·.1)) := by
  rw [Bool.eq_iff_iff]
  unfold atKey
  rw [Option.isSome_map, List.find?_isSome, decide_eq_true_iff, List.mem_map]
  constructor
  · rintro ⟨x, hx, e⟩
    exact ⟨x, hx, of_decide_eq_true e⟩
  · rintro ⟨x, hx, e⟩
    exact ⟨x, hx, decide_eq_true e⟩
end

/-! ### k in d -/
section
variable {X : Cx} {cl : Cl}
def rDn (X : Cx) (cl : Cl) (neg : Bool) : R2 := fun x y H Q => ∃ w kd k ks l a, w.H = H ∧ WOk w ∧ Rep X.K cl w kd x ∧ keyOf kd = some k ∧ y = .ref a ∧ Own (gx X cl) w a (.dn ks l) ∧ Q (.bl (if neg = true then !decide (k ∈ ks) else decide (k ∈ ks))) H
theorem room8 {k : Nat} {A : Around} (hr : Room k A) : A.units + 1 + 8 < cLine := by have := hr.units; omega
theorem op_inDn {k : Nat} (hr : Room k X.A) : OpR X (compareOp .In) (rDn X cl false) := by
  intro pins s σ H x y v u Q I rx ry h
  obtain ⟨w, kd, ky, ks, l, a, rfl, ok, rk, ek, ey, ow, q⟩ := h
  subst ey
  have ry : u = Value.ref a := ry
  subst ry
  obtain ⟨b, e1, e2, isk⟩ := key_at I ok ek rk rx
  subst e1 e2
  obtain ⟨xs, vs, hH, hks, hk, _, _⟩ := ow.at_
  obtain ⟨h0, hm⟩ := dn_at I ok hH hk
  refine wpAny_in_heap (show X.A.in1.units + 8 < cLine from room8 hr) isk h0 hm ?_
  refine ⟨.bl _, w.H, I.tok _, rfl, ?_⟩
  rw [atKey_mem, hks]
  exact q
theorem op_notInDn {k : Nat} (hr : Room k X.A) : OpR X (compareOp .NotIn) (rDn X cl true) := by
  intro pins s σ H x y v u Q I rx ry h
  obtain ⟨w, kd, ky, ks, l, a, rfl, ok, rk, ek, ey, ow, q⟩ := h
  subst ey
  have ry : u = Value.ref a := ry
  subst ry
  obtain ⟨b, e1, e2, isk⟩ := key_at I ok ek rk rx
  subst e1 e2
  obtain ⟨xs, vs, hH, hks, hk, _, _⟩ := ow.at_
  obtain ⟨h0, hm⟩ := dn_at I ok hH hk
  refine wpAny_notIn_heap (show X.A.in1.units + 8 < cLine from room8 hr) isk h0 hm ?_
  refine ⟨.bl _, w.H, I.tok _, rfl, ?_⟩
  rw [atKey_mem, hks]
  exact q
def gInDn (dx dy : D) : Option D := match dy with
  | .dn ks _ => (keyOf dx).map fun k => .bl (decide (k ∈ ks))
  | _ => none
def gNotInDn (dx dy : D) : Option D := match dy with
  | .dn ks _ => (keyOf dx).map fun k => .bl (!decide (k ∈ ks))
  | _ => none
theorem rep_of_key {G : Gm} {w : Wd} {dx : D} {x : V} {k : NestedKey} (r : RepR G w dx x) (e : keyOf dx = some k) : Rep G.K G.cl w dx x := by
  obtain ⟨_, _, l, rfl⟩ := keyOf_key1 e
  exact r.elim (fun z => z) fun ⟨_, _, z⟩ => z.at_.elim
theorem os_inDn : OpS (gx X cl) (rDn X cl false) gInDn := fun w x y dx dy z ok rx ry e Q q => by
  unfold gInDn at e
  split at e
  · rename_i ks l
    obtain ⟨k, ek, ez⟩ := Option.map_eq_some_iff.mp e
    obtain ⟨a, ea, ow⟩ := ry.dn
    subst ez
    exact ⟨w, dx, k, ks, l, a, rfl, ok, rep_of_key rx ek, ek, ea, ow, q _ w (.refl ok) rfl rfl⟩
  · cases e
theorem os_notInDn : OpS (gx X cl) (rDn X cl true) gNotInDn := fun w x y dx dy z ok rx ry e Q q => by
  unfold gNotInDn at e
  split at e
  · rename_i ks l
    obtain ⟨k, ek, ez⟩ := Option.map_eq_some_iff.mp e
    obtain ⟨a, ea, ow⟩ := ry.dn
    subst ez
    exact ⟨w, dx, k, ks, l, a, rfl, ok, rep_of_key rx ek, ek, ea, ow, q _ w (.refl ok) rfl rfl⟩
  · cases e

/-! ### d[k] = v, k new -/
def dnC (c : Option (Option Cell)) (kd d : D) : Option Cell := match c with
  | some (some (.own (.dn ks l))) => match keyOf kd with
    | some k => if k ∉ ks ∧ ks.length < 100000 then some (.own (.dn (ks ++ [k]) (l ++ [d]))) else none
    | none => none
  | _ => none
theorem dnC_some {c : Option (Option Cell)} {kd d : D} {r : Cell} (h : dnC c kd d = some r) : ∃ ks l k, c = some (some (.own (.dn ks l))) ∧ keyOf kd = some k ∧ k ∉ ks ∧ ks.length < 100000 ∧ r = .own (.dn (ks ++ [k]) (l ++ [d])) := by
  unfold dnC at h
  split at h
  · rename_i ks l
    split at h
    · rename_i k ek
      by_cases hk : k ∉ ks ∧ ks.length < 100000
      · rw [if_pos hk] at h
        exact ⟨ks, l, k, rfl, ek, hk.1, hk.2, (Option.some.inj h).symm⟩
      · rw [if_neg hk] at h; cases h
    · cases h
  · cases h
def dDn (i : Nat) (fv fk : FE) : FS := fun ρ => bd (fv ρ) fun d => bd (fk ρ) fun kd => bd (lft (dnC ρ[i]? kd d)) fun c => ret (.nx (ρ.set i (some c)))
def tDn (i : Nat) (tv tk : TE) (X : Cx) (cl : Cl) : TS := fun D σ H => tv σ H fun v H1 => ∃ a, σ[i]? = some (some (.ref a)) ∧ tk σ H1 fun y H2 => ∃ w kd k xs, w.H = H2 ∧ WOk w ∧ Rep X.K cl w kd y ∧ keyOf kd = some k ∧
  w.H a = some (.ext (NEnt X.prog X.w xs a)) ∧ (∀ x ∈ xs, ∃ d, keyOf d = some x.1 ∧ Rep X.K cl w d (.ref x.2.1)) ∧ k ∉ xs.map (·.1) ∧ xs.length < 100000 ∧
  ∀ b u, y = .ref b → RelV v u → D.nx σ (upd H2 a (.ext (NEnt X.prog X.w (xs ++ [(k, b, u)]) a)))
theorem ps_dn {k : Nat} {i : Nat} {x : Str} {p1 pos' pos : Pos} {value ke : Expr} {tv tk : TE} (hr : Room k X.A) (hN : X.N[i]? = some x) (hv : Vis X.env.scope x) (he : PE X value tv) (hk : PE X ke tk)
    (hd : (x == ("__debug__" : Str)) = false := by decide) (hcd : (x == ("__classdict__" : Str)) = false := by decide)
    (hs : swapsWith value (some (.Subscript (.Name x p1) ke pos')) pos.line X.env = pure false := by rfl) : PS X (.Assign [.Subscript (.Name x p1) ke pos'] value pos) (tDn i tv tk X cl) := by
  refine ⟨fun pins s σ H D I h => ?_⟩
  refine wpAny_Assign_Subscript (thn (he.run pins s σ H _ I h) fun r s1 ⟨v, H1, I1, rv, a, ea, q1⟩ => ?_) hs
  refine thn ((pe_var hN hv hd hcd).run pins s1 σ H1 (fun x H2 => x = .ref a ∧ H2 = H1) I1 ⟨.ref a, ea, rfl, rfl⟩) fun ov s2 ⟨xo, H2, I2, ro, e1, e2⟩ => ?_
  subst e1 e2
  have ro : ov = Value.ref a := ro
  subst ro
  refine thn (hk.run pins s2 σ H2 _ I2 q1) fun iv s3 ⟨y, H3, I3, ry, w, kd, ky, xs, eH, ok, rk, ek, hH, hks, nk, hl, q3⟩ => ?_
  subst eH
  obtain ⟨b, e1, e2, isk⟩ := key_at I3 ok ek rk ry
  subst e1 e2
  obtain ⟨h0, hm⟩ := dn_at I3 ok hH hks
  have hz : xs.length ≤ sizeLine := by rw [line_eq]; omega
  have hnew : atKey xs ky = none := by
    have := atKey_mem (xs := xs) (k := ky)
    rw [decide_eq_false nk] at this
    cases h : atKey xs ky with
    | none => rfl
    | some _ => rw [h] at this; cases this
  refine wpAny_setItem_heap (hsz := hz) (show X.A.in1.units + 8 < cLine from room8 hr) isk hm fun h' hm' hsb => ?_
  rw [storedH_new hnew] at hm'
  obtain ⟨o, es, ep, g1, g2, g3, g4, g5, g6⟩ := hm'
  have nm : (xs ++ [(ky, b, r)]).map (·.1) = xs.map (·.1) ++ [ky] := by rw [List.map_append]; rfl
  refine ⟨σ, _, ?_, q3 b r rfl rv⟩
  refine d_write I3 (by rw [hH]; exact True.intro) hsb ⟨o, g1⟩ ⟨⟨h0, o, es, ep, g1, g2, g3, g4, g6⟩, ⟨o, g1⟩, ?_⟩
  rintro h1 h2 ⟨z0, o1, es1, ep1, z1, z2⟩ hk
  exact ⟨z0, o1, es1, ep1, hk o1 z1, z2⟩
theorem sd_dn {k : Nat} {i : Nat} {x : Str} {p1 pos' pos : Pos} {value ke : Expr} {fv fk : FE} (hr : Room k X.A) (hN : X.N[i]? = some x) (hv : Vis X.env.scope x) (he : PD X cl true value fv) (hk : PD X cl true ke fk)
    (hd : (x == ("__debug__" : Str)) = false := by decide) (hcd : (x == ("__classdict__" : Str)) = false := by decide)
    (hs : swapsWith value (some (.Subscript (.Name x p1) ke pos')) pos.line X.env = pure false := by rfl) : SD X cl (.Assign [.Subscript (.Name x p1) ke pos'] value pos) (dDn i fv fk) :=
  ps_mono (ps_dn (cl := cl) hr hN hv he hk hd hcd hs) fun D σ H ⟨w0, ρ, w, o, ps', eH, S, ef, q⟩ => by
    obtain ⟨d, p1, ed, ef⟩ := bd_some ef
    obtain ⟨kd, p2, ekd, ef⟩ := bd_some ef
    obtain ⟨c, p3, ec, ef⟩ := bd_some ef
    obtain ⟨e1, e2⟩ := lft_some ec
    obtain ⟨ks, l, ky, er, ek, nk, hl, e3⟩ := dnC_some e1
    have e4 := ret_some ef
    cases e4
    have e3 : c = .own (.dn (ks ++ [ky]) (l ++ [d])) := e3
    subst e3
    have e2 : p2 = ps' := e2
    subst e2
    refine ⟨w0, ρ, w, d, p1, eH, S, ed, fun v w1 l1 q1 r1 => ?_⟩
    have S1 := S.step l1
    obtain ⟨a, ea, h0, ow⟩ := S1.own i _ er
    refine ⟨a, ea, w0, ρ, w1, kd, p2, rfl, S1, by rw [q1]; exact ekd, fun y w2 l2 q2 r2 => ?_⟩
    have S2 := S1.step l2
    obtain ⟨a', ea', _, ow2⟩ := S2.own i _ er
    rw [ea] at ea'
    cases ea'
    obtain ⟨xs, vs, hH, hks, hk, hvs, rs⟩ := id ow2.at_
    refine ⟨w2, kd, ky, xs, rfl, S2.ok, r2, ek, hH, hk, by rw [hks]; exact nk, by rw [← List.length_map (f := (·.1)), hks]; exact hl, fun b u ey ru => ?_⟩
    refine q σ { w2 with H := upd w2.H a (.ext (NEnt X.prog X.w (xs ++ [(ky, b, u)]) a)) } (S2.change er ea ⟨xs ++ [(ky, b, u)], vs ++ [v], upd_same, ?_, fun z hz => ?_, ?_, ?_⟩) ?_ q2
    · rw [List.map_append, hks]; rfl
    · have m2 : Wm w2 { w2 with H := upd w2.H a (.ext (NEnt X.prog X.w (xs ++ [(ky, b, u)]) a)) } := ⟨fun _ _ h => h, fun _ h => h, rfl⟩
      rcases List.mem_append.mp hz with hz | hz
      · obtain ⟨dd, g1, g2⟩ := hk z hz
        exact ⟨dd, g1, Rep.mono m2 _ _ g2⟩
      · rw [List.mem_singleton.mp hz]
        exact ⟨kd, ek, by rw [ey] at r2; exact Rep.mono m2 _ _ r2⟩
    · rw [List.map_append]
      exact Vals.append hvs (.cons ru .nil)
    · have m2 : Wm w2 { w2 with H := upd w2.H a (.ext (NEnt X.prog X.w (xs ++ [(ky, b, u)]) a)) } := ⟨fun _ _ h => h, fun _ h => h, rfl⟩
      exact Reps.append (Reps.mono m2 _ _ rs) (Reps.one (Rep.mono m2 _ _ (Rep.mono (l2.wm l1.ok) _ _ r1)))
    · exact ((l1.trans l2).wm S.ok).trans ⟨fun _ _ h => h, fun _ h => h, rfl⟩

/-! ### x = {k: v}, k a tuple -/
def tDn1 (tk tv : TE) (X : Cx) (cl : Cl) : TE := fun σ H Q => ∀ p, H p = none → tk σ (upd H p (.dK [])) fun y H1 => tv σ H1 fun v H2 => H2 p = some (.dK []) ∧ ∃ w kd k, w.H = H2 ∧ WOk w ∧ Rep X.K cl w kd y ∧ keyOf kd = some k ∧
  ∀ b u, y = .ref b → RelV v u → Q (.ref p) (upd H2 p (.ext (NEnt X.prog X.w [(k, b, u)] p)))
theorem pe_dn1 {k : Nat} {ke value : Expr} {pos : Pos} {tk tv : TE} (hr : Room k X.A) (hk : PE X ke tk) (hv : PE X value tv) : PE X (.Dict [some ke] [value] pos) (tDn1 tk tv X cl) := by
  refine ⟨fun pins s σ H Q I q => ?_⟩
  have hn := I.hok.fresh (Nat.le_refl s.heap.objs.size)
  have I1 := I.laid (a := s.heap.objs.size) (o := .dK []) (h' := s.heap.push { cls := .type "dict", data := .dict #[] }) (t' := s.toks) (fun _ _ q => Heap.get?_push_of_some _ q) (Nat.le_refl _) (dk_empty s.heap I.big)
  have hn0 : pairTrees [some ke] [value] X.env pos ≠ [] := fun z => nomatch z
  rw [arm_eval_Dict, zip_pairTrees [some ke] [value] X.env pos rfl rfl, dictDisplay_pairs _ hn0 (by show 1 < 17; decide)]
  refine wpAny_bind (wpAny_standAt (wpAny_bind (wpAny_subDictH (knd := nestedKind X.prog X.w) (Q := fun d s' => wpAny (model X.prog X.w) X.A (pure (Value.ref d)) (EP X pins σ Q) X.xe s') (show X.A.units + 8 < cLine by have := hr.units; omega) (by show 1 ≤ 15; decide) ?_)))
  refine pairTrees_cons_walk (thn (hk.run pins _ σ _ _ I1 (q _ hn)) fun u s1 ⟨y, H1, I2, ry, q1⟩ => thn (hv.run pins s1 σ H1 _ I2 q1) fun r s2 ⟨v, H2, I3, rv, e, w, kd, ky, eH, ok, rk, ek, q2⟩ => pairTrees_nil_walk ?_)
  subst eH
  obtain ⟨b, e1, e2, isk⟩ := key_at I3 ok ek rk ry
  subst e1 e2
  obtain ⟨z, h0, vs0, r0, ob, es, ep, g1, g2, g3, g4, g5, g6⟩ := dk_of I3.hok e
  cases r0
  have h4 : es.toList = [] := by
    cases h : es.toList with
    | nil => rfl
    | cons _ _ => rw [h] at g5; cases g5
  refine ⟨[(ky, b, r)], ⟨rfl, rfl, isk, True.intro⟩, ⟨ob, es, ep, g1, g2, g3, h4, fun x hx => (by cases hx), List.nodup_nil⟩, fun h' tk' hm hs => wpAny_pure ?_⟩
  have hm : h'.DictOfH (nestedKind X.prog X.w) s.heap.objs.size [(ky, b, r)] := hm
  obtain ⟨o, es', ep', k1, k2, k3, k4, k5, k6⟩ := hm
  refine ⟨.ref s.heap.objs.size, _, ?_, rfl, q2 b r rfl rv⟩
  refine d_write I3 (by rw [e]; exact True.intro) hs ⟨o, k1⟩ ⟨⟨h0, o, es', ep', k1, k2, k3, k4, k6⟩, ⟨o, k1⟩, ?_⟩
  rintro h1 h2 ⟨z0, o1, es1, ep1, z1, z2⟩ hk
  exact ⟨z0, o1, es1, ep1, hk o1 z1, z2⟩
def dn1C (kd d : D) : Option Cell := (keyOf kd).map fun k => .own (.dn [k] [d])
def dDn1 (i : Nat) (fk fv : FE) : FS := fun ρ => bd (fk ρ) fun kd => bd (fv ρ) fun d => bd (lft (dn1C kd d)) fun c => ret (.nx (ρ.set i (some c)))
theorem sd_dn1 {k : Nat} {i : Nat} {x : Str} {pos' pd pos : Pos} {value ke : Expr} {fk fv : FE} (hr : Room k X.A) (hN : X.N.Nodup) (hi : X.N[i]? = some x) (hx : Loc X.env.scope x) (hk : PD X cl true ke fk) (hv : PD X cl true value fv)
    (hs : swapsWith (.Dict [some ke] [value] pd) (some (.Name x pos')) pos.line X.env = pure false := by rfl)
    (hf : X.fn x = true ∨ X.env.scope.names.lookup x = some .local := by first | exact .inl rfl | exact .inr rfl | assumption) : SD X cl (.Assign [.Name x pos'] (.Dict [some ke] [value] pd) pos) (dDn1 i fk fv) :=
  ps_mono (ps_set hN hi hx (pe_dn1 (cl := cl) hr hk hv) hs hf) fun D σ H ⟨w0, ρ, w, o, ps', eH, S, ef, q⟩ => by
    obtain ⟨kd, p1, ekd, ef⟩ := bd_some ef
    obtain ⟨d, p2, ed, ef⟩ := bd_some ef
    obtain ⟨c, p3, ec, ef⟩ := bd_some ef
    obtain ⟨e1, e2⟩ := lft_some ec
    obtain ⟨ky, ek, ec⟩ := Option.map_eq_some_iff.mp e1
    have e4 := ret_some ef
    cases e4
    have ec : Cell.own (.dn [ky] [d]) = c := ec
    subst ec
    have e2 : p2 = ps' := e2
    subst e2
    intro p hp
    subst eH
    have l0 : Le w (w.addH p (.dK [])) := le_addH S.ok hp
    have np0 : ¬ inP (w.addH p (.dK [])).pa p := np_of (w := w) S.ok hp
    refine ⟨w0, ρ, w.addH p (.dK []), kd, p1, rfl, S.step l0, ekd, fun y w1 l1 q1 r1 => ?_⟩
    refine ⟨w0, ρ, w1, d, p2, rfl, (S.step l0).step l1, by rw [q1]; exact ed, fun v w2 l2 q2 r2 => ?_⟩
    have hp1 : w1.H p = some (.dK []) := l1.h p _ upd_same np0
    have np1 : ¬ inP w1.pa p := fun z => np0 (l1.fr p (by show upd w.H p _ p ≠ none; rw [upd_same]; exact fun z => nomatch z) z)
    have hp2 : w2.H p = some (.dK []) := l2.h p _ hp1 np1
    have np2 : ¬ inP w2.pa p := fun z => np1 (l2.fr p (by rw [hp1]; exact fun z => nomatch z) z)
    have wn0 : (w.addH p (.dK [])).W p = none := S.ok.none hp
    have wn1 : w1.W p = none := (l1.w_ p (by show upd w.H p _ p ≠ none; rw [upd_same]; exact fun z => nomatch z)).trans wn0
    have wn2 : w2.W p = none := (l2.w_ p (by rw [hp1]; exact fun z => nomatch z)).trans wn1
    refine ⟨hp2, w2, kd, ky, rfl, l2.ok, Rep.mono (l2.wm l1.ok) _ _ r1, ek, fun b u ey ru => ?_⟩
    have l3 : Le w { w2 with H := upd w2.H p (.ext (NEnt X.prog X.w [(ky, b, u)] p)) } := le_upd (l0.trans (l1.trans l2)) hp wn2 np2
    have m2 : Wm w2 { w2 with H := upd w2.H p (.ext (NEnt X.prog X.w [(ky, b, u)] p)) } := ⟨fun _ _ h => h, fun _ h => h, rfl⟩
    refine q _ { w2 with H := upd w2.H p (.ext (NEnt X.prog X.w [(ky, b, u)] p)) } ((S.step l3).setOwn (fresh0 S.le hp) ⟨wn2, np2, [(ky, b, u)], [v], upd_same, rfl, fun z hz => ?_, .cons ru .nil, Reps.one (Rep.mono m2 _ _ r2)⟩ (own_new (o := .lst []) S hp)) (l3.wm S.ok) q2
    rw [List.mem_singleton.mp hz]
    refine ⟨kd, ek, ?_⟩
    have r1' : Rep X.K cl w2 kd y := Rep.mono (l2.wm l1.ok) _ _ r1
    rw [ey] at r1'
    exact Rep.mono m2 _ _ r1'
end
end Dl

/-! The D layer: further instances: texts repeated, deep ==, isinstance, sorted dicts, slices, enumerate of a text, count and index of a text. -/
namespace Dl
open PySem PySem.Spec PyProof.Rows L2

/-! ### a text n times -/
def repS (z : Str) (n : Nat) : Str := ⟨((List.replicate n z.cps.toList).flatten).toArray⟩
theorem repS_len (z : Str) (n : Nat) : (repS z n).length = z.length * n := by
  show (((List.replicate n z.cps.toList).flatten).toArray).size = z.cps.size * n
  rw [List.size_toArray, List.length_flatten, List.map_replicate, List.sum_replicate_nat, Array.length_toList, Nat.mul_comm]
theorem rep_fold (z : Array Nat) : ∀ (n : Nat) (acc : Array Nat), (List.replicate n z).foldl (· ++ ·) acc = acc ++ ((List.replicate n z.toList).flatten).toArray
  | 0, acc => by simp
  | n + 1, acc => by
    rw [List.replicate_succ, List.foldl_cons, rep_fold z n, List.replicate_succ, List.flatten_cons]
    apply Array.ext'
    simp
def rRepS : R2 := fun x y H Q => ∃ (z : Str) (k : Int), x = .str z ∧ y = .int k ∧ 0 ≤ k ∧ k ≤ 100 ∧ z.length ≤ 1000 ∧ Q (.str (repS z k.toNat)) H
theorem op_repS {X : Cx} : OpR X (binaryOp .Mult) rRepS := by
  intro pins s σ H x y v u Q I rx ry h
  obtain ⟨z, k, rfl, rfl, h0, h1, hl, q⟩ := h
  obtain ⟨t, rfl⟩ := rx
  obtain ⟨t', rfl⟩ := ry
  have hk : k.toNat ≤ 100 := by omega
  have hm : z.length * k.toNat ≤ 100000 := Nat.le_trans (Nat.mul_le_mul hl hk) (by decide)
  have line : sizeLine = 16777216 := sizeLine_eq
  refine P.mul_str ?_ (fun a b => ?_) (fun a b => ?_) ?_
  · have e1 : ¬ k < -(2 ^ 63 : Int) := by omega
    have e2 : ¬ k ≥ 2 ^ 63 := by omega
    rw [decide_eq_false e1, decide_eq_false e2]; rfl
  · have hz : (z.length : Int) ≤ 1000 := by omega
    have h2 : (1000 : Int) ≤ (2 ^ 63 - 1) / k := by
      have : (1000 : Int) ≤ (2 ^ 63 - 1) / k := (Int.le_ediv_iff_mul_le (by omega)).mpr (by omega)
      exact this
    omega
  · show decide (z.length * k.toNat > sizeLine) = false
    exact decide_eq_false (by rw [line]; omega)
  · by_cases c1 : k < 1
    · rw [if_pos c1]
      have e : k = 0 := by omega
      subst e
      refine ⟨by rw [line]; decide, ⟨.str _, H, I.tok _, ⟨_, rfl⟩, ?_⟩⟩
      have : Str.empty = repS z (0 : Int).toNat := rfl
      rw [this]; exact q
    · rw [if_neg c1]
      by_cases c2 : (k == 1 || z.length == 0) = true
      · rw [if_pos c2]
        refine ⟨.str z, H, I, ⟨_, rfl⟩, ?_⟩
        have e : repS z k.toNat = z := by
          rcases Bool.or_eq_true_iff.mp c2 with c | c
          · have e : k = 1 := by simpa using c
            subst e
            show (⟨((List.replicate 1 z.cps.toList).flatten).toArray⟩ : Str) = z
            rw [List.replicate_one, List.flatten_singleton, Array.toArray_toList]
          · have e : z.length = 0 := by simpa using c
            have e2 : z.cps = #[] := Array.eq_empty_of_size_eq_zero e
            have e3 : z = ⟨#[]⟩ := by
              cases z with
              | mk cps => exact congrArg Str.mk e2
            rw [e3]
            show (⟨((List.replicate k.toNat ([] : List Nat)).flatten).toArray⟩ : Str) = ⟨#[]⟩
            congr 1
            apply Array.ext'
            simp
        rw [e] at q
        exact q
      · rw [if_neg c2]
        have e : (⟨(List.replicate k.toNat z.cps).foldl (· ++ ·) #[]⟩ : Str) = repS z k.toNat := by
          unfold repS
          rw [rep_fold]
          congr 1
          apply Array.ext'
          simp
        rw [e]
        refine ⟨by rw [repS_len, line]; omega, ⟨.str _, H, I.tok _, ⟨_, rfl⟩, q⟩⟩
def gMulA : D → D → Option D
  | .int i, .int j => if (-(2 ^ 64) < i ∧ i < 2 ^ 64) ∨ (-(2 ^ 64) < j ∧ j < 2 ^ 64) then some (.int (i * j)) else none
  | .str x, .int j => if 0 ≤ j ∧ j ≤ 100 ∧ x.length ≤ 1000 then some (.str (repS x j.toNat)) else none
  | _, _ => none
theorem ho_mul {X : Cx} : OpR X (binaryOp .Mult) (fun x y H Q => rI CMul (fun i j => .int (i * j)) x y H Q ∨ rRepS x y H Q) := op_mul.or op_repS
theorem os_mul {G : Gm} : OpS G (fun x y H Q => rI CMul (fun i j => .int (i * j)) x y H Q ∨ rRepS x y H Q) gMulA := fun w x y dx dy z ok rx ry e Q q => by
  unfold gMulA at e
  split at e
  · rename_i i j
    by_cases h : (-(2 ^ 64) < i ∧ i < 2 ^ 64) ∨ (-(2 ^ 64) < j ∧ j < 2 ^ 64)
    · rw [if_pos h] at e; cases e
      exact .inl ⟨i, j, rx.int, ry.int, h, q _ w (.refl ok) rfl rfl⟩
    · rw [if_neg h] at e; cases e
  · rename_i x j
    by_cases h : 0 ≤ j ∧ j ≤ 100 ∧ x.length ≤ 1000
    · rw [if_pos h] at e; cases e
      exact .inr ⟨x, j, rx.str, ry.int, h.1, h.2.1, h.2.2, q _ w (.refl ok) rfl rfl⟩
    · rw [if_neg h] at e; cases e
  · cases e

/-! ### deep == -/
mutual
def toPy : D → Option PyData
  | .non => some .none
  | .bl b => some (.bool b)
  | .int i => some (.int i)
  | .str x => some (.str x)
  | .lst l => match toPys l with
    | some ds => some (.list ds)
    | none => none
  | .tup l => match toPys l with
    | some ds => some (.tuple ds)
    | none => none
  | _ => none
def toPys : List D → Option (List PyData)
  | [] => some []
  | d :: ds => match toPy d with
    | some p => match toPys ds with
      | some ps => some (p :: ps)
      | none => none
    | none => none
end
section
variable {K : PySem.W.Frag} {cl : Cl} {w : Wd} {G : Gm}
mutual
theorem py_dp (ok : WOk w) : ∀ (d : D) (v : V) (p : PyData), Rep K cl w d v → toPy d = some p → Dp K w.H v p
  | .non, v, p, r, e => by cases e; rw [show v = .non from r]; exact .non
  | .bl b, v, p, r, e => by cases e; rw [show v = .bl b from r]; exact .bl b
  | .int i, v, p, r, e => by cases e; rw [show v = .int i from r]; exact .int i
  | .str x, v, p, r, e => by cases e; rw [show v = .str x from r]; exact .str x
  | .lst l, v, p, r, e => by
    obtain ⟨a, vs, ev, hs, rs⟩ := r
    subst ev
    have e : (match toPys l with | some ds => some (PyData.list ds) | none => none) = some p := e
    split at e
    · rename_i ds ed
      cases e
      exact .lst (sqL_mono ok.sub hs) (py_dps ok l vs ds rs ed)
    · cases e
  | .tup l, v, p, r, e => by
    obtain ⟨a, vs, ev, hs, rs⟩ := r
    subst ev
    have e : (match toPys l with | some ds => some (PyData.tuple ds) | none => none) = some p := e
    split at e
    · rename_i ds ed
      cases e
      exact .tup (sqT_mono ok.sub hs) (py_dps ok l vs ds rs ed)
    · cases e
  | .ty _, _, _, _, e => by cases e
  | .ins _ _, _, _, _, e => by cases e
  | .dk _ _, _, _, _, e => by cases e
  | .dn _ _, _, _, _, e => by cases e
  | .pool, _, _, _, e => by cases e
theorem py_dps (ok : WOk w) : ∀ (ds : List D) (vs : List V) (ps : List PyData), Reps K cl w ds vs → toPys ds = some ps → DpAll K w.H vs ps
  | [], vs, ps, r, e => by cases e; rw [show vs = [] from r]; exact .nil
  | d :: ds, vs, ps, r, e => by
    obtain ⟨v, vs', ev, r1, r2⟩ := r
    subst ev
    have e : (match toPy d with
      | some p => match toPys ds with
        | some ps => some (p :: ps)
        | none => none
      | none => none) = some ps := e
    split at e
    · rename_i p1 ep
      split at e
      · rename_i ps2 eps
        cases e
        exact .cons (py_dp ok d v p1 r1 ep) (py_dps ok ds vs' ps2 r2 eps)
      · cases e
    · cases e
end
theorem py_dpR (ok : WOk w) {d : D} {v : V} {p : PyData} (r : RepR G w d v) (e : toPy d = some p) : Dp G.K w.H v p := by
  cases d with
  | lst l =>
    obtain ⟨a, vs, ev, hs, rs⟩ := r.lst ok
    subst ev
    have e : (match toPys l with | some ds => some (PyData.list ds) | none => none) = some p := e
    split at e
    · rename_i ds ed
      cases e
      exact .lst hs (py_dps ok l vs ds rs ed)
    · cases e
  | _ => exact r.elim (fun z => py_dp ok _ _ _ z e) fun ⟨_, _, z⟩ => by first | exact z.at_.elim | cases e
end
def gEqD (dx dy : D) : Option D := match toPy dx, toPy dy with
  | some p, some q => if SeqAt.shaped p = true ∧ SeqAt.shaped q = true then some (.bl (PyData.eqv p q)) else none
  | _, _ => none
theorem os_eqD {G : Gm} : OpS G (rEqD G.K) gEqD := fun w x y dx dy z ok rx ry e Q q => by
  unfold gEqD at e
  split at e
  · rename_i p p' ep ep'
    by_cases h : SeqAt.shaped p = true ∧ SeqAt.shaped p' = true
    · rw [if_pos h] at e; cases e
      exact ⟨p, p', py_dpR ok rx ep, py_dpR ok ry ep', h.1, h.2, q _ w (.refl ok) rfl rfl⟩
    · rw [if_neg h] at e; cases e
  · cases e
theorem ho_eqD {X : Cx} {k : Nat} (hr : Room k X.A) : OpR X (compareOp .Eq) (rEqD X.K) := op_eqD hr.units

/-! ### isinstance -/
def tyN : D → Option String
  | .non => some "NoneType"
  | .bl _ => some "bool"
  | .int _ => some "int"
  | .str _ => some "str"
  | .lst _ => some "list"
  | .tup _ => some "tuple"
  | _ => none
/-- is a value of the built-in type t one of the built-in type c -/
def isT (t c : String) : Bool := t == c || (t == "bool" && c == "int")
def isTs : List String := ["NoneType", "bool", "int", "str", "list", "tuple"]
def isCs : List String := ["bool", "int", "str", "list", "tuple"]
theorem kit_all : (isTs.all fun t => isCs.all fun c => decide (kitB t c = some (isT t c))) = true := by decide +kernel
theorem kit_is {K : PySem.W.Frag} {t c : String} (ht : t ∈ isTs) (hc : c ∈ isCs) : PySem.W.kitOne K (.type t) (.type c) = some (isT t c) :=
  kit_ty (of_decide_eq_true (List.all_eq_true.mp (List.all_eq_true.mp kit_all t ht) c hc))
section
variable {G : Gm} {w : Wd}
theorem tyN_in {d : D} {t : String} (h : tyN d = some t) : t ∈ isTs := by
  cases d <;> first | (cases h; decide) | cases h
theorem tyN_ty (ok : WOk w) {d : D} {v : V} {t : String} (r : RepR G w d v) (h : tyN d = some t) : TyX G.K w.H v (.type t) := by
  cases d with
  | non => cases h; rw [r.non]; exact .base .non
  | bl b => cases h; rw [r.bl]; exact .base (.bl b)
  | int i => cases h; rw [r.int]; exact .base (.int i)
  | str x => cases h; rw [r.str]; exact .base (.str x)
  | lst l =>
    cases h
    obtain ⟨a, vs, e, hs, _⟩ := r.lst ok
    rw [e]
    rcases hs with (hs | ⟨o, hs⟩) | ⟨o, its, n, hs, hc, _⟩
    · exact .base (.lst hs)
    · exact .base (.frz hs)
    · exact .kList hs hc
  | tup l =>
    cases h
    obtain ⟨a, vs, e, hs, _⟩ := r.tup ok
    rw [e]
    rcases hs with (hs | ⟨o, hs⟩) | ⟨o, its, n, hs, hc, _⟩
    · exact .base (.tup hs)
    · exact .fTuple hs
    · exact .kTuple hs hc
  | _ => cases h
def gIsi : List D → Option D
  | [d, .ty c] => if c ∈ isCs then (tyN d).map fun t => .bl (isT t c) else none
  | _ => none
theorem cs_isi : CallS G (rIsi G.K) gIsi := fun w ds vs z ok r e Q q => by
  unfold gIsi at e
  split at e
  · rename_i d c
    by_cases hc : c ∈ isCs
    · rw [if_pos hc] at e
      obtain ⟨t, et, ez⟩ := Option.map_eq_some_iff.mp e
      subst ez
      obtain ⟨v, v2, ev, rv, rv2⟩ := rps2 r
      exact ⟨v, .ty c, .type t, .type c, isT t c, by rw [ev, rv2.ty], .ty c, tyN_ty ok rv et, kit_is (tyN_in et) hc, q _ w (.refl ok) rfl rfl⟩
    · rw [if_neg hc] at e; cases e
  · cases e
end
section
variable {X : Cx} {cl : Cl} {b : Bool} {e : Expr} {pos : Pos} {f : FE}
theorem pd_ty {x : Str} {T : String} (hg : Gl X x) (hm : X.mg x = none) (hv : bootBuiltins x = some (.type T)) (hn : x ≠ "__name__" := by decide) (hd : (x == ("__debug__" : Str)) = false := by decide) : PD X cl b (.Name x pos) (dC (.ty T)) :=
  pd_const (pe_bltn (v := .ty T) hg hm hv rfl hn hd) fun _ => rfl
/-- isinstance(e, (S, T)) -/
def dIsi2 (S T : String) (f : FE) : FE := fun ρ => bd (f ρ) fun d => lft ((tyN d).map fun t => .bl (isT t S || isT t T))
theorem pd_isi2 {p p1 p2 pt : Pos} {x1 x2 : Str} {S T : String} {kt} (hS : S ∈ isCs) (hT : T ∈ isCs) (hg : Gl X "isinstance") (hm : X.mg "isinstance" = none) (g1 : Gl X x1) (m1 : X.mg x1 = none) (v1 : bootBuiltins x1 = some (.type S)) (g2 : Gl X x2) (m2 : X.mg x2 = none) (v2 : bootBuiltins x2 = some (.type T))
    (he : PD X cl true e f) (n1 : x1 ≠ "__name__" := by decide) (d1 : (x1 == ("__debug__" : Str)) = false := by decide) (n2 : x2 ≠ "__name__" := by decide) (d2 : (x2 == ("__debug__" : Str)) = false := by decide)
    (h1 : starEach (e :: [Expr.Tuple [.Name x1 p1, .Name x2 p2] kt pt]) X.env = (false, eval e X.env) :: starEach [Expr.Tuple [.Name x1 p1, .Name x2 p2] kt pt] X.env := by rfl)
    (h2 : starEach [Expr.Tuple [.Name x1 p1, .Name x2 p2] kt pt] X.env = (false, eval (Expr.Tuple [.Name x1 p1, .Name x2 p2] kt pt) X.env) :: starEach [] X.env := by rfl)
    (h3 : starEach [Expr.Name x1 p1, .Name x2 p2] X.env = (false, eval (Expr.Name x1 p1) X.env) :: starEach [Expr.Name x2 p2] X.env := by rfl)
    (h4 : starEach [Expr.Name x2 p2] X.env = (false, eval (Expr.Name x2 p2) X.env) :: starEach [] X.env := by rfl)
    (hpl : (backTo pos (starEach [Expr.Tuple [.Name x1 p1, .Name x2 p2] kt pt] X.env)).any (·.1) = false := by rfl) :
    PD X cl b (.Call (.Name "isinstance" p) [e, .Tuple [.Name x1 p1, .Name x2 p2] kt pt] [] pos) (dIsi2 S T f) :=
  pe_mono (pe_callB call_isiT hg hm (by decide +kernel) (pa_cons he (pa_cons (pe_tup (pa_cons (pe_bltn (v := .ty S) g1 m1 v1 rfl n1 d1) (pa_cons (pe_bltn (v := .ty T) g2 m2 v2 rfl n2 d2) pa_nil h4) h3)) pa_nil h2) h1) (by decide) (by decide) h1 hpl) fun σ H Q ⟨w0, ρ, w, z, ps', eH, S0, ef, q⟩ => by
    obtain ⟨d, p1, ed, ef⟩ := bd_some ef
    obtain ⟨e1, e2⟩ := lft_some ef
    obtain ⟨t, et, ez⟩ := Option.map_eq_some_iff.mp e1
    refine ⟨w0, ρ, w, d, p1, eH, S0, ed, fun v w1 l1 q1 r1 => ?_⟩
    refine ⟨by show 2 ≤ sizeLine; decide, fun p hp => ?_⟩
    have l2 : Le w1 (w1.add p (.tup [.ty S, .ty T])) := le_add l1.ok hp
    have k2 : PySem.W.kitAny X.K (.type t) [.type S, .type T] = some (isT t S || isT t T) := by
      refine kitAny_cons (b := isT t S) (kit_is (tyN_in et) hS) (fun h0 => ?_) (fun h1 => by rw [h1]; rfl)
      rw [h0, Bool.false_or]
      exact kitAny_cons (b := isT t T) (kit_is (tyN_in et) hT) (fun h0 => by rw [h0]; exact kitAny_nil) fun h1 => by rw [h1]
    refine ⟨v, p, [.ty S, .ty T], .type t, [.type S, .type T], isT t S || isT t T, rfl, upd_same, .cons (.ty S) (.cons (.ty T) .nil), tyN_ty (G := gx X cl) l2.ok (RepR.le (.inl r1) l2 l1.ok) et, k2, ?_⟩
    have ez : z = .bl (isT t S || isT t T) := ez.symm
    rw [ez] at q
    exact q _ (w1.add p (.tup [.ty S, .ty T])) (l1.trans l2) (q1.trans e2) (.of rfl)

/-! ### slices e[:n] of lists -/
def gTo : D → Int → Option D
  | .lst l, n => some (.lst ((l.drop (HT.sIx l.length 0 none)).take (HT.sIx l.length l.length (some n) - HT.sIx l.length 0 none)))
  | _, _ => none
def dTo (f : FE) (n : Int) : FE := fun ρ => bd (f ρ) fun d => lft (gTo d n)
theorem pd_to {n : Int} {j} {p2 p3 : Pos} (he : PD X cl true e f) : PD X cl b (.Subscript e (.Slice none (some (.Constant (.int n) j p3)) none p2) pos) (dTo f n) :=
  pe_mono (pe_slice sl_list he po_none (po_some pe_int)) fun σ H Q ⟨w0, ρ, w, z, ps', eH, S0, ef, q⟩ => by
    obtain ⟨d, p1, ed, ef⟩ := bd_some ef
    obtain ⟨e1, e2⟩ := lft_some ef
    refine ⟨w0, ρ, w, d, p1, eH, S0, ed, fun v w1 l1 q1 r1 => ?_⟩
    cases d with
    | lst l =>
      cases e1
      obtain ⟨a, vs, ev, hs, rs⟩ := r1
      refine ⟨n, rfl, a, vs, ev, sqL_mono l1.ok.sub hs, fun p hp => ?_⟩
      have l2 : Le w1 (w1.add p (.lst (cutV vs none (some n)))) := le_add l1.ok hp
      refine q _ (w1.add p (.lst (cutV vs none (some n)))) (l1.trans l2) (q1.trans e2) (.of ⟨p, cutV vs none (some n), rfl, .inl (.inl upd_same), Reps.mono (l2.wm l1.ok) _ _ ?_⟩)
      unfold cutV
      rw [← rs.length]
      exact Reps.take _ (Reps.drop _ rs)
    | _ => cases e1
end

/-! ### sorted(d), d a dict of numbers -/
def insI (a : Int) : List Int → List Int
  | [] => [a]
  | b :: r => if a ≤ b then a :: b :: r else b :: insI a r
def sortI : List Int → List Int
  | [] => []
  | a :: r => insI a (sortI r)
theorem insI_perm (a : Int) : ∀ l : List Int, (insI a l).Perm (a :: l)
  | [] => .refl _
  | b :: r => by
    show (if a ≤ b then a :: b :: r else b :: insI a r).Perm _
    by_cases h : a ≤ b
    · rw [if_pos h]
    · rw [if_neg h]
      exact ((insI_perm a r).cons b).trans (.swap a b r)
theorem sortI_perm : ∀ l : List Int, (sortI l).Perm l
  | [] => .refl _
  | a :: r => (insI_perm a _).trans ((sortI_perm r).cons a)
theorem insI_up (a : Int) : ∀ l : List Int, l.Pairwise (· ≤ ·) → (insI a l).Pairwise (· ≤ ·)
  | [], _ => List.pairwise_singleton _ _
  | b :: r, h => by
    show (if a ≤ b then a :: b :: r else b :: insI a r).Pairwise _
    rw [List.pairwise_cons] at h
    by_cases c : a ≤ b
    · rw [if_pos c, List.pairwise_cons]
      refine ⟨fun x hx => ?_, List.pairwise_cons.mpr h⟩
      rcases List.mem_cons.mp hx with rfl | hx
      · exact c
      · exact Int.le_trans c (h.1 x hx)
    · rw [if_neg c, List.pairwise_cons]
      refine ⟨fun x hx => ?_, insI_up a r h.2⟩
      rcases List.mem_cons.mp ((insI_perm a r).mem_iff.mp hx) with rfl | hx
      · omega
      · exact h.1 x hx
theorem sortI_up : ∀ l : List Int, (sortI l).Pairwise (· ≤ ·)
  | [] => .nil
  | a :: r => insI_up a _ (sortI_up r)
def keysI : List Key → Option (List Int)
  | [] => some []
  | .inl i :: r => (keysI r).map (i :: ·)
  | .inr _ :: _ => none
theorem keysI_eq : ∀ {l : List Key} {ns : List Int}, keysI l = some ns → l = ns.map Sum.inl
  | [], ns, h => by cases h; rfl
  | .inl i :: r, ns, h => by
    obtain ⟨m, e, e2⟩ := Option.map_eq_some_iff.mp h
    rw [← e2, List.map_cons, ← keysI_eq e]
  | .inr _ :: _, ns, h => by cases h
def gSortDk : List D → Option D
  | [.dk ks _] => (keysI ks).bind fun ns => if ns.length < 64 then some (.lst ((sortI ns).map .int)) else none
  | _ => none
theorem cs_sortDk {G : Gm} : CallS G (fun xs H Q => ∃ (a : Addr) (kvs : List (Key × V)) (ks : List Int), xs = [.ref a] ∧ Rd H a (.dK kvs) ∧ kvs.map (·.1) = ks.map Sum.inl ∧ ks.length < 64 ∧
    ∀ (ys : List Int) (p : Addr), ys.Perm ks → ys.Pairwise (· ≤ ·) → H p = none → Q (.ref p) (upd H p (.lst (ys.map V.int)))) gSortDk := fun w ds vs z ok r e Q q => by
  unfold gSortDk at e
  split at e
  · rename_i ks l
    obtain ⟨ns, en, e⟩ := Option.bind_eq_some_iff.mp e
    by_cases hl : ns.length < 64
    · rw [if_pos hl] at e
      cases e
      obtain ⟨v, ev, rv⟩ := rps1 r
      obtain ⟨a, ea, ow⟩ := rv.dk
      obtain ⟨kvs, hH, hk, _⟩ := ow.at_
      refine ⟨a, kvs, ns, by rw [ev, ea], .inl hH, by rw [hk, keysI_eq en], hl, fun ys p perm up hp => ?_⟩
      have ey : ys = sortI ns := PySem.W.ksm_same (perm.trans (sortI_perm ns).symm) up (sortI_up ns)
      subst ey
      have l2 : Le w (w.add p (.lst ((sortI ns).map V.int))) := le_add ok hp
      refine q _ (w.add p (.lst ((sortI ns).map V.int))) l2 rfl ⟨p, _, rfl, .inl (.inl upd_same), ?_⟩
      exact Reps.of_ints
    · rw [if_neg hl] at e; cases e
  · cases e
/-! ### dicts of numbers and texts: {}, d[k] = v -/
section
variable {X : Cx} {cl : Cl} {f : FE}
def dDk0 (i : Nat) : FS := fun ρ => ret (.nx (ρ.set i (some (.own (.dk [] [])))))
theorem sd_dk0 {i : Nat} {x : Str} {pos' pd pos : Pos} (hN : X.N.Nodup) (hi : X.N[i]? = some x) (hx : Loc X.env.scope x) (hs : swapsWith (.Dict [] [] pd) (some (.Name x pos')) pos.line X.env = pure false := by rfl)
    (hf : X.fn x = true ∨ X.env.scope.names.lookup x = some .local := by first | exact .inl rfl | exact .inr rfl | assumption) : SD X cl (.Assign [.Name x pos'] (.Dict [] [] pd) pos) (dDk0 i) :=
  ps_mono (ps_set hN hi hx pe_dnewK hs hf) fun D σ H ⟨w0, ρ, w, o, ps', eH, S, ef, q⟩ => by
    cases ret_some ef
    intro p hp
    subst eH
    have l1 : Le w (w.addH p (.dK [])) := le_addH S.ok hp
    refine q _ (w.addH p (.dK [])) ((S.step l1).setOwn (fresh0 S.le hp) ⟨S.ok.none hp, np_of (w := w) S.ok hp, [], upd_same, rfl, rfl, List.nodup_nil⟩ (own_new (o := .lst []) S hp)) (l1.wm S.ok) rfl
def putD : List Key → List D → Key → D → List Key × List D
  | k' :: ks, d' :: ds, k, d => if k' = k then (k' :: ks, d :: ds) else let r := putD ks ds k d; (k' :: r.1, d' :: r.2)
  | _, _, k, d => ([k], [d])
def dkC (c : Option (Option Cell)) (kd d : D) : Option Cell := match c with
  | some (some (.own (.dk ks l))) => match skey kd with
    | some k => if ks.length < 100000 then some (.own (.dk (putD ks l k d).1 (putD ks l k d).2)) else none
    | none => none
  | _ => none
theorem dkC_some {c : Option (Option Cell)} {kd d : D} {r : Cell} (h : dkC c kd d = some r) : ∃ ks l k, c = some (some (.own (.dk ks l))) ∧ skey kd = some k ∧ ks.length < 100000 ∧ r = .own (.dk (putD ks l k d).1 (putD ks l k d).2) := by
  unfold dkC at h
  split at h
  · rename_i ks l
    split at h
    · rename_i k ek
      by_cases hk : ks.length < 100000
      · rw [if_pos hk] at h
        exact ⟨ks, l, k, rfl, ek, hk, (Option.some.inj h).symm⟩
      · rw [if_neg hk] at h; cases h
    · cases h
  · cases h
theorem putK_put {K : PySem.W.Frag} {w : Wd} {k : Key} {d : D} {v : V} (rv : Rep K cl w d v) : ∀ {kvs : List (Key × V)} {l : List D}, (kvs.map (·.1)).Nodup → Reps K cl w l (kvs.map (·.2)) →
    (putK kvs k v).map (·.1) = (putD (kvs.map (·.1)) l k d).1 ∧ Reps K cl w (putD (kvs.map (·.1)) l k d).2 ((putK kvs k v).map (·.2)) ∧ (k ∉ kvs.map (·.1) → putK kvs k v = kvs ++ [(k, v)])
  | [], l, nd, r => by
    cases l with
    | nil => exact ⟨rfl, Reps.one rv, fun _ => rfl⟩
    | cons _ _ => obtain ⟨_, _, e, _⟩ := r; cases e
  | p :: kvs, l, nd, r => by
    cases l with
    | nil => cases r
    | cons d' ds =>
      obtain ⟨v', vs', e, r1, r2⟩ := r
      cases e
      rw [List.map_cons, List.nodup_cons] at nd
      obtain ⟨i1, i2, i3⟩ := putK_put (k := k) rv nd.2 r2
      by_cases h : p.1 = k
      · have nk : k ∉ kvs.map (·.1) := by rw [← h]; exact nd.1
        have e1 : putK (p :: kvs) k v = (p.1, v) :: kvs := by
          unfold putK
          have a1 : ((p :: kvs).any fun kv => decide (kv.1 = k)) = true := by rw [List.any_cons, decide_eq_true h]; rfl
          rw [if_pos a1, List.map_cons, if_pos h]
          congr 1
          refine (List.map_congr_left fun q hq => ?_).trans (List.map_id _)
          exact if_neg fun (z : q.1 = k) => nk (by rw [← z]; exact List.mem_map.mpr ⟨q, hq, rfl⟩)
        have e2 : putD ((p :: kvs).map (·.1)) (d' :: ds) k d = (p.1 :: kvs.map (·.1), d :: ds) := by
          show (if p.1 = k then _ else _) = _
          rw [if_pos h]
        rw [e1, e2]
        exact ⟨rfl, ⟨v, _, rfl, rv, r2⟩, fun z => absurd (show k ∈ (p :: kvs).map (·.1) by rw [List.map_cons, h]; exact List.mem_cons_self) z⟩
      · have e1 : putK (p :: kvs) k v = p :: putK kvs k v := by
          unfold putK
          rw [List.any_cons, decide_eq_false h, Bool.false_or]
          by_cases c : (kvs.any fun kv => decide (kv.1 = k)) = true
          · rw [if_pos c, if_pos c, List.map_cons, if_neg h]
          · rw [if_neg c, if_neg c]; rfl
        have e2 : putD ((p :: kvs).map (·.1)) (d' :: ds) k d = (p.1 :: (putD (kvs.map (·.1)) ds k d).1, d' :: (putD (kvs.map (·.1)) ds k d).2) := by
          show (if p.1 = k then _ else _) = _
          rw [if_neg h]
        rw [e1, e2]
        refine ⟨by rw [List.map_cons, i1], ⟨p.2, _, rfl, r1, i2⟩, fun z => ?_⟩
        rw [i3 fun y => z (List.mem_cons_of_mem _ y)]
        rfl
theorem putD_nodup {k : Key} {d : D} : ∀ {ks : List Key} {l : List D}, ks.Nodup → ks.length = l.length → (putD ks l k d).1.Nodup ∧ ∀ x ∈ (putD ks l k d).1, x = k ∨ x ∈ ks
  | [], l, nd, hl => ⟨List.nodup_cons.mpr ⟨List.not_mem_nil, .nil⟩, fun x hx => .inl (List.mem_singleton.mp hx)⟩
  | k' :: ks, [], nd, hl => by cases hl
  | k' :: ks, d' :: ds, nd, hl => by
    rw [List.nodup_cons] at nd
    obtain ⟨i1, i2⟩ := putD_nodup (k := k) (d := d) nd.2 (Nat.succ.inj hl)
    show (if k' = k then (k' :: ks, d :: ds) else (k' :: (putD ks ds k d).1, d' :: (putD ks ds k d).2)).1.Nodup ∧ ∀ x ∈ (if k' = k then (k' :: ks, d :: ds) else (k' :: (putD ks ds k d).1, d' :: (putD ks ds k d).2)).1, _
    by_cases h : k' = k
    · rw [if_pos h]
      exact ⟨List.nodup_cons.mpr nd, fun x hx => .inr hx⟩
    · rw [if_neg h]
      refine ⟨List.nodup_cons.mpr ⟨fun z => ?_, i1⟩, fun x hx => ?_⟩
      · rcases i2 _ z with z | z
        · exact h z
        · exact nd.1 z
      · rcases List.mem_cons.mp hx with hx | hx
        · exact .inr (by rw [hx]; exact List.mem_cons_self)
        · rcases i2 x hx with z | z
          · exact .inl z
          · exact .inr (List.mem_cons_of_mem _ z)
def dDk (i : Nat) (fv fk : FE) : FS := fun ρ => bd (fv ρ) fun d => bd (fk ρ) fun kd => bd (lft (dkC ρ[i]? kd d)) fun c => ret (.nx (ρ.set i (some c)))
theorem skey_rep {K : PySem.W.Frag} {w : Wd} {kd : D} {k : Key} {y : V} (e : skey kd = some k) (r : Rep K cl w kd y) : y = kV k := by
  cases kd with
  | int i => cases e; exact r
  | str x => cases e; exact r
  | _ => cases e
theorem sd_dk {k : Nat} {i : Nat} {x : Str} {p1 pos' pos : Pos} {value ke : Expr} {fv fk : FE} (hr : Room k X.A) (hN : X.N[i]? = some x) (hv : Vis X.env.scope x) (he : PD X cl true value fv) (hk : PD X cl true ke fk)
    (hd : (x == ("__debug__" : Str)) = false := by decide) (hcd : (x == ("__classdict__" : Str)) = false := by decide)
    (hs : swapsWith value (some (.Subscript (.Name x p1) ke pos')) pos.line X.env = pure false := by rfl) : SD X cl (.Assign [.Subscript (.Name x p1) ke pos'] value pos) (dDk i fv fk) :=
  ps_mono (ps_dput (hu_of hr) (pe_var hN hv hd hcd) hk he hs) fun D σ H ⟨w0, ρ, w, o, ps', eH, S, ef, q⟩ => by
    obtain ⟨d, p1, ed, ef⟩ := bd_some ef
    obtain ⟨kd, p2, ekd, ef⟩ := bd_some ef
    obtain ⟨c, p3, ec, ef⟩ := bd_some ef
    obtain ⟨e1, e2⟩ := lft_some ec
    obtain ⟨ks, l, ky, er, ek, hl, e3⟩ := dkC_some e1
    have e4 := ret_some ef
    cases e4
    have e3 : c = .own (.dk (putD ks l ky d).1 (putD ks l ky d).2) := e3
    subst e3
    have e2 : p2 = ps' := e2
    subst e2
    refine ⟨w0, ρ, w, d, p1, eH, S, ed, fun v w1 l1 q1 r1 => ?_⟩
    have S1 := S.step l1
    obtain ⟨a, ea, h0, ow⟩ := S1.own i _ er
    refine ⟨.ref a, ea, w0, ρ, w1, kd, p2, rfl, S1, by rw [q1]; exact ekd, fun y w2 l2 q2 r2 => ?_⟩
    have S2 := S1.step l2
    obtain ⟨a', ea', _, ow2⟩ := S2.own i _ er
    rw [ea] at ea'
    cases ea'
    obtain ⟨kvs, hH, hks, rs, nd⟩ := id ow2.at_
    subst hks
    have r1' : Rep X.K cl w2 d v := Rep.mono (l2.wm l1.ok) _ _ r1
    obtain ⟨j1, j2, _⟩ := putK_put (k := ky) r1' nd rs
    have hlen : kvs.length < sizeLine := by
      have : (kvs.map (·.1)).length = kvs.length := List.length_map ..
      rw [sizeLine_eq]; omega
    rw [skey_rep (K := X.K) (w := w2) (cl := cl) ek r2]
    refine ⟨a, _, rfl, DPut.k hH hlen, ?_⟩
    have m2 : Wm w2 { w2 with H := upd w2.H a (.dK (putK kvs ky v)) } := ⟨fun _ _ h => h, fun _ h => h, rfl⟩
    refine q σ { w2 with H := upd w2.H a (.dK (putK kvs ky v)) } (S2.change er ea ⟨putK kvs ky v, upd_same, j1, Reps.mono m2 _ _ j2, ?_⟩) (((l1.trans l2).wm S.ok).trans m2) q2
    exact (putD_nodup nd (by rw [rs.length, List.length_map, List.length_map])).1
end

/-! ### enumerate(text) -/
def Ites (x : Str) : It :=
  ⟨fun i _ => i < x.cps.size, fun i H v H' => ∃ T c, v = .ref T ∧ H T = none ∧ H' = upd H T (.tup [.int (i : Nat), .str ⟨#[c]⟩]) ∧ x.cps[i]? = some c, fun i _ => x.cps.size ≤ i⟩
theorem draws_str {prog : Program} {w : World} {A : Around} (hh : A.handled = none) (it : Addr) (x : Str) (t : Tok) : Draws prog w A it [it] x.cps.size (fun i v => ∃ c u, x.cps[i]? = some c ∧ v = .str ⟨#[c]⟩ u) (fun i h => h.IsStrIter it (strIterType x) x t i) := by
  unfold strIterType
  split
  · exact Draws.strAscii hh it x t
  · exact Draws.strWide hh it x t
theorem turn_enumS {P : Program} {w : World} {K : PySem.W.Frag} {elts : List Expr} {kk : Nat} {tpos : Pos} (x : Str) (t : Tok) (e it : Addr) :
    Turn P w K (.Tuple elts kk tpos) (Ites x) [e, it] e (fun i h => (∃ old, IsEnum h e it ((i : Nat) : Int) old) ∧ h.IsStrIter it (strIterType x) x t i ∧ e ≠ it ∧ i ≤ x.cps.size) where
  mem := by simp
  obj := fun i h st b hb => by
    obtain ⟨⟨old, he⟩, ⟨o, ho, hc, hd⟩, _⟩ := st
    have e' : b = e ∨ b = it := by simpa using hb
    rcases e' with z | z
    · rw [z]; exact ⟨_, he, fun v q => nomatch q⟩
    · rw [z]; exact ⟨o, ho, fun v q => by rw [hd] at q; cases q⟩
  keep := fun i h h' st k => let ⟨⟨old, he⟩, ⟨o, ho, r⟩, hne⟩ := st; ⟨⟨old, k e (by simp) _ he⟩, ⟨o, k it (by simp) o ho, r⟩, hne⟩
  item := by
    intro X hP hw hK hc i pins s σ H E I hf st hg
    subst hP hw hK
    obtain ⟨⟨old, he⟩, hit, hne, hle⟩ := st
    have hel : e < s.heap.objs.size := Heap.lt_size he
    have hil : it < s.heap.objs.size := by obtain ⟨_, q, _⟩ := id hit; exact Heap.lt_size q
    refine wpAny_pyNext_enum_itemD (draws_str (show X.A.in1.handled = none from I.ok.hd hc) it x t) he hit hg hne (by simp [hne]) fun u h' tk hu ho hit' hT hsz hk => ?_
    obtain ⟨c, tk2, hcx, rfl⟩ := hu
    refine ⟨_, rfl, wpAny_letOwnedTupleGo_enum (s := { s with heap := h', toks := tk + 1 }) ho fun h'' he' sb => ?_⟩
    have hT2 : h''.get? s.heap.objs.size = some { cls := .type "tuple", data := .seq #[.int i tk, .str ⟨#[c]⟩ tk2] } := (sb.2 _ (Nat.ne_of_gt hel)).trans hT
    have new : ObjOk X.prog X.w (upd H s.heap.objs.size (.tup [.int (i : Nat), .str ⟨#[c]⟩])) h'' s.heap.objs.size (.tup [.int (i : Nat), .str ⟨#[c]⟩]) :=
      ⟨by show 2 ≤ sizeLine; decide, [.int i tk, .str ⟨#[c]⟩ tk2], .cons ⟨_, rfl⟩ (.cons ⟨_, rfl⟩ .nil), ⟨_, hT2, rfl, _, rfl⟩⟩
    have I1 : Inv X pins σ (upd H s.heap.objs.size (.tup [.int (i : Nat), .str ⟨#[c]⟩])) { s with heap := h'', toks := tk + 1 } :=
      I.turnedNew (ch := [e, it]) (fun b ob hb q => (sb.2 b (fun z => hb (by simp [z]))).trans (hk b ob (fun z => hb (by simp [z])) (fun z => hb (by simp [z])) q)) hf (Nat.le_refl _) new
    refine ⟨.ref s.heap.objs.size, _, I1, rfl, ⟨_, c, rfl, I.hok.fresh (Nat.le_refl _), rfl, hcx⟩, ⟨⟨.str ⟨#[c]⟩ tk2, ?_⟩, ?_, hne, hg⟩, fun b hb => ?_⟩
    · have e1 : ((i + 1 : Nat) : Int) = (i : Int) + 1 := by omega
      rw [e1]; exact he'
    · obtain ⟨o, q, r⟩ := hit'
      exact ⟨o, (sb.2 it (Ne.symm hne)).trans q, r⟩
    · have hb' : b < s.heap.objs.size := by
        have e' : b = e ∨ b = it := by simpa using hb
        rcases e' with z | z
        · rw [z]; exact hel
        · rw [z]; exact hil
      rw [upd_ne (Nat.ne_of_lt hb')]
      exact (hf b hb).1
  done := by
    intro X hP hw hK hc i pins s σ H E I hf st hg
    subst hP hw hK
    obtain ⟨⟨old, he⟩, hit, hne, hle⟩ := st
    obtain ⟨f0, f1, f2, f3, f4, f5⟩ := hf it (by simp)
    have hg : x.cps.size ≤ i := hg
    have e : i = x.cps.size := Nat.le_antisymm hle hg
    subst e
    exact wpAny_pyNext_enum_endD (draws_str (show X.A.in1.handled = none from I.ok.hd hc) it x t) he hit fun h' eb => ⟨rfl, I.turned (t' := s.toks) (fun b o hb q => eb b o hb q) f0 f1 f3 f4 f5⟩
  self := fun A i s Q E st h => let ⟨⟨_, he⟩, _⟩ := st; wpAny_pyIter_enum he h
def gEnumS : List D → Option (List D)
  | [.str x] => some ((List.range x.cps.size).map fun (i : Nat) => .tup [.int (i : Int), .str ⟨#[x.cps.getD i 0]⟩])
  | _ => none
def iEnumS (ta : TA) : TI := fun σ H R => ta σ H fun vs H1 => ∃ x, vs = [.str x] ∧ R (Ites x) H1
theorem pi_enumS {X : Cx} {e : Expr} {ta : TA} {p pos tpos : Pos} {elts : List Expr} {kk : Nat} (hg : Gl X "enumerate") (hm : X.mg "enumerate" = none) (ha : PA X [e] ta) (hs : starEach [e] X.env = [(false, eval e X.env)] := by rfl) :
    PI X (.Tuple elts kk tpos) (.Call (.Name "enumerate" p) [e] [] pos) (iEnumS ta) := by
  refine ⟨fun pins s σ H R I h => ?_⟩
  refine Call_ (ld_blt I hg hm boot_enumerate (PyProof.Rows.callWith_type1 (thn (ha.run pos pins s σ H _ I h) fun us s1 ⟨vs, H1, I1, r1, q1⟩ => ?_) hs rfl))
  obtain ⟨x, ex, q⟩ := q1
  subst ex
  cases r1 with
  | cons r rr =>
    cases rr
    obtain ⟨t, r⟩ := r
    subst r
    refine call_enumerate_str fun h' he hit hsz hk => wpAny_pyIter_enum he ?_
    have I2 : Inv X pins σ H1 { s1 with heap := h' } := I1.kept (t' := s1.toks) hk
    refine ⟨s1.heap.objs.size + 1, [s1.heap.objs.size + 1, s1.heap.objs.size], _, _, H1, rfl, I2, turn_enumS x t (s1.heap.objs.size + 1) s1.heap.objs.size, ⟨⟨.none, he⟩, hit, Nat.succ_ne_self _, Nat.zero_le _⟩, fun b hb => ?_, q⟩
    have e' : b = s1.heap.objs.size + 1 ∨ b = s1.heap.objs.size := by simpa using hb
    have hle : s1.heap.objs.size ≤ b := by
      rcases e' with z | z
      · rw [z]; exact Nat.le_add_right _ _
      · rw [z]; exact Nat.le_refl _
    exact I1.fpOk hle (I1.hok.fresh hle)
theorem id_enumS {X : Cx} {cl : Cl} {e : Expr} {fs : FA} {p pos tpos : Pos} {elts : List Expr} {kk : Nat} (hg : Gl X "enumerate") (hm : X.mg "enumerate" = none) (ha : AD X cl false [e] fs) (hs : starEach [e] X.env = [(false, eval e X.env)] := by rfl) :
    ID X cl (.Tuple elts kk tpos) (.Call (.Name "enumerate" p) [e] [] pos) (dItA gEnumS fs) := pi_mono (pi_enumS hg hm ha hs) fun σ H R ⟨w0, ρ, w, ds, ps', eH, S, ef, q⟩ => by
  obtain ⟨xs, p1, ex, ef⟩ := bd_some ef
  obtain ⟨eg, ep⟩ := lft_some ef
  refine ⟨w0, ρ, w, xs, p1, eH, S, ex, fun vs w1 l1 q1 r1 => ?_⟩
  unfold gEnumS at eg
  split at eg
  case h_2 => cases eg
  case h_1 x =>
  have eg := Option.some.inj eg
  obtain ⟨v, ev, rv⟩ := rps1 r1
  refine ⟨x, by rw [ev, rv.str], q _ w1 l1 (q1.trans ep) fun w2 m ok2 i => ⟨fun d hd => ?_, fun hi => ?_⟩⟩
  · have eg : (List.range x.cps.size).map (fun (i : Nat) => D.tup [.int (i : Int), .str ⟨#[x.cps.getD i 0]⟩]) = ds := eg
    rw [← eg, List.getElem?_map] at hd
    obtain ⟨c, hc, e⟩ := Option.map_eq_some_iff.mp hd
    obtain ⟨hi, hc⟩ := List.getElem?_eq_some_iff.mp hc
    rw [List.length_range] at hi
    rw [List.getElem_range] at hc
    subst hc e
    refine ⟨hi, fun v H' ⟨T, c, ev, hT, eH', hc⟩ => ?_⟩
    have l3 : Le w2 (w2.add T (.tup [.int (i : Nat), .str ⟨#[c]⟩])) := le_add ok2 hT
    refine ⟨w2.add T (.tup [.int (i : Nat), .str ⟨#[c]⟩]), eH'.symm, l3, rfl, T, _, ev, .inl (.inl upd_same), ?_⟩
    have ec : x.cps.getD i 0 = c := by rw [Array.getD_eq_getD_getElem?, hc]; rfl
    rw [ec]
    exact ⟨_, _, rfl, rfl, _, _, rfl, rfl, rfl⟩
  · have eg : (List.range x.cps.size).map (fun (i : Nat) => D.tup [.int (i : Int), .str ⟨#[x.cps.getD i 0]⟩]) = ds := eg
    rw [← eg, List.length_map, List.length_range] at hi
    exact hi

/-! ### count, index of a text -/
def gCount : D → List D → Option D
  | .str a, [.str b] => some (.int (Txt.count a b))
  | _, _ => none
def gIndex : D → List D → Option D
  | .str a, [.str b] => match Builtin.Str.occurrences a b 0 a.length 1 with
    | k :: _ => some (.int (k : Nat))
    | [] => none
  | _, _ => none
theorem mt_idx {X : Cx} : MtR X "str.index" (fun x xs H Q => ∃ (a b : Str) (k : Nat) (r : List Nat), x = .str a ∧ xs = [.str b] ∧ Builtin.Str.occurrences a b 0 a.length 1 = k :: r ∧ Q (.int (k : Nat)) H) := by
  intro pins s σ H x xs v us Q I rx rs h
  obtain ⟨a, b, k, r, rfl, rfl, ho, q⟩ := h
  obtain ⟨t, rfl⟩ := rx
  cases rs with
  | cons r1 rs =>
    cases rs
    obtain ⟨u, rfl⟩ := r1
    exact PySem.SC.index ho ⟨.int (k : Nat), H, I.tok _, ⟨_, rfl⟩, q⟩
theorem ms_count {X : Cx} {cl : Cl} : ∀ w x z y dx, WOk w → dx = .str x → gCount dx z = some y → ∀ vs, Rps (gx X cl) false w z vs → ∀ Q : VK, (∀ v w', Le w w' → w'.ps = w.ps → Rep X.K cl w' y v → Q v w'.H) →
    (fun (x : V) (xs : List V) (H : Hp) (Q : VK) => ∃ a b, x = .str a ∧ xs = [.str b] ∧ Q (.int (Txt.count a b)) H) (.str x) vs w.H Q := fun w x z y dx ok ed e vs r Q q => by
  subst ed
  unfold gCount at e
  split at e
  · rename_i a b hx
    cases hx
    cases e
    obtain ⟨v, ev, rv⟩ := rps1 r
    exact ⟨_, _, rfl, by rw [ev, rv.str], q _ w (.refl ok) rfl rfl⟩
  · cases e
theorem ms_index {X : Cx} {cl : Cl} : ∀ w x z y dx, WOk w → dx = .str x → gIndex dx z = some y → ∀ vs, Rps (gx X cl) false w z vs → ∀ Q : VK, (∀ v w', Le w w' → w'.ps = w.ps → Rep X.K cl w' y v → Q v w'.H) →
    (fun (x : V) (xs : List V) (H : Hp) (Q : VK) => ∃ (a b : Str) (k : Nat) (r : List Nat), x = .str a ∧ xs = [.str b] ∧ Builtin.Str.occurrences a b 0 a.length 1 = k :: r ∧ Q (.int (k : Nat)) H) (.str x) vs w.H Q := fun w x z y dx ok ed e vs r Q q => by
  subst ed
  unfold gIndex at e
  split at e
  · rename_i a b hx
    cases hx
    split at e
    · rename_i k rest ho
      cases e
      obtain ⟨v, ev, rv⟩ := rps1 r
      exact ⟨_, _, k, rest, rfl, by rw [ev, rv.str], ho, q _ w (.refl ok) rfl rfl⟩
    · cases e
  · cases e
end Dl

/-! The D layer: defs by name, instances made by a class's own __init__, the pool of draws. -/
namespace Dl
open PySem PySem.Spec PyProof.Rows L2

/-! ### a def by its name -/
structure Fn (P : Program) (W : World) (K : PySem.W.Frag) (mg : Str → Option Value) (base : Heap) (cl : Cl) (k : Nat) (x : Str) (ps : List Str) (g : List D → M D) : Prop where
  ok : ∃ fd, FnOk P W K mg base CX0 k (He.ga K x) fd ps (spD K cl ps.length g) ∧ Binds K fd ps [] ∧ ∃ oc od osl, K.lookup (He.ga K x) = some ⟨oc, od, .func fd, osl⟩
  kp : PySem.W.keepIn K (.ref (He.ga K x)) = true
  mg : mg x = some (.ref (He.ga K x))
section
variable {X : Cx} {cl : Cl} {b : Bool} {e : Expr} {es : List Expr} {pos : Pos} {fs : FA}
theorem pd_fn {k j n : Nat} {ps : List Str} {x : Str} {p : Pos} {g : List D → M D} (F : Fn X.prog X.w X.K X.mg X.base cl k x ps g) (hr : Room j X.A) (hg : Gl X x) (ha : AD X cl true (e :: es) fs)
    (hfs : ∀ ρ p r, fs ρ p = some r → r.1.length = n) (hl : (e :: es).length = ps.length) (hn : n = (e :: es).length := by rfl) (hk : k ≤ j := by decide) (hdb : (x == ("__debug__" : Str)) = false := by decide) (he : starEach (e :: es) X.env = (false, eval e X.env) :: starEach es X.env := by rfl) (hpl : (backTo pos (starEach es X.env)).any (·.1) = false := by rfl) :
    PD X cl b (.Call (.Name x p) (e :: es) [] pos) (dFn g fs) := by
  obtain ⟨fd, F1, hb, _⟩ := F.ok
  exact pd_call (E := E0) F1 hl (hr.mono hk) hg F.mg F.kp hb pass0 ha (fun ρ p r h => (hfs ρ p r h).trans hn) hdb he hpl
end
theorem fun_look {K : PySem.W.Frag} {x qual : Str} {ar : Arguments} {bo : List Stmt} {sc : Scope} {dvs : List V} {kws : List (Str × V)} {f : Addr} {fd : FuncData} (F : FunD K x qual ar bo sc dvs kws f fd) : ∃ oc od osl, K.lookup f = some ⟨oc, od, .func fd, osl⟩ := by
  obtain ⟨oc, od, dV, kV, doc, pm, an, cdv, ct, osl, rfl, lk, _⟩ := F.ex
  exact ⟨oc, od, osl, lk⟩
theorem same_fd {P : Program} {W : World} {K : PySem.W.Frag} {mg : Str → Option Value} {base : Heap} {cl : Cl} {k : Nat} {x : Str} {ps : List Str} {g : List D → M D} {q y : Str} {ar : Arguments} {bo : List Stmt} {sc : Scope} {dvs : List V} {kws : List (Str × V)} {fd : FuncData}
    (F : FunD K y q ar bo sc dvs kws (He.ga K x) fd) (G : Fn P W K mg base cl k x ps g) : FnOk P W K mg base CX0 k (He.ga K x) fd ps (spD K cl ps.length g) := by
  obtain ⟨fd', F', _, oc, od, osl, lk⟩ := G.ok
  obtain ⟨oc2, od2, osl2, lk2⟩ := fun_look F
  rw [lk] at lk2
  cases lk2
  exact F'
theorem fn_mk {P : Program} {W : World} {K : PySem.W.Frag} {mg : Str → Option Value} {base : Heap} {cl : Cl} {k n : Nat} {x : Str} {ar : Arguments} {bo : List Stmt} {sc : Scope} {N ps : List Str} {s : FS}
    (F : ∃ fd, FunD K x x ar bo sc [] [] (He.ga K x) fd) (hm : mg x = some (.ref (He.ga K x))) (S : FnScope N ps sc) (hn : N.length = n)
    (hbind : ∀ (kV doc pm : Value) (an : Option Addr) (cdv ct : Value) (us : List Value), us.length = ps.length → bindArgs (PySem.W.fnOf x x ar bo sc .none kV doc pm an cdv ct) ⟨us, []⟩ = pure (ps.zip us))
    (hbody : ∀ (fd : FuncData) (cdv : Value) (A : Around) (outer : List Env) (s0 : Shared) (H : Hp) (E : XK), Room k (A.deeper (envOfC x sc s0.heap.objs.size (He.ga K x) cdv)) → SsD (cxOf CX0 P W K mg base N x sc (He.ga K x) cdv A outer s0 H E).nox cl bo s) :
    Fn P W K mg base cl (k + 1) x ps (runD n s) := by
  subst hn
  obtain ⟨fd, F⟩ := F
  exact ⟨⟨fd, fn_D F S (hbody fd), F.bindsN hbind, fun_look F⟩, F.kp, hm⟩

/-! ### a, b = x, y -/
def dPar (i j : Nat) (fs : FA) : FS := fun ρ => bd (fs ρ) fun xs => match xs with
  | [a, b] => ret (.nx ((ρ.set i (some (.val a))).set j (some (.val b))))
  | _ => lft none
theorem sd_par {X : Cx} {cl : Cl} {i j : Nat} {x y : Str} {a b : Expr} {fs : FA} (hc : X.calm = true) (hN : X.N.Nodup) (hi : X.N[i]? = some x) (hj : X.N[j]? = some y) (hij : i ≠ j)
    (hx : X.env.scope.names.lookup x = some .local) (hy : X.env.scope.names.lookup y = some .local) (ha : AD X cl true [a, b] fs)
    {st : Stmt} (h : ∀ t, PA X [a, b] t → PS X st (tPar i j t)) : SD X cl st (dPar i j fs) :=
  ps_mono (h _ ha) fun D σ H ⟨w0, ρ, w, o, ps', eH, S, ef, q⟩ => by
    obtain ⟨xs, p1, exs, ef⟩ := bd_some ef
    refine ⟨w0, ρ, w, xs, p1, eH, S, exs, fun vs w1 l1 q1 r1 => ?_⟩
    cases xs with
    | nil => exact absurd (lft_some ef).1 (fun z => nomatch z)
    | cons d1 xs =>
      cases xs with
      | nil => exact absurd (lft_some ef).1 (fun z => nomatch z)
      | cons d2 xs =>
        cases xs with
        | cons _ _ => exact absurd (lft_some ef).1 (fun z => nomatch z)
        | nil =>
          obtain ⟨v1, vs', e1, r1, v2, vs2, e2, r2, e3⟩ := r1
          have e3 : vs2 = [] := e3
          subst e3 e2 e1
          cases ret_some ef
          exact ⟨v1, v2, rfl, q _ w1 (((S.step l1).set r1).set r2) (l1.wm S.ok) q1⟩

/-! ### self.f = e in an __init__ that stores the fields in order -/
def fldC (k n : Nat) (c : Option (Option Cell)) (d : D) : Option Cell := match c with
  | some (some (.own (.ins c l))) => if c = k ∧ l.length = n then some (.own (.ins c (l ++ [d]))) else none
  | _ => none
theorem fldC_some {k n : Nat} {c : Option (Option Cell)} {d : D} {r : Cell} (h : fldC k n c d = some r) : ∃ l, c = some (some (.own (.ins k l))) ∧ l.length = n ∧ r = .own (.ins k (l ++ [d])) := by
  unfold fldC at h
  split at h
  · rename_i k' l
    by_cases hl : k' = k ∧ l.length = n
    · rw [if_pos hl] at h
      obtain ⟨rfl, hl⟩ := hl
      exact ⟨l, rfl, hl, (Option.some.inj h).symm⟩
    · rw [if_neg hl] at h; cases h
  · cases h
/-- slot i is an instance of class k whose first n fields are stored: the next one -/
def dFldS (i k n : Nat) (f : FE) : FS := fun ρ => bd (f ρ) fun d => bd (lft (fldC k n ρ[i]? d)) fun c => ret (.nx (ρ.set i (some c)))
theorem putF_new {f : Str} {v : V} : ∀ {fs : List (Str × V)}, f ∉ fs.map (·.1) → putF f v fs = fs ++ [(f, v)]
  | [], _ => rfl
  | p :: r, h => by
    have h1 : ¬ p.1 = f := fun z => h (by rw [← z]; exact List.mem_cons_self)
    have h2 : f ∉ r.map (·.1) := fun z => h (List.mem_cons_of_mem _ z)
    obtain ⟨g, u⟩ := p
    show (if g = f then (g, v) :: r else (g, u) :: putF f v r) = _
    rw [if_neg h1, putF_new h2]
    rfl
theorem sd_fldS {X : Cx} {cl : Cl} {i k n : Nat} {x f : Str} {p1 pos' pos : Pos} {value : Expr} {fe : FE} (hcl : (cl.fl k).Nodup) (hcls : Cls X.K (cl.ad k)) (hna : NoAttr X.K (cl.ad k) f) (hfl : (cl.fl k)[n]? = some f) (hn : n < 900)
    (hN : X.N[i]? = some x) (hv : Vis X.env.scope x) (he : PD X cl true value fe) (hs : swapsWith value (some (.Attribute (.Name x p1) f pos')) pos.line X.env = pure false := by rfl)
    (hd : (x == ("__debug__" : Str)) = false := by decide) (hcd : (x == ("__classdict__" : Str)) = false := by decide) :
    SD X cl (.Assign [.Attribute (.Name x p1) f pos'] value pos) (dFldS i k n fe) :=
  ps_mono (ps_fld (pe_var hN hv hd hcd) he hs) fun D σ H ⟨w0, ρ, w, o, ps', eH, S, ef, q⟩ => by
    obtain ⟨d, p1, ed, ef⟩ := bd_some ef
    obtain ⟨c, p2, ec, ef⟩ := bd_some ef
    obtain ⟨e1, e2⟩ := lft_some ec
    obtain ⟨l, er, hl, e3⟩ := fldC_some e1
    have e4 := ret_some ef
    cases e4
    have e3 : c = .own (.ins k (l ++ [d])) := e3
    subst e3
    have e2 : p1 = ps' := e2
    subst e2
    refine ⟨w0, ρ, w, d, _, eH, S, ed, fun v w1 l1 q1 r1 => ?_⟩
    have S1 := S.step l1
    obtain ⟨a, ea, h0, ow⟩ := S1.own i _ er
    obtain ⟨hsf, dx, vs, hH, hle, rs⟩ := id ow.at_
    have hf := hfl
    have hvl : vs.length = n := by rw [← rs.length, hl]
    have htl : ((cl.fl k).take l.length).length = n := by
      rw [List.length_take, hl]
      have := (List.getElem?_eq_some_iff.mp hf).1
      omega
    have hmap : (((cl.fl k).take l.length).zip vs).map (·.1) = (cl.fl k).take l.length := by
      rw [List.map_fst_zip]
      omega
    have hnew : f ∉ (((cl.fl k).take l.length).zip vs).map (·.1) := by
      rw [hmap, hl]
      intro z
      obtain ⟨j, hj, ej⟩ := List.getElem_of_mem z
      have hj' : j < n := by rw [List.length_take] at hj; omega
      rw [List.getElem_take] at ej
      obtain ⟨hn', en⟩ := List.getElem?_eq_some_iff.mp hf
      have := (List.getElem_inj hcl).mp (ej.trans en.symm)
      omega
    refine ⟨.ref a, ea, a, _, dx, _, rfl, hH, hcls, hna, ?_, ?_⟩
    · show ((((cl.fl k).take l.length).zip vs)).length < 1000
      rw [← List.length_map (f := (·.1)), hmap, htl]; omega
    · show D.nx σ (upd w1.H a (HO.ins (cl.ad k) dx (putF f v (((cl.fl k).take l.length).zip vs))))
      rw [putF_new hnew]
      have e5 : ((cl.fl k).take l.length).zip vs ++ [(f, v)] = ((cl.fl k).take (l ++ [d]).length).zip (vs ++ [v]) := by
        rw [List.length_append, List.length_singleton, hl, List.take_add_one, hf, List.zip_append (by rw [hvl, ← hl]; exact htl.trans hl.symm)]
        rfl
      have m2 : Wm w1 { w1 with H := upd w1.H a (.ins (cl.ad k) dx (((cl.fl k).take l.length).zip vs ++ [(f, v)])) } := ⟨fun _ _ h => h, fun _ h => h, rfl⟩
      refine q σ { w1 with H := upd w1.H a (.ins (cl.ad k) dx (((cl.fl k).take l.length).zip vs ++ [(f, v)])) } (S1.change er ea ⟨hsf, dx, vs ++ [v], ?_, ?_, ?_⟩) ((l1.wm S.ok).trans m2) q1
      · have e6 := upd_same (H := w1.H) (a := a) (o := HO.ins (cl.ad k) dx (((cl.fl k).take l.length).zip vs ++ [(f, v)]))
        refine e6.trans ?_
        show some (HO.ins (cl.ad k) dx (((cl.fl k).take l.length).zip vs ++ [(f, v)])) = some (HO.ins (cl.ad k) dx (((cl.fl k).take (l ++ [d]).length).zip (vs ++ [v])))
        rw [e5]
      · rw [List.length_append, List.length_singleton, hl]
        exact (List.getElem?_eq_some_iff.mp hf).1
      · exact Reps.append (Reps.mono m2 _ _ rs) (Reps.one (Rep.mono m2 _ _ r1))

/-! ### over any list, tuple or text; a list made lasting behind a statement; methods of texts by name -/
def asAny : D → Option (List D)
  | .lst l => some l
  | .tup l => some l
  | .str x => some (chs x)
  | _ => none
def iAny (K : PySem.W.Frag) (tl : TE) : TI := fun σ H R => tl σ H fun x H1 => (∃ a, x = .ref a ∧ (∃ xs, SqL K H1 a xs) ∧ R (Itl K a) H1) ∨ (∃ a, x = .ref a ∧ (∃ xs, SqT K H1 a xs) ∧ R (Itt K a) H1) ∨ ∃ z, x = .str z ∧ R (Its z) H1
theorem pi_any {X : Cx} {tg l : Expr} {tl : TE} (hl : PE X l tl) : PI X tg l (iAny X.K tl) := by
  refine ⟨fun pins s σ H R I h => ?_⟩
  refine thn (hl.run pins s σ H _ I h) fun v s1 ⟨x, H1, I1, r1, q1⟩ => ?_
  rcases q1 with ⟨a, e, ⟨xs, hq⟩, q⟩ | ⟨a, e, ⟨xs, hq⟩, q⟩ | ⟨z, e, q⟩
  · subst e
    cases r1
    obtain ⟨its, rv, p, hz⟩ := I1.list hq
    refine wpAny_pyIter_list p.isList ?_
    refine ⟨s1.heap.objs.size, [s1.heap.objs.size], _, _, H1, rfl, I1.kept (t' := s1.toks) fun b o e => Heap.get?_push_of_some _ e, turn_list a _, ⟨_, Heap.get?_push_size _ rfl, rfl, rfl⟩, fun b hb => ?_, q⟩
    have e : b = s1.heap.objs.size := by simpa using hb
    subst e
    exact I1.fpOk (Nat.le_refl _) (I1.hok.fresh (Nat.le_refl _))
  · subst e
    cases r1
    obtain ⟨its, rv, p, hz⟩ := I1.tuple hq
    refine wpAny_pyIter_tuple (show s1.heap.IsTuple a its.toArray from p) ?_
    refine ⟨s1.heap.objs.size, [s1.heap.objs.size], _, _, H1, rfl, I1.kept (t' := s1.toks) fun b o e => Heap.get?_push_of_some _ e, turn_tuple a _, ⟨_, Heap.get?_push_size _ rfl, rfl, rfl⟩, fun b hb => ?_, q⟩
    have e : b = s1.heap.objs.size := by simpa using hb
    subst e
    exact I1.fpOk (Nat.le_refl _) (I1.hok.fresh (Nat.le_refl _))
  · subst e
    obtain ⟨t, rfl⟩ := r1
    cases ha : z.cps.all (· < 128)
    · exact wpAny_pyIter_wide ha (pi_one (tk := s1.toks) I1 _ (turn_str _ z t "str_iterator" (.inr rfl)) ⟨_, Heap.get?_push_size _ rfl, rfl, rfl⟩ q)
    · exact wpAny_pyIter_ascii ha (pi_one (tk := s1.toks) I1 _ (turn_str _ z t "str_ascii_iterator" (.inl rfl)) ⟨_, Heap.get?_push_size _ rfl, rfl, rfl⟩ q)
theorem id_any {X : Cx} {cl : Cl} {tg e : Expr} {f : FE} (h : PD X cl true e f) : ID X cl tg e (dIt asAny f) := pi_mono (pi_any h) fun σ H R ⟨w0, ρ, w, ds, ps', eH, S, ef, q⟩ => by
  obtain ⟨x, p1, ex, ef⟩ := bd_some ef
  obtain ⟨eg, ep⟩ := lft_some ef
  refine ⟨w0, ρ, w, x, p1, eH, S, ex, fun v w1 l1 q1 r1 => ?_⟩
  cases x with
  | lst l =>
    cases eg
    obtain ⟨a, vs, ev, hs, rs⟩ := r1
    refine .inl ⟨a, ev, ⟨vs, sqL_mono l1.ok.sub hs⟩, q _ w1 l1 (q1.trans ep) fun w2 m ok2 i => ⟨fun d hd => ?_, fun hi => ?_⟩⟩
    · obtain ⟨u, eu, ru⟩ := rs.get hd
      have h2 : SqL X.K w2.H a vs := sqL_mono (fun b o z => ok2.sub b o (m.w_ b o z)) hs
      refine ⟨⟨vs, u, h2, eu⟩, fun x H' ⟨e1, e2⟩ => ⟨w2, e1.symm, .refl ok2, rfl, ?_⟩⟩
      have e3 := e2 vs h2
      rw [eu] at e3
      cases e3
      exact Rep.mono m _ _ ru
    · exact ⟨vs, sqL_mono (fun b o z => ok2.sub b o (m.w_ b o z)) hs, by rw [← rs.length]; exact hi⟩
  | tup l =>
    cases eg
    obtain ⟨a, vs, ev, hs, rs⟩ := r1
    refine .inr (.inl ⟨a, ev, ⟨vs, sqT_mono l1.ok.sub hs⟩, q _ w1 l1 (q1.trans ep) fun w2 m ok2 i => ⟨fun d hd => ?_, fun hi => ?_⟩⟩)
    · obtain ⟨u, eu, ru⟩ := rs.get hd
      have h2 : SqT X.K w2.H a vs := sqT_mono (fun b o z => ok2.sub b o (m.w_ b o z)) hs
      refine ⟨⟨vs, u, h2, eu⟩, fun x H' ⟨e1, e2⟩ => ⟨w2, e1.symm, .refl ok2, rfl, ?_⟩⟩
      have e3 := e2 vs h2
      rw [eu] at e3
      cases e3
      exact Rep.mono m _ _ ru
    · exact ⟨vs, sqT_mono (fun b o z => ok2.sub b o (m.w_ b o z)) hs, by rw [← rs.length]; exact hi⟩
  | str x =>
    cases eg
    exact .inr (.inr ⟨x, r1, q _ w1 l1 (q1.trans ep) walk_str⟩)
  | _ => cases eg
def dThen (i : Nat) (u : FS) : FS := fun ρ => bd (u ρ) fun o => match o with
  | .nx ρ' => ret (.nx (frz i ρ'))
  | o => ret o
theorem sd_then {X : Cx} {cl : Cl} {st : Stmt} {u : FS} (i : Nat) (h : SD X cl st u) : SD X cl st (dThen i u) := ps_mono h fun D σ H ⟨w0, ρ, w, o, ps', eH, S, ef, q⟩ => by
  obtain ⟨o1, p1, e1, ef⟩ := bd_some ef
  refine ⟨w0, ρ, w, o1, p1, eH, S, e1, ?_⟩
  cases o1 with
  | nx ρ1 =>
    cases ret_some ef
    intro σ' w' S' m e
    obtain ⟨w2, k1, k2, m2, S2⟩ := S'.freeze i
    rw [← k1]
    exact q σ' w2 S2 (m.trans m2) (k2.trans e)
  | rt d => cases ret_some ef; exact q
  | bk ρ1 => cases ret_some ef; exact q
  | ct ρ1 => cases ret_some ef; exact q
/-! ### an __init__ and its class -/
def spI (K : PySem.W.Frag) (cl : Cl) (c n : Nat) (g : List D → M D) : Sp := fun vs H Q _ => ∃ w x dx vs' ds d ps', vs = .ref x :: vs' ∧ H = upd (upd w.H dx (.own x)) x (.ins (cl.ad c) dx []) ∧ w.H x = none ∧ w.H dx = none ∧ dx ≠ x ∧ WOk w ∧ Reps K cl w ds vs' ∧ ds.length = n ∧
  g ds w.ps = some (d, ps') ∧ ∀ w', Le w w' → w'.ps = ps' → Rep K cl w' d (.ref x) → Q .non w'.H
/-- slot 0 is the instance -/
def insC (c m : Nat) (x : Option (Option Cell)) : Option D := match x with
  | some (some (.own (.ins k l))) => if k = c ∧ l.length = m then some (.ins c l) else none
  | _ => none
theorem insC_some {c m : Nat} {x : Option (Option Cell)} {d : D} (h : insC c m x = some d) : ∃ l, x = some (some (.own (.ins c l))) ∧ l.length = m ∧ d = .ins c l := by
  unfold insC at h
  split at h
  · rename_i k l
    by_cases hl : k = c ∧ l.length = m
    · rw [if_pos hl] at h
      obtain ⟨rfl, e⟩ := hl
      exact ⟨l, rfl, e, (Option.some.inj h).symm⟩
    · rw [if_neg hl] at h; cases h
  · cases h
def runI (c m n : Nat) (s : FS) : List D → M D := fun ds => bd (s ((some (Cell.own (.ins c [])) :: ds.map (fun d => some (Cell.val d))) ++ List.replicate (n - (ds.length + 1)) none)) fun o => match o with
  | .nx ρ => lft (insC c m ρ[0]?)
  | _ => lft none
theorem Le.setsf {a b : Wd} {s : Option Addr} (l : Le { a with sf := s } b) : Le a { b with sf := a.sf } := ⟨l.h, l.w_, l.pa, l.fr, l.dom, rfl, ⟨l.ok.sub, l.ok.no, l.ok.pool⟩⟩
theorem WOk.setsf {a : Wd} {s : Option Addr} (o : WOk a) : WOk { a with sf := s } := ⟨o.sub, o.no, o.pool⟩
theorem fn_I {P : Program} {W : World} {K : PySem.W.Frag} {mg : Str → Option Value} {base : Heap} {x qual : Str} {ar : Arguments} {bo : List Stmt} {sc : Scope} {f : Addr} {fd : FuncData} {N ps : List Str} {p0 : Str} {k : Nat} {cl : Cl} {s : FS} {c m : Nat}
    (F : FunD K x qual ar bo sc [] [] f fd) (S : FnScope N (p0 :: ps) sc) (hm : (cl.fl c).length = m)
    (hbody : ∀ (cdv : Value) (A : Around) (outer : List Env) (s0 : Shared) (H : Hp) (E : XK), Room k (A.deeper (envOfC qual sc s0.heap.objs.size f cdv)) → SsD (cxOf CX0 P W K mg base N qual sc f cdv A outer s0 H E).nox cl bo s) :
    FnOk P W K mg base CX0 (k + 1) f fd (p0 :: ps) (spI K cl c ps.length (runI c m N.length s)) := by
  refine F.ok S (fun vs H Q E h => ?_) fun cdv A outer s0 H vs Q E hr h => ?_
  · obtain ⟨w, x, dx, vs', ds, d, ps', rfl, _, _, _, _, _, r, hl, _⟩ := h
    rw [List.length_cons, List.length_cons, ← r.length, hl]
  refine ⟨_, PSs.nox (hbody cdv A outer s0 H E hr), ?_⟩
  obtain ⟨w, x, dx, vs', ds, d, ps', rfl, rfl, hx, hdx, hne, ok, r, hl, eg, q⟩ := h
  obtain ⟨o, p1, eo, eg⟩ := bd_some eg
  -- the world with the new instance
  have ok' : WOk { w with sf := some x } := ok.setsf
  have l1 : Le { w with sf := some x } (Wd.addH { w with sf := some x } dx (.own x)) := le_addH ok' hdx
  have hx1 : (Wd.addH { w with sf := some x } dx (.own x)).H x = none := by show upd w.H dx _ x = none; rw [upd_ne hne.symm]; exact hx
  have l2 : Le (Wd.addH { w with sf := some x } dx (.own x)) ((Wd.addH { w with sf := some x } dx (.own x)).addH x (.ins (cl.ad c) dx [])) := le_addH l1.ok hx1
  have l12 := l1.trans l2
  have r' : Reps K cl ((Wd.addH { w with sf := some x } dx (.own x)).addH x (.ins (cl.ad c) dx [])) ds vs' := Reps.mono2 (w := w) (w' := (Wd.addH { w with sf := some x } dx (.own x)).addH x (.ins (cl.ad c) dx [])) (fun _ _ h => h) (fun _ h => h) _ _ r
  generalize hw2 : (Wd.addH { w with sf := some x } dx (.own x)).addH x (.ins (cl.ad c) dx []) = w2 at l2 l12 r'
  have eH : w2.H = upd (upd w.H dx (.own x)) x (.ins (cl.ad c) dx []) := by rw [← hw2]; rfl
  have ep : w2.ps = w.ps := by rw [← hw2]; rfl
  have eW : w2.W x = none := by rw [← hw2]; exact ok.none hx
  have epa : w2.pa = w.pa := by rw [← hw2]; rfl
  have esf : w2.sf = some x := by rw [← hw2]; rfl
  have npx : ¬ inP w2.pa x := by rw [epa]; exact np_of ok hx
  have S0 : SInv ⟨P, W, K, cl⟩ { w with sf := some x } ((some (Cell.own (.ins c [])) :: ds.map (fun d => some (Cell.val d))) ++ List.replicate (N.length - (ds.length + 1)) none) (L2.start N (V.ref x :: vs')) w2 := by
    have hl' := r'.length
    have gt : ∀ (i : Nat) (ce : Cell), ((some (Cell.own (.ins c [])) :: ds.map (fun d => some (Cell.val d))) ++ List.replicate (N.length - (ds.length + 1)) (none : Option Cell))[i]? = some (some ce) → (i = 0 ∧ ce = .own (.ins c [])) ∨ ∃ j d, i = j + 1 ∧ ds[j]? = some d ∧ ce = .val d := fun i ce e => by
      cases i with
      | zero => cases e; exact .inl ⟨rfl, rfl⟩
      | succ j =>
        have e : (ds.map (fun d => some (Cell.val d)) ++ List.replicate (N.length - (ds.length + 1)) (none : Option Cell))[j]? = some (some ce) := e
        by_cases hi : j < ds.length
        · rw [List.getElem?_append_left (by rw [List.length_map]; exact hi), List.getElem?_map] at e
          obtain ⟨d, hd, ec⟩ := Option.map_eq_some_iff.mp e
          exact .inr ⟨j, d, rfl, hd, (Option.some.inj ec).symm⟩
        · rw [List.getElem?_append_right (by rw [List.length_map]; omega)] at e
          have := List.mem_of_getElem? e
          rw [List.mem_replicate] at this
          exact absurd this.2 (fun z => nomatch z)
    refine ⟨l12, fun i d e => ?_, fun i d e => ?_, fun i j d d' a e e' => ?_, ?_⟩
    · rcases gt i _ e with ⟨_, z⟩ | ⟨j, d', rfl, hd, z⟩
      · cases z
      · cases z
        obtain ⟨v, hv, rv⟩ := r'.get hd
        refine ⟨v, ?_, rv⟩
        show ((V.ref x :: vs').map some ++ _)[j + 1]? = _
        rw [List.getElem?_append_left (by rw [List.length_map, List.length_cons]; have := (List.getElem?_eq_some_iff.mp hv).1; omega), List.getElem?_map, List.getElem?_cons_succ, hv]
        rfl
    · rcases gt i _ e with ⟨rfl, z⟩ | ⟨j, d', rfl, hd, z⟩
      · cases z
        exact ⟨x, rfl, hx, eW, npx, esf, dx, [], by rw [eH]; exact upd_same, Nat.zero_le _, rfl⟩
      · cases z
    · rcases gt i _ e with ⟨rfl, _⟩ | ⟨_, _, rfl, _, z⟩
      · rcases gt j _ e' with ⟨rfl, _⟩ | ⟨_, _, rfl, _, z⟩
        · exact fun _ _ => rfl
        · cases z
      · cases z
    · unfold L2.start
      rw [List.length_append, List.length_append, List.length_cons, List.length_map, List.length_map, List.length_replicate, List.length_replicate, List.length_cons, hl']
  refine ⟨{ w with sf := some x }, _, w2, o, p1, eH, S0, by rw [ep]; exact eo, ?_⟩
  cases o with
  | nx ρ =>
    intro σ w' S' m e
    obtain ⟨e1, e2⟩ := lft_some eg
    obtain ⟨l, er, hlm, ed⟩ := insC_some e1
    have ed : d = .ins c l := ed
    subst ed
    obtain ⟨a, ea, h0, ow⟩ := S'.own 0 _ er
    obtain ⟨hsf, dx', us, hH, hle, rs⟩ := id ow.at_
    have ea : a = x := by
      rw [S'.le.sf] at hsf
      exact (Option.some.inj hsf).symm
    subst ea
    have l3 : Le { w with sf := some a } { w' with W := upd w'.W a (.ins (cl.ad c) dx' (((cl.fl c).take l.length).zip us)) } := le_frz S'.le hx hH ow.w_ ow.np
    have rs' : Reps K cl { w' with W := upd w'.W a (.ins (cl.ad c) dx' (((cl.fl c).take l.length).zip us)), sf := w.sf } l us := Reps.mono2 (w := w') (w' := { w' with W := upd w'.W a (.ins (cl.ad c) dx' (((cl.fl c).take l.length).zip us)), sf := w.sf }) (wm_frz (o := .ins (cl.ad c) dx' (((cl.fl c).take l.length).zip us)) ow.w_).w_ (fun _ h => h) _ _ rs
    refine q { w' with W := upd w'.W a (.ins (cl.ad c) dx' (((cl.fl c).take l.length).zip us)), sf := w.sf } l3.setsf (e.trans e2) ⟨a, dx', us, rfl, ?_, ?_, rs'⟩
    · show upd w'.W a _ a = _
      rw [upd_same]
      have : (cl.fl c).take l.length = cl.fl c := List.take_of_length_le (by omega)
      show some (HO.ins (cl.ad c) dx' (((cl.fl c).take l.length).zip us)) = _
      rw [this]
    · rw [← rs.length, hlm, hm]
  | rt _ => exact absurd (lft_some eg).1 (fun z => nomatch z)
  | bk _ => exact absurd (lft_some eg).1 (fun z => nomatch z)
  | ct _ => exact absurd (lft_some eg).1 (fun z => nomatch z)
/-- a class by its name -/
structure FnC (P : Program) (W : World) (K : PySem.W.Frag) (mg : Str → Option Value) (base : Heap) (cl : Cl) (k : Nat) (x : Str) (c n : Nat) (g : List D → M D) : Prop where
  ok : ∃ f fd ps, FnOk P W K mg base CX0 k f fd ps (spI K cl c n g) ∧ Binds K fd ps [] ∧ Mk K (He.ga K x) f
  ad : cl.ad c = He.ga K x
  mg : mg x = some (.ref (He.ga K x))
theorem pd_mk {X : Cx} {cl : Cl} {b : Bool} {e : Expr} {es : List Expr} {pos p : Pos} {fs : FA} {k j c n : Nat} {x : Str} {g : List D → M D} (F : FnC X.prog X.w X.K X.mg X.base cl k x c n g) (hr : Room j X.A) (hg : Gl X x) (ha : AD X cl true (e :: es) fs)
    (hfs : ∀ ρ p r, fs ρ p = some r → r.1.length = n) (hk : k + 1 ≤ j := by decide) (hdb : (x == ("__debug__" : Str)) = false := by decide) (he : starEach (e :: es) X.env = (false, eval e X.env) :: starEach es X.env := by rfl) (hpl : (backTo pos (starEach es X.env)).any (·.1) = false := by rfl) :
    PD X cl b (.Call (.Name x p) (e :: es) [] pos) (dFn g fs) := by
  obtain ⟨f, fd, ps, F1, hb, M⟩ := F.ok
  refine pe_mono (pe_make (E := E0) M F1 (hr.mono hk) hg F.mg hb .nil pass0 ha hdb he hpl) fun σ H Q ⟨w0, ρ, w, z, ps', eH, S, ef, q⟩ => ?_
  obtain ⟨xs, p1, exs, ef⟩ := bd_some ef
  refine ⟨w0, ρ, w, xs, p1, eH, S, exs, fun vs w1 l1 q1 r1 => ?_⟩
  intro x dx hx hdx hne
  rw [List.append_nil]
  refine ⟨w1, x, dx, vs, xs, z, ps', rfl, by rw [F.ad], hx, hdx, hne, l1.ok, Rps.reps r1, hfs _ _ _ exs, by rw [q1]; exact ef, fun w2 l2 q2 r2 => ⟨rfl, ?_⟩⟩
  exact q _ w2 (l1.trans l2) q2 (.of r2)
end Dl

/-! The D layer: the law's own pool of draws. -/
namespace Dl
open PySem PySem.Spec PyProof.Rows L2

/-! ### what a draw gives -/
def drawP (p : Pool) (m : Int) : Int × Pool := match p.gs.findIdx? (fun x => decide (0 < x)) with
  | some k => (p.gs.getD k 0 % m, ⟨p.gs.set k (p.gs.getD k 0 / m), p.ss, p.t + 1⟩)
  | none =>
    let t := p.t + 1
    let cell := if 0 < p.ss.length then p.ss.getD (t % (p.ss.length : Int)).toNat 0 else 0
    let a := (cell * 7919 + t * 104729 + 611953) % 1000003
    let b := (a * a + t * 15485863 + 86028121) % 10000019
    let c := (b * b + a * 32452843 + cell) % 100000007
    (c / 7 % m, ⟨p.gs, p.ss, t⟩)
def PWf (p : Pool) : Prop := p.gs.length ≤ 100 ∧ p.ss.length ≤ 100 ∧ ∀ x ∈ p.ss, 0 ≤ x ∧ x < 1000000000000000000
instance (p : Pool) : Decidable (PWf p) := by unfold PWf; infer_instance
theorem drawP_wf {p : Pool} {m : Int} (h : PWf p) : PWf (drawP p m).2 := by
  unfold drawP
  split
  · exact ⟨by show (p.gs.set _ _).length ≤ 100; rw [List.length_set]; exact h.1, h.2⟩
  · exact h
theorem drawP_range {p : Pool} {m : Int} (h : 0 < m) : 0 ≤ (drawP p m).1 ∧ (drawP p m).1 < m := by
  unfold drawP
  split
  · exact ⟨Int.emod_nonneg _ (by omega), Int.emod_lt_of_pos _ h⟩
  · exact ⟨Int.emod_nonneg _ (by omega), Int.emod_lt_of_pos _ h⟩
def gDraw : List D → M D := fun ds ps => match ds, ps with
  | [.pool, .int m], some p => if 0 < m ∧ m < 1073741824 ∧ PWf p then some (.int (drawP p m).1, some (drawP p m).2) else none
  | _, _ => none
def big : Int := 1000000000000000000
def absI (i : Int) : Int := if i < 0 then -i else i
def newPool (ns : List Int) : Pool := ⟨(ns.filter fun x => decide (big ≤ absI x)).map fun x => absI x - big, (ns.filter fun x => decide (absI x < big)).map absI, 0⟩
theorem newPool_wf {ns : List Int} (h : ns.length ≤ 63) : PWf (newPool ns) := by
  refine ⟨?_, ?_, fun x hx => ?_⟩
  · show (List.map _ _).length ≤ 100
    rw [List.length_map]
    exact Nat.le_trans (List.length_filter_le _ _) (by omega)
  · show (List.map _ _).length ≤ 100
    rw [List.length_map]
    exact Nat.le_trans (List.length_filter_le _ _) (by omega)
  · obtain ⟨y, hy, rfl⟩ := List.mem_map.mp hx
    have := of_decide_eq_true (List.mem_filter.mp hy).2
    refine ⟨?_, this⟩
    unfold absI
    split <;> omega

/-! ### return [greats, smalls, 0] -/
def poolC (c d : Option (Option Cell)) (p : Option Pool) : Option Pool := match c, d, p with
  | some (some (.own (.lst g))), some (some (.own (.lst s))), none => (allI g).bind fun gs => (allI s).map fun ss => ⟨gs, ss, 0⟩
  | _, _, _ => none
theorem poolC_some {c d : Option (Option Cell)} {p : Option Pool} {q : Pool} (h : poolC c d p = some q) : p = none ∧ c = some (some (.own (.lst (q.gs.map .int)))) ∧ d = some (some (.own (.lst (q.ss.map .int)))) ∧ q.t = 0 := by
  unfold poolC at h
  split at h
  · obtain ⟨gs, eg, h⟩ := Option.bind_eq_some_iff.mp h
    obtain ⟨ss, es, h⟩ := Option.map_eq_some_iff.mp h
    subst h
    exact ⟨rfl, by rw [allI_eq eg], by rw [allI_eq es], rfl⟩
  · cases h
def dPool (i j : Nat) : FS := fun ρ p => match poolC ρ[i]? ρ[j]? p with
  | some q => some (.rt .pool, some q)
  | none => none
theorem sd_pool {X : Cx} {cl : Cl} {i j : Nat} {x y : Str} {px py pl pos pz : Pos} {jz} (hij : i ≠ j) (hi : X.N[i]? = some x) (hvx : Vis X.env.scope x) (hj : X.N[j]? = some y) (hvy : Vis X.env.scope y)
    (dx : (x == ("__debug__" : Str)) = false := by decide) (cx : (x == ("__classdict__" : Str)) = false := by decide) (dy : (y == ("__debug__" : Str)) = false := by decide) (cy : (y == ("__classdict__" : Str)) = false := by decide)
    (h1 : starEach [Expr.Name x px, .Name y py, .Constant (.int 0) jz pz] X.env = (false, eval (Expr.Name x px) X.env) :: starEach [Expr.Name y py, .Constant (.int 0) jz pz] X.env := by rfl)
    (h2 : starEach [Expr.Name y py, .Constant (.int 0) jz pz] X.env = (false, eval (Expr.Name y py) X.env) :: starEach [Expr.Constant (.int 0) jz pz] X.env := by rfl)
    (h3 : starEach [Expr.Constant (.int 0) jz pz] X.env = (false, eval (Expr.Constant (.int 0) jz pz) X.env) :: starEach [] X.env := by rfl) :
    SD X cl (.Return (some (.List [.Name x px, .Name y py, .Constant (.int 0) jz pz] pl)) pos) (dPool i j) :=
  ps_mono (ps_ret (pe_lst (pa_cons (pe_var hi hvx dx cx) (pa_cons (pe_var hj hvy dy cy) (pa_cons pe_int pa_nil h3) h2) h1))) fun D σ H ⟨w0, ρ, w, o, ps', eH, S, ef, q⟩ => by
    unfold dPool at ef
    split at ef
    case h_2 => cases ef
    case h_1 p ep =>
    cases ef
    obtain ⟨e0, ei, ej, et⟩ := poolC_some ep
    obtain ⟨g, eg, hg0, og⟩ := S.own i _ ei
    obtain ⟨s, es, hs0, os⟩ := S.own j _ ej
    subst eH
    refine ⟨.ref g, eg, .ref s, es, by show 3 ≤ sizeLine; decide, fun a ha => ?_⟩
    obtain ⟨vg, hg, rg⟩ := id og.at_
    obtain ⟨vs, hs, rs⟩ := id os.at_
    rw [Reps.ints rg] at hg
    rw [Reps.ints rs] at hs
    have gs : g ≠ s := fun z => hij (S.sep i j _ _ g ei ej eg (by rw [z]; exact es))
    have ag : a ≠ g := fun z => by rw [z, hg] at ha; cases ha
    have as_ : a ≠ s := fun z => by rw [z, hs] at ha; cases ha
    have pan : w.pa = none := by
      cases h : w.pa with
      | none => rfl
      | some z =>
        obtain ⟨b, c⟩ := z
        obtain ⟨q, eq, _⟩ := S.ok.pool b c h
        rw [e0] at eq
        cases eq
    have pan0 : w0.pa = none := by
      cases h : w0.pa with
      | none => rfl
      | some z => rw [S.le.pa z h] at pan; cases pan
    have wa : w.W a = none := S.ok.none ha
    have h0a : w0.H a = none := fresh0 S.le ha
    refine q (.ref a) { w with H := upd w.H a (.lst [.ref g, .ref s, .int 0]), W := upd w.W s (.lst (p.ss.map .int)), pa := some (a, g), ps := some p } ⟨fun b o hb n => ?_, fun b hb => ?_, fun z hz => ?_, fun b hb z => ?_, fun b hb => ?_, S.le.sf, ?_⟩ ⟨fun b o hb => ?_, fun z hz => ?_, rfl⟩ rfl ⟨a, g, rfl, rfl⟩
    · show upd w.H a _ b = some o
      rw [upd_ne (fun z => by rw [z, h0a] at hb; cases hb)]
      exact S.le.h b o hb n
    · show upd w.W s _ b = _
      rw [upd_ne (fun z => by rw [z] at hb; exact hb hs0)]
      exact S.le.w_ b hb
    · rw [pan0] at hz; cases hz
    · obtain ⟨a', g', e, z⟩ := z
      cases e
      rcases z with z | z
      · rw [z] at hb; exact absurd h0a hb
      · rw [z] at hb; exact absurd hg0 hb
    · show upd w.H a _ b ≠ none
      rw [upd_ne (fun z => by rw [z] at hb; exact hb h0a)]
      exact S.le.dom b hb
    · refine ⟨fun b o hb => ?_, (fun z => nomatch z), fun a' g' z => ?_⟩
      · have hb : upd w.W s (.lst (p.ss.map .int)) b = some o := hb
        show upd w.H a _ b = some o
        by_cases hbs : b = s
        · subst hbs
          rw [upd_same] at hb
          rw [upd_ne as_.symm, hs]
          exact hb
        · rw [upd_ne hbs] at hb
          rw [upd_ne (fun z => by rw [z, wa] at hb; cases hb)]
          exact S.ok.sub b o hb
      · have z : some (a, g) = some (a', g') := z
        cases z
        refine ⟨p, rfl, s, ?_, ?_, ?_, ?_, ?_, ?_, ag⟩
        · rw [et]; exact upd_same
        · show upd w.H a _ g = _
          rw [upd_ne ag.symm]; exact hg
        · show upd w.H a _ s = _
          rw [upd_ne as_.symm]; exact hs
        · show upd w.W s _ s = upd w.H a _ s
          rw [upd_same, upd_ne as_.symm]; exact hs.symm
        · show upd w.W s _ a = none
          rw [upd_ne as_]; exact wa
        · show upd w.W s _ g = none
          rw [upd_ne gs]; exact og.w_
    · show upd w.W s _ b = some o
      rw [upd_ne (fun z => by rw [z, os.w_] at hb; cases hb)]
      exact hb
    · rw [pan] at hz; cases hz

/-! ### the draw -/
section
variable {K : PySem.W.Frag} {cl : Cl} {w : Wd} {a g : Addr} {p : Pool}
/-- the pool as it stands: what the draw may do to it -/
theorem pool_step (ok : WOk w) (hp : w.pa = some (a, g)) (p' : Pool) {s : Addr} (hs : w.H s = some (.lst (p'.ss.map .int))) (hws : w.W s = w.H s) (hwa : w.W a = none) (hwg : w.W g = none) (hag : a ≠ g) {H' : Hp}
    (h1 : H' a = some (.lst [.ref g, .ref s, .int p'.t])) (h2 : H' g = some (.lst (p'.gs.map .int))) (hk : ∀ b, b ≠ a → b ≠ g → H' b = w.H b) : Le w { w with H := H', ps := some p' } := by
  have ns : ∀ b, (b = a ∨ b = g) → w.W b = none := fun b h => by rcases h with h | h <;> rw [h] <;> assumption
  have sa : s ≠ a := fun z => by rw [z] at hws hs; rw [hwa] at hws; rw [← hws] at hs; cases hs
  have sg : s ≠ g := fun z => by rw [z] at hws hs; rw [hwg] at hws; rw [← hws] at hs; cases hs
  refine ⟨fun b o hb n => ?_, fun b _ => rfl, fun _ h => h, fun _ _ h => h, fun b hb => ?_, rfl, ⟨fun b o hb => ?_, fun z => ?_, fun a' g' z => ?_⟩⟩
  · show H' b = some o
    rw [hk b (fun z => n ⟨a, g, hp, .inl z⟩) (fun z => n ⟨a, g, hp, .inr z⟩)]
    exact hb
  · show H' b ≠ none
    by_cases e1 : b = a
    · rw [e1, h1]; exact fun z => nomatch z
    · by_cases e2 : b = g
      · rw [e2, h2]; exact fun z => nomatch z
      · rw [hk b e1 e2]; exact hb
  · have hb : w.W b = some o := hb
    show H' b = some o
    rw [hk b (fun z => by rw [z, hwa] at hb; cases hb) (fun z => by rw [z, hwg] at hb; cases hb)]
    exact ok.sub b o hb
  · have z : w.pa = none := z
    rw [hp] at z; cases z
  · have z : w.pa = some (a', g') := z
    rw [hp] at z
    cases z
    refine ⟨p', rfl, s, h1, h2, ?_, ?_, hwa, hwg, hag⟩
    · show H' s = _
      rw [hk s sa sg]; exact hs
    · show w.W s = H' s
      rw [hk s sa sg]; exact hws
end
end Dl

/-! The D layer: what a denotation gives, by cases on its parts, for simp. -/
namespace Dl
open PySem PySem.Spec PyProof.Rows L2
variable {α β : Type} {ρ : Rho} {p : Option Pool}
/-- the first part's answer, then the rest -/
def tn (o : Option (α × Option Pool)) (k : α → Option Pool → Option (β × Option Pool)) : Option (β × Option Pool) := match o with
  | none => none
  | some r => k r.1 r.2
theorem tn_ite (c : Prop) [Decidable c] (a b : Option (α × Option Pool)) (k : α → Option Pool → Option (β × Option Pool)) : tn (if c then a else b) k = if c then tn a k else tn b k := by by_cases h : c <;> simp [h]
theorem tn_some (a : α) (p : Option Pool) (k : α → Option Pool → Option (β × Option Pool)) : tn (some (a, p)) k = k a p := rfl
theorem ev_bd (m : M α) (k : α → M β) : bd m k p = tn (m p) fun a p' => k a p' := by
  unfold bd tn
  cases m p with
  | none => rfl
  | some r => obtain ⟨a, p'⟩ := r; rfl
theorem ev_lft (o : Option α) : lft o p = o.map fun a => (a, p) := by cases o <;> rfl
theorem lft_some' (a : α) : lft (some a) p = some (a, p) := rfl
theorem ev_ret (a : α) : ret a p = some (a, p) := rfl
theorem ev_next : dNext ρ p = some (.nx ρ, p) := rfl
theorem ev_cnt : dCnt ρ p = some (.ct ρ, p) := rfl
theorem ev_nx (f g : FS) {ρ1 : Rho} {p1} (h : f ρ p = some (.nx ρ1, p1)) : dSeq f g ρ p = g ρ1 p1 := by
  show bd (f ρ) _ p = _
  rw [ev_bd, h]
  rfl
theorem ev_rt (f g : FS) {d : D} {p1} (h : f ρ p = some (.rt d, p1)) : dSeq f g ρ p = some (.rt d, p1) := by
  show bd (f ρ) _ p = _
  rw [ev_bd, h]
  rfl
/-- what follows a statement's end -/
def aft (o : Out) (g : FS) (p : Option Pool) : Option (Out × Option Pool) := match o with
  | .nx ρ' => g ρ' p
  | o => some (o, p)
theorem aft_nx (g : FS) : aft (.nx ρ) g p = g ρ p := rfl
theorem aft_rt (g : FS) (d : D) : aft (.rt d) g p = some (.rt d, p) := rfl
theorem aft_ct (g : FS) : aft (.ct ρ) g p = some (.ct ρ, p) := rfl
theorem ev_seq (f g : FS) : dSeq f g ρ p = tn (f ρ p) fun o p' => aft o g p' := by
  show bd (f ρ) _ p = _
  rw [ev_bd]
  congr 1
  funext o p'
  cases o <;> rfl
theorem ev_if (c : FT) (f g : FS) : dIfS c f g ρ p = tn (c ρ p) fun k p' => if k = true then f ρ p' else g ρ p' := by
  show bd (c ρ) _ p = _
  rw [ev_bd]
  congr 1
  funext k p'
  cases k <;> rfl
theorem ev_rets (f : FE) : dRet f ρ p = tn (f ρ p) fun x p' => some (.rt x, p') := by
  show bd (f ρ) _ p = _
  rw [ev_bd]; rfl
theorem ev_set (i : Nat) (f : FE) : dSet i f ρ p = tn (f ρ p) fun x p' => some (.nx (ρ.set i (some (.val x))), p') := by
  show bd (f ρ) _ p = _
  rw [ev_bd]; rfl
theorem ev_setO (i : Nat) (f : FE) : dSetO i f ρ p = tn (f ρ p) fun x p' => some (.nx (ρ.set i (some (.own x))), p') := by
  show bd (f ρ) _ p = _
  rw [ev_bd]; rfl
theorem ev_app (i : Nat) (f : FE) : dApp i f ρ p = tn (f ρ p) fun x p' => (appC ρ[i]? x).map fun c => (.nx (ρ.set i (some c)), p') := by
  show bd (f ρ) _ p = _
  rw [ev_bd]
  congr 1
  funext x p'
  rw [ev_bd, ev_lft]
  cases appC ρ[i]? x <;> rfl
theorem ev_asg (t : FG) (f : FE) : dAsg t f ρ p = tn (f ρ p) fun x p' => (t x ρ).map fun ρ' => (.nx ρ', p') := by
  show bd (f ρ) _ p = _
  rw [ev_bd]
  congr 1
  funext x p'
  rw [ev_bd, ev_lft]
  cases t x ρ <;> rfl
theorem ev_op (g : D → D → Option D) (fa fb : FE) : dOp g fa fb ρ p = tn (fa ρ p) fun x p1 => tn (fb ρ p1) fun y p2 => (g x y).map fun z => (z, p2) := by
  show bd (fa ρ) _ p = _
  simp only [ev_bd, ev_lft]
theorem ev_un (g : D → Option D) (fa : FE) : dUn g fa ρ p = tn (fa ρ p) fun x p1 => (g x).map fun z => (z, p1) := by
  show bd (fa ρ) _ p = _
  simp only [ev_bd, ev_lft]
theorem ev_b (f : FE) : dB f ρ p = tn (f ρ p) fun x p1 => (asB x).map fun z => (z, p1) := by
  show bd (f ρ) _ p = _
  simp only [ev_bd, ev_lft]
theorem ev_chain (g g' : D → D → Option D) (fa fb fc : FE) : dChain g g' fa fb fc ρ p = tn (fa ρ p) fun x p1 => tn (fb ρ p1) fun y p2 => tn ((g x y).map fun z => (z, p2)) fun z p3 => tn ((asB z).map fun k => (k, p3)) fun k p4 => if k = true then tn (fc ρ p4) fun c p5 => (g' y c).map fun z => (z, p5) else some (.bl false, p4) := by
  show bd (fa ρ) _ p = _
  simp only [ev_bd, ev_lft]
  congr 1
  funext x p1
  congr 1
  funext y p2
  congr 1
  funext z p3
  congr 1
  funext k p4
  cases k
  · rfl
  · show bd (fc ρ) _ p4 = _
    simp only [ev_bd, ev_lft, if_true]
theorem ev_and (f g : FT) : dAnd f g ρ p = tn (f ρ p) fun k p' => if k = true then g ρ p' else some (false, p') := by
  show bd (f ρ) _ p = _
  rw [ev_bd]
  congr 1
  funext k p'
  cases k <;> rfl
theorem ev_or (f g : FT) : dOr f g ρ p = tn (f ρ p) fun k p' => if k = true then some (true, p') else g ρ p' := by
  show bd (f ρ) _ p = _
  rw [ev_bd]
  congr 1
  funext k p'
  cases k <;> rfl
theorem ev_not (f : FT) : dNot f ρ p = tn (f ρ p) fun k p' => some (!k, p') := by
  show bd (f ρ) _ p = _
  rw [ev_bd]; rfl
theorem ev_andV (f g : FE) : dAndV f g ρ p = tn (f ρ p) fun x p1 => tn ((asB x).map fun k => (k, p1)) fun k p2 => if k = true then g ρ p2 else some (.bl false, p2) := by
  show bd (f ρ) _ p = _
  simp only [ev_bd, ev_lft]
  congr 1
  funext x p1
  congr 1
  funext k p2
  cases k <;> rfl
theorem ev_orV (f g : FE) : dOrV f g ρ p = tn (f ρ p) fun x p1 => tn ((asB x).map fun k => (k, p1)) fun k p2 => if k = true then some (.bl true, p2) else g ρ p2 := by
  show bd (f ρ) _ p = _
  simp only [ev_bd, ev_lft]
  congr 1
  funext x p1
  congr 1
  funext k p2
  cases k <;> rfl
theorem ev_notV (f : FE) : dNotV f ρ p = tn (f ρ p) fun x p1 => tn ((asB x).map fun k => (k, p1)) fun k p2 => some (.bl (!k), p2) := by
  show bd (f ρ) _ p = _
  simp only [ev_bd, ev_lft, ev_ret]
theorem ev_ite (c : FT) (f g : FE) : dIf c f g ρ p = tn (c ρ p) fun k p' => if k = true then f ρ p' else g ρ p' := by
  show bd (c ρ) _ p = _
  rw [ev_bd]
  congr 1
  funext k p'
  cases k <;> rfl
theorem ev_nil : dNil ρ p = some ([], p) := rfl
theorem ev_cons (f : FE) (fs : FA) : dCons f fs ρ p = tn (f ρ p) fun x p1 => tn (fs ρ p1) fun xs p2 => some (x :: xs, p2) := by
  show bd (f ρ) _ p = _
  simp only [ev_bd]
  rfl
theorem ev_tup (fs : FA) : dTup fs ρ p = tn (fs ρ p) fun xs p1 => if xs.length ≤ 1000 then some (.tup xs, p1) else none := by
  show bd (fs ρ) _ p = _
  simp only [ev_bd]
  congr 1
  funext xs p1
  by_cases h : xs.length ≤ 1000
  · rw [if_pos h, if_pos h]; rfl
  · rw [if_neg h, if_neg h]; rfl
theorem ev_lst (fs : FA) : dLst fs ρ p = tn (fs ρ p) fun xs p1 => if xs.length ≤ 1000 then some (.lst xs, p1) else none := by
  show bd (fs ρ) _ p = _
  simp only [ev_bd]
  congr 1
  funext xs p1
  by_cases h : xs.length ≤ 1000
  · rw [if_pos h, if_pos h]; rfl
  · rw [if_neg h, if_neg h]; rfl
theorem ev_call (g : List D → Option D) (fs : FA) : dCall g fs ρ p = tn (fs ρ p) fun xs p1 => (g xs).map fun z => (z, p1) := by
  show bd (fs ρ) _ p = _
  simp only [ev_bd, ev_lft]
theorem ev_fn (g : List D → M D) (fs : FA) : dFn g fs ρ p = tn (fs ρ p) fun xs p1 => g xs p1 := by
  show bd (fs ρ) _ p = _
  rw [ev_bd]
theorem ev_it (g : D → Option (List D)) (f : FE) : dIt g f ρ p = tn (f ρ p) fun x p1 => (g x).map fun z => (z, p1) := by
  show bd (f ρ) _ p = _
  simp only [ev_bd, ev_lft]
theorem ev_itA (g : List D → Option (List D)) (f : FA) : dItA g f ρ p = tn (f ρ p) fun x p1 => (g x).map fun z => (z, p1) := by
  show bd (f ρ) _ p = _
  simp only [ev_bd, ev_lft]
theorem ev_for (t : FG) (fi : FA) (s : FS) : dFor t fi s ρ p = tn (fi ρ p) fun ds p1 => loopD t s ds ρ p1 := by
  show bd (fi ρ) _ p = _
  rw [ev_bd]
theorem ev_c (d : D) : dC d ρ p = some (d, p) := rfl
/-- a slot's value -/
def slotV (c : Option (Option Cell)) : Option D := match c with
  | some (some (.val d)) => some d
  | _ => none
def slotO (c : Option (Option Cell)) : Option D := match c with
  | some (some (.own d)) => some d
  | _ => none
theorem slotV_val (d : D) : slotV (some (some (.val d))) = some d := rfl
theorem slotO_own (d : D) : slotO (some (some (.own d))) = some d := rfl
theorem ev_var (i : Nat) : dVar i ρ p = (slotV ρ[i]?).map fun d => (d, p) := by
  show (match ρ[i]? with | some (some (.val d)) => _ | _ => none) = _
  cases ρ[i]? with
  | none => rfl
  | some c => cases c with
    | none => rfl
    | some c => cases c <;> rfl
theorem ev_own (i : Nat) : dOwn i ρ p = (slotO ρ[i]?).map fun d => (d, p) := by
  show (match ρ[i]? with | some (some (.own d)) => _ | _ => none) = _
  cases ρ[i]? with
  | none => rfl
  | some c => cases c with
    | none => rfl
    | some c => cases c <;> rfl
def fldD (c i : Nat) (o : D) : Option D := match o with
  | .ins c' l => if c' = c then l[i]? else none
  | _ => none
def runO (o : Out) : Option D := match o with
  | .rt d => some d
  | .nx _ => some .non
  | _ => none
theorem ev_fld (c i : Nat) (f : FE) : dFld c i f ρ p = tn (f ρ p) fun x p1 => (fldD c i x).map fun z => (z, p1) := by
  show bd (f ρ) _ p = _
  simp only [ev_bd, ev_lft]
  rfl
theorem ev_par (i j : Nat) (fs : FA) : dPar i j fs ρ p = tn (fs ρ p) fun xs p1 => (match xs with
    | [a, b] => some (.nx ((ρ.set i (some (.val a))).set j (some (.val b))), p1)
    | _ => none) := by
  show bd (fs ρ) _ p = _
  simp only [ev_bd]
  congr 1
  funext xs p1
  match xs with
  | [] => rfl
  | [_] => rfl
  | [_, _] => rfl
  | _ :: _ :: _ :: _ => rfl
theorem ev_run (n : Nat) (s : FS) (ds : List D) : runD n s ds p = tn (s (ds.map (fun d => some (Cell.val d)) ++ List.replicate (n - ds.length) none) p) fun o p1 => (runO o).map fun d => (d, p1) := by
  show bd _ _ p = _
  rw [ev_bd]
  congr 1
  funext o p1
  cases o <;> rfl
theorem gEq_int (i j : Int) : gEq (.int i) (.int j) = some (.bl (decide (i = j))) := by
  show (if scal (V.int i) (V.int j) = true then some (D.bl (decide (V.int i = V.int j))) else none) = _
  rw [if_pos (show scal (V.int i) (V.int j) = true from rfl)]
  congr 2
  by_cases h : i = j
  · rw [h, decide_eq_true rfl, decide_eq_true rfl]
  · rw [decide_eq_false h, decide_eq_false fun z => h (V.int.inj z)]
theorem gNe_int (i j : Int) : gNe (.int i) (.int j) = some (.bl (!decide (i = j))) := by
  show (if scal (V.int i) (V.int j) = true then some (D.bl (!decide (V.int i = V.int j))) else none) = _
  rw [if_pos (show scal (V.int i) (V.int j) = true from rfl)]
  congr 3
  by_cases h : i = j
  · rw [h, decide_eq_true rfl, decide_eq_true rfl]
  · rw [decide_eq_false h, decide_eq_false fun z => h (V.int.inj z)]
theorem gEq_str (i j : Str) : gEq (.str i) (.str j) = some (.bl (decide (i = j))) := by
  show (if scal (V.str i) (V.str j) = true then some (D.bl (decide (V.str i = V.str j))) else none) = _
  rw [if_pos (show scal (V.str i) (V.str j) = true from rfl)]
  congr 2
  by_cases h : i = j
  · rw [h, decide_eq_true rfl, decide_eq_true rfl]
  · rw [decide_eq_false h, decide_eq_false fun z => h (V.str.inj z)]
theorem gNe_str (i j : Str) : gNe (.str i) (.str j) = some (.bl (!decide (i = j))) := by
  show (if scal (V.str i) (V.str j) = true then some (D.bl (!decide (V.str i = V.str j))) else none) = _
  rw [if_pos (show scal (V.str i) (V.str j) = true from rfl)]
  congr 3
  by_cases h : i = j
  · rw [h, decide_eq_true rfl, decide_eq_true rfl]
  · rw [decide_eq_false h, decide_eq_false fun z => h (V.str.inj z)]
theorem gAdd_int (i j : Int) : gAdd (.int i) (.int j) = some (.int (i + j)) := rfl
theorem gIsN_non : gIsN .non .non = some (.bl true) := rfl

/-! ### loops and comprehensions over typed steps -/
def foldE {σ α ε : Type} (stp : σ → α → Except ε σ) : σ → List α → Except ε σ
  | s, [] => .ok s
  | s, x :: xs => match stp s x with
    | .ok s' => foldE stp s' xs
    | .error e => .error e
def SimL {σ : Type} (R : σ → Rho → Prop) (p : Option Pool) (o : Option (Out × Option Pool)) : Except D σ → Prop
  | .ok st => ∃ ρ2, o = some (.nx ρ2, p) ∧ R st ρ2
  | .error d => o = some (.rt d, p)
def SimB {σ : Type} (R : σ → Rho → Prop) (p : Option Pool) (o : Option (Out × Option Pool)) : Except D σ → Prop
  | .ok st => ∃ ρ2, (o = some (.nx ρ2, p) ∨ o = some (.ct ρ2, p)) ∧ R st ρ2
  | .error d => o = some (.rt d, p)
theorem SimL.b {σ : Type} {R : σ → Rho → Prop} {o : Option (Out × Option Pool)} {r : Except D σ} (h : SimL R p o r) : SimB R p o r := by
  cases r with
  | ok st => obtain ⟨ρ2, e, r⟩ := h; exact ⟨ρ2, .inl e, r⟩
  | error d => exact h
theorem loop_nil {t : FG} {s : FS} : loopD t s [] ρ p = some (.nx ρ, p) := rfl
theorem loop_cons {t : FG} {s : FS} {d : D} {ds : List D} {ρ1 : Rho} (ht : t d ρ = some ρ1) : loopD t s (d :: ds) ρ p = tn (s ρ1 p) fun o p1 => match o with
    | .nx ρ2 => loopD t s ds ρ2 p1
    | .ct ρ2 => loopD t s ds ρ2 p1
    | .bk ρ2 => some (.nx ρ2, p1)
    | .rt d => some (.rt d, p1) := by
  show bd (lft (t d ρ)) _ p = _
  rw [ev_bd, ht, lft_some', tn_some, ev_bd]
  congr 1
  funext o p1
  cases o <;> rfl
theorem loop_sim {σ α : Type} {t : FG} {s : FS} (f : α → D) (stp : σ → α → Except D σ) (R : σ → Rho → Prop) (p : Option Pool) : ∀ (xs : List α), (∀ st ρ x, x ∈ xs → R st ρ → ∃ ρ1, t (f x) ρ = some ρ1 ∧ SimB R p (s ρ1 p) (stp st x)) →
    ∀ st ρ, R st ρ → SimL R p (loopD t s (xs.map f) ρ p) (foldE stp st xs)
  | [], _, st, ρ, r => ⟨ρ, rfl, r⟩
  | x :: xs, h, st, ρ, r => by
    obtain ⟨ρ1, e1, hs⟩ := h st ρ x List.mem_cons_self r
    rw [List.map_cons, loop_cons e1]
    rw [foldE]
    cases hst : stp st x with
    | error d =>
      rw [hst] at hs
      rw [show s ρ1 p = some (.rt d, p) from hs]
      exact rfl
    | ok st' =>
      rw [hst] at hs
      obtain ⟨ρ2, e, r2⟩ := hs
      have ih := loop_sim f stp R p xs (fun st ρ x hx => h st ρ x (List.mem_cons_of_mem _ hx)) st' ρ2 r2
      rcases e with e | e <;> (rw [e]; exact ih)
theorem lc_pure {i : Nat} {ft : FT} {fe : FE} (t : D → Bool) (f : D → D) : ∀ (ds acc : List D), acc.length + ds.length < 100000 → (∀ d ∈ ds, ft (ρ.set i (some (.val d))) p = some (t d, p)) → (∀ d ∈ ds, t d = true → fe (ρ.set i (some (.val d))) p = some (f d, p)) →
    lcD i ft fe ρ ds acc p = some (.lst (acc ++ (ds.filter t).map f), p)
  | [], acc, _, _, _ => by rw [List.filter_nil, List.map_nil, List.append_nil]; rfl
  | d :: ds, acc, hl, h1, h2 => by
    rw [List.length_cons] at hl
    have h1d := h1 d List.mem_cons_self
    show bd (ft _) _ p = _
    rw [ev_bd, h1d, tn_some]
    cases hk : t d with
    | false =>
      rw [List.filter_cons_of_neg (by rw [hk]; decide)]
      exact lc_pure t f ds acc (by omega) (fun x hx => h1 x (List.mem_cons_of_mem _ hx)) fun x hx => h2 x (List.mem_cons_of_mem _ hx)
    | true =>
      rw [List.filter_cons_of_pos hk, List.map_cons]
      show bd (fe _) _ p = _
      rw [ev_bd, h2 d List.mem_cons_self hk, tn_some, if_pos (by omega)]
      rw [lc_pure t f ds (acc ++ [f d]) (by rw [List.length_append, List.length_singleton]; omega) (fun x hx => h1 x (List.mem_cons_of_mem _ hx)) fun x hx => h2 x (List.mem_cons_of_mem _ hx), List.append_assoc]
      rfl
theorem ev_lc (i : Nat) (fi : FA) (ft : FT) (fe : FE) : dLc i fi ft fe ρ p = tn (fi ρ p) fun ds p1 => lcD i ft fe ρ ds [] p1 := by
  show bd (fi ρ) _ p = _
  rw [ev_bd]
theorem ev_yes : dYes ρ p = some (true, p) := rfl
theorem ev_dk0 (i : Nat) : dDk0 i ρ p = some (.nx (ρ.set i (some (.own (.dk [] [])))), p) := rfl
theorem ev_dn1 (i : Nat) (fk fv : FE) : dDn1 i fk fv ρ p = tn (fk ρ p) fun kd p1 => tn (fv ρ p1) fun d p2 => (dn1C kd d).map fun c => (.nx (ρ.set i (some c)), p2) := by
  show bd (fk ρ) _ p = _
  simp only [ev_bd, ev_lft]
  congr 1
  funext kd p1
  congr 1
  funext d p2
  cases dn1C kd d <;> rfl
theorem ev_dn (i : Nat) (fv fk : FE) : dDn i fv fk ρ p = tn (fv ρ p) fun d p1 => tn (fk ρ p1) fun kd p2 => (dnC ρ[i]? kd d).map fun c => (.nx (ρ.set i (some c)), p2) := by
  show bd (fv ρ) _ p = _
  simp only [ev_bd, ev_lft]
  congr 1
  funext kd p1
  congr 1
  funext d p2
  cases dnC ρ[i]? d kd <;> rfl
theorem ev_dk (i : Nat) (fv fk : FE) : dDk i fv fk ρ p = tn (fv ρ p) fun d p1 => tn (fk ρ p1) fun kd p2 => (dkC ρ[i]? kd d).map fun c => (.nx (ρ.set i (some c)), p2) := by
  show bd (fv ρ) _ p = _
  simp only [ev_bd, ev_lft]
  congr 1
  funext kd p1
  congr 1
  funext d p2
  cases dkC ρ[i]? d kd <;> rfl
theorem ev_frz (i : Nat) (f : FS) : dFrz i f ρ p = f (frz i ρ) p := rfl
theorem ev_thn (i : Nat) (u : FS) : dThen i u ρ p = tn (u ρ p) fun o p1 => match o with
    | .nx ρ' => some (.nx (frz i ρ'), p1)
    | o => some (o, p1) := by
  show bd (u ρ) _ p = _
  rw [ev_bd]
  congr 1
  funext o p1
  cases o <;> rfl

theorem tn_assoc {γ : Type} (o : Option (α × Option Pool)) (k : α → Option Pool → Option (β × Option Pool)) (k' : β → Option Pool → Option (γ × Option Pool)) : tn (tn o k) k' = tn o fun a p1 => tn (k a p1) k' := by
  cases o <;> rfl
def AftL {σ : Type} (R : σ → Rho → Prop) (p : Option Pool) (k : Out → Option Pool → Option (β × Option Pool)) (z : Option (β × Option Pool)) : Except D σ → Prop
  | .ok st => ∀ ρ2, R st ρ2 → k (.nx ρ2) p = z
  | .error d => k (.rt d) p = z
theorem tn_simL {σ : Type} {R : σ → Rho → Prop} {o : Option (Out × Option Pool)} {r : Except D σ} {k : Out → Option Pool → Option (β × Option Pool)} {z : Option (β × Option Pool)} (h : SimL R p o r) (hk : AftL R p k z r) : tn o k = z := by
  cases r with
  | ok st =>
    obtain ⟨ρ2, e, r⟩ := h
    rw [e]
    exact hk ρ2 r
  | error d =>
    rw [show o = some (.rt d, p) from h]
    exact hk
theorem foldE_app {γ ε : Type} (F : α → List γ) : ∀ (xs : List α) (s : List γ), foldE (ε := ε) (fun s x => .ok (s ++ F x)) s xs = .ok (s ++ xs.flatMap F)
  | [], s => by rw [List.flatMap_nil, List.append_nil]; rfl
  | x :: xs, s => by
    rw [foldE, List.flatMap_cons, ← List.append_assoc]
    exact foldE_app F xs _
theorem foldE_chk {γ ε : Type} (t : α → Bool) (z : ε) (F : α → List γ) : ∀ (xs : List α) (s : List γ), foldE (ε := ε) (fun s x => if t x = true then .ok (s ++ F x) else .error z) s xs = if xs.all t = true then .ok (s ++ xs.flatMap F) else .error z
  | [], s => by rw [List.flatMap_nil, List.append_nil]; rfl
  | x :: xs, s => by
    rw [foldE]
    cases h : t x with
    | true =>
      rw [if_pos rfl]
      show foldE _ (s ++ F x) xs = _
      rw [foldE_chk t z F xs, List.flatMap_cons, ← List.append_assoc, List.all_cons, h, Bool.true_and]
    | false =>
      rw [if_neg (by decide), List.all_cons, h, Bool.false_and, if_neg (by decide)]
theorem foldE_tt {ε : Type} : ∀ (xs : List α) (s : Bool), foldE (ε := ε) (fun _ _ => .ok true) s xs = .ok (s || !xs.isEmpty)
  | [], s => by cases s <;> rfl
  | x :: xs, s => by
    rw [foldE]
    show foldE _ true xs = _
    rw [foldE_tt xs true]
    cases s <;> rfl
/-- whole numbers from lo on -/
def upI (lo : Int) (n : Nat) : List Int := (List.range n).map fun (i : Nat) => lo + (i : Int)
theorem upTo_int (lo : Int) (n : Nat) : upTo lo n = (upI lo n).map D.int := by
  unfold upI
  rw [List.map_map]; rfl
theorem mem_upI {lo x : Int} {n : Nat} : x ∈ upI lo n ↔ lo ≤ x ∧ x < lo + n := by
  unfold upI
  rw [List.mem_map]
  constructor
  · rintro ⟨a, h, rfl⟩
    have := List.mem_range.mp h
    omega
  · rintro ⟨h1, h2⟩
    exact ⟨(x - lo).toNat, List.mem_range.mpr (by omega), by omega⟩
theorem len_upI {lo : Int} {n : Nat} : (upI lo n).length = n := by
  unfold upI
  rw [List.length_map, List.length_range]
theorem len_upTo {lo : Int} {n : Nat} : (upTo lo n).length = n := by
  rw [upTo_int, List.length_map, len_upI]
theorem lc_id {i : Nat} (hi : i < ρ.length) (ds : List D) (hl : ds.length < 100000) : lcD i dYes (dVar i) ρ ds [] p = some (.lst ds, p) := by
  rw [lc_pure (fun _ => true) (fun d => d) ds [] (by simpa using hl) (fun _ _ => rfl) fun d _ _ => by rw [ev_var, List.getElem?_set_self hi]; rfl]
  simp

/-- the same with the count of turns -/
theorem loop_simN {σ α : Type} {t : FG} {s : FS} (f : α → D) (stp : σ → α → Except D σ) (R : Nat → σ → Rho → Prop) (p : Option Pool) (N : Nat) : ∀ (xs : List α) (n : Nat), n + xs.length ≤ N → (∀ n st ρ x, n < N → x ∈ xs → R n st ρ → ∃ ρ1, t (f x) ρ = some ρ1 ∧ SimB (R (n + 1)) p (s ρ1 p) (stp st x)) →
    ∀ st ρ, R n st ρ → SimL (R (n + xs.length)) p (loopD t s (xs.map f) ρ p) (foldE stp st xs)
  | [], n, _, _, st, ρ, r => ⟨ρ, rfl, r⟩
  | x :: xs, n, hn, h, st, ρ, r => by
    rw [List.length_cons] at hn
    obtain ⟨ρ1, e1, hs⟩ := h n st ρ x (by omega) List.mem_cons_self r
    rw [List.map_cons, loop_cons e1]
    rw [foldE]
    cases hst : stp st x with
    | error d =>
      rw [hst] at hs
      rw [show s ρ1 p = some (.rt d, p) from hs]
      exact rfl
    | ok st' =>
      rw [hst] at hs
      obtain ⟨ρ2, e, r2⟩ := hs
      have ih := loop_simN f stp R p N xs (n + 1) (by omega) (fun n st ρ x h0 hx => h n st ρ x h0 (List.mem_cons_of_mem _ hx)) st' ρ2 r2
      rw [show n + (x :: xs).length = n + 1 + xs.length by rw [List.length_cons]; omega]
      rcases e with e | e <;> (rw [e]; exact ih)
theorem SimL.mono {σ : Type} {R R' : σ → Rho → Prop} {o : Option (Out × Option Pool)} {r : Except D σ} (h : SimL R p o r) (m : ∀ st ρ, R st ρ → R' st ρ) : SimL R' p o r := by
  cases r with
  | ok st => obtain ⟨ρ2, e, r⟩ := h; exact ⟨ρ2, e, m _ _ r⟩
  | error d => exact h

/-- the same with the place of each item -/
theorem loop_simI {σ α : Type} {t : FG} {s : FS} (f : α → D) (stp : σ → α → Except D σ) (R : Nat → σ → Rho → Prop) (p : Option Pool) (ys : List α) (h : ∀ n st ρ x, ys[n]? = some x → R n st ρ → ∃ ρ1, t (f x) ρ = some ρ1 ∧ SimB (R (n + 1)) p (s ρ1 p) (stp st x)) :
    ∀ (xs : List α) (n : Nat), ys.drop n = xs → n ≤ ys.length → ∀ st ρ, R n st ρ → SimL (R ys.length) p (loopD t s (xs.map f) ρ p) (foldE stp st xs)
  | [], n, e, hn, st, ρ, r => by
    have : ys.length ≤ n := List.drop_eq_nil_iff.mp e
    exact ⟨ρ, rfl, by rw [show ys.length = n by omega]; exact r⟩
  | x :: xs, n, e, hn, st, ρ, r => by
    have e0 : ys[n]? = some x := by
      rw [← Nat.add_zero n, ← List.getElem?_drop, e]; rfl
    have e2 : ys.drop (n + 1) = xs := by
      rw [← List.drop_drop, e]; rfl
    have hlt : n < ys.length := (List.getElem?_eq_some_iff.mp e0).1
    obtain ⟨ρ1, e1, hs⟩ := h n st ρ x e0 r
    rw [List.map_cons, loop_cons e1]
    rw [foldE]
    cases hst : stp st x with
    | error d =>
      rw [hst] at hs
      rw [show s ρ1 p = some (.rt d, p) from hs]
      exact rfl
    | ok st' =>
      rw [hst] at hs
      obtain ⟨ρ2, e, r2⟩ := hs
      have ih := loop_simI f stp R p ys h xs (n + 1) e2 hlt st' ρ2 r2
      rcases e with e | e <;> (rw [e]; exact ih)
def mapE {ε ε' σ : Type} (f : ε → ε') : Except ε σ → Except ε' σ
  | .ok s => .ok s
  | .error e => .error (f e)
theorem foldE_map {σ ε ε' : Type} (f : ε → ε') (stp : σ → α → Except ε σ) : ∀ (xs : List α) (s : σ), foldE (fun s x => mapE f (stp s x)) s xs = mapE f (foldE stp s xs)
  | [], s => rfl
  | x :: xs, s => by
    rw [foldE, foldE]
    cases stp s x with
    | ok s' => exact foldE_map f stp xs s'
    | error e => rfl
theorem foldE_append {σ ε : Type} (stp : σ → α → Except ε σ) : ∀ (xs ys : List α) (s : σ), foldE stp s (xs ++ ys) = match foldE stp s xs with
    | .ok s' => foldE stp s' ys
    | .error e => .error e
  | [], ys, s => rfl
  | x :: xs, ys, s => by
    rw [List.cons_append, foldE, foldE]
    cases stp s x with
    | ok s' => exact foldE_append stp xs ys s'
    | error e => rfl
theorem foldE_len {σ ε β' : Type} (stp : σ → Except ε σ) : ∀ (xs : List α) (ys : List β') (s : σ), xs.length = ys.length → foldE (fun s _ => stp s) s xs = foldE (fun s _ => stp s) s ys
  | [], [], s, _ => rfl
  | x :: xs, y :: ys, s, h => by
    rw [foldE, foldE]
    cases stp s with
    | ok s' => exact foldE_len stp xs ys s' (by simpa using h)
    | error e => rfl
theorem simB_then {σ : Type} {R R' : σ → Rho → Prop} {o : Option (Out × Option Pool)} {r : Except D σ} {k : Out → Option Pool → Option (Out × Option Pool)} (h : SimL R' p o r) (hk : ∀ st ρ, R' st ρ → ∃ ρ2, k (.nx ρ) p = some (.nx ρ2, p) ∧ R st ρ2) (he : ∀ d, k (.rt d) p = some (.rt d, p)) : SimB R p (tn o k) r := by
  cases r with
  | ok st =>
    obtain ⟨ρ2, e, r⟩ := h
    obtain ⟨ρ3, e3, r3⟩ := hk st ρ2 r
    rw [e]
    exact ⟨ρ3, .inl e3, r3⟩
  | error d =>
    rw [show o = some (.rt d, p) from h]
    exact he d
def asStr : D → Option D
  | .str x => some (.str x)
  | _ => none
theorem ev_bm (g : D → List D → Option D) (fa : FE) (fs : FA) : dBm g fa fs ρ p = tn (fa ρ p) fun o p1 => tn ((asStr o).map fun o => (o, p1)) fun o p2 => tn (fs ρ p2) fun xs p3 => (g o xs).map fun z => (z, p3) := by
  show bd (fa ρ) _ p = _
  rw [ev_bd]
  congr 1
  funext o p1
  cases o with
  | str x =>
    show bd (fs ρ) _ p1 = _
    rw [ev_bd]
    simp only [ev_lft]
    rfl
  | _ => rfl
theorem ev_lcn (i : Nat) (ft : FT) (fe : FE) (acc : List D) : lcD i ft fe ρ [] acc p = some (.lst acc, p) := rfl
theorem ev_lcc (i : Nat) (ft : FT) (fe : FE) (d : D) (ds acc : List D) : lcD i ft fe ρ (d :: ds) acc p = tn (ft (ρ.set i (some (.val d))) p) fun k p1 => if k = true then tn (fe (ρ.set i (some (.val d))) p1) fun y p2 => if acc.length < 100000 then lcD i ft fe ρ ds (acc ++ [y]) p2 else none else lcD i ft fe ρ ds acc p1 := by
  show bd (ft _) _ p = _
  rw [ev_bd]
  congr 1
  funext k p1
  cases k with
  | false => rfl
  | true =>
    show bd (fe _) _ p1 = _
    rw [ev_bd, if_pos rfl]
    congr 1
    funext y p2
    by_cases h : acc.length < 100000
    · rw [if_pos h, if_pos h]
    · rw [if_neg h, if_neg h]; rfl
/-- after one turn of a loop -/
def lpK (o : Out) (k : Rho → Option (Out × Option Pool)) (p : Option Pool) : Option (Out × Option Pool) := match o with
  | .nx ρ => k ρ
  | .ct ρ => k ρ
  | .bk ρ => some (.nx ρ, p)
  | .rt d => some (.rt d, p)
theorem lpK_nx (k : Rho → Option (Out × Option Pool)) : lpK (.nx ρ) k p = k ρ := rfl
theorem lpK_rt (k : Rho → Option (Out × Option Pool)) (d : D) : lpK (.rt d) k p = some (.rt d, p) := rfl
theorem ev_loopN (i : Nat) (s : FS) (d : D) (ds : List D) : loopD (gNm i) s (d :: ds) ρ p = tn (s (ρ.set i (some (.val d))) p) fun o p1 => lpK o (fun ρ2 => loopD (gNm i) s ds ρ2 p1) p1 := by
  rw [loop_cons (t := gNm i) (d := d) (ρ := ρ) rfl]
  rfl
theorem ev_isi2 (S T : String) (f : FE) : dIsi2 S T f ρ p = tn (f ρ p) fun d p1 => ((tyN d).map fun t => D.bl (isT t S || isT t T)).map fun z => (z, p1) := by
  show bd (f ρ) _ p = _
  rw [ev_bd]
  simp only [ev_lft]
theorem ev_to (f : FE) (n : Int) : dTo f n ρ p = tn (f ρ p) fun d p1 => (gTo d n).map fun z => (z, p1) := by
  show bd (f ρ) _ p = _
  rw [ev_bd]
  simp only [ev_lft]
theorem ev_fldS (i k n : Nat) (f : FE) : dFldS i k n f ρ p = tn (f ρ p) fun d p1 => (fldC k n ρ[i]? d).map fun c => (.nx (ρ.set i (some c)), p1) := by
  show bd (f ρ) _ p = _
  rw [ev_bd]
  congr 1
  funext d p1
  rw [ev_bd, ev_lft]
  cases fldC k n ρ[i]? d <;> rfl
def runO1 (c m : Nat) (o : Out) : Option D := match o with
  | .nx ρ => insC c m ρ[0]?
  | _ => none
theorem ev_runI (c m n : Nat) (s : FS) (ds : List D) : runI c m n s ds p = tn (s ((some (Cell.own (.ins c [])) :: ds.map (fun d => some (Cell.val d))) ++ List.replicate (n - (ds.length + 1)) none) p) fun o p1 => (runO1 c m o).map fun d => (d, p1) := by
  show bd _ _ p = _
  rw [ev_bd]
  congr 1
  funext o p1
  cases o with
  | nx ρ =>
    show lft (insC c m ρ[0]?) p1 = _
    rw [ev_lft]
    rfl
  | _ => rfl
theorem gIsi_ii (i : Int) : gIsi [.int i, .ty "int"] = some (.bl true) := rfl
theorem gIsi_ib (i : Int) : gIsi [.int i, .ty "bool"] = some (.bl false) := rfl
theorem gIsi_ss (x : Str) : gIsi [.str x, .ty "str"] = some (.bl true) := rfl
theorem draw_ok {q : Pool} {m : Int} (h0 : 0 < m) (h1 : m < 1000) (w : PWf q) : ∃ d q', gDraw [.pool, .int m] (some q) = some (.int d, some q') ∧ 0 ≤ d ∧ d < m ∧ PWf q' :=
  ⟨(drawP q m).1, (drawP q m).2, by show (if _ then _ else _) = _; rw [if_pos ⟨h0, by omega, w⟩], (drawP_range h0).1, (drawP_range h0).2, drawP_wf w⟩
end Dl

namespace Hd
open PySem PySem.Spec PyProof.Rows L2
def top (i : Nat) : Stmt := PySem.Challenge.pw_keeldeep_k97_shortest_whole_rows.main.body.getD i (.Pass ⟨0, 0, 0, 0⟩)
abbrev s_is_int : Stmt := top 6
def d_is_int : He.DefD := ⟨("is_int", none), "is_int", "is_int", defArgs s_is_int, defBody s_is_int, defScope s_is_int, [], []⟩
abbrev s_is_number : Stmt := top 7
def d_is_number : He.DefD := ⟨("is_number", none), "is_number", "is_number", defArgs s_is_number, defBody s_is_number, defScope s_is_number, [], []⟩
abbrev s_is_any_row : Stmt := top 8
def d_is_any_row : He.DefD := ⟨("is_any_row", none), "is_any_row", "is_any_row", defArgs s_is_any_row, defBody s_is_any_row, defScope s_is_any_row, [], []⟩
abbrev s_is_row : Stmt := top 9
def d_is_row : He.DefD := ⟨("is_row", none), "is_row", "is_row", defArgs s_is_row, defBody s_is_row, defScope s_is_row, [], []⟩
abbrev s_is_numbers : Stmt := top 10
def d_is_numbers : He.DefD := ⟨("is_numbers", none), "is_numbers", "is_numbers", defArgs s_is_numbers, defBody s_is_numbers, defScope s_is_numbers, [], []⟩
abbrev s_is_pair : Stmt := top 11
def d_is_pair : He.DefD := ⟨("is_pair", none), "is_pair", "is_pair", defArgs s_is_pair, defBody s_is_pair, defScope s_is_pair, [], []⟩
abbrev s_Lock_init : Stmt := inClass (top 17) 0
def d_Lock_init : He.DefD := ⟨("Lock", some "__init__"), "__init__", "Lock.__init__", defArgs s_Lock_init, defBody s_Lock_init, defScope s_Lock_init, [], []⟩
abbrev s_wrong_part : Stmt := top 18
def d_wrong_part : He.DefD := ⟨("wrong_part", none), "wrong_part", "wrong_part", defArgs s_wrong_part, defBody s_wrong_part, defScope s_wrong_part, [], []⟩
abbrev s_is_allowed : Stmt := top 19
def d_is_allowed : He.DefD := ⟨("is_allowed", none), "is_allowed", "is_allowed", defArgs s_is_allowed, defBody s_is_allowed, defScope s_is_allowed, [], []⟩
abbrev s_gate_after : Stmt := top 20
def d_gate_after : He.DefD := ⟨("gate_after", none), "gate_after", "gate_after", defArgs s_gate_after, defBody s_gate_after, defScope s_gate_after, [], []⟩
abbrev s_inside_after : Stmt := top 21
def d_inside_after : He.DefD := ⟨("inside_after", none), "inside_after", "inside_after", defArgs s_inside_after, defBody s_inside_after, defScope s_inside_after, [], []⟩
abbrev s_moved_level : Stmt := top 22
def d_moved_level : He.DefD := ⟨("moved_level", none), "moved_level", "moved_level", defArgs s_moved_level, defBody s_moved_level, defScope s_moved_level, [], []⟩
abbrev s_amounts : Stmt := top 23
def d_amounts : He.DefD := ⟨("amounts", none), "amounts", "amounts", defArgs s_amounts, defBody s_amounts, defScope s_amounts, [], []⟩
abbrev s_most_leak : Stmt := top 24
def d_most_leak : He.DefD := ⟨("most_leak", none), "most_leak", "most_leak", defArgs s_most_leak, defBody s_most_leak, defScope s_most_leak, [], []⟩
abbrev s_first_state : Stmt := top 25
def d_first_state : He.DefD := ⟨("first_state", none), "first_state", "first_state", defArgs s_first_state, defBody s_first_state, defScope s_first_state, [], []⟩
abbrev s_next_state : Stmt := top 26
def d_next_state : He.DefD := ⟨("next_state", none), "next_state", "next_state", defArgs s_next_state, defBody s_next_state, defScope s_next_state, [], []⟩
abbrev s_unsafe_at : Stmt := top 28
def d_unsafe_at : He.DefD := ⟨("unsafe_at", none), "unsafe_at", "unsafe_at", defArgs s_unsafe_at, defBody s_unsafe_at, defScope s_unsafe_at, [], []⟩
abbrev s_gates_of : Stmt := top 29
def d_gates_of : He.DefD := ⟨("gates_of", none), "gates_of", "gates_of", defArgs s_gates_of, defBody s_gates_of, defScope s_gates_of, [], []⟩
abbrev s_sides_of : Stmt := top 30
def d_sides_of : He.DefD := ⟨("sides_of", none), "sides_of", "sides_of", defArgs s_sides_of, defBody s_sides_of, defScope s_sides_of, [], []⟩
abbrev s_check_whole : Stmt := top 31
def d_check_whole : He.DefD := ⟨("check_whole", none), "check_whole", "check_whole", defArgs s_check_whole, defBody s_check_whole, defScope s_check_whole, [], []⟩
abbrev s_plain_whole : Stmt := top 33
def d_plain_whole : He.DefD := ⟨("plain_whole", none), "plain_whole", "plain_whole", defArgs s_plain_whole, defBody s_plain_whole, defScope s_plain_whole, [], []⟩
abbrev s_ship_after : Stmt := top 34
def d_ship_after : He.DefD := ⟨("ship_after", none), "ship_after", "ship_after", defArgs s_ship_after, defBody s_ship_after, defScope s_ship_after, [], []⟩
abbrev s_shortest_whole : Stmt := top 35
def d_shortest_whole : He.DefD := ⟨("shortest_whole", none), "shortest_whole", "shortest_whole", defArgs s_shortest_whole, defBody s_shortest_whole, defScope s_shortest_whole, [], []⟩
abbrev s__law_pool : Stmt := top 37
def d__law_pool : He.DefD := ⟨("_law_pool", none), "_law_pool", "_law_pool", defArgs s__law_pool, defBody s__law_pool, defScope s__law_pool, [], []⟩
abbrev s__law_draw : Stmt := top 38
def d__law_draw : He.DefD := ⟨("_law_draw", none), "_law_draw", "_law_draw", defArgs s__law_draw, defBody s__law_draw, defScope s__law_draw, [], []⟩
abbrev s__law_pick : Stmt := top 39
def d__law_pick : He.DefD := ⟨("_law_pick", none), "_law_pick", "_law_pick", defArgs s__law_pick, defBody s__law_pick, defScope s__law_pick, [], []⟩
abbrev s__law_lock : Stmt := top 40
def d__law_lock : He.DefD := ⟨("_law_lock", none), "_law_lock", "_law_lock", defArgs s__law_lock, defBody s__law_lock, defScope s__law_lock, [], []⟩
abbrev s__law_c_allowed : Stmt := top 41
def d__law_c_allowed : He.DefD := ⟨("_law_c_allowed", none), "_law_c_allowed", "_law_c_allowed", defArgs s__law_c_allowed, defBody s__law_c_allowed, defScope s__law_c_allowed, [], []⟩
abbrev s__law_c_step : Stmt := top 42
def d__law_c_step : He.DefD := ⟨("_law_c_step", none), "_law_c_step", "_law_c_step", defArgs s__law_c_step, defBody s__law_c_step, defScope s__law_c_step, [], []⟩
abbrev s__law_c_amounts : Stmt := top 43
def d__law_c_amounts : He.DefD := ⟨("_law_c_amounts", none), "_law_c_amounts", "_law_c_amounts", defArgs s__law_c_amounts, defBody s__law_c_amounts, defScope s__law_c_amounts, [], []⟩
abbrev s__law_next : Stmt := top 44
def d__law_next : He.DefD := ⟨("_law_next", none), "_law_next", "_law_next", defArgs s__law_next, defBody s__law_next, defScope s__law_next, [], []⟩
abbrev s__law_m_next : Stmt := top 45
def d__law_m_next : He.DefD := ⟨("_law_m_next", none), "_law_m_next", "_law_m_next", defArgs s__law_m_next, defBody s__law_m_next, defScope s__law_m_next, [], []⟩
abbrev s__law_least : Stmt := top 46
def d__law_least : He.DefD := ⟨("_law_least", none), "_law_least", "_law_least", defArgs s__law_least, defBody s__law_least, defScope s__law_least, [], []⟩
abbrev s__law_is_whole : Stmt := top 47
def d__law_is_whole : He.DefD := ⟨("_law_is_whole", none), "_law_is_whole", "_law_is_whole", defArgs s__law_is_whole, defBody s__law_is_whole, defScope s__law_is_whole, [], []⟩
abbrev s__law_right : Stmt := top 48
def d__law_right : He.DefD := ⟨("_law_right", none), "_law_right", "_law_right", defArgs s__law_right, defBody s__law_right, defScope s__law_right, [], []⟩
abbrev s_law : Stmt := top 49
def d_law : He.DefD := ⟨("law", none), "law", "law", defArgs s_law, defBody s_law, defScope s_law, [], []⟩
def fn : List He.DefD := [d_is_int, d_is_number, d_is_any_row, d_is_row, d_is_numbers, d_is_pair, d_Lock_init, d_wrong_part, d_is_allowed, d_gate_after, d_inside_after, d_moved_level, d_amounts, d_most_leak, d_first_state, d_next_state, d_unsafe_at, d_gates_of, d_sides_of, d_check_whole, d_plain_whole, d_ship_after, d_shortest_whole, d__law_pool, d__law_draw, d__law_pick, d__law_lock, d__law_c_allowed, d__law_c_step, d__law_c_amounts, d__law_next, d__law_m_next, d__law_least, d__law_is_whole, d__law_right, d_law]
def fa0 : List He.Fa := [.glo "is_int", .glo "is_number", .glo "is_any_row", .glo "is_row", .glo "is_numbers", .glo "is_pair", .glo "wrong_part", .glo "is_allowed", .glo "gate_after", .glo "inside_after", .glo "moved_level", .glo "amounts", .glo "most_leak", .glo "first_state", .glo "next_state", .glo "unsafe_at", .glo "gates_of", .glo "sides_of", .glo "check_whole", .glo "plain_whole", .glo "ship_after", .glo "shortest_whole", .glo "_law_pool", .glo "_law_draw", .glo "_law_pick", .glo "_law_lock", .glo "_law_c_allowed", .glo "_law_c_step", .glo "_law_c_amounts", .glo "_law_next"]
def fa1 : List He.Fa := [.glo "_law_m_next", .glo "_law_least", .glo "_law_is_whole", .glo "_law_right", .glo "law", .free "ValueError", .free "isinstance", .free "all", .free "max", .free "enumerate", .free "range", .free "int", .free "list", .free "tuple", .free "min", .free "abs", .free "len", .free "sorted", .free "bool", .free "str", .str "LETTERS" "feUuDdiow", .int "SHUT" 0, .int "UPPER" 1, .int "LOWER" 2, .glo "Lock", .cls "Lock", .mkr "Lock", .noat "Lock" "lift", .noat "Lock" "fill", .noat "Lock" "empty"]
def fa2 : List He.Fa := [.noat "Lock" "leak", .noat "Lock" "slack"]
def fa : List He.Fa := fa0 ++ fa1 ++ fa2
def loose0 : List Str := ["KeelError", "BadValue", "Accident", "NotWhole", "is_int", "is_number", "is_any_row", "is_row", "is_numbers", "is_pair", "LETTERS", "SHUT", "UPPER", "LOWER", "Lock", "wrong_part", "is_allowed", "gate_after", "inside_after", "moved_level", "amounts", "most_leak", "first_state", "next_state", "unsafe_at", "gates_of", "sides_of", "check_whole", "plain_whole", "ship_after"]
def loose1 : List Str := ["shortest_whole", "_law_pool", "_law_draw", "_law_pick", "_law_lock", "_law_c_allowed", "_law_c_step", "_law_c_amounts", "_law_next", "_law_m_next", "_law_least", "_law_is_whole", "_law_right"]
abbrev loose : List Str := loose0 ++ loose1
abbrev lawAt : Nat := 49
abbrev R : PySem.W.OpenRow := PySem.W.OpenLaw.row PySem.Challenge.rw_keeldeep_k97_shortest_whole_rows
abbrev hk : PySem.W.Hook := He.hookD 4 fa fn
def ob (s : PySem.W.SharedT) : He.AlD := He.obsDG 4 fa fn (HandSHeadRun.getT s)
theorem ob_eq (s : PySem.W.SharedT) : ob s = hk.obs s.abs := He.obsDG_eq (HandSHeadRun.getT_eq s)
end Hd
namespace Hd
theorem run (w : PySem.World) : HandSHeadRun.RunEq R (PySem.W.view R.prog [lawAt]) hk ob 20000 loose w := by
  intro os
  kernel_rfl
end Hd

namespace Hd
open PySem PySem.Spec PyProof.Rows L2 Dl
theorem sc_draw : FnScope ["pool", "many", "greats", "k", "digit", "cell", "turn", "a", "b", "c"] ["pool", "many"] (defScope s__law_draw) := ⟨rfl, rfl, rfl, by decide +kernel, rfl, by decide +kernel, by decide +kernel⟩
theorem find_none {l : List Int} (h : ∀ j : Nat, j < l.length → ∃ x, l[j]? = some x ∧ ¬ 0 < x) : l.findIdx? (fun x => decide (0 < x)) = none := by
  rw [List.findIdx?_eq_none_iff]
  intro x hx
  obtain ⟨j, hj, e⟩ := List.getElem_of_mem hx
  obtain ⟨y, e2, n⟩ := h j hj
  rw [List.getElem?_eq_getElem hj, e] at e2
  have e2 : x = y := Option.some.inj e2
  rw [e2]
  exact decide_eq_false n
theorem find_some {l : List Int} {k : Nat} {x : Int} (hk : l[k]? = some x) (h0 : 0 < x) (h : ∀ j : Nat, j < k → ∃ x, l[j]? = some x ∧ ¬ 0 < x) : l.findIdx? (fun x => decide (0 < x)) = some k := by
  obtain ⟨hl, e⟩ := List.getElem?_eq_some_iff.mp hk
  rw [List.findIdx?_eq_some_iff_getElem]
  refine ⟨hl, by rw [e]; exact decide_eq_true h0, fun j hj => ?_⟩
  obtain ⟨y, e2, n⟩ := h j hj
  rw [List.getElem?_eq_getElem (by omega)] at e2
  have e2 : _ = y := Option.some.inj e2
  rw [e2, decide_eq_false n]
  exact Bool.false_ne_true
theorem ok__law_draw {P : Program} {W : World} {K : PySem.W.Frag} {mg : Str → Option Value} {base : Heap} {cl : Cl} (F : ∃ fd, FunD K "_law_draw" "_law_draw" (defArgs s__law_draw) (defBody s__law_draw) (defScope s__law_draw) [] [] (He.ga K "_law_draw") fd)
    (hm : mg "_law_draw" = some (.ref (He.ga K "_law_draw"))) (hlen : mg "len" = none) (hrange : mg "range" = none) (hint : mg "int" = none) : Fn P W K mg base cl 1 "_law_draw" ["pool", "many"] gDraw := by
  obtain ⟨fd, F⟩ := F
  refine ⟨⟨fd, ?_, F.bindsN fun _ _ _ _ _ _ us hl => match us, hl with | [_, _], _ => rfl, fun_look F⟩, F.kp, hm⟩
  refine F.ok sc_draw spD_len fun cdv A outer s0 H vs Q E hr h => ?_
  obtain ⟨w, ds, d, ps', rfl, ok, r, hl, eg, q⟩ := h
  unfold gDraw at eg
  split at eg
  case h_2 => cases eg
  case h_1 m p eps =>
  by_cases hc : 0 < m ∧ m < 1073741824 ∧ PWf p
  case neg => rw [if_neg hc] at eg; cases eg
  rw [if_pos hc] at eg
  obtain ⟨hm0, hm1, hg1, hs1, hs2⟩ := hc
  obtain ⟨v1, vs1, e1, r1, v2, vs2, e2, r2, e3⟩ := r
  have e3 : vs2 = [] := e3
  have r2 : v2 = .int m := r2
  obtain ⟨a, g, ea, hpa⟩ := r1
  subst e1 e2 e3 r2 ea
  obtain ⟨p', ep', sm, hA, hG, hS, hWs, hWa, hWg, hag⟩ := ok.pool a g hpa
  rw [eps] at ep'
  cases ep'
  have eg1 : d = .int (drawP p m).1 := by cases eg; rfl
  have eg2 : ps' = some (drawP p m).2 := by cases eg; rfl
  subst eg1 eg2
  have nsa : sm ≠ a := fun z => by rw [z] at hWs hS; rw [hWa] at hWs; rw [← hWs] at hS; cases hS
  have nsg : sm ≠ g := fun z => by rw [z] at hWs hS; rw [hWg] at hWs; rw [← hWs] at hS; cases hS
  have line : sizeLine = 16777216 := sizeLine_eq
  refine ⟨_, PSs.nox (pss_cons (ps_asg (pe_op op_add (pe_ix ix_list (pv 0) pe_int (fun _ _ => rfl)) pe_int) (pg_sub (pv 0) pe_int set_list))
    (pss_cons (ps_set (i := 2) sc_draw.nd rfl (Or.inl rfl) (pe_ix ix_list (pv 0) pe_int (fun _ _ => rfl)))
    (pss_cons (ps_for PassesOwn.never rfl (pi_range1 rfl hrange (pa_cons (pe_callB call_len (by rfl) hlen boot_len (pa_cons (pv 2) pa_nil)) pa_nil)) (pg_name (i := 3) sc_draw.nd rfl (Or.inl rfl))
      (pss_one (ps_if (pt_cmpR op_gt (pe_ix ix_list (pv 2) (pv 3) (fun _ _ => rfl)) pe_int (nomark _))
        (pss_cons (ps_set (i := 4) sc_draw.nd rfl (Or.inl rfl) (pe_op op_mod (pe_callTy call_int1 (by rfl) hint (by decide +kernel) (pa_cons (pe_ix ix_list (pv 2) (pv 3) (fun _ _ => rfl)) pa_nil)) (pv 1)))
        (pss_cons (ps_asg (pe_op op_fdiv (pe_ix ix_list (pv 2) (pv 3) (fun _ _ => rfl)) (pv 1)) (pg_sub (pv 2) (pv 3) set_list))
        (pss_one (ps_ret (pv 4))))) pss_nil)))
    (pss_cons (ps_set (i := 5) sc_draw.nd rfl (Or.inl rfl) pe_int)
    (pss_cons (ps_set (i := 6) sc_draw.nd rfl (Or.inl rfl) (pe_ix ix_list (pv 0) pe_int (fun _ _ => rfl)))
    (pss_cons (ps_if (pt_cmpR op_gt (pe_callB call_len (by rfl) hlen boot_len (pa_cons (pe_ix ix_list (pv 0) pe_int (fun _ _ => rfl)) pa_nil)) pe_int (nomark _))
      (pss_one (ps_set (i := 5) sc_draw.nd rfl (Or.inl rfl) (pe_ix ix_list (pe_ix ix_list (pv 0) pe_int (fun _ _ => rfl)) (pe_op op_mod (pe_callTy call_int1 (by rfl) hint (by decide +kernel) (pa_cons (pv 6) pa_nil)) (pe_callB call_len (by rfl) hlen boot_len (pa_cons (pe_ix ix_list (pv 0) pe_int (fun _ _ => rfl)) pa_nil))) (fun _ _ => rfl)))) pss_nil)
    (pss_cons (ps_set (i := 7) sc_draw.nd rfl (Or.inl rfl) (pe_op op_mod (pe_callTy call_int1 (by rfl) hint (by decide +kernel) (pa_cons (pe_op op_add (pe_op op_add (pe_op op_mul (pv 5) pe_int) (pe_op op_mul (pv 6) pe_int)) pe_int) pa_nil)) pe_int))
    (pss_cons (ps_set (i := 8) sc_draw.nd rfl (Or.inl rfl) (pe_op op_mod (pe_callTy call_int1 (by rfl) hint (by decide +kernel) (pa_cons (pe_op op_add (pe_op op_add (pe_op op_mul (pv 7) (pv 7)) (pe_op op_mul (pv 6) pe_int)) pe_int) pa_nil)) pe_int))
    (pss_cons (ps_set (i := 9) sc_draw.nd rfl (Or.inl rfl) (pe_op op_mod (pe_callTy call_int1 (by rfl) hint (by decide +kernel) (pa_cons (pe_op op_add (pe_op op_add (pe_op op_mul (pv 8) (pv 8)) (pe_op op_mul (pv 7) pe_int)) (pv 5)) pa_nil)) pe_int))
    (pss_one (ps_ret (pe_op op_mod (pe_callTy call_int1 (by rfl) hint (by decide +kernel) (pa_cons (pe_op op_fdiv (pv 9) pe_int) pa_nil)) (pv 1))))))))))))), ?_⟩
  -- pool[2] = pool[2] + 1
  refine ⟨_, rfl, a, _, 2, .int p.t, rfl, rfl, SqL.of hA, rfl, p.t, 1, rfl, rfl, ?_⟩
  refine ⟨_, rfl, a, _, 2, 2, rfl, rfl, hA, rfl, ?_⟩
  have hA' : upd w.H a (.lst [.ref g, .ref sm, .int (p.t + 1)]) a = some (.lst [.ref g, .ref sm, .int (p.t + 1)]) := upd_same
  have hG' : upd w.H a (.lst [.ref g, .ref sm, .int (p.t + 1)]) g = some (.lst (p.gs.map .int)) := by rw [upd_ne hag.symm]; exact hG
  have hS' : upd w.H a (.lst [.ref g, .ref sm, .int (p.t + 1)]) sm = some (.lst (p.ss.map .int)) := by rw [upd_ne nsa]; exact hS
  show _
  -- greats = pool[0]
  refine ⟨_, rfl, a, [.ref g, .ref sm, .int (p.t + 1)], 0, .ref g, rfl, rfl, SqL.of hA', rfl, ?_⟩
  -- for k in range(len(greats))
  refine ⟨_, rfl, .ref g, (p.gs.map V.int).length, rfl, .inl ⟨_, SqL.of hG', rfl⟩, ?_⟩
  rw [List.length_map]
  refine ⟨(p.gs.length : Int), rfl, by omega, by omega, for_range (lo := 0) (n := p.gs.length) (fun i σ H => H = upd w.H a (.lst [.ref g, .ref sm, .int (p.t + 1)]) ∧ (∃ k, σ = [some (.ref a), some (.int m), some (.ref g), k, none, none, none, none, none, none]) ∧ ∀ j : Nat, j < i → ∃ x, p.gs[j]? = some x ∧ ¬ 0 < x) ⟨rfl, ⟨none, rfl⟩, fun j hj => absurd hj (Nat.not_lt_zero _)⟩ ?_ ?_⟩
  · rintro i σ H hi ⟨rfl, ⟨k, rfl⟩, hj⟩
    obtain ⟨x, hx⟩ : ∃ x, p.gs[i]? = some x := ⟨p.gs[i], by simp [hi]⟩
    have hx' : (p.gs.map V.int)[i]? = some (.int x) := by rw [List.getElem?_map, hx]; rfl
    have e0 : (0 : Int) + (i : Int) = (i : Int) := Int.zero_add _
    have at1 : atI (p.gs.map V.int) (0 + (i : Int)) = some (.int x) := by rw [e0]; exact atI_nat hx'
    refine ⟨_, rfl, _, rfl, g, _, _, _, rfl, rfl, SqL.of hG', at1, x, 0, rfl, rfl, _, rfl, ?_⟩
    refine ite2 (fun h0 => ?_) (fun h0 => ?_)
    · have h0 : 0 < x := of_decide_eq_true h0
      have fs := find_some hx h0 hj
      have ed : drawP p m = (x % m, ⟨p.gs.set i (x / m), p.ss, p.t + 1⟩) := by
        unfold drawP
        rw [fs]
        show (p.gs.getD i 0 % m, (⟨p.gs.set i (p.gs.getD i 0 / m), p.ss, p.t + 1⟩ : Pool)) = _
        have : p.gs.getD i 0 = x := by rw [List.getD_eq_getElem?_getD, hx]; rfl
        rw [this]
      refine ⟨_, rfl, _, rfl, g, _, _, _, rfl, rfl, SqL.of hG', at1, .inl ⟨x, rfl, _, rfl, x, m, rfl, rfl, hm0, ?_⟩⟩
      refine ⟨_, rfl, _, rfl, g, _, _, _, rfl, rfl, SqL.of hG', at1, _, rfl, x, m, rfl, rfl, ⟨hm0, hm1⟩, ?_⟩
      have ixn : ixN (p.gs.map V.int).length (0 + (i : Int)) = some i := by
        rw [e0]
        unfold ixN
        rw [if_pos (by omega), if_pos (by rw [List.length_map]; omega)]
        simp
      refine ⟨_, rfl, _, rfl, g, _, _, i, rfl, rfl, hG', ixn, ?_⟩
      refine ⟨_, rfl, ?_⟩
      rw [ed] at q
      refine q (.int (x % m)) { w with H := upd (upd w.H a (.lst [.ref g, .ref sm, .int (p.t + 1)])) g (.lst ((p.gs.map V.int).set i (.int (x / m)))), ps := some ⟨p.gs.set i (x / m), p.ss, p.t + 1⟩ } ?_ rfl rfl
      refine pool_step ok hpa ⟨p.gs.set i (x / m), p.ss, p.t + 1⟩ hS hWs hWa hWg hag ?_ ?_ fun b n1 n2 => ?_
      · rw [upd_ne hag]; exact upd_same
      · rw [upd_same, List.map_set]
      · rw [upd_ne n2, upd_ne n1]
    · have h0 : ¬ 0 < x := fun z => h0 (decide_eq_true z)
      refine ⟨rfl, ⟨_, rfl⟩, fun j hj' => ?_⟩
      by_cases e : j = i
      · rw [e]; exact ⟨x, hx, h0⟩
      · exact hj j (by omega)
  · rintro σ H ⟨rfl, ⟨k, rfl⟩, hj⟩
    have fn := find_none hj
    refine ⟨_, rfl, a, [.ref g, .ref sm, .int (p.t + 1)], 2, .int (p.t + 1), rfl, rfl, SqL.of hA', rfl, ?_⟩
    -- the cell
    have cont : ∀ (cell : Int) (H : Hp), H = upd w.H a (.lst [.ref g, .ref sm, .int (p.t + 1)]) → cell = (if 0 < p.ss.length then p.ss.getD ((p.t + 1) % (p.ss.length : Int)).toNat 0 else 0) → -(2 ^ 64) < cell ∧ cell < 2 ^ 64 →
        ∀ a7, a7 = (cell * 7919 + (p.t + 1) * 104729 + 611953) % 1000003 → ∀ b8, b8 = (a7 * a7 + (p.t + 1) * 15485863 + 86028121) % 10000019 → ∀ c9, c9 = (b8 * b8 + a7 * 32452843 + cell) % 100000007 → Q (.int (c9 / 7 % m)) H := by
      rintro cell H rfl hcell _ a7 ha b8 hb c9 hc
      have ed : drawP p m = (c9 / 7 % m, ⟨p.gs, p.ss, p.t + 1⟩) := by
        unfold drawP
        rw [fn]
        dsimp only
        rw [← hcell, ← ha, ← hb, ← hc]
      rw [ed] at q
      refine q (.int (c9 / 7 % m)) { w with H := upd w.H a (.lst [.ref g, .ref sm, .int (p.t + 1)]), ps := some ⟨p.gs, p.ss, p.t + 1⟩ } ?_ rfl rfl
      refine pool_step ok hpa ⟨p.gs, p.ss, p.t + 1⟩ hS hWs hWa hWg hag upd_same hG' fun b n1 n2 => ?_
      rw [upd_ne n1]
    refine ⟨_, rfl, a, _, 1, .ref sm, rfl, rfl, SqL.of hA', rfl, .ref sm, (p.ss.map V.int).length, rfl, .inl ⟨_, SqL.of hS', rfl⟩, _, 0, rfl, rfl, _, rfl, ?_⟩
    rw [List.length_map]
    refine ite2 (fun h0 => ?_) (fun h0 => ?_)
    · have h0 : 0 < p.ss.length := by have := of_decide_eq_true h0; omega
      refine ⟨_, rfl, a, _, 1, .ref sm, rfl, rfl, SqL.of hA', rfl, _, rfl, .inl ⟨p.t + 1, rfl, _, rfl, a, _, 1, .ref sm, rfl, rfl, SqL.of hA', rfl, .ref sm, (p.ss.map V.int).length, rfl, .inl ⟨_, SqL.of hS', rfl⟩, p.t + 1, _, rfl, rfl, ?_, ?_⟩⟩
      · rw [List.length_map]; omega
      · rw [List.length_map]
        have hr0 : 0 ≤ (p.t + 1) % (p.ss.length : Int) := Int.emod_nonneg _ (by omega)
        have hr1 : (p.t + 1) % (p.ss.length : Int) < p.ss.length := Int.emod_lt_of_pos _ (by omega)
        generalize hr : (p.t + 1) % (p.ss.length : Int) = r at hr0 hr1
        obtain ⟨n, rfl⟩ : ∃ n : Nat, r = (n : Int) := ⟨r.toNat, by omega⟩
        have hn : n < p.ss.length := by omega
        refine ⟨sm, _, (n : Int), .int p.ss[n], rfl, congrArg V.int hr, SqL.of hS', atI_nat (by rw [List.getElem?_map]; simp [hn]), ?_⟩
        have hcell : p.ss[n] = (if 0 < p.ss.length then p.ss.getD ((p.t + 1) % (p.ss.length : Int)).toNat 0 else 0) := by
          rw [if_pos h0, hr, Int.toNat_natCast, List.getD_eq_getElem?_getD, List.getElem?_eq_getElem hn]
          rfl
        have hb : -(2 ^ 64) < p.ss[n] ∧ p.ss[n] < 2 ^ 64 := by
          have := hs2 _ (List.getElem_mem hn)
          omega
        refine ⟨_, rfl, p.ss[n], 7919, rfl, rfl, .inl hb, _, rfl, p.t + 1, 104729, rfl, rfl, .inr (by decide), _, _, rfl, rfl, _, _, rfl, rfl, .inl ⟨_, rfl, _, 1000003, rfl, rfl, (show (0 : Int) < 1000003 by decide), ?_⟩⟩
        have ha : -(2 ^ 64) < (p.ss[n] * 7919 + (p.t + 1) * 104729 + 611953) % 1000003 ∧ (p.ss[n] * 7919 + (p.t + 1) * 104729 + 611953) % 1000003 < 2 ^ 64 := by omega
        generalize hA7 : (p.ss[n] * 7919 + (p.t + 1) * 104729 + 611953) % 1000003 = a7 at ha
        refine ⟨_, rfl, _, rfl, a7, a7, congrArg V.int hA7, congrArg V.int hA7, .inl ha, _, rfl, p.t + 1, 15485863, rfl, rfl, .inr (by decide), _, _, rfl, rfl, _, _, rfl, rfl, .inl ⟨_, rfl, _, 10000019, rfl, rfl, (show (0 : Int) < 10000019 by decide), ?_⟩⟩
        have hb8 : -(2 ^ 64) < (a7 * a7 + (p.t + 1) * 15485863 + 86028121) % 10000019 ∧ (a7 * a7 + (p.t + 1) * 15485863 + 86028121) % 10000019 < 2 ^ 64 := by
          have h1 := Int.emod_nonneg (a7 * a7 + (p.t + 1) * 15485863 + 86028121) (show (10000019 : Int) ≠ 0 by decide)
          have h2 := Int.emod_lt_of_pos (a7 * a7 + (p.t + 1) * 15485863 + 86028121) (show (0 : Int) < 10000019 by decide)
          omega
        generalize hB8 : (a7 * a7 + (p.t + 1) * 15485863 + 86028121) % 10000019 = b8 at hb8
        refine ⟨_, rfl, _, rfl, b8, b8, congrArg V.int hB8, congrArg V.int hB8, .inl hb8, _, rfl, a7, 32452843, congrArg V.int hA7, rfl, .inl ha, _, _, rfl, rfl, _, rfl, _, p.ss[n], rfl, rfl, .inl ⟨_, rfl, _, 100000007, rfl, rfl, (show (0 : Int) < 100000007 by decide), ?_⟩⟩
        refine ⟨_, rfl, _, 7, rfl, rfl, ⟨by decide, by decide⟩, .inl ⟨_, rfl, _, rfl, _, m, rfl, rfl, hm0, ?_⟩⟩
        exact cont _ _ rfl hcell hb a7 hA7.symm b8 hB8.symm _ rfl
    · have h0 : ¬ 0 < p.ss.length := fun z => h0 (decide_eq_true (by omega))
      have hcell : (0 : Int) = (if 0 < p.ss.length then p.ss.getD ((p.t + 1) % (p.ss.length : Int)).toNat 0 else 0) := by rw [if_neg h0]
      refine ⟨_, rfl, 0, 7919, rfl, rfl, .inl (by decide), _, rfl, p.t + 1, 104729, rfl, rfl, .inr (by decide), _, _, rfl, rfl, _, _, rfl, rfl, .inl ⟨_, rfl, _, 1000003, rfl, rfl, (show (0 : Int) < 1000003 by decide), ?_⟩⟩
      have ha : -(2 ^ 64) < ((0 : Int) * 7919 + (p.t + 1) * 104729 + 611953) % 1000003 ∧ ((0 : Int) * 7919 + (p.t + 1) * 104729 + 611953) % 1000003 < 2 ^ 64 := by omega
      generalize hA7 : ((0 : Int) * 7919 + (p.t + 1) * 104729 + 611953) % 1000003 = a7 at ha
      refine ⟨_, rfl, _, rfl, a7, a7, congrArg V.int hA7, congrArg V.int hA7, .inl ha, _, rfl, p.t + 1, 15485863, rfl, rfl, .inr (by decide), _, _, rfl, rfl, _, _, rfl, rfl, .inl ⟨_, rfl, _, 10000019, rfl, rfl, (show (0 : Int) < 10000019 by decide), ?_⟩⟩
      have hb8 : -(2 ^ 64) < (a7 * a7 + (p.t + 1) * 15485863 + 86028121) % 10000019 ∧ (a7 * a7 + (p.t + 1) * 15485863 + 86028121) % 10000019 < 2 ^ 64 := by
        have h1 := Int.emod_nonneg (a7 * a7 + (p.t + 1) * 15485863 + 86028121) (show (10000019 : Int) ≠ 0 by decide)
        have h2 := Int.emod_lt_of_pos (a7 * a7 + (p.t + 1) * 15485863 + 86028121) (show (0 : Int) < 10000019 by decide)
        omega
      generalize hB8 : (a7 * a7 + (p.t + 1) * 15485863 + 86028121) % 10000019 = b8 at hb8
      refine ⟨_, rfl, _, rfl, b8, b8, congrArg V.int hB8, congrArg V.int hB8, .inl hb8, _, rfl, a7, 32452843, congrArg V.int hA7, rfl, .inl ha, _, _, rfl, rfl, _, rfl, _, 0, rfl, rfl, .inl ⟨_, rfl, _, 100000007, rfl, rfl, (show (0 : Int) < 100000007 by decide), ?_⟩⟩
      refine ⟨_, rfl, _, 7, rfl, rfl, ⟨by decide, by decide⟩, .inl ⟨_, rfl, _, rfl, _, m, rfl, rfl, hm0, ?_⟩⟩
      exact cont _ _ rfl hcell (by decide) a7 hA7.symm b8 hB8.symm _ rfl
end Hd

namespace Hd
open PySem PySem.Spec PyProof.Rows L2 Dl
abbrev m__law_draw := gDraw
/-! ### the facts of the top, by name -/
def clOf (K : PySem.W.Frag) : Cl := ⟨fun c => match c with | 0 => He.ga K "Lock" | _ => 0, fun c => match c with | 0 => ["lift", "fill", "empty", "leak", "slack"] | _ => []⟩
theorem fl_nd_Lock : (["lift", "fill", "empty", "leak", "slack"] : List Str).Nodup := by decide +kernel
def Tx (K : PySem.W.Frag) (mg : Str → Option Value) : Prop := ∃ h : Heap, K.In h ∧ h.Ns mainGlobals mg ∧ He.SaysD fa fn K
section
variable {K : PySem.W.Frag} {mg : Str → Option Value}
theorem Tx.g_is_int (T : Tx K mg) : mg "is_int" = some (.ref (He.ga K "is_int")) := let ⟨_, X, G, c⟩ := T; He.glo_ok X G (c.fact 0 (f := .glo "is_int") rfl)
theorem Tx.g_is_number (T : Tx K mg) : mg "is_number" = some (.ref (He.ga K "is_number")) := let ⟨_, X, G, c⟩ := T; He.glo_ok X G (c.fact 1 (f := .glo "is_number") rfl)
theorem Tx.g_is_any_row (T : Tx K mg) : mg "is_any_row" = some (.ref (He.ga K "is_any_row")) := let ⟨_, X, G, c⟩ := T; He.glo_ok X G (c.fact 2 (f := .glo "is_any_row") rfl)
theorem Tx.g_is_row (T : Tx K mg) : mg "is_row" = some (.ref (He.ga K "is_row")) := let ⟨_, X, G, c⟩ := T; He.glo_ok X G (c.fact 3 (f := .glo "is_row") rfl)
theorem Tx.g_is_numbers (T : Tx K mg) : mg "is_numbers" = some (.ref (He.ga K "is_numbers")) := let ⟨_, X, G, c⟩ := T; He.glo_ok X G (c.fact 4 (f := .glo "is_numbers") rfl)
theorem Tx.g_is_pair (T : Tx K mg) : mg "is_pair" = some (.ref (He.ga K "is_pair")) := let ⟨_, X, G, c⟩ := T; He.glo_ok X G (c.fact 5 (f := .glo "is_pair") rfl)
theorem Tx.g_wrong_part (T : Tx K mg) : mg "wrong_part" = some (.ref (He.ga K "wrong_part")) := let ⟨_, X, G, c⟩ := T; He.glo_ok X G (c.fact 6 (f := .glo "wrong_part") rfl)
theorem Tx.g_is_allowed (T : Tx K mg) : mg "is_allowed" = some (.ref (He.ga K "is_allowed")) := let ⟨_, X, G, c⟩ := T; He.glo_ok X G (c.fact 7 (f := .glo "is_allowed") rfl)
theorem Tx.g_gate_after (T : Tx K mg) : mg "gate_after" = some (.ref (He.ga K "gate_after")) := let ⟨_, X, G, c⟩ := T; He.glo_ok X G (c.fact 8 (f := .glo "gate_after") rfl)
theorem Tx.g_inside_after (T : Tx K mg) : mg "inside_after" = some (.ref (He.ga K "inside_after")) := let ⟨_, X, G, c⟩ := T; He.glo_ok X G (c.fact 9 (f := .glo "inside_after") rfl)
theorem Tx.g_moved_level (T : Tx K mg) : mg "moved_level" = some (.ref (He.ga K "moved_level")) := let ⟨_, X, G, c⟩ := T; He.glo_ok X G (c.fact 10 (f := .glo "moved_level") rfl)
theorem Tx.g_amounts (T : Tx K mg) : mg "amounts" = some (.ref (He.ga K "amounts")) := let ⟨_, X, G, c⟩ := T; He.glo_ok X G (c.fact 11 (f := .glo "amounts") rfl)
theorem Tx.g_most_leak (T : Tx K mg) : mg "most_leak" = some (.ref (He.ga K "most_leak")) := let ⟨_, X, G, c⟩ := T; He.glo_ok X G (c.fact 12 (f := .glo "most_leak") rfl)
theorem Tx.g_first_state (T : Tx K mg) : mg "first_state" = some (.ref (He.ga K "first_state")) := let ⟨_, X, G, c⟩ := T; He.glo_ok X G (c.fact 13 (f := .glo "first_state") rfl)
theorem Tx.g_next_state (T : Tx K mg) : mg "next_state" = some (.ref (He.ga K "next_state")) := let ⟨_, X, G, c⟩ := T; He.glo_ok X G (c.fact 14 (f := .glo "next_state") rfl)
theorem Tx.g_unsafe_at (T : Tx K mg) : mg "unsafe_at" = some (.ref (He.ga K "unsafe_at")) := let ⟨_, X, G, c⟩ := T; He.glo_ok X G (c.fact 15 (f := .glo "unsafe_at") rfl)
theorem Tx.g_gates_of (T : Tx K mg) : mg "gates_of" = some (.ref (He.ga K "gates_of")) := let ⟨_, X, G, c⟩ := T; He.glo_ok X G (c.fact 16 (f := .glo "gates_of") rfl)
theorem Tx.g_sides_of (T : Tx K mg) : mg "sides_of" = some (.ref (He.ga K "sides_of")) := let ⟨_, X, G, c⟩ := T; He.glo_ok X G (c.fact 17 (f := .glo "sides_of") rfl)
theorem Tx.g_check_whole (T : Tx K mg) : mg "check_whole" = some (.ref (He.ga K "check_whole")) := let ⟨_, X, G, c⟩ := T; He.glo_ok X G (c.fact 18 (f := .glo "check_whole") rfl)
theorem Tx.g_plain_whole (T : Tx K mg) : mg "plain_whole" = some (.ref (He.ga K "plain_whole")) := let ⟨_, X, G, c⟩ := T; He.glo_ok X G (c.fact 19 (f := .glo "plain_whole") rfl)
theorem Tx.g_ship_after (T : Tx K mg) : mg "ship_after" = some (.ref (He.ga K "ship_after")) := let ⟨_, X, G, c⟩ := T; He.glo_ok X G (c.fact 20 (f := .glo "ship_after") rfl)
theorem Tx.g_shortest_whole (T : Tx K mg) : mg "shortest_whole" = some (.ref (He.ga K "shortest_whole")) := let ⟨_, X, G, c⟩ := T; He.glo_ok X G (c.fact 21 (f := .glo "shortest_whole") rfl)
theorem Tx.g__law_pool (T : Tx K mg) : mg "_law_pool" = some (.ref (He.ga K "_law_pool")) := let ⟨_, X, G, c⟩ := T; He.glo_ok X G (c.fact 22 (f := .glo "_law_pool") rfl)
theorem Tx.g__law_draw (T : Tx K mg) : mg "_law_draw" = some (.ref (He.ga K "_law_draw")) := let ⟨_, X, G, c⟩ := T; He.glo_ok X G (c.fact 23 (f := .glo "_law_draw") rfl)
theorem Tx.g__law_pick (T : Tx K mg) : mg "_law_pick" = some (.ref (He.ga K "_law_pick")) := let ⟨_, X, G, c⟩ := T; He.glo_ok X G (c.fact 24 (f := .glo "_law_pick") rfl)
theorem Tx.g__law_lock (T : Tx K mg) : mg "_law_lock" = some (.ref (He.ga K "_law_lock")) := let ⟨_, X, G, c⟩ := T; He.glo_ok X G (c.fact 25 (f := .glo "_law_lock") rfl)
theorem Tx.g__law_c_allowed (T : Tx K mg) : mg "_law_c_allowed" = some (.ref (He.ga K "_law_c_allowed")) := let ⟨_, X, G, c⟩ := T; He.glo_ok X G (c.fact 26 (f := .glo "_law_c_allowed") rfl)
theorem Tx.g__law_c_step (T : Tx K mg) : mg "_law_c_step" = some (.ref (He.ga K "_law_c_step")) := let ⟨_, X, G, c⟩ := T; He.glo_ok X G (c.fact 27 (f := .glo "_law_c_step") rfl)
theorem Tx.g__law_c_amounts (T : Tx K mg) : mg "_law_c_amounts" = some (.ref (He.ga K "_law_c_amounts")) := let ⟨_, X, G, c⟩ := T; He.glo_ok X G (c.fact 28 (f := .glo "_law_c_amounts") rfl)
theorem Tx.g__law_next (T : Tx K mg) : mg "_law_next" = some (.ref (He.ga K "_law_next")) := let ⟨_, X, G, c⟩ := T; He.glo_ok X G (c.fact 29 (f := .glo "_law_next") rfl)
theorem Tx.g__law_m_next (T : Tx K mg) : mg "_law_m_next" = some (.ref (He.ga K "_law_m_next")) := let ⟨_, X, G, c⟩ := T; He.glo_ok X G (c.fact 30 (f := .glo "_law_m_next") rfl)
theorem Tx.g__law_least (T : Tx K mg) : mg "_law_least" = some (.ref (He.ga K "_law_least")) := let ⟨_, X, G, c⟩ := T; He.glo_ok X G (c.fact 31 (f := .glo "_law_least") rfl)
theorem Tx.g__law_is_whole (T : Tx K mg) : mg "_law_is_whole" = some (.ref (He.ga K "_law_is_whole")) := let ⟨_, X, G, c⟩ := T; He.glo_ok X G (c.fact 32 (f := .glo "_law_is_whole") rfl)
theorem Tx.g__law_right (T : Tx K mg) : mg "_law_right" = some (.ref (He.ga K "_law_right")) := let ⟨_, X, G, c⟩ := T; He.glo_ok X G (c.fact 33 (f := .glo "_law_right") rfl)
theorem Tx.g_law (T : Tx K mg) : mg "law" = some (.ref (He.ga K "law")) := let ⟨_, X, G, c⟩ := T; He.glo_ok X G (c.fact 34 (f := .glo "law") rfl)
theorem Tx.b_ValueError (T : Tx K mg) : mg "ValueError" = none := let ⟨_, X, G, c⟩ := T; He.free_ok X G (c.fact 35 (f := .free "ValueError") rfl)
theorem Tx.b_isinstance (T : Tx K mg) : mg "isinstance" = none := let ⟨_, X, G, c⟩ := T; He.free_ok X G (c.fact 36 (f := .free "isinstance") rfl)
theorem Tx.b_all (T : Tx K mg) : mg "all" = none := let ⟨_, X, G, c⟩ := T; He.free_ok X G (c.fact 37 (f := .free "all") rfl)
theorem Tx.b_max (T : Tx K mg) : mg "max" = none := let ⟨_, X, G, c⟩ := T; He.free_ok X G (c.fact 38 (f := .free "max") rfl)
theorem Tx.b_enumerate (T : Tx K mg) : mg "enumerate" = none := let ⟨_, X, G, c⟩ := T; He.free_ok X G (c.fact 39 (f := .free "enumerate") rfl)
theorem Tx.b_range (T : Tx K mg) : mg "range" = none := let ⟨_, X, G, c⟩ := T; He.free_ok X G (c.fact 40 (f := .free "range") rfl)
theorem Tx.b_int (T : Tx K mg) : mg "int" = none := let ⟨_, X, G, c⟩ := T; He.free_ok X G (c.fact 41 (f := .free "int") rfl)
theorem Tx.b_list (T : Tx K mg) : mg "list" = none := let ⟨_, X, G, c⟩ := T; He.free_ok X G (c.fact 42 (f := .free "list") rfl)
theorem Tx.b_tuple (T : Tx K mg) : mg "tuple" = none := let ⟨_, X, G, c⟩ := T; He.free_ok X G (c.fact 43 (f := .free "tuple") rfl)
theorem Tx.b_min (T : Tx K mg) : mg "min" = none := let ⟨_, X, G, c⟩ := T; He.free_ok X G (c.fact 44 (f := .free "min") rfl)
theorem Tx.b_abs (T : Tx K mg) : mg "abs" = none := let ⟨_, X, G, c⟩ := T; He.free_ok X G (c.fact 45 (f := .free "abs") rfl)
theorem Tx.b_len (T : Tx K mg) : mg "len" = none := let ⟨_, X, G, c⟩ := T; He.free_ok X G (c.fact 46 (f := .free "len") rfl)
theorem Tx.b_sorted (T : Tx K mg) : mg "sorted" = none := let ⟨_, X, G, c⟩ := T; He.free_ok X G (c.fact 47 (f := .free "sorted") rfl)
theorem Tx.b_bool (T : Tx K mg) : mg "bool" = none := let ⟨_, X, G, c⟩ := T; He.free_ok X G (c.fact 48 (f := .free "bool") rfl)
theorem Tx.b_str (T : Tx K mg) : mg "str" = none := let ⟨_, X, G, c⟩ := T; He.free_ok X G (c.fact 49 (f := .free "str") rfl)
theorem Tx.c_LETTERS (T : Tx K mg) : ∃ t, mg "LETTERS" = some (.str "feUuDdiow" t) := let ⟨_, X, G, c⟩ := T; He.str_ok X G (c.fact 50 (f := .str "LETTERS" "feUuDdiow") rfl)
theorem Tx.c_SHUT (T : Tx K mg) : ∃ t, mg "SHUT" = some (.int 0 t) := let ⟨_, X, G, c⟩ := T; He.int_ok X G (c.fact 51 (f := .int "SHUT" 0) rfl)
theorem Tx.c_UPPER (T : Tx K mg) : ∃ t, mg "UPPER" = some (.int 1 t) := let ⟨_, X, G, c⟩ := T; He.int_ok X G (c.fact 52 (f := .int "UPPER" 1) rfl)
theorem Tx.c_LOWER (T : Tx K mg) : ∃ t, mg "LOWER" = some (.int 2 t) := let ⟨_, X, G, c⟩ := T; He.int_ok X G (c.fact 53 (f := .int "LOWER" 2) rfl)
theorem Tx.g_Lock (T : Tx K mg) : mg "Lock" = some (.ref (He.ga K "Lock")) := let ⟨_, X, G, c⟩ := T; He.glo_ok X G (c.fact 54 (f := .glo "Lock") rfl)
theorem Tx.k_Lock (T : Tx K mg) : Cls K ((clOf K).ad 0) := let ⟨_, _, _, c⟩ := T; He.cls_ok (c.fact 55 (f := .cls "Lock") rfl)
theorem Tx.m_Lock (T : Tx K mg) : Mk K (He.ga K "Lock") (He.ma K (He.ga K "Lock") "__init__") := let ⟨_, _, _, c⟩ := T; He.mkr_ok (c.fact 56 (f := .mkr "Lock") rfl)
theorem Tx.n_Lock_lift (T : Tx K mg) : NoAttr K ((clOf K).ad 0) "lift" := let ⟨_, _, _, c⟩ := T; He.noat_ok (c.fact 57 (f := .noat "Lock" "lift") rfl)
theorem Tx.n_Lock_fill (T : Tx K mg) : NoAttr K ((clOf K).ad 0) "fill" := let ⟨_, _, _, c⟩ := T; He.noat_ok (c.fact 58 (f := .noat "Lock" "fill") rfl)
theorem Tx.n_Lock_empty (T : Tx K mg) : NoAttr K ((clOf K).ad 0) "empty" := let ⟨_, _, _, c⟩ := T; He.noat_ok (c.fact 59 (f := .noat "Lock" "empty") rfl)
theorem Tx.n_Lock_leak (T : Tx K mg) : NoAttr K ((clOf K).ad 0) "leak" := let ⟨_, _, _, c⟩ := T; He.noat_ok (c.fact 60 (f := .noat "Lock" "leak") rfl)
theorem Tx.n_Lock_slack (T : Tx K mg) : NoAttr K ((clOf K).ad 0) "slack" := let ⟨_, _, _, c⟩ := T; He.noat_ok (c.fact 61 (f := .noat "Lock" "slack") rfl)
theorem Tx.d_is_int (T : Tx K mg) : ∃ fd, FunD K "is_int" "is_int" (defArgs s_is_int) (defBody s_is_int) (defScope s_is_int) [] [] (He.ga K "is_int") fd := let ⟨_, _, _, c⟩ := T; c.def_ 0 (d := Hd.d_is_int) rfl
theorem Tx.d_is_number (T : Tx K mg) : ∃ fd, FunD K "is_number" "is_number" (defArgs s_is_number) (defBody s_is_number) (defScope s_is_number) [] [] (He.ga K "is_number") fd := let ⟨_, _, _, c⟩ := T; c.def_ 1 (d := Hd.d_is_number) rfl
theorem Tx.d_is_any_row (T : Tx K mg) : ∃ fd, FunD K "is_any_row" "is_any_row" (defArgs s_is_any_row) (defBody s_is_any_row) (defScope s_is_any_row) [] [] (He.ga K "is_any_row") fd := let ⟨_, _, _, c⟩ := T; c.def_ 2 (d := Hd.d_is_any_row) rfl
theorem Tx.d_is_row (T : Tx K mg) : ∃ fd, FunD K "is_row" "is_row" (defArgs s_is_row) (defBody s_is_row) (defScope s_is_row) [] [] (He.ga K "is_row") fd := let ⟨_, _, _, c⟩ := T; c.def_ 3 (d := Hd.d_is_row) rfl
theorem Tx.d_is_numbers (T : Tx K mg) : ∃ fd, FunD K "is_numbers" "is_numbers" (defArgs s_is_numbers) (defBody s_is_numbers) (defScope s_is_numbers) [] [] (He.ga K "is_numbers") fd := let ⟨_, _, _, c⟩ := T; c.def_ 4 (d := Hd.d_is_numbers) rfl
theorem Tx.d_is_pair (T : Tx K mg) : ∃ fd, FunD K "is_pair" "is_pair" (defArgs s_is_pair) (defBody s_is_pair) (defScope s_is_pair) [] [] (He.ga K "is_pair") fd := let ⟨_, _, _, c⟩ := T; c.def_ 5 (d := Hd.d_is_pair) rfl
theorem Tx.d_Lock_init (T : Tx K mg) : ∃ fd, FunD K "__init__" "Lock.__init__" (defArgs s_Lock_init) (defBody s_Lock_init) (defScope s_Lock_init) [] [] (He.ma K (He.ga K "Lock") "__init__") fd := let ⟨_, _, _, c⟩ := T; c.def_ 6 (d := Hd.d_Lock_init) rfl
theorem Tx.d_wrong_part (T : Tx K mg) : ∃ fd, FunD K "wrong_part" "wrong_part" (defArgs s_wrong_part) (defBody s_wrong_part) (defScope s_wrong_part) [] [] (He.ga K "wrong_part") fd := let ⟨_, _, _, c⟩ := T; c.def_ 7 (d := Hd.d_wrong_part) rfl
theorem Tx.d_is_allowed (T : Tx K mg) : ∃ fd, FunD K "is_allowed" "is_allowed" (defArgs s_is_allowed) (defBody s_is_allowed) (defScope s_is_allowed) [] [] (He.ga K "is_allowed") fd := let ⟨_, _, _, c⟩ := T; c.def_ 8 (d := Hd.d_is_allowed) rfl
theorem Tx.d_gate_after (T : Tx K mg) : ∃ fd, FunD K "gate_after" "gate_after" (defArgs s_gate_after) (defBody s_gate_after) (defScope s_gate_after) [] [] (He.ga K "gate_after") fd := let ⟨_, _, _, c⟩ := T; c.def_ 9 (d := Hd.d_gate_after) rfl
theorem Tx.d_inside_after (T : Tx K mg) : ∃ fd, FunD K "inside_after" "inside_after" (defArgs s_inside_after) (defBody s_inside_after) (defScope s_inside_after) [] [] (He.ga K "inside_after") fd := let ⟨_, _, _, c⟩ := T; c.def_ 10 (d := Hd.d_inside_after) rfl
theorem Tx.d_moved_level (T : Tx K mg) : ∃ fd, FunD K "moved_level" "moved_level" (defArgs s_moved_level) (defBody s_moved_level) (defScope s_moved_level) [] [] (He.ga K "moved_level") fd := let ⟨_, _, _, c⟩ := T; c.def_ 11 (d := Hd.d_moved_level) rfl
theorem Tx.d_amounts (T : Tx K mg) : ∃ fd, FunD K "amounts" "amounts" (defArgs s_amounts) (defBody s_amounts) (defScope s_amounts) [] [] (He.ga K "amounts") fd := let ⟨_, _, _, c⟩ := T; c.def_ 12 (d := Hd.d_amounts) rfl
theorem Tx.d_most_leak (T : Tx K mg) : ∃ fd, FunD K "most_leak" "most_leak" (defArgs s_most_leak) (defBody s_most_leak) (defScope s_most_leak) [] [] (He.ga K "most_leak") fd := let ⟨_, _, _, c⟩ := T; c.def_ 13 (d := Hd.d_most_leak) rfl
theorem Tx.d_first_state (T : Tx K mg) : ∃ fd, FunD K "first_state" "first_state" (defArgs s_first_state) (defBody s_first_state) (defScope s_first_state) [] [] (He.ga K "first_state") fd := let ⟨_, _, _, c⟩ := T; c.def_ 14 (d := Hd.d_first_state) rfl
theorem Tx.d_next_state (T : Tx K mg) : ∃ fd, FunD K "next_state" "next_state" (defArgs s_next_state) (defBody s_next_state) (defScope s_next_state) [] [] (He.ga K "next_state") fd := let ⟨_, _, _, c⟩ := T; c.def_ 15 (d := Hd.d_next_state) rfl
theorem Tx.d_unsafe_at (T : Tx K mg) : ∃ fd, FunD K "unsafe_at" "unsafe_at" (defArgs s_unsafe_at) (defBody s_unsafe_at) (defScope s_unsafe_at) [] [] (He.ga K "unsafe_at") fd := let ⟨_, _, _, c⟩ := T; c.def_ 16 (d := Hd.d_unsafe_at) rfl
theorem Tx.d_gates_of (T : Tx K mg) : ∃ fd, FunD K "gates_of" "gates_of" (defArgs s_gates_of) (defBody s_gates_of) (defScope s_gates_of) [] [] (He.ga K "gates_of") fd := let ⟨_, _, _, c⟩ := T; c.def_ 17 (d := Hd.d_gates_of) rfl
theorem Tx.d_sides_of (T : Tx K mg) : ∃ fd, FunD K "sides_of" "sides_of" (defArgs s_sides_of) (defBody s_sides_of) (defScope s_sides_of) [] [] (He.ga K "sides_of") fd := let ⟨_, _, _, c⟩ := T; c.def_ 18 (d := Hd.d_sides_of) rfl
theorem Tx.d_check_whole (T : Tx K mg) : ∃ fd, FunD K "check_whole" "check_whole" (defArgs s_check_whole) (defBody s_check_whole) (defScope s_check_whole) [] [] (He.ga K "check_whole") fd := let ⟨_, _, _, c⟩ := T; c.def_ 19 (d := Hd.d_check_whole) rfl
theorem Tx.d_plain_whole (T : Tx K mg) : ∃ fd, FunD K "plain_whole" "plain_whole" (defArgs s_plain_whole) (defBody s_plain_whole) (defScope s_plain_whole) [] [] (He.ga K "plain_whole") fd := let ⟨_, _, _, c⟩ := T; c.def_ 20 (d := Hd.d_plain_whole) rfl
theorem Tx.d_ship_after (T : Tx K mg) : ∃ fd, FunD K "ship_after" "ship_after" (defArgs s_ship_after) (defBody s_ship_after) (defScope s_ship_after) [] [] (He.ga K "ship_after") fd := let ⟨_, _, _, c⟩ := T; c.def_ 21 (d := Hd.d_ship_after) rfl
theorem Tx.d_shortest_whole (T : Tx K mg) : ∃ fd, FunD K "shortest_whole" "shortest_whole" (defArgs s_shortest_whole) (defBody s_shortest_whole) (defScope s_shortest_whole) [] [] (He.ga K "shortest_whole") fd := let ⟨_, _, _, c⟩ := T; c.def_ 22 (d := Hd.d_shortest_whole) rfl
theorem Tx.d__law_pool (T : Tx K mg) : ∃ fd, FunD K "_law_pool" "_law_pool" (defArgs s__law_pool) (defBody s__law_pool) (defScope s__law_pool) [] [] (He.ga K "_law_pool") fd := let ⟨_, _, _, c⟩ := T; c.def_ 23 (d := Hd.d__law_pool) rfl
theorem Tx.d__law_draw (T : Tx K mg) : ∃ fd, FunD K "_law_draw" "_law_draw" (defArgs s__law_draw) (defBody s__law_draw) (defScope s__law_draw) [] [] (He.ga K "_law_draw") fd := let ⟨_, _, _, c⟩ := T; c.def_ 24 (d := Hd.d__law_draw) rfl
theorem Tx.d__law_pick (T : Tx K mg) : ∃ fd, FunD K "_law_pick" "_law_pick" (defArgs s__law_pick) (defBody s__law_pick) (defScope s__law_pick) [] [] (He.ga K "_law_pick") fd := let ⟨_, _, _, c⟩ := T; c.def_ 25 (d := Hd.d__law_pick) rfl
theorem Tx.d__law_lock (T : Tx K mg) : ∃ fd, FunD K "_law_lock" "_law_lock" (defArgs s__law_lock) (defBody s__law_lock) (defScope s__law_lock) [] [] (He.ga K "_law_lock") fd := let ⟨_, _, _, c⟩ := T; c.def_ 26 (d := Hd.d__law_lock) rfl
theorem Tx.d__law_c_allowed (T : Tx K mg) : ∃ fd, FunD K "_law_c_allowed" "_law_c_allowed" (defArgs s__law_c_allowed) (defBody s__law_c_allowed) (defScope s__law_c_allowed) [] [] (He.ga K "_law_c_allowed") fd := let ⟨_, _, _, c⟩ := T; c.def_ 27 (d := Hd.d__law_c_allowed) rfl
theorem Tx.d__law_c_step (T : Tx K mg) : ∃ fd, FunD K "_law_c_step" "_law_c_step" (defArgs s__law_c_step) (defBody s__law_c_step) (defScope s__law_c_step) [] [] (He.ga K "_law_c_step") fd := let ⟨_, _, _, c⟩ := T; c.def_ 28 (d := Hd.d__law_c_step) rfl
theorem Tx.d__law_c_amounts (T : Tx K mg) : ∃ fd, FunD K "_law_c_amounts" "_law_c_amounts" (defArgs s__law_c_amounts) (defBody s__law_c_amounts) (defScope s__law_c_amounts) [] [] (He.ga K "_law_c_amounts") fd := let ⟨_, _, _, c⟩ := T; c.def_ 29 (d := Hd.d__law_c_amounts) rfl
theorem Tx.d__law_next (T : Tx K mg) : ∃ fd, FunD K "_law_next" "_law_next" (defArgs s__law_next) (defBody s__law_next) (defScope s__law_next) [] [] (He.ga K "_law_next") fd := let ⟨_, _, _, c⟩ := T; c.def_ 30 (d := Hd.d__law_next) rfl
theorem Tx.d__law_m_next (T : Tx K mg) : ∃ fd, FunD K "_law_m_next" "_law_m_next" (defArgs s__law_m_next) (defBody s__law_m_next) (defScope s__law_m_next) [] [] (He.ga K "_law_m_next") fd := let ⟨_, _, _, c⟩ := T; c.def_ 31 (d := Hd.d__law_m_next) rfl
theorem Tx.d__law_least (T : Tx K mg) : ∃ fd, FunD K "_law_least" "_law_least" (defArgs s__law_least) (defBody s__law_least) (defScope s__law_least) [] [] (He.ga K "_law_least") fd := let ⟨_, _, _, c⟩ := T; c.def_ 32 (d := Hd.d__law_least) rfl
theorem Tx.d__law_is_whole (T : Tx K mg) : ∃ fd, FunD K "_law_is_whole" "_law_is_whole" (defArgs s__law_is_whole) (defBody s__law_is_whole) (defScope s__law_is_whole) [] [] (He.ga K "_law_is_whole") fd := let ⟨_, _, _, c⟩ := T; c.def_ 33 (d := Hd.d__law_is_whole) rfl
theorem Tx.d__law_right (T : Tx K mg) : ∃ fd, FunD K "_law_right" "_law_right" (defArgs s__law_right) (defBody s__law_right) (defScope s__law_right) [] [] (He.ga K "_law_right") fd := let ⟨_, _, _, c⟩ := T; c.def_ 34 (d := Hd.d__law_right) rfl
theorem Tx.d_law (T : Tx K mg) : ∃ fd, FunD K "law" "law" (defArgs s_law) (defBody s_law) (defScope s_law) [] [] (He.ga K "law") fd := let ⟨_, _, _, c⟩ := T; c.def_ 35 (d := Hd.d_law) rfl
end
section
variable {P : Program} {W : World} {K : PySem.W.Frag} {mg : Str → Option Value} {base : Heap}
def N_is_int : List Str := ["value"]
theorem sc_is_int : FnScope N_is_int ["value"] (defScope s_is_int) := ⟨rfl, rfl, rfl, by decide +kernel, rfl, by decide +kernel, by decide +kernel⟩
def b_is_int : FS := (dRet (dAndV (dCall gIsi (dCons (dVar 0) (dCons (dC (.ty "int")) dNil))) (dNotV (dCall gIsi (dCons (dVar 0) (dCons (dC (.ty "bool")) dNil))))))
def m_is_int : List D → M D := runD 1 b_is_int
theorem ok_is_int (T : Tx K mg) : Fn P W K mg base (clOf K) 1 "is_int" ["value"] m_is_int := by
  refine fn_mk (N := N_is_int) (s := b_is_int) T.d_is_int T.g_is_int sc_is_int rfl (fun _ _ _ _ _ _ us hl => match us, hl with | [_], _ => rfl) fun fd cdv A outer s0 H E hr => ?_
  exact (ss_one (sd_ret (pd_and (pd_callB call_isi cs_isi rfl T.b_isinstance (by decide +kernel) (ad_cons (pd_var (i := 0) rfl (.inl rfl)) (ad_cons (pd_ty rfl T.b_int (by decide +kernel)) ad_nil))) (pd_one (pd_not (pd_callB call_isi cs_isi rfl T.b_isinstance (by decide +kernel) (ad_cons (pd_var (i := 0) rfl (.inl rfl)) (ad_cons (pd_ty rfl T.b_bool (by decide +kernel)) ad_nil))))))))
def N_is_number : List Str := ["value", "least", "greatest"]
theorem sc_is_number : FnScope N_is_number ["value", "least", "greatest"] (defScope s_is_number) := ⟨rfl, rfl, rfl, by decide +kernel, rfl, by decide +kernel, by decide +kernel⟩
def b_is_number : FS := (dRet (dAndV (dFn m_is_int (dCons (dVar 0) dNil)) (dChain gLe gLe (dVar 1) (dVar 0) (dVar 2))))
def m_is_number : List D → M D := runD 3 b_is_number
theorem ok_is_number (T : Tx K mg) (F_is_int : Fn P W K mg base (clOf K) 1 "is_int" ["value"] m_is_int) : Fn P W K mg base (clOf K) 2 "is_number" ["value", "least", "greatest"] m_is_number := by
  refine fn_mk (N := N_is_number) (s := b_is_number) T.d_is_number T.g_is_number sc_is_number rfl (fun _ _ _ _ _ _ us hl => match us, hl with | [_, _, _], _ => rfl) fun fd cdv A outer s0 H E hr => ?_
  exact (ss_one (sd_ret (pd_and (pd_fn F_is_int hr rfl (ad_cons (pd_var (i := 0) rfl (.inl rfl)) ad_nil) (dCons_len (fun _ _ _ h => dNil_len h)) rfl) (pd_one (pd_chain op_le os_cmp op_le os_cmp (pd_var (i := 1) rfl (.inl rfl)) (pd_var (i := 0) rfl (.inl rfl)) (pd_var (i := 2) rfl (.inl rfl)))))))
def N_is_any_row : List Str := ["value"]
theorem sc_is_any_row : FnScope N_is_any_row ["value"] (defScope s_is_any_row) := ⟨rfl, rfl, rfl, by decide +kernel, rfl, by decide +kernel, by decide +kernel⟩
def b_is_any_row : FS := (dRet (dIsi2 "list" "tuple" (dVar 0)))
def m_is_any_row : List D → M D := runD 1 b_is_any_row
theorem ok_is_any_row (T : Tx K mg) : Fn P W K mg base (clOf K) 1 "is_any_row" ["value"] m_is_any_row := by
  refine fn_mk (N := N_is_any_row) (s := b_is_any_row) T.d_is_any_row T.g_is_any_row sc_is_any_row rfl (fun _ _ _ _ _ _ us hl => match us, hl with | [_], _ => rfl) fun fd cdv A outer s0 H E hr => ?_
  exact (ss_one (sd_ret (pd_isi2 (S := "list") (T := "tuple") (by decide) (by decide) rfl T.b_isinstance rfl T.b_list (by decide +kernel) rfl T.b_tuple (by decide +kernel) (pd_var (i := 0) rfl (.inl rfl)))))
def N_is_row : List Str := ["value", "least", "greatest"]
theorem sc_is_row : FnScope N_is_row ["value", "least", "greatest"] (defScope s_is_row) := ⟨rfl, rfl, rfl, by decide +kernel, rfl, by decide +kernel, by decide +kernel⟩
def b_is_row : FS := (dRet (dAndV (dFn m_is_any_row (dCons (dVar 0) dNil)) (dChain gLe gLe (dVar 1) (dCall gLen (dCons (dVar 0) dNil)) (dVar 2))))
def m_is_row : List D → M D := runD 3 b_is_row
theorem ok_is_row (T : Tx K mg) (F_is_any_row : Fn P W K mg base (clOf K) 1 "is_any_row" ["value"] m_is_any_row) : Fn P W K mg base (clOf K) 2 "is_row" ["value", "least", "greatest"] m_is_row := by
  refine fn_mk (N := N_is_row) (s := b_is_row) T.d_is_row T.g_is_row sc_is_row rfl (fun _ _ _ _ _ _ us hl => match us, hl with | [_, _, _], _ => rfl) fun fd cdv A outer s0 H E hr => ?_
  exact (ss_one (sd_ret (pd_and (pd_fn F_is_any_row hr rfl (ad_cons (pd_var (i := 0) rfl (.inl rfl)) ad_nil) (dCons_len (fun _ _ _ h => dNil_len h)) rfl) (pd_one (pd_chain op_le os_cmp op_le os_cmp (pd_var (i := 1) rfl (.inl rfl)) (pd_callB call_len cs_len rfl T.b_len (by decide +kernel) (ad_cons (pd_var (i := 0) rfl (.inl rfl)) ad_nil)) (pd_var (i := 2) rfl (.inl rfl)))))))
def N_is_numbers : List Str := ["value", "count", "least", "greatest", "item"]
theorem sc_is_numbers : FnScope N_is_numbers ["value", "count", "least", "greatest"] (defScope s_is_numbers) := ⟨rfl, rfl, rfl, by decide +kernel, rfl, by decide +kernel, by decide +kernel⟩
def b_is_numbers : FS := (dSeq (dIfS (dNot (dB (dFn m_is_row (dCons (dVar 0) (dCons (dVar 1) (dCons (dVar 1) dNil)))))) (dRet (dC (.bl false))) dNext) (dRet (dCall gAll (dCons (dLc 4 (dIt asAny (dVar 0)) dYes (dFn m_is_number (dCons (dVar 4) (dCons (dVar 2) (dCons (dVar 3) dNil))))) dNil))))
def m_is_numbers : List D → M D := runD 5 b_is_numbers
theorem ok_is_numbers (T : Tx K mg) (F_is_number : Fn P W K mg base (clOf K) 2 "is_number" ["value", "least", "greatest"] m_is_number) (F_is_row : Fn P W K mg base (clOf K) 2 "is_row" ["value", "least", "greatest"] m_is_row) : Fn P W K mg base (clOf K) 3 "is_numbers" ["value", "count", "least", "greatest"] m_is_numbers := by
  refine fn_mk (N := N_is_numbers) (s := b_is_numbers) T.d_is_numbers T.g_is_numbers sc_is_numbers rfl (fun _ _ _ _ _ _ us hl => match us, hl with | [_, _, _, _], _ => rfl) fun fd cdv A outer s0 H E hr => ?_
  exact (ss_cons (sd_if (td_not (td_val (pd_fn F_is_row hr rfl (ad_cons (pd_var (i := 0) rfl (.inl rfl)) (ad_cons (pd_var (i := 1) rfl (.inl rfl)) (ad_cons (pd_var (i := 1) rfl (.inl rfl)) ad_nil))) (dCons_len (dCons_len (dCons_len (fun _ _ _ h => dNil_len h)))) rfl))) (ss_one (sd_ret pd_bl)) ss_nil) (ss_one (sd_ret (pd_callB (cr_all rfl) cs_all rfl T.b_all (by decide +kernel) (ad_cons (pd_own_ (od_lc (i := 4) rfl sc_is_numbers.nd (id_any (pd_var (i := 0) rfl (.inl rfl))) (blkOk_by (N := N_is_numbers) (sc := defScope s_is_numbers) (by decide +kernel)) (fun _ _ _ _ _ => pg_name (i := 4) sc_is_numbers.nd rfl (Or.inl rfl)) (fun _ _ _ _ _ => (pd_fn F_is_number hr rfl (ad_cons (pd_var (i := 4) rfl (.inl rfl)) (ad_cons (pd_var (i := 2) rfl (by first | exact Or.inr (Or.inr rfl) | exact Or.inl rfl | exact Or.inr (Or.inl rfl))) (ad_cons (pd_var (i := 3) rfl (by first | exact Or.inr (Or.inr rfl) | exact Or.inl rfl | exact Or.inr (Or.inl rfl))) ad_nil))) (dCons_len (dCons_len (dCons_len (fun _ _ _ h => dNil_len h)))) rfl)))) ad_nil)))))
def N_is_pair : List Str := ["value", "least", "greatest"]
theorem sc_is_pair : FnScope N_is_pair ["value", "least", "greatest"] (defScope s_is_pair) := ⟨rfl, rfl, rfl, by decide +kernel, rfl, by decide +kernel, by decide +kernel⟩
def b_is_pair : FS := (dRet (dAndV (dFn m_is_numbers (dCons (dVar 0) (dCons (dC (.int 2)) (dCons (dVar 1) (dCons (dVar 2) dNil))))) (dOp gLe (dOp gIx (dVar 0) (dC (.int 0))) (dOp gIx (dVar 0) (dC (.int 1))))))
def m_is_pair : List D → M D := runD 3 b_is_pair
theorem ok_is_pair (T : Tx K mg) (F_is_numbers : Fn P W K mg base (clOf K) 3 "is_numbers" ["value", "count", "least", "greatest"] m_is_numbers) : Fn P W K mg base (clOf K) 4 "is_pair" ["value", "least", "greatest"] m_is_pair := by
  refine fn_mk (N := N_is_pair) (s := b_is_pair) T.d_is_pair T.g_is_pair sc_is_pair rfl (fun _ _ _ _ _ _ us hl => match us, hl with | [_, _, _], _ => rfl) fun fd cdv A outer s0 H E hr => ?_
  exact (ss_one (sd_ret (pd_and (pd_fn F_is_numbers hr rfl (ad_cons (pd_var (i := 0) rfl (.inl rfl)) (ad_cons pd_int (ad_cons (pd_var (i := 1) rfl (.inl rfl)) (ad_cons (pd_var (i := 2) rfl (.inl rfl)) ad_nil)))) (dCons_len (dCons_len (dCons_len (dCons_len (fun _ _ _ h => dNil_len h))))) rfl) (pd_one (pd_cmp op_le os_cmp (pd_ix ix_seq os_ix (pd_var (i := 0) rfl (.inl rfl)) pd_int (fun _ _ => rfl)) (pd_ix ix_seq os_ix (pd_var (i := 0) rfl (.inl rfl)) pd_int (fun _ _ => rfl)) (nomark _))))))
def N_wrong_part : List Str := ["lift", "fill", "empty", "leak", "slack"]
theorem sc_wrong_part : FnScope N_wrong_part ["lift", "fill", "empty", "leak", "slack"] (defScope s_wrong_part) := ⟨rfl, rfl, rfl, by decide +kernel, rfl, by decide +kernel, by decide +kernel⟩
def b_wrong_part : FS := (dSeq (dIfS (dNot (dB (dFn m_is_number (dCons (dVar 0) (dCons (dC (.int 1)) (dCons (dC (.int 6)) dNil)))))) (dRet (dC (.str "lift"))) dNext) (dSeq (dIfS (dNot (dB (dFn m_is_pair (dCons (dVar 1) (dCons (dC (.int 1)) (dCons (dC (.int 3)) dNil)))))) (dRet (dC (.str "fill"))) dNext) (dSeq (dIfS (dNot (dB (dFn m_is_pair (dCons (dVar 2) (dCons (dC (.int 1)) (dCons (dC (.int 3)) dNil)))))) (dRet (dC (.str "empty"))) dNext) (dSeq (dIfS (dOr (dNot (dB (dFn m_is_number (dCons (dVar 3) (dCons (dC (.int 0)) (dCons (dC (.int 1)) dNil)))))) (dB (dOp gGe (dVar 3) (dOp gIx (dVar 1) (dC (.int 0)))))) (dRet (dC (.str "leak"))) dNext) (dSeq (dIfS (dOr (dNot (dB (dFn m_is_number (dCons (dVar 4) (dCons (dC (.int 0)) (dCons (dC (.int 2)) dNil)))))) (dB (dOp gLt (dVar 4) (dVar 3)))) (dRet (dC (.str "slack"))) dNext) (dRet (dC .non)))))))
def m_wrong_part : List D → M D := runD 5 b_wrong_part
theorem ok_wrong_part (T : Tx K mg) (F_is_number : Fn P W K mg base (clOf K) 2 "is_number" ["value", "least", "greatest"] m_is_number) (F_is_pair : Fn P W K mg base (clOf K) 4 "is_pair" ["value", "least", "greatest"] m_is_pair) : Fn P W K mg base (clOf K) 5 "wrong_part" ["lift", "fill", "empty", "leak", "slack"] m_wrong_part := by
  refine fn_mk (N := N_wrong_part) (s := b_wrong_part) T.d_wrong_part T.g_wrong_part sc_wrong_part rfl (fun _ _ _ _ _ _ us hl => match us, hl with | [_, _, _, _, _], _ => rfl) fun fd cdv A outer s0 H E hr => ?_
  exact (ss_cons (sd_if (td_not (td_val (pd_fn F_is_number hr rfl (ad_cons (pd_var (i := 0) rfl (.inl rfl)) (ad_cons pd_int (ad_cons pd_int ad_nil))) (dCons_len (dCons_len (dCons_len (fun _ _ _ h => dNil_len h)))) rfl))) (ss_one (sd_ret pd_str)) ss_nil) (ss_cons (sd_if (td_not (td_val (pd_fn F_is_pair hr rfl (ad_cons (pd_var (i := 1) rfl (.inl rfl)) (ad_cons pd_int (ad_cons pd_int ad_nil))) (dCons_len (dCons_len (dCons_len (fun _ _ _ h => dNil_len h)))) rfl))) (ss_one (sd_ret pd_str)) ss_nil) (ss_cons (sd_if (td_not (td_val (pd_fn F_is_pair hr rfl (ad_cons (pd_var (i := 2) rfl (.inl rfl)) (ad_cons pd_int (ad_cons pd_int ad_nil))) (dCons_len (dCons_len (dCons_len (fun _ _ _ h => dNil_len h)))) rfl))) (ss_one (sd_ret pd_str)) ss_nil) (ss_cons (sd_if (td_w (wd_or (td_not (td_val (pd_fn F_is_number hr rfl (ad_cons (pd_var (i := 3) rfl (.inl rfl)) (ad_cons pd_int (ad_cons pd_int ad_nil))) (dCons_len (dCons_len (dCons_len (fun _ _ _ h => dNil_len h)))) rfl))) (wd_or1 (td_cmp op_ge os_cmp (pd_var (i := 3) rfl (.inl rfl)) (pd_ix ix_seq os_ix (pd_var (i := 1) rfl (.inl rfl)) pd_int (fun _ _ => rfl)) (nomark _))))) (ss_one (sd_ret pd_str)) ss_nil) (ss_cons (sd_if (td_w (wd_or (td_not (td_val (pd_fn F_is_number hr rfl (ad_cons (pd_var (i := 4) rfl (.inl rfl)) (ad_cons pd_int (ad_cons pd_int ad_nil))) (dCons_len (dCons_len (dCons_len (fun _ _ _ h => dNil_len h)))) rfl))) (wd_or1 (td_cmp op_lt os_cmp (pd_var (i := 4) rfl (.inl rfl)) (pd_var (i := 3) rfl (.inl rfl)) (nomark _))))) (ss_one (sd_ret pd_str)) ss_nil) (ss_one (sd_ret pd_non)))))))
def N_is_allowed : List Str := ["lock", "gate", "inside", "level", "letter"]
theorem sc_is_allowed : FnScope N_is_allowed ["lock", "gate", "inside", "level", "letter"] (defScope s_is_allowed) := ⟨rfl, rfl, rfl, by decide +kernel, rfl, by decide +kernel, by decide +kernel⟩
def b_is_allowed : FS := (dSeq (dIfS (dB (dOp gEq (dVar 4) (dC (.str "f")))) (dRet (dOp gNe (dVar 1) (dC (.int 2)))) dNext) (dSeq (dIfS (dB (dOp gEq (dVar 4) (dC (.str "e")))) (dRet (dOp gNe (dVar 1) (dC (.int 1)))) dNext) (dSeq (dIfS (dB (dOp gEq (dVar 4) (dC (.str "U")))) (dRet (dAndV (dOp gEq (dVar 1) (dC (.int 0))) (dOp gGe (dVar 3) (dOp gSub (dFld 0 0 (dVar 0)) (dFld 0 4 (dVar 0)))))) dNext) (dSeq (dIfS (dB (dOp gEq (dVar 4) (dC (.str "u")))) (dRet (dOp gEq (dVar 1) (dC (.int 1)))) dNext) (dSeq (dIfS (dB (dOp gEq (dVar 4) (dC (.str "D")))) (dRet (dAndV (dOp gEq (dVar 1) (dC (.int 0))) (dOp gLe (dVar 3) (dFld 0 4 (dVar 0))))) dNext) (dSeq (dIfS (dB (dOp gEq (dVar 4) (dC (.str "d")))) (dRet (dOp gEq (dVar 1) (dC (.int 2)))) dNext) (dSeq (dIfS (dB (dOp gEq (dVar 4) (dC (.str "i")))) (dRet (dAndV (dOp gNe (dVar 1) (dC (.int 0))) (dOp gEq (dVar 2) (dC (.int 0))))) dNext) (dSeq (dIfS (dB (dOp gEq (dVar 4) (dC (.str "o")))) (dRet (dAndV (dOp gNe (dVar 1) (dC (.int 0))) (dOp gEq (dVar 2) (dC (.int 1))))) dNext) (dRet (dOp gEq (dVar 4) (dC (.str "w"))))))))))))
def m_is_allowed : List D → M D := runD 5 b_is_allowed
theorem ok_is_allowed (T : Tx K mg) : Fn P W K mg base (clOf K) 1 "is_allowed" ["lock", "gate", "inside", "level", "letter"] m_is_allowed := by
  refine fn_mk (N := N_is_allowed) (s := b_is_allowed) T.d_is_allowed T.g_is_allowed sc_is_allowed rfl (fun _ _ _ _ _ _ us hl => match us, hl with | [_, _, _, _, _], _ => rfl) fun fd cdv A outer s0 H E hr => ?_
  exact (ss_cons (sd_if (td_cmp op_eq os_eq (pd_var (i := 4) rfl (.inl rfl)) pd_str (nomark _)) (ss_one (sd_ret (pd_cmp op_ne os_ne (pd_var (i := 1) rfl (.inl rfl)) (pd_glI rfl T.c_LOWER) (nomark _)))) ss_nil) (ss_cons (sd_if (td_cmp op_eq os_eq (pd_var (i := 4) rfl (.inl rfl)) pd_str (nomark _)) (ss_one (sd_ret (pd_cmp op_ne os_ne (pd_var (i := 1) rfl (.inl rfl)) (pd_glI rfl T.c_UPPER) (nomark _)))) ss_nil) (ss_cons (sd_if (td_cmp op_eq os_eq (pd_var (i := 4) rfl (.inl rfl)) pd_str (nomark _)) (ss_one (sd_ret (pd_and (pd_cmp op_eq os_eq (pd_var (i := 1) rfl (.inl rfl)) (pd_glI rfl T.c_SHUT) (nomark _)) (pd_one (pd_cmp op_ge os_cmp (pd_var (i := 3) rfl (.inl rfl)) (pd_op op_sub os_sub (pd_fld (c := 0) (i := 0) T.k_Lock T.n_Lock_lift (show List.Nodup _ from fl_nd_Lock) rfl (pd_var (i := 0) rfl (.inl rfl))) (pd_fld (c := 0) (i := 4) T.k_Lock T.n_Lock_slack (show List.Nodup _ from fl_nd_Lock) rfl (pd_var (i := 0) rfl (.inl rfl)))) (nomark _)))))) ss_nil) (ss_cons (sd_if (td_cmp op_eq os_eq (pd_var (i := 4) rfl (.inl rfl)) pd_str (nomark _)) (ss_one (sd_ret (pd_cmp op_eq os_eq (pd_var (i := 1) rfl (.inl rfl)) (pd_glI rfl T.c_UPPER) (nomark _)))) ss_nil) (ss_cons (sd_if (td_cmp op_eq os_eq (pd_var (i := 4) rfl (.inl rfl)) pd_str (nomark _)) (ss_one (sd_ret (pd_and (pd_cmp op_eq os_eq (pd_var (i := 1) rfl (.inl rfl)) (pd_glI rfl T.c_SHUT) (nomark _)) (pd_one (pd_cmp op_le os_cmp (pd_var (i := 3) rfl (.inl rfl)) (pd_fld (c := 0) (i := 4) T.k_Lock T.n_Lock_slack (show List.Nodup _ from fl_nd_Lock) rfl (pd_var (i := 0) rfl (.inl rfl))) (nomark _)))))) ss_nil) (ss_cons (sd_if (td_cmp op_eq os_eq (pd_var (i := 4) rfl (.inl rfl)) pd_str (nomark _)) (ss_one (sd_ret (pd_cmp op_eq os_eq (pd_var (i := 1) rfl (.inl rfl)) (pd_glI rfl T.c_LOWER) (nomark _)))) ss_nil) (ss_cons (sd_if (td_cmp op_eq os_eq (pd_var (i := 4) rfl (.inl rfl)) pd_str (nomark _)) (ss_one (sd_ret (pd_and (pd_cmp op_ne os_ne (pd_var (i := 1) rfl (.inl rfl)) (pd_glI rfl T.c_SHUT) (nomark _)) (pd_one (pd_cmp op_eq os_eq (pd_var (i := 2) rfl (.inl rfl)) pd_int (nomark _)))))) ss_nil) (ss_cons (sd_if (td_cmp op_eq os_eq (pd_var (i := 4) rfl (.inl rfl)) pd_str (nomark _)) (ss_one (sd_ret (pd_and (pd_cmp op_ne os_ne (pd_var (i := 1) rfl (.inl rfl)) (pd_glI rfl T.c_SHUT) (nomark _)) (pd_one (pd_cmp op_eq os_eq (pd_var (i := 2) rfl (.inl rfl)) pd_int (nomark _)))))) ss_nil) (ss_one (sd_ret (pd_cmp op_eq os_eq (pd_var (i := 4) rfl (.inl rfl)) pd_str (nomark _))))))))))))
def N_gate_after : List Str := ["gate", "letter"]
theorem sc_gate_after : FnScope N_gate_after ["gate", "letter"] (defScope s_gate_after) := ⟨rfl, rfl, rfl, by decide +kernel, rfl, by decide +kernel, by decide +kernel⟩
def b_gate_after : FS := (dSeq (dIfS (dB (dOp gEq (dVar 1) (dC (.str "U")))) (dRet (dC (.int 1))) dNext) (dSeq (dIfS (dB (dOp gEq (dVar 1) (dC (.str "D")))) (dRet (dC (.int 2))) dNext) (dSeq (dIfS (dOr (dB (dOp gEq (dVar 1) (dC (.str "u")))) (dB (dOp gEq (dVar 1) (dC (.str "d"))))) (dRet (dC (.int 0))) dNext) (dRet (dVar 0)))))
def m_gate_after : List D → M D := runD 2 b_gate_after
theorem ok_gate_after (T : Tx K mg) : Fn P W K mg base (clOf K) 1 "gate_after" ["gate", "letter"] m_gate_after := by
  refine fn_mk (N := N_gate_after) (s := b_gate_after) T.d_gate_after T.g_gate_after sc_gate_after rfl (fun _ _ _ _ _ _ us hl => match us, hl with | [_, _], _ => rfl) fun fd cdv A outer s0 H E hr => ?_
  exact (ss_cons (sd_if (td_cmp op_eq os_eq (pd_var (i := 1) rfl (.inl rfl)) pd_str (nomark _)) (ss_one (sd_ret (pd_glI rfl T.c_UPPER))) ss_nil) (ss_cons (sd_if (td_cmp op_eq os_eq (pd_var (i := 1) rfl (.inl rfl)) pd_str (nomark _)) (ss_one (sd_ret (pd_glI rfl T.c_LOWER))) ss_nil) (ss_cons (sd_if (td_w (wd_or (td_cmp op_eq os_eq (pd_var (i := 1) rfl (.inl rfl)) pd_str (nomark _)) (wd_or1 (td_cmp op_eq os_eq (pd_var (i := 1) rfl (.inl rfl)) pd_str (nomark _))))) (ss_one (sd_ret (pd_glI rfl T.c_SHUT))) ss_nil) (ss_one (sd_ret (pd_var (i := 0) rfl (.inl rfl)))))))
def N_inside_after : List Str := ["inside", "letter"]
theorem sc_inside_after : FnScope N_inside_after ["inside", "letter"] (defScope s_inside_after) := ⟨rfl, rfl, rfl, by decide +kernel, rfl, by decide +kernel, by decide +kernel⟩
def b_inside_after : FS := (dSeq (dIfS (dB (dOp gEq (dVar 1) (dC (.str "i")))) (dRet (dC (.int 1))) dNext) (dSeq (dIfS (dB (dOp gEq (dVar 1) (dC (.str "o")))) (dRet (dC (.int 0))) dNext) (dRet (dVar 0))))
def m_inside_after : List D → M D := runD 2 b_inside_after
theorem ok_inside_after (T : Tx K mg) : Fn P W K mg base (clOf K) 1 "inside_after" ["inside", "letter"] m_inside_after := by
  refine fn_mk (N := N_inside_after) (s := b_inside_after) T.d_inside_after T.g_inside_after sc_inside_after rfl (fun _ _ _ _ _ _ us hl => match us, hl with | [_, _], _ => rfl) fun fd cdv A outer s0 H E hr => ?_
  exact (ss_cons (sd_if (td_cmp op_eq os_eq (pd_var (i := 1) rfl (.inl rfl)) pd_str (nomark _)) (ss_one (sd_ret pd_int)) ss_nil) (ss_cons (sd_if (td_cmp op_eq os_eq (pd_var (i := 1) rfl (.inl rfl)) pd_str (nomark _)) (ss_one (sd_ret pd_int)) ss_nil) (ss_one (sd_ret (pd_var (i := 0) rfl (.inl rfl))))))
def N_moved_level : List Str := ["lock", "level", "letter", "amount"]
theorem sc_moved_level : FnScope N_moved_level ["lock", "level", "letter", "amount"] (defScope s_moved_level) := ⟨rfl, rfl, rfl, by decide +kernel, rfl, by decide +kernel, by decide +kernel⟩
def b_moved_level : FS := (dSeq (dIfS (dB (dOp gEq (dVar 2) (dC (.str "f")))) (dRet (dCall gMin2 (dCons (dFld 0 0 (dVar 0)) (dCons (dOp gAdd (dVar 1) (dVar 3)) dNil)))) dNext) (dSeq (dIfS (dB (dOp gEq (dVar 2) (dC (.str "e")))) (dRet (dCall gMax2 (dCons (dC (.int 0)) (dCons (dOp gSub (dVar 1) (dVar 3)) dNil)))) dNext) (dSeq (dIfS (dB (dOp gEq (dVar 2) (dC (.str "U")))) (dRet (dFld 0 0 (dVar 0))) dNext) (dSeq (dIfS (dB (dOp gEq (dVar 2) (dC (.str "D")))) (dRet (dC (.int 0))) dNext) (dRet (dVar 1))))))
def m_moved_level : List D → M D := runD 4 b_moved_level
theorem ok_moved_level (T : Tx K mg) : Fn P W K mg base (clOf K) 1 "moved_level" ["lock", "level", "letter", "amount"] m_moved_level := by
  refine fn_mk (N := N_moved_level) (s := b_moved_level) T.d_moved_level T.g_moved_level sc_moved_level rfl (fun _ _ _ _ _ _ us hl => match us, hl with | [_, _, _, _], _ => rfl) fun fd cdv A outer s0 H E hr => ?_
  exact (ss_cons (sd_if (td_cmp op_eq os_eq (pd_var (i := 2) rfl (.inl rfl)) pd_str (nomark _)) (ss_one (sd_ret (pd_callB (call_min2 rfl) cs_min2 rfl T.b_min (by decide +kernel) (ad_cons (pd_fld (c := 0) (i := 0) T.k_Lock T.n_Lock_lift (show List.Nodup _ from fl_nd_Lock) rfl (pd_var (i := 0) rfl (.inl rfl))) (ad_cons (pd_op ho_add os_add (pd_var (i := 1) rfl (.inl rfl)) (pd_var (i := 3) rfl (.inl rfl))) ad_nil))))) ss_nil) (ss_cons (sd_if (td_cmp op_eq os_eq (pd_var (i := 2) rfl (.inl rfl)) pd_str (nomark _)) (ss_one (sd_ret (pd_callB (call_max2 rfl) cs_max2 rfl T.b_max (by decide +kernel) (ad_cons pd_int (ad_cons (pd_op op_sub os_sub (pd_var (i := 1) rfl (.inl rfl)) (pd_var (i := 3) rfl (.inl rfl))) ad_nil))))) ss_nil) (ss_cons (sd_if (td_cmp op_eq os_eq (pd_var (i := 2) rfl (.inl rfl)) pd_str (nomark _)) (ss_one (sd_ret (pd_fld (c := 0) (i := 0) T.k_Lock T.n_Lock_lift (show List.Nodup _ from fl_nd_Lock) rfl (pd_var (i := 0) rfl (.inl rfl))))) ss_nil) (ss_cons (sd_if (td_cmp op_eq os_eq (pd_var (i := 2) rfl (.inl rfl)) pd_str (nomark _)) (ss_one (sd_ret pd_int)) ss_nil) (ss_one (sd_ret (pd_var (i := 1) rfl (.inl rfl))))))))
def N_amounts : List Str := ["lock", "letter"]
theorem sc_amounts : FnScope N_amounts ["lock", "letter"] (defScope s_amounts) := ⟨rfl, rfl, rfl, by decide +kernel, rfl, by decide +kernel, by decide +kernel⟩
def b_amounts : FS := (dSeq (dIfS (dB (dOp gEq (dVar 1) (dC (.str "f")))) (dRet (dFld 0 1 (dVar 0))) dNext) (dSeq (dIfS (dB (dOp gEq (dVar 1) (dC (.str "e")))) (dRet (dFld 0 2 (dVar 0))) dNext) (dRet (dTup (dCons (dC (.int 0)) (dCons (dC (.int 0)) dNil))))))
def m_amounts : List D → M D := runD 2 b_amounts
theorem ok_amounts (T : Tx K mg) : Fn P W K mg base (clOf K) 1 "amounts" ["lock", "letter"] m_amounts := by
  refine fn_mk (N := N_amounts) (s := b_amounts) T.d_amounts T.g_amounts sc_amounts rfl (fun _ _ _ _ _ _ us hl => match us, hl with | [_, _], _ => rfl) fun fd cdv A outer s0 H E hr => ?_
  exact (ss_cons (sd_if (td_cmp op_eq os_eq (pd_var (i := 1) rfl (.inl rfl)) pd_str (nomark _)) (ss_one (sd_ret (pd_fld (c := 0) (i := 1) T.k_Lock T.n_Lock_fill (show List.Nodup _ from fl_nd_Lock) rfl (pd_var (i := 0) rfl (.inl rfl))))) ss_nil) (ss_cons (sd_if (td_cmp op_eq os_eq (pd_var (i := 1) rfl (.inl rfl)) pd_str (nomark _)) (ss_one (sd_ret (pd_fld (c := 0) (i := 2) T.k_Lock T.n_Lock_empty (show List.Nodup _ from fl_nd_Lock) rfl (pd_var (i := 0) rfl (.inl rfl))))) ss_nil) (ss_one (sd_ret (pd_tup (ad_cons pd_int (ad_cons pd_int ad_nil)))))))
def N_most_leak : List Str := ["lock", "gate"]
theorem sc_most_leak : FnScope N_most_leak ["lock", "gate"] (defScope s_most_leak) := ⟨rfl, rfl, rfl, by decide +kernel, rfl, by decide +kernel, by decide +kernel⟩
def b_most_leak : FS := (dSeq (dIfS (dB (dOp gEq (dVar 1) (dC (.int 0)))) (dRet (dFld 0 3 (dVar 0))) dNext) (dRet (dC (.int 0))))
def m_most_leak : List D → M D := runD 2 b_most_leak
theorem ok_most_leak (T : Tx K mg) : Fn P W K mg base (clOf K) 1 "most_leak" ["lock", "gate"] m_most_leak := by
  refine fn_mk (N := N_most_leak) (s := b_most_leak) T.d_most_leak T.g_most_leak sc_most_leak rfl (fun _ _ _ _ _ _ us hl => match us, hl with | [_, _], _ => rfl) fun fd cdv A outer s0 H E hr => ?_
  exact (ss_cons (sd_if (td_cmp op_eq os_eq (pd_var (i := 1) rfl (.inl rfl)) (pd_glI rfl T.c_SHUT) (nomark _)) (ss_one (sd_ret (pd_fld (c := 0) (i := 3) T.k_Lock T.n_Lock_leak (show List.Nodup _ from fl_nd_Lock) rfl (pd_var (i := 0) rfl (.inl rfl))))) ss_nil) (ss_one (sd_ret pd_int)))
def N_first_state : List Str := ["lock"]
theorem sc_first_state : FnScope N_first_state ["lock"] (defScope s_first_state) := ⟨rfl, rfl, rfl, by decide +kernel, rfl, by decide +kernel, by decide +kernel⟩
def b_first_state : FS := (dRet (dTup (dCons (dC (.int 0)) (dCons (dC (.int 0)) (dCons (dC (.int 0)) (dCons (dFld 0 0 (dVar 0)) dNil))))))
def m_first_state : List D → M D := runD 1 b_first_state
theorem ok_first_state (T : Tx K mg) : Fn P W K mg base (clOf K) 1 "first_state" ["lock"] m_first_state := by
  refine fn_mk (N := N_first_state) (s := b_first_state) T.d_first_state T.g_first_state sc_first_state rfl (fun _ _ _ _ _ _ us hl => match us, hl with | [_], _ => rfl) fun fd cdv A outer s0 H E hr => ?_
  exact (ss_one (sd_ret (pd_tup (ad_cons (pd_glI rfl T.c_SHUT) (ad_cons pd_int (ad_cons pd_int (ad_cons (pd_fld (c := 0) (i := 0) T.k_Lock T.n_Lock_lift (show List.Nodup _ from fl_nd_Lock) rfl (pd_var (i := 0) rfl (.inl rfl))) ad_nil)))))))
def N_next_state : List Str := ["lock", "state", "letter", "gate", "inside", "least", "greatest", "low", "high", "after"]
theorem sc_next_state : FnScope N_next_state ["lock", "state", "letter"] (defScope s_next_state) := ⟨rfl, rfl, rfl, by decide +kernel, rfl, by decide +kernel, by decide +kernel⟩
def b_next_state : FS := (dSeq (dAsg (gTp 4 (gCn (gNm 3) (gCn (gNm 4) (gCn (gNm 5) (gCn (gNm 6) gNl))))) (dVar 1)) (dSeq (dIfS (dNot (dB (dFn m_is_allowed (dCons (dVar 0) (dCons (dVar 3) (dCons (dVar 4) (dCons (dVar 5) (dCons (dVar 2) dNil)))))))) (dRet (dC .non)) dNext) (dSeq (dIfS (dNot (dB (dFn m_is_allowed (dCons (dVar 0) (dCons (dVar 3) (dCons (dVar 4) (dCons (dVar 6) (dCons (dVar 2) dNil)))))))) (dRet (dC .non)) dNext) (dSeq (dAsg (gTp 2 (gCn (gNm 7) (gCn (gNm 8) gNl))) (dFn m_amounts (dCons (dVar 0) (dCons (dVar 2) dNil)))) (dSeq (dIfS (dB (dOp gEq (dVar 2) (dC (.str "e")))) (dPar 7 8 (dCons (dVar 8) (dCons (dVar 7) dNil))) dNext) (dSeq (dSet 9 (dFn m_gate_after (dCons (dVar 3) (dCons (dVar 2) dNil)))) (dSeq (dSet 5 (dCall gMax2 (dCons (dC (.int 0)) (dCons (dOp gSub (dFn m_moved_level (dCons (dVar 0) (dCons (dVar 5) (dCons (dVar 2) (dCons (dVar 7) dNil))))) (dFn m_most_leak (dCons (dVar 0) (dCons (dVar 9) dNil)))) dNil)))) (dSeq (dSet 6 (dFn m_moved_level (dCons (dVar 0) (dCons (dVar 6) (dCons (dVar 2) (dCons (dVar 8) dNil)))))) (dRet (dTup (dCons (dVar 9) (dCons (dFn m_inside_after (dCons (dVar 4) (dCons (dVar 2) dNil))) (dCons (dVar 5) (dCons (dVar 6) dNil))))))))))))))
def m_next_state : List D → M D := runD 10 b_next_state
theorem ok_next_state (T : Tx K mg) (F_inside_after : Fn P W K mg base (clOf K) 1 "inside_after" ["inside", "letter"] m_inside_after) (F_moved_level : Fn P W K mg base (clOf K) 1 "moved_level" ["lock", "level", "letter", "amount"] m_moved_level) (F_most_leak : Fn P W K mg base (clOf K) 1 "most_leak" ["lock", "gate"] m_most_leak) (F_gate_after : Fn P W K mg base (clOf K) 1 "gate_after" ["gate", "letter"] m_gate_after) (F_amounts : Fn P W K mg base (clOf K) 1 "amounts" ["lock", "letter"] m_amounts) (F_is_allowed : Fn P W K mg base (clOf K) 1 "is_allowed" ["lock", "gate", "inside", "level", "letter"] m_is_allowed) : Fn P W K mg base (clOf K) 2 "next_state" ["lock", "state", "letter"] m_next_state := by
  refine fn_mk (N := N_next_state) (s := b_next_state) T.d_next_state T.g_next_state sc_next_state rfl (fun _ _ _ _ _ _ us hl => match us, hl with | [_, _, _], _ => rfl) fun fd cdv A outer s0 H E hr => ?_
  exact (ss_cons (sd_asg (pd_var (i := 1) rfl (.inl rfl)) (gd_tup rfl (gs_cons (gd_name (i := 3) sc_next_state.nd rfl (Or.inl rfl)) (gs_cons (gd_name (i := 4) sc_next_state.nd rfl (Or.inl rfl)) (gs_cons (gd_name (i := 5) sc_next_state.nd rfl (Or.inl rfl)) (gs_cons (gd_name (i := 6) sc_next_state.nd rfl (Or.inl rfl)) gs_nil)))))) (ss_cons (sd_if (td_not (td_val (pd_fn F_is_allowed hr rfl (ad_cons (pd_var (i := 0) rfl (.inl rfl)) (ad_cons (pd_var (i := 3) rfl (.inl rfl)) (ad_cons (pd_var (i := 4) rfl (.inl rfl)) (ad_cons (pd_var (i := 5) rfl (.inl rfl)) (ad_cons (pd_var (i := 2) rfl (.inl rfl)) ad_nil))))) (dCons_len (dCons_len (dCons_len (dCons_len (dCons_len (fun _ _ _ h => dNil_len h)))))) rfl))) (ss_one (sd_ret pd_non)) ss_nil) (ss_cons (sd_if (td_not (td_val (pd_fn F_is_allowed hr rfl (ad_cons (pd_var (i := 0) rfl (.inl rfl)) (ad_cons (pd_var (i := 3) rfl (.inl rfl)) (ad_cons (pd_var (i := 4) rfl (.inl rfl)) (ad_cons (pd_var (i := 6) rfl (.inl rfl)) (ad_cons (pd_var (i := 2) rfl (.inl rfl)) ad_nil))))) (dCons_len (dCons_len (dCons_len (dCons_len (dCons_len (fun _ _ _ h => dNil_len h)))))) rfl))) (ss_one (sd_ret pd_non)) ss_nil) (ss_cons (sd_asg (pd_fn F_amounts hr rfl (ad_cons (pd_var (i := 0) rfl (.inl rfl)) (ad_cons (pd_var (i := 2) rfl (.inl rfl)) ad_nil)) (dCons_len (dCons_len (fun _ _ _ h => dNil_len h))) rfl) (gd_tup rfl (gs_cons (gd_name (i := 7) sc_next_state.nd rfl (Or.inl rfl)) (gs_cons (gd_name (i := 8) sc_next_state.nd rfl (Or.inl rfl)) gs_nil)))) (ss_cons (sd_if (td_cmp op_eq os_eq (pd_var (i := 2) rfl (.inl rfl)) pd_str (nomark _)) (ss_one (sd_par (i := 7) (j := 8) (x := "low") (y := "high") rfl sc_next_state.nd rfl rfl (by decide) rfl rfl (ad_cons (pd_var (i := 8) rfl (.inl rfl)) (ad_cons (pd_var (i := 7) rfl (.inl rfl)) ad_nil)) fun t ha => ps_par (by rfl) sc_next_state.nd rfl rfl (by decide) rfl rfl ha (by rfl))) ss_nil) (ss_cons (sd_set (i := 9) sc_next_state.nd rfl (Or.inl rfl) (pd_fn F_gate_after hr rfl (ad_cons (pd_var (i := 3) rfl (.inl rfl)) (ad_cons (pd_var (i := 2) rfl (.inl rfl)) ad_nil)) (dCons_len (dCons_len (fun _ _ _ h => dNil_len h))) rfl)) (ss_cons (sd_set (i := 5) sc_next_state.nd rfl (Or.inl rfl) (pd_callB (call_max2 rfl) cs_max2 rfl T.b_max (by decide +kernel) (ad_cons pd_int (ad_cons (pd_op op_sub os_sub (pd_fn F_moved_level hr rfl (ad_cons (pd_var (i := 0) rfl (.inl rfl)) (ad_cons (pd_var (i := 5) rfl (.inl rfl)) (ad_cons (pd_var (i := 2) rfl (.inl rfl)) (ad_cons (pd_var (i := 7) rfl (.inl rfl)) ad_nil)))) (dCons_len (dCons_len (dCons_len (dCons_len (fun _ _ _ h => dNil_len h))))) rfl) (pd_fn F_most_leak hr rfl (ad_cons (pd_var (i := 0) rfl (.inl rfl)) (ad_cons (pd_var (i := 9) rfl (.inl rfl)) ad_nil)) (dCons_len (dCons_len (fun _ _ _ h => dNil_len h))) rfl)) ad_nil)))) (ss_cons (sd_set (i := 6) sc_next_state.nd rfl (Or.inl rfl) (pd_fn F_moved_level hr rfl (ad_cons (pd_var (i := 0) rfl (.inl rfl)) (ad_cons (pd_var (i := 6) rfl (.inl rfl)) (ad_cons (pd_var (i := 2) rfl (.inl rfl)) (ad_cons (pd_var (i := 8) rfl (.inl rfl)) ad_nil)))) (dCons_len (dCons_len (dCons_len (dCons_len (fun _ _ _ h => dNil_len h))))) rfl)) (ss_one (sd_ret (pd_tup (ad_cons (pd_var (i := 9) rfl (.inl rfl)) (ad_cons (pd_fn F_inside_after hr rfl (ad_cons (pd_var (i := 4) rfl (.inl rfl)) (ad_cons (pd_var (i := 2) rfl (.inl rfl)) ad_nil)) (dCons_len (dCons_len (fun _ _ _ h => dNil_len h))) rfl) (ad_cons (pd_var (i := 5) rfl (.inl rfl)) (ad_cons (pd_var (i := 6) rfl (.inl rfl)) ad_nil)))))))))))))))
def N_unsafe_at : List Str := ["lock", "row", "state", "at", "letter"]
theorem sc_unsafe_at : FnScope N_unsafe_at ["lock", "row"] (defScope s_unsafe_at) := ⟨rfl, rfl, rfl, by decide +kernel, rfl, by decide +kernel, by decide +kernel⟩
def b_unsafe_at : FS := (dSeq (dSet 2 (dFn m_first_state (dCons (dVar 0) dNil))) (dSeq (dFor (gTp 2 (gCn (gNm 3) (gCn (gNm 4) gNl))) (dItA gEnumS (dCons (dVar 1) dNil)) (dSeq (dSet 2 (dFn m_next_state (dCons (dVar 0) (dCons (dVar 2) (dCons (dVar 4) dNil))))) (dIfS (dB (dOp gIsN (dVar 2) (dC .non))) (dRet (dOp gAdd (dVar 3) (dC (.int 1)))) dNext))) (dRet (dC (.int 0)))))
def m_unsafe_at : List D → M D := runD 5 b_unsafe_at
theorem ok_unsafe_at (T : Tx K mg) (F_next_state : Fn P W K mg base (clOf K) 2 "next_state" ["lock", "state", "letter"] m_next_state) (F_first_state : Fn P W K mg base (clOf K) 1 "first_state" ["lock"] m_first_state) : Fn P W K mg base (clOf K) 3 "unsafe_at" ["lock", "row"] m_unsafe_at := by
  refine fn_mk (N := N_unsafe_at) (s := b_unsafe_at) T.d_unsafe_at T.g_unsafe_at sc_unsafe_at rfl (fun _ _ _ _ _ _ us hl => match us, hl with | [_, _], _ => rfl) fun fd cdv A outer s0 H E hr => ?_
  exact (ss_cons (sd_set (i := 2) sc_unsafe_at.nd rfl (Or.inl rfl) (pd_fn F_first_state hr rfl (ad_cons (pd_var (i := 0) rfl (.inl rfl)) ad_nil) (dCons_len (fun _ _ _ h => dNil_len h)) rfl)) (ss_cons (sd_for PassesOwn.never rfl (id_enumS rfl T.b_enumerate (ad_cons (pd_var (i := 1) rfl (.inl rfl)) ad_nil)) (gd_tup rfl (gs_cons (gd_name (i := 3) sc_unsafe_at.nd rfl (Or.inl rfl)) (gs_cons (gd_name (i := 4) sc_unsafe_at.nd rfl (Or.inl rfl)) gs_nil))) (ss_cons (sd_set (i := 2) sc_unsafe_at.nd rfl (Or.inl rfl) (pd_fn F_next_state hr rfl (ad_cons (pd_var (i := 0) rfl (.inl rfl)) (ad_cons (pd_var (i := 2) rfl (.inl rfl)) (ad_cons (pd_var (i := 4) rfl (.inl rfl)) ad_nil))) (dCons_len (dCons_len (dCons_len (fun _ _ _ h => dNil_len h)))) rfl)) (ss_one (sd_if (td_cmp op_isN os_isN (pd_var (i := 2) rfl (.inl rfl)) pd_non (nomark _)) (ss_one (sd_ret (pd_op ho_add os_add (pd_var (i := 3) rfl (.inl rfl)) pd_int))) ss_nil)))) (ss_one (sd_ret pd_int))))
def N_gates_of : List Str := ["row", "gates", "letter"]
theorem sc_gates_of : FnScope N_gates_of ["row"] (defScope s_gates_of) := ⟨rfl, rfl, rfl, by decide +kernel, rfl, by decide +kernel, by decide +kernel⟩
def b_gates_of : FS := (dSeq (dSetO 1 (dLst (dCons (dC (.int 0)) dNil))) (dSeq (dFor (gNm 2) (dIt asAny (dVar 0)) (dApp 1 (dFn m_gate_after (dCons (dOp gIx (dOwn 1) (dUn gNeg (dC (.int 1)))) (dCons (dVar 2) dNil))))) (dFrz 1 (dRet (dVar 1)))))
def m_gates_of : List D → M D := runD 3 b_gates_of
theorem ok_gates_of (T : Tx K mg) (F_gate_after : Fn P W K mg base (clOf K) 1 "gate_after" ["gate", "letter"] m_gate_after) : Fn P W K mg base (clOf K) 2 "gates_of" ["row"] m_gates_of := by
  refine fn_mk (N := N_gates_of) (s := b_gates_of) T.d_gates_of T.g_gates_of sc_gates_of rfl (fun _ _ _ _ _ _ us hl => match us, hl with | [_], _ => rfl) fun fd cdv A outer s0 H E hr => ?_
  exact (ss_cons (sd_setO (i := 1) sc_gates_of.nd rfl (Or.inl rfl) (od_lst (ad_cons (pd_glI rfl T.c_SHUT) ad_nil))) (ss_cons (sd_for PassesOwn.never rfl (id_any (pd_var (i := 0) rfl (.inl rfl))) (gd_name (i := 2) sc_gates_of.nd rfl (Or.inl rfl)) (ss_one (sd_app (i := 1) rfl (.inl rfl) (pd_fn F_gate_after hr rfl (ad_cons (pd_ix ix_seq os_ix (pd_own (i := 1) rfl (.inl rfl)) (pd_un un_neg os_neg pd_int) (fun _ _ => rfl)) (ad_cons (pd_var (i := 2) rfl (.inl rfl)) ad_nil)) (dCons_len (dCons_len (fun _ _ _ h => dNil_len h))) rfl)))) (ss_one (sd_frz 1 (sd_ret (pd_var (i := 1) rfl (.inl rfl)))))))
def N_sides_of : List Str := ["way"]
theorem sc_sides_of : FnScope N_sides_of ["way"] (defScope s_sides_of) := ⟨rfl, rfl, rfl, by decide +kernel, rfl, by decide +kernel, by decide +kernel⟩
def b_sides_of : FS := (dSeq (dIfS (dB (dOp gEq (dVar 0) (dC (.str "up")))) (dRet (dTup (dCons (dC (.int 2)) (dCons (dC (.int 1)) dNil)))) dNext) (dRet (dTup (dCons (dC (.int 1)) (dCons (dC (.int 2)) dNil)))))
def m_sides_of : List D → M D := runD 1 b_sides_of
theorem ok_sides_of (T : Tx K mg) : Fn P W K mg base (clOf K) 1 "sides_of" ["way"] m_sides_of := by
  refine fn_mk (N := N_sides_of) (s := b_sides_of) T.d_sides_of T.g_sides_of sc_sides_of rfl (fun _ _ _ _ _ _ us hl => match us, hl with | [_], _ => rfl) fun fd cdv A outer s0 H E hr => ?_
  exact (ss_cons (sd_if (td_cmp op_eq os_eq (pd_var (i := 0) rfl (.inl rfl)) pd_str (nomark _)) (ss_one (sd_ret (pd_tup (ad_cons (pd_glI rfl T.c_LOWER) (ad_cons (pd_glI rfl T.c_UPPER) ad_nil))))) ss_nil) (ss_one (sd_ret (pd_tup (ad_cons (pd_glI rfl T.c_UPPER) (ad_cons (pd_glI rfl T.c_LOWER) ad_nil))))))
def N_check_whole : List Str := ["lock", "row", "way", "at", "gates", "enter", "leave"]
theorem sc_check_whole : FnScope N_check_whole ["lock", "row", "way"] (defScope s_check_whole) := ⟨rfl, rfl, rfl, by decide +kernel, rfl, by decide +kernel, by decide +kernel⟩
def b_check_whole : FS := (dSeq (dSet 3 (dFn m_unsafe_at (dCons (dVar 0) (dCons (dVar 1) dNil)))) (dSeq (dIfS (dB (dOp gGt (dVar 3) (dC (.int 0)))) dNo dNext) (dSeq (dSet 4 (dFn m_gates_of (dCons (dVar 1) dNil))) (dSeq (dIfS (dB (dOp gNe (dOp gIx (dVar 4) (dUn gNeg (dC (.int 1)))) (dC (.int 0)))) dNo dNext) (dSeq (dIfS (dOr (dB (dOp gNe (dBm gCount (dVar 1) (dCons (dC (.str "i")) dNil)) (dC (.int 1)))) (dB (dOp gNe (dBm gCount (dVar 1) (dCons (dC (.str "o")) dNil)) (dC (.int 1))))) dNo dNext) (dSeq (dAsg (gTp 2 (gCn (gNm 5) (gCn (gNm 6) gNl))) (dFn m_sides_of (dCons (dVar 2) dNil))) (dIfS (dOr (dB (dOp gNe (dOp gIx (dVar 4) (dBm gIndex (dVar 1) (dCons (dC (.str "i")) dNil))) (dVar 5))) (dB (dOp gNe (dOp gIx (dVar 4) (dBm gIndex (dVar 1) (dCons (dC (.str "o")) dNil))) (dVar 6)))) dNo dNext)))))))
def m_check_whole : List D → M D := runD 7 b_check_whole
theorem ok_check_whole (T : Tx K mg) (F_sides_of : Fn P W K mg base (clOf K) 1 "sides_of" ["way"] m_sides_of) (F_gates_of : Fn P W K mg base (clOf K) 2 "gates_of" ["row"] m_gates_of) (F_unsafe_at : Fn P W K mg base (clOf K) 3 "unsafe_at" ["lock", "row"] m_unsafe_at) : Fn P W K mg base (clOf K) 4 "check_whole" ["lock", "row", "way"] m_check_whole := by
  refine fn_mk (N := N_check_whole) (s := b_check_whole) T.d_check_whole T.g_check_whole sc_check_whole rfl (fun _ _ _ _ _ _ us hl => match us, hl with | [_, _, _], _ => rfl) fun fd cdv A outer s0 H E hr => ?_
  exact (ss_cons (sd_set (i := 3) sc_check_whole.nd rfl (Or.inl rfl) (pd_fn F_unsafe_at hr rfl (ad_cons (pd_var (i := 0) rfl (.inl rfl)) (ad_cons (pd_var (i := 1) rfl (.inl rfl)) ad_nil)) (dCons_len (dCons_len (fun _ _ _ h => dNil_len h))) rfl)) (ss_cons (sd_if (td_cmp op_gt os_cmp (pd_var (i := 3) rfl (.inl rfl)) pd_int (nomark _)) (ss_one sd_no) ss_nil) (ss_cons (sd_set (i := 4) sc_check_whole.nd rfl (Or.inl rfl) (pd_fn F_gates_of hr rfl (ad_cons (pd_var (i := 1) rfl (.inl rfl)) ad_nil) (dCons_len (fun _ _ _ h => dNil_len h)) rfl)) (ss_cons (sd_if (td_cmp op_ne os_ne (pd_ix ix_seq os_ix (pd_var (i := 4) rfl (.inl rfl)) (pd_un un_neg os_neg pd_int) (fun _ _ => rfl)) (pd_glI rfl T.c_SHUT) (nomark _)) (ss_one sd_no) ss_nil) (ss_cons (sd_if (td_w (wd_or (td_cmp op_ne os_ne (pd_bmS PySem.F.plainAttrs_str PySem.F.slot_str_count PySem.F.type_str_count mt_count ms_count (pd_var (i := 1) rfl (.inl rfl)) (ad_cons pd_str ad_nil)) pd_int (nomark _)) (wd_or1 (td_cmp op_ne os_ne (pd_bmS PySem.F.plainAttrs_str PySem.F.slot_str_count PySem.F.type_str_count mt_count ms_count (pd_var (i := 1) rfl (.inl rfl)) (ad_cons pd_str ad_nil)) pd_int (nomark _))))) (ss_one sd_no) ss_nil) (ss_cons (sd_asg (pd_fn F_sides_of hr rfl (ad_cons (pd_var (i := 2) rfl (.inl rfl)) ad_nil) (dCons_len (fun _ _ _ h => dNil_len h)) rfl) (gd_tup rfl (gs_cons (gd_name (i := 5) sc_check_whole.nd rfl (Or.inl rfl)) (gs_cons (gd_name (i := 6) sc_check_whole.nd rfl (Or.inl rfl)) gs_nil)))) (ss_one (sd_if (td_w (wd_or (td_cmp op_ne os_ne (pd_ix ix_seq os_ix (pd_var (i := 4) rfl (.inl rfl)) (pd_bmS PySem.F.plainAttrs_str PySem.F.slot_str_index PySem.F.type_str_index mt_idx ms_index (pd_var (i := 1) rfl (.inl rfl)) (ad_cons pd_str ad_nil)) (fun _ _ => rfl)) (pd_var (i := 5) rfl (.inl rfl)) (nomark _)) (wd_or1 (td_cmp op_ne os_ne (pd_ix ix_seq os_ix (pd_var (i := 4) rfl (.inl rfl)) (pd_bmS PySem.F.plainAttrs_str PySem.F.slot_str_index PySem.F.type_str_index mt_idx ms_index (pd_var (i := 1) rfl (.inl rfl)) (ad_cons pd_str ad_nil)) (fun _ _ => rfl)) (pd_var (i := 6) rfl (.inl rfl)) (nomark _))))) (ss_one sd_no) ss_nil))))))))
def N_plain_whole : List Str := ["lock", "way", "low", "high"]
theorem sc_plain_whole : FnScope N_plain_whole ["lock", "way"] (defScope s_plain_whole) := ⟨rfl, rfl, rfl, by decide +kernel, rfl, by decide +kernel, by decide +kernel⟩
def b_plain_whole : FS := (dSeq (dSet 2 (dOp gMulA (dC (.str "e")) (dFld 0 0 (dVar 0)))) (dSeq (dSet 3 (dOp gMulA (dC (.str "f")) (dFld 0 0 (dVar 0)))) (dSeq (dIfS (dB (dOp gEq (dVar 1) (dC (.str "up")))) (dRet (dOp gAdd (dOp gAdd (dOp gAdd (dVar 2) (dC (.str "Did"))) (dVar 3)) (dC (.str "Uou")))) dNext) (dRet (dOp gAdd (dOp gAdd (dOp gAdd (dVar 3) (dC (.str "Uiu"))) (dVar 2)) (dC (.str "Dod")))))))
def m_plain_whole : List D → M D := runD 4 b_plain_whole
theorem ok_plain_whole (T : Tx K mg) : Fn P W K mg base (clOf K) 1 "plain_whole" ["lock", "way"] m_plain_whole := by
  refine fn_mk (N := N_plain_whole) (s := b_plain_whole) T.d_plain_whole T.g_plain_whole sc_plain_whole rfl (fun _ _ _ _ _ _ us hl => match us, hl with | [_, _], _ => rfl) fun fd cdv A outer s0 H E hr => ?_
  exact (ss_cons (sd_set (i := 2) sc_plain_whole.nd rfl (Or.inl rfl) (pd_op ho_mul os_mul pd_str (pd_fld (c := 0) (i := 0) T.k_Lock T.n_Lock_lift (show List.Nodup _ from fl_nd_Lock) rfl (pd_var (i := 0) rfl (.inl rfl))))) (ss_cons (sd_set (i := 3) sc_plain_whole.nd rfl (Or.inl rfl) (pd_op ho_mul os_mul pd_str (pd_fld (c := 0) (i := 0) T.k_Lock T.n_Lock_lift (show List.Nodup _ from fl_nd_Lock) rfl (pd_var (i := 0) rfl (.inl rfl))))) (ss_cons (sd_if (td_cmp op_eq os_eq (pd_var (i := 1) rfl (.inl rfl)) pd_str (nomark _)) (ss_one (sd_ret (pd_op ho_add os_add (pd_op ho_add os_add (pd_op ho_add os_add (pd_var (i := 2) rfl (.inl rfl)) pd_str) (pd_var (i := 3) rfl (.inl rfl))) pd_str))) ss_nil) (ss_one (sd_ret (pd_op ho_add os_add (pd_op ho_add os_add (pd_op ho_add os_add (pd_var (i := 3) rfl (.inl rfl)) pd_str) (pd_var (i := 2) rfl (.inl rfl))) pd_str))))))
def N_ship_after : List Str := ["ship", "gate", "letter", "way", "enter", "leave"]
theorem sc_ship_after : FnScope N_ship_after ["ship", "gate", "letter", "way"] (defScope s_ship_after) := ⟨rfl, rfl, rfl, by decide +kernel, rfl, by decide +kernel, by decide +kernel⟩
def b_ship_after : FS := (dSeq (dAsg (gTp 2 (gCn (gNm 4) (gCn (gNm 5) gNl))) (dFn m_sides_of (dCons (dVar 3) dNil))) (dSeq (dIfS (dB (dOp gEq (dVar 2) (dC (.str "i")))) (dRet (dIf (dAnd (dB (dOp gEq (dVar 0) (dC (.int 0)))) (dB (dOp gEq (dVar 1) (dVar 4)))) (dC (.int 1)) (dC .non))) dNext) (dSeq (dIfS (dB (dOp gEq (dVar 2) (dC (.str "o")))) (dRet (dIf (dAnd (dB (dOp gEq (dVar 0) (dC (.int 1)))) (dB (dOp gEq (dVar 1) (dVar 5)))) (dC (.int 2)) (dC .non))) dNext) (dRet (dVar 0)))))
def m_ship_after : List D → M D := runD 6 b_ship_after
theorem ok_ship_after (T : Tx K mg) (F_sides_of : Fn P W K mg base (clOf K) 1 "sides_of" ["way"] m_sides_of) : Fn P W K mg base (clOf K) 2 "ship_after" ["ship", "gate", "letter", "way"] m_ship_after := by
  refine fn_mk (N := N_ship_after) (s := b_ship_after) T.d_ship_after T.g_ship_after sc_ship_after rfl (fun _ _ _ _ _ _ us hl => match us, hl with | [_, _, _, _], _ => rfl) fun fd cdv A outer s0 H E hr => ?_
  exact (ss_cons (sd_asg (pd_fn F_sides_of hr rfl (ad_cons (pd_var (i := 3) rfl (.inl rfl)) ad_nil) (dCons_len (fun _ _ _ h => dNil_len h)) rfl) (gd_tup rfl (gs_cons (gd_name (i := 4) sc_ship_after.nd rfl (Or.inl rfl)) (gs_cons (gd_name (i := 5) sc_ship_after.nd rfl (Or.inl rfl)) gs_nil)))) (ss_cons (sd_if (td_cmp op_eq os_eq (pd_var (i := 2) rfl (.inl rfl)) pd_str (nomark _)) (ss_one (sd_ret (pd_if (td_w (wd_and (td_cmp op_eq os_eq (pd_var (i := 0) rfl (.inl rfl)) pd_int (nomark _)) (wd_and1 (td_cmp op_eq os_eq (pd_var (i := 1) rfl (.inl rfl)) (pd_var (i := 4) rfl (.inl rfl)) (nomark _))))) pd_int pd_non))) ss_nil) (ss_cons (sd_if (td_cmp op_eq os_eq (pd_var (i := 2) rfl (.inl rfl)) pd_str (nomark _)) (ss_one (sd_ret (pd_if (td_w (wd_and (td_cmp op_eq os_eq (pd_var (i := 0) rfl (.inl rfl)) pd_int (nomark _)) (wd_and1 (td_cmp op_eq os_eq (pd_var (i := 1) rfl (.inl rfl)) (pd_var (i := 5) rfl (.inl rfl)) (nomark _))))) pd_int pd_non))) ss_nil) (ss_one (sd_ret (pd_var (i := 0) rfl (.inl rfl)))))))
def N_shortest_whole : List Str := ["lock", "way", "front", "seen", "_", "found", "state", "ship", "row", "letter", "after", "done"]
theorem sc_shortest_whole : FnScope N_shortest_whole ["lock", "way"] (defScope s_shortest_whole) := ⟨rfl, rfl, rfl, by decide +kernel, rfl, by decide +kernel, by decide +kernel⟩
def b_shortest_whole : FS := (dSeq (dSet 2 (dLst (dCons (dTup (dCons (dFn m_first_state (dCons (dVar 0) dNil)) (dCons (dC (.int 0)) (dCons (dC (.str "")) dNil)))) dNil))) (dSeq (dDn1 3 (dTup (dCons (dFn m_first_state (dCons (dVar 0) dNil)) (dCons (dC (.int 0)) dNil))) (dC (.bl true))) (dSeq (dFor (gNm 4) (dItA rng1 (dCons (dOp gSub (dCall gLen (dCons (dFn m_plain_whole (dCons (dVar 0) (dCons (dVar 1) dNil))) dNil)) (dC (.int 1))) dNil)) (dSeq (dSetO 5 (dLst dNil)) (dSeq (dFor (gTp 3 (gCn (gNm 6) (gCn (gNm 7) (gCn (gNm 8) gNl)))) (dIt asAny (dCall gList (dCons (dVar 2) dNil))) (dFor (gNm 9) (dIt asAny (dC (.str "feUuDdiow"))) (dSeq (dSet 10 (dFn m_next_state (dCons (dVar 0) (dCons (dVar 6) (dCons (dVar 9) dNil))))) (dSeq (dSet 11 (dFn m_ship_after (dCons (dVar 7) (dCons (dOp gIx (dVar 6) (dC (.int 0))) (dCons (dVar 9) (dCons (dVar 1) dNil)))))) (dSeq (dIfS (dOr (dB (dOp gIsN (dVar 10) (dC .non))) (dOr (dB (dOp gIsN (dVar 11) (dC .non))) (dB (dOp gInDn (dTup (dCons (dVar 10) (dCons (dVar 11) dNil))) (dOwn 3))))) dCnt dNext) (dSeq (dIfS (dAnd (dB (dOp gEq (dOp gIx (dVar 10) (dC (.int 0))) (dC (.int 0)))) (dB (dOp gEq (dVar 11) (dC (.int 2))))) (dRet (dOp gAdd (dVar 8) (dVar 9))) dNext) (dSeq (dDn 3 (dC (.bl true)) (dTup (dCons (dVar 10) (dCons (dVar 11) dNil)))) (dApp 5 (dTup (dCons (dVar 10) (dCons (dVar 11) (dCons (dOp gAdd (dVar 8) (dVar 9)) dNil)))))))))))) (dFrz 5 (dSet 2 (dVar 5)))))) (dRet (dFn m_plain_whole (dCons (dVar 0) (dCons (dVar 1) dNil)))))))
def m_shortest_whole : List D → M D := runD 12 b_shortest_whole
theorem ok_shortest_whole (T : Tx K mg) (F_plain_whole : Fn P W K mg base (clOf K) 1 "plain_whole" ["lock", "way"] m_plain_whole) (F_ship_after : Fn P W K mg base (clOf K) 2 "ship_after" ["ship", "gate", "letter", "way"] m_ship_after) (F_next_state : Fn P W K mg base (clOf K) 2 "next_state" ["lock", "state", "letter"] m_next_state) (F_first_state : Fn P W K mg base (clOf K) 1 "first_state" ["lock"] m_first_state) : Fn P W K mg base (clOf K) 3 "shortest_whole" ["lock", "way"] m_shortest_whole := by
  refine fn_mk (N := N_shortest_whole) (s := b_shortest_whole) T.d_shortest_whole T.g_shortest_whole sc_shortest_whole rfl (fun _ _ _ _ _ _ us hl => match us, hl with | [_, _], _ => rfl) fun fd cdv A outer s0 H E hr => ?_
  exact (ss_cons (sd_set (i := 2) sc_shortest_whole.nd rfl (Or.inl rfl) (pd_lst (ad_cons (pd_tup (ad_cons (pd_fn F_first_state hr rfl (ad_cons (pd_var (i := 0) rfl (.inl rfl)) ad_nil) (dCons_len (fun _ _ _ h => dNil_len h)) rfl) (ad_cons pd_int (ad_cons pd_str ad_nil)))) ad_nil))) (ss_cons (sd_dn1 (i := 3) hr sc_shortest_whole.nd rfl (Or.inl rfl) (pd_tup (ad_cons (pd_fn F_first_state hr rfl (ad_cons (pd_var (i := 0) rfl (.inl rfl)) ad_nil) (dCons_len (fun _ _ _ h => dNil_len h)) rfl) (ad_cons pd_int ad_nil))) pd_bl) (ss_cons (sd_for PassesOwn.never rfl (id_rng1 rfl T.b_range (ad_cons (pd_op op_sub os_sub (pd_callB call_len cs_len rfl T.b_len (by decide +kernel) (ad_cons (pd_fn F_plain_whole hr rfl (ad_cons (pd_var (i := 0) rfl (.inl rfl)) (ad_cons (pd_var (i := 1) rfl (.inl rfl)) ad_nil)) (dCons_len (dCons_len (fun _ _ _ h => dNil_len h))) rfl) ad_nil)) pd_int) ad_nil)) (gd_name (i := 4) sc_shortest_whole.nd rfl (Or.inl rfl)) (ss_cons (sd_setO (i := 5) sc_shortest_whole.nd rfl (Or.inl rfl) (od_lst ad_nil)) (ss_cons (sd_for PassesOwn.never rfl (id_any (pd_callTy call_list_of cs_list rfl T.b_list (by decide +kernel) (ad_cons (pd_var (i := 2) rfl (.inl rfl)) ad_nil))) (gd_tup rfl (gs_cons (gd_name (i := 6) sc_shortest_whole.nd rfl (Or.inl rfl)) (gs_cons (gd_name (i := 7) sc_shortest_whole.nd rfl (Or.inl rfl)) (gs_cons (gd_name (i := 8) sc_shortest_whole.nd rfl (Or.inl rfl)) gs_nil)))) (ss_one (sd_for PassesOwn.never rfl (id_any (pd_glS rfl T.c_LETTERS)) (gd_name (i := 9) sc_shortest_whole.nd rfl (Or.inl rfl)) (ss_cons (sd_set (i := 10) sc_shortest_whole.nd rfl (Or.inl rfl) (pd_fn F_next_state hr rfl (ad_cons (pd_var (i := 0) rfl (.inl rfl)) (ad_cons (pd_var (i := 6) rfl (.inl rfl)) (ad_cons (pd_var (i := 9) rfl (.inl rfl)) ad_nil))) (dCons_len (dCons_len (dCons_len (fun _ _ _ h => dNil_len h)))) rfl)) (ss_cons (sd_set (i := 11) sc_shortest_whole.nd rfl (Or.inl rfl) (pd_fn F_ship_after hr rfl (ad_cons (pd_var (i := 7) rfl (.inl rfl)) (ad_cons (pd_ix ix_seq os_ix (pd_var (i := 6) rfl (.inl rfl)) pd_int (fun _ _ => rfl)) (ad_cons (pd_var (i := 9) rfl (.inl rfl)) (ad_cons (pd_var (i := 1) rfl (.inl rfl)) ad_nil)))) (dCons_len (dCons_len (dCons_len (dCons_len (fun _ _ _ h => dNil_len h))))) rfl)) (ss_cons (sd_if (td_w (wd_or (td_cmp op_isN os_isN (pd_var (i := 10) rfl (.inl rfl)) pd_non (nomark _)) (wd_or (td_cmp op_isN os_isN (pd_var (i := 11) rfl (.inl rfl)) pd_non (nomark _)) (wd_or1 (td_cmp (op_inDn hr) os_inDn (pd_tup (ad_cons (pd_var (i := 10) rfl (.inl rfl)) (ad_cons (pd_var (i := 11) rfl (.inl rfl)) ad_nil))) (pd_own (i := 3) rfl (.inl rfl)) rfl))))) (ss_one sd_cnt) ss_nil) (ss_cons (sd_if (td_w (wd_and (td_cmp op_eq os_eq (pd_ix ix_seq os_ix (pd_var (i := 10) rfl (.inl rfl)) pd_int (fun _ _ => rfl)) (pd_glI rfl T.c_SHUT) (nomark _)) (wd_and1 (td_cmp op_eq os_eq (pd_var (i := 11) rfl (.inl rfl)) pd_int (nomark _))))) (ss_one (sd_ret (pd_op ho_add os_add (pd_var (i := 8) rfl (.inl rfl)) (pd_var (i := 9) rfl (.inl rfl))))) ss_nil) (ss_cons (sd_dn (i := 3) hr rfl (.inl rfl) pd_bl (pd_tup (ad_cons (pd_var (i := 10) rfl (.inl rfl)) (ad_cons (pd_var (i := 11) rfl (.inl rfl)) ad_nil)))) (ss_one (sd_app (i := 5) rfl (.inl rfl) (pd_tup (ad_cons (pd_var (i := 10) rfl (.inl rfl)) (ad_cons (pd_var (i := 11) rfl (.inl rfl)) (ad_cons (pd_op ho_add os_add (pd_var (i := 8) rfl (.inl rfl)) (pd_var (i := 9) rfl (.inl rfl))) ad_nil)))))))))))))) (ss_one (sd_frz 5 (sd_set (i := 2) sc_shortest_whole.nd rfl (Or.inl rfl) (pd_var (i := 5) rfl (.inl rfl)))))))) (ss_one (sd_ret (pd_fn F_plain_whole hr rfl (ad_cons (pd_var (i := 0) rfl (.inl rfl)) (ad_cons (pd_var (i := 1) rfl (.inl rfl)) ad_nil)) (dCons_len (dCons_len (fun _ _ _ h => dNil_len h))) rfl))))))
def N__law_pool : List Str := ["script", "greats", "smalls", "x"]
theorem sc__law_pool : FnScope N__law_pool ["script"] (defScope s__law_pool) := ⟨rfl, rfl, rfl, by decide +kernel, rfl, by decide +kernel, by decide +kernel⟩
def b__law_pool : FS := (dSeq (dSetO 1 (dLc 3 (dIt asAny (dTo (dVar 0) 63)) (dB (dOp gGe (dCall gAbs (dCons (dVar 3) dNil)) (dOp gPow (dC (.int 10)) (dC (.int 18))))) (dOp gSub (dCall gAbs (dCons (dVar 3) dNil)) (dOp gPow (dC (.int 10)) (dC (.int 18)))))) (dSeq (dSetO 2 (dLc 3 (dIt asAny (dTo (dVar 0) 63)) (dB (dOp gLt (dCall gAbs (dCons (dVar 3) dNil)) (dOp gPow (dC (.int 10)) (dC (.int 18))))) (dCall gAbs (dCons (dVar 3) dNil)))) (dPool 1 2)))
def m__law_pool : List D → M D := runD 4 b__law_pool
theorem ok__law_pool (T : Tx K mg) : Fn P W K mg base (clOf K) 1 "_law_pool" ["script"] m__law_pool := by
  refine fn_mk (N := N__law_pool) (s := b__law_pool) T.d__law_pool T.g__law_pool sc__law_pool rfl (fun _ _ _ _ _ _ us hl => match us, hl with | [_], _ => rfl) fun fd cdv A outer s0 H E hr => ?_
  exact (ss_cons (sd_setLcIf (i := 3) (j := 1) rfl sc__law_pool.nd rfl rfl (sw_true rfl rfl rfl (by decide +kernel)) (id_any (pd_to (pd_var (i := 0) rfl (.inl rfl)))) (blkOk_by (N := N__law_pool) (sc := defScope s__law_pool) (by decide +kernel)) (fun _ _ _ _ _ => pg_name (i := 3) sc__law_pool.nd rfl (Or.inl rfl)) (fun _ _ _ _ _ => (td_cmp op_ge os_cmp (pd_callB call_abs cs_abs rfl T.b_abs (by decide +kernel) (ad_cons (pd_var (i := 3) rfl (.inl rfl)) ad_nil)) (pd_op op_pow os_pow pd_int pd_int) (nomark _))) (fun _ _ _ _ _ => (pd_op op_sub os_sub (pd_callB call_abs cs_abs rfl T.b_abs (by decide +kernel) (ad_cons (pd_var (i := 3) rfl (.inl rfl)) ad_nil)) (pd_op op_pow os_pow pd_int pd_int)))) (ss_cons (sd_setLcIf (i := 3) (j := 2) rfl sc__law_pool.nd rfl rfl (sw_true rfl rfl rfl (by decide +kernel)) (id_any (pd_to (pd_var (i := 0) rfl (.inl rfl)))) (blkOk_by (N := N__law_pool) (sc := defScope s__law_pool) (by decide +kernel)) (fun _ _ _ _ _ => pg_name (i := 3) sc__law_pool.nd rfl (Or.inl rfl)) (fun _ _ _ _ _ => (td_cmp op_lt os_cmp (pd_callB call_abs cs_abs rfl T.b_abs (by decide +kernel) (ad_cons (pd_var (i := 3) rfl (.inl rfl)) ad_nil)) (pd_op op_pow os_pow pd_int pd_int) (nomark _))) (fun _ _ _ _ _ => (pd_callB call_abs cs_abs rfl T.b_abs (by decide +kernel) (ad_cons (pd_var (i := 3) rfl (.inl rfl)) ad_nil)))) (ss_one (sd_pool (i := 1) (j := 2) (by decide) rfl (.inl rfl) rfl (.inl rfl)))))
-- _law_draw: by hand
def N__law_pick : List Str := ["pool", "row"]
theorem sc__law_pick : FnScope N__law_pick ["pool", "row"] (defScope s__law_pick) := ⟨rfl, rfl, rfl, by decide +kernel, rfl, by decide +kernel, by decide +kernel⟩
def b__law_pick : FS := (dRet (dOp gIx (dVar 1) (dFn m__law_draw (dCons (dVar 0) (dCons (dCall gLen (dCons (dVar 1) dNil)) dNil)))))
def m__law_pick : List D → M D := runD 2 b__law_pick
theorem ok__law_pick (T : Tx K mg) (F__law_draw : Fn P W K mg base (clOf K) 1 "_law_draw" ["pool", "many"] m__law_draw) : Fn P W K mg base (clOf K) 2 "_law_pick" ["pool", "row"] m__law_pick := by
  refine fn_mk (N := N__law_pick) (s := b__law_pick) T.d__law_pick T.g__law_pick sc__law_pick rfl (fun _ _ _ _ _ _ us hl => match us, hl with | [_, _], _ => rfl) fun fd cdv A outer s0 H E hr => ?_
  exact (ss_one (sd_ret (pd_ix ix_seq os_ix (pd_var (i := 1) rfl (.inl rfl)) (pd_fn F__law_draw hr rfl (ad_cons (pd_var (i := 0) rfl (.inl rfl)) (ad_cons (pd_callB call_len cs_len rfl T.b_len (by decide +kernel) (ad_cons (pd_var (i := 1) rfl (.inl rfl)) ad_nil)) ad_nil)) (dCons_len (dCons_len (fun _ _ _ h => dNil_len h))) rfl) (fun _ _ => rfl))))
def N__law_lock : List Str := ["pool", "most", "leak", "flo", "elo", "fill", "empty"]
theorem sc__law_lock : FnScope N__law_lock ["pool", "most"] (defScope s__law_lock) := ⟨rfl, rfl, rfl, by decide +kernel, rfl, by decide +kernel, by decide +kernel⟩
def b__law_lock : FS := (dSeq (dSet 2 (dCall gInt (dCons (dOp gEq (dFn m__law_draw (dCons (dVar 0) (dCons (dC (.int 3)) dNil))) (dC (.int 0))) dNil))) (dSeq (dSet 3 (dOp gAdd (dOp gAdd (dVar 2) (dC (.int 1))) (dFn m__law_draw (dCons (dVar 0) (dCons (dOp gSub (dC (.int 3)) (dVar 2)) dNil))))) (dSeq (dSet 4 (dOp gAdd (dC (.int 1)) (dFn m__law_draw (dCons (dVar 0) (dCons (dC (.int 3)) dNil))))) (dSeq (dSet 5 (dLst (dCons (dVar 3) (dCons (dOp gAdd (dVar 3) (dFn m__law_draw (dCons (dVar 0) (dCons (dOp gSub (dC (.int 4)) (dVar 3)) dNil)))) dNil)))) (dSeq (dSet 6 (dLst (dCons (dVar 4) (dCons (dOp gAdd (dVar 4) (dFn m__law_draw (dCons (dVar 0) (dCons (dOp gSub (dC (.int 4)) (dVar 4)) dNil)))) dNil)))) (dRet (dLst (dCons (dOp gAdd (dC (.int 1)) (dFn m__law_draw (dCons (dVar 0) (dCons (dVar 1) dNil)))) (dCons (dVar 5) (dCons (dVar 6) (dCons (dVar 2) (dCons (dOp gAdd (dVar 2) (dFn m__law_draw (dCons (dVar 0) (dCons (dOp gSub (dC (.int 3)) (dVar 2)) dNil)))) dNil))))))))))))
def m__law_lock : List D → M D := runD 7 b__law_lock
theorem ok__law_lock (T : Tx K mg) (F__law_draw : Fn P W K mg base (clOf K) 1 "_law_draw" ["pool", "many"] m__law_draw) : Fn P W K mg base (clOf K) 2 "_law_lock" ["pool", "most"] m__law_lock := by
  refine fn_mk (N := N__law_lock) (s := b__law_lock) T.d__law_lock T.g__law_lock sc__law_lock rfl (fun _ _ _ _ _ _ us hl => match us, hl with | [_, _], _ => rfl) fun fd cdv A outer s0 H E hr => ?_
  exact (ss_cons (sd_set (i := 2) sc__law_lock.nd rfl (Or.inl rfl) (pd_callTy call_int1 cs_int rfl T.b_int (by decide +kernel) (ad_cons (pd_cmp op_eq os_eq (pd_fn F__law_draw hr rfl (ad_cons (pd_var (i := 0) rfl (.inl rfl)) (ad_cons pd_int ad_nil)) (dCons_len (dCons_len (fun _ _ _ h => dNil_len h))) rfl) pd_int (nomark _)) ad_nil))) (ss_cons (sd_set (i := 3) sc__law_lock.nd rfl (Or.inl rfl) (pd_op ho_add os_add (pd_op ho_add os_add (pd_var (i := 2) rfl (.inl rfl)) pd_int) (pd_fn F__law_draw hr rfl (ad_cons (pd_var (i := 0) rfl (.inl rfl)) (ad_cons (pd_op op_sub os_sub pd_int (pd_var (i := 2) rfl (.inl rfl))) ad_nil)) (dCons_len (dCons_len (fun _ _ _ h => dNil_len h))) rfl))) (ss_cons (sd_set (i := 4) sc__law_lock.nd rfl (Or.inl rfl) (pd_op ho_add os_add pd_int (pd_fn F__law_draw hr rfl (ad_cons (pd_var (i := 0) rfl (.inl rfl)) (ad_cons pd_int ad_nil)) (dCons_len (dCons_len (fun _ _ _ h => dNil_len h))) rfl))) (ss_cons (sd_set (i := 5) sc__law_lock.nd rfl (Or.inl rfl) (pd_lst (ad_cons (pd_var (i := 3) rfl (.inl rfl)) (ad_cons (pd_op ho_add os_add (pd_var (i := 3) rfl (.inl rfl)) (pd_fn F__law_draw hr rfl (ad_cons (pd_var (i := 0) rfl (.inl rfl)) (ad_cons (pd_op op_sub os_sub pd_int (pd_var (i := 3) rfl (.inl rfl))) ad_nil)) (dCons_len (dCons_len (fun _ _ _ h => dNil_len h))) rfl)) ad_nil)))) (ss_cons (sd_set (i := 6) sc__law_lock.nd rfl (Or.inl rfl) (pd_lst (ad_cons (pd_var (i := 4) rfl (.inl rfl)) (ad_cons (pd_op ho_add os_add (pd_var (i := 4) rfl (.inl rfl)) (pd_fn F__law_draw hr rfl (ad_cons (pd_var (i := 0) rfl (.inl rfl)) (ad_cons (pd_op op_sub os_sub pd_int (pd_var (i := 4) rfl (.inl rfl))) ad_nil)) (dCons_len (dCons_len (fun _ _ _ h => dNil_len h))) rfl)) ad_nil)))) (ss_one (sd_ret (pd_lst (ad_cons (pd_op ho_add os_add pd_int (pd_fn F__law_draw hr rfl (ad_cons (pd_var (i := 0) rfl (.inl rfl)) (ad_cons (pd_var (i := 1) rfl (.inl rfl)) ad_nil)) (dCons_len (dCons_len (fun _ _ _ h => dNil_len h))) rfl)) (ad_cons (pd_var (i := 5) rfl (.inl rfl)) (ad_cons (pd_var (i := 6) rfl (.inl rfl)) (ad_cons (pd_var (i := 2) rfl (.inl rfl)) (ad_cons (pd_op ho_add os_add (pd_var (i := 2) rfl (.inl rfl)) (pd_fn F__law_draw hr rfl (ad_cons (pd_var (i := 0) rfl (.inl rfl)) (ad_cons (pd_op op_sub os_sub pd_int (pd_var (i := 2) rfl (.inl rfl))) ad_nil)) (dCons_len (dCons_len (fun _ _ _ h => dNil_len h))) rfl)) ad_nil)))))))))))))
def N__law_c_allowed : List Str := ["lock", "deed", "gate", "inside", "c"]
theorem sc__law_c_allowed : FnScope N__law_c_allowed ["lock", "deed", "gate", "inside", "c"] (defScope s__law_c_allowed) := ⟨rfl, rfl, rfl, by decide +kernel, rfl, by decide +kernel, by decide +kernel⟩
def b__law_c_allowed : FS := (dSeq (dIfS (dB (dOp gEq (dVar 1) (dC (.str "f")))) (dRet (dOp gNe (dVar 2) (dC (.int 2)))) dNext) (dSeq (dIfS (dB (dOp gEq (dVar 1) (dC (.str "e")))) (dRet (dOp gNe (dVar 2) (dC (.int 1)))) dNext) (dSeq (dIfS (dB (dOp gEq (dVar 1) (dC (.str "U")))) (dRet (dAndV (dOp gEq (dVar 2) (dC (.int 0))) (dOp gGe (dVar 4) (dOp gSub (dOp gIx (dVar 0) (dC (.int 0))) (dOp gIx (dVar 0) (dC (.int 4))))))) dNext) (dSeq (dIfS (dB (dOp gEq (dVar 1) (dC (.str "u")))) (dRet (dOp gEq (dVar 2) (dC (.int 1)))) dNext) (dSeq (dIfS (dB (dOp gEq (dVar 1) (dC (.str "D")))) (dRet (dAndV (dOp gEq (dVar 2) (dC (.int 0))) (dOp gLe (dVar 4) (dOp gIx (dVar 0) (dC (.int 4)))))) dNext) (dSeq (dIfS (dB (dOp gEq (dVar 1) (dC (.str "d")))) (dRet (dOp gEq (dVar 2) (dC (.int 2)))) dNext) (dSeq (dIfS (dB (dOp gEq (dVar 1) (dC (.str "i")))) (dRet (dAndV (dOp gGe (dVar 2) (dC (.int 1))) (dOp gEq (dVar 3) (dC (.int 0))))) dNext) (dSeq (dIfS (dB (dOp gEq (dVar 1) (dC (.str "o")))) (dRet (dAndV (dOp gGe (dVar 2) (dC (.int 1))) (dOp gEq (dVar 3) (dC (.int 1))))) dNext) (dRet (dC (.bl true)))))))))))
def m__law_c_allowed : List D → M D := runD 5 b__law_c_allowed
theorem ok__law_c_allowed (T : Tx K mg) : Fn P W K mg base (clOf K) 1 "_law_c_allowed" ["lock", "deed", "gate", "inside", "c"] m__law_c_allowed := by
  refine fn_mk (N := N__law_c_allowed) (s := b__law_c_allowed) T.d__law_c_allowed T.g__law_c_allowed sc__law_c_allowed rfl (fun _ _ _ _ _ _ us hl => match us, hl with | [_, _, _, _, _], _ => rfl) fun fd cdv A outer s0 H E hr => ?_
  exact (ss_cons (sd_if (td_cmp op_eq os_eq (pd_var (i := 1) rfl (.inl rfl)) pd_str (nomark _)) (ss_one (sd_ret (pd_cmp op_ne os_ne (pd_var (i := 2) rfl (.inl rfl)) pd_int (nomark _)))) ss_nil) (ss_cons (sd_if (td_cmp op_eq os_eq (pd_var (i := 1) rfl (.inl rfl)) pd_str (nomark _)) (ss_one (sd_ret (pd_cmp op_ne os_ne (pd_var (i := 2) rfl (.inl rfl)) pd_int (nomark _)))) ss_nil) (ss_cons (sd_if (td_cmp op_eq os_eq (pd_var (i := 1) rfl (.inl rfl)) pd_str (nomark _)) (ss_one (sd_ret (pd_and (pd_cmp op_eq os_eq (pd_var (i := 2) rfl (.inl rfl)) pd_int (nomark _)) (pd_one (pd_cmp op_ge os_cmp (pd_var (i := 4) rfl (.inl rfl)) (pd_op op_sub os_sub (pd_ix ix_seq os_ix (pd_var (i := 0) rfl (.inl rfl)) pd_int (fun _ _ => rfl)) (pd_ix ix_seq os_ix (pd_var (i := 0) rfl (.inl rfl)) pd_int (fun _ _ => rfl))) (nomark _)))))) ss_nil) (ss_cons (sd_if (td_cmp op_eq os_eq (pd_var (i := 1) rfl (.inl rfl)) pd_str (nomark _)) (ss_one (sd_ret (pd_cmp op_eq os_eq (pd_var (i := 2) rfl (.inl rfl)) pd_int (nomark _)))) ss_nil) (ss_cons (sd_if (td_cmp op_eq os_eq (pd_var (i := 1) rfl (.inl rfl)) pd_str (nomark _)) (ss_one (sd_ret (pd_and (pd_cmp op_eq os_eq (pd_var (i := 2) rfl (.inl rfl)) pd_int (nomark _)) (pd_one (pd_cmp op_le os_cmp (pd_var (i := 4) rfl (.inl rfl)) (pd_ix ix_seq os_ix (pd_var (i := 0) rfl (.inl rfl)) pd_int (fun _ _ => rfl)) (nomark _)))))) ss_nil) (ss_cons (sd_if (td_cmp op_eq os_eq (pd_var (i := 1) rfl (.inl rfl)) pd_str (nomark _)) (ss_one (sd_ret (pd_cmp op_eq os_eq (pd_var (i := 2) rfl (.inl rfl)) pd_int (nomark _)))) ss_nil) (ss_cons (sd_if (td_cmp op_eq os_eq (pd_var (i := 1) rfl (.inl rfl)) pd_str (nomark _)) (ss_one (sd_ret (pd_and (pd_cmp op_ge os_cmp (pd_var (i := 2) rfl (.inl rfl)) pd_int (nomark _)) (pd_one (pd_cmp op_eq os_eq (pd_var (i := 3) rfl (.inl rfl)) pd_int (nomark _)))))) ss_nil) (ss_cons (sd_if (td_cmp op_eq os_eq (pd_var (i := 1) rfl (.inl rfl)) pd_str (nomark _)) (ss_one (sd_ret (pd_and (pd_cmp op_ge os_cmp (pd_var (i := 2) rfl (.inl rfl)) pd_int (nomark _)) (pd_one (pd_cmp op_eq os_eq (pd_var (i := 3) rfl (.inl rfl)) pd_int (nomark _)))))) ss_nil) (ss_one (sd_ret pd_bl))))))))))
def N__law_c_step : List Str := ["lock", "deed", "gate", "inside", "c", "amount", "leak", "drawn"]
theorem sc__law_c_step : FnScope N__law_c_step ["lock", "deed", "gate", "inside", "c", "amount", "leak"] (defScope s__law_c_step) := ⟨rfl, rfl, rfl, by decide +kernel, rfl, by decide +kernel, by decide +kernel⟩
def b__law_c_step : FS := (dSeq (dSet 7 (dC (.int 0))) (dSeq (dIfS (dB (dOp gEq (dVar 1) (dC (.str "f")))) (dSeq (dSet 7 (dOp gSub (dCall gMin2 (dCons (dOp gIx (dVar 0) (dC (.int 0))) (dCons (dOp gAdd (dVar 4) (dVar 5)) dNil))) (dVar 4))) (dSet 4 (dOp gAdd (dVar 4) (dVar 7)))) dNext) (dSeq (dIfS (dB (dOp gEq (dVar 1) (dC (.str "e")))) (dSet 4 (dCall gMax2 (dCons (dC (.int 0)) (dCons (dOp gSub (dVar 4) (dVar 5)) dNil)))) dNext) (dSeq (dIfS (dB (dOp gEq (dVar 1) (dC (.str "U")))) (dSeq (dSet 7 (dOp gSub (dOp gIx (dVar 0) (dC (.int 0))) (dVar 4))) (dSeq (dSet 4 (dOp gIx (dVar 0) (dC (.int 0)))) (dSet 2 (dC (.int 1))))) dNext) (dSeq (dIfS (dB (dOp gEq (dVar 1) (dC (.str "D")))) (dSeq (dSet 4 (dC (.int 0))) (dSet 2 (dC (.int 2)))) dNext) (dSeq (dIfS (dOr (dB (dOp gEq (dVar 1) (dC (.str "u")))) (dB (dOp gEq (dVar 1) (dC (.str "d"))))) (dSet 2 (dC (.int 0))) dNext) (dSeq (dIfS (dOr (dB (dOp gEq (dVar 1) (dC (.str "i")))) (dB (dOp gEq (dVar 1) (dC (.str "o"))))) (dSet 3 (dOp gSub (dC (.int 1)) (dVar 3))) dNext) (dSeq (dIfS (dB (dOp gEq (dVar 2) (dC (.int 0)))) (dSet 4 (dCall gMax2 (dCons (dC (.int 0)) (dCons (dOp gSub (dVar 4) (dVar 6)) dNil)))) dNext) (dRet (dTup (dCons (dVar 2) (dCons (dVar 3) (dCons (dVar 4) (dCons (dVar 7) dNil))))))))))))))
def m__law_c_step : List D → M D := runD 8 b__law_c_step
theorem ok__law_c_step (T : Tx K mg) : Fn P W K mg base (clOf K) 1 "_law_c_step" ["lock", "deed", "gate", "inside", "c", "amount", "leak"] m__law_c_step := by
  refine fn_mk (N := N__law_c_step) (s := b__law_c_step) T.d__law_c_step T.g__law_c_step sc__law_c_step rfl (fun _ _ _ _ _ _ us hl => match us, hl with | [_, _, _, _, _, _, _], _ => rfl) fun fd cdv A outer s0 H E hr => ?_
  exact (ss_cons (sd_set (i := 7) sc__law_c_step.nd rfl (Or.inl rfl) pd_int) (ss_cons (sd_if (td_cmp op_eq os_eq (pd_var (i := 1) rfl (.inl rfl)) pd_str (nomark _)) (ss_cons (sd_set (i := 7) sc__law_c_step.nd rfl (Or.inl rfl) (pd_op op_sub os_sub (pd_callB (call_min2 rfl) cs_min2 rfl T.b_min (by decide +kernel) (ad_cons (pd_ix ix_seq os_ix (pd_var (i := 0) rfl (.inl rfl)) pd_int (fun _ _ => rfl)) (ad_cons (pd_op ho_add os_add (pd_var (i := 4) rfl (.inl rfl)) (pd_var (i := 5) rfl (.inl rfl))) ad_nil))) (pd_var (i := 4) rfl (.inl rfl)))) (ss_one (sd_set (i := 4) sc__law_c_step.nd rfl (Or.inl rfl) (pd_op ho_add os_add (pd_var (i := 4) rfl (.inl rfl)) (pd_var (i := 7) rfl (.inl rfl)))))) ss_nil) (ss_cons (sd_if (td_cmp op_eq os_eq (pd_var (i := 1) rfl (.inl rfl)) pd_str (nomark _)) (ss_one (sd_set (i := 4) sc__law_c_step.nd rfl (Or.inl rfl) (pd_callB (call_max2 rfl) cs_max2 rfl T.b_max (by decide +kernel) (ad_cons pd_int (ad_cons (pd_op op_sub os_sub (pd_var (i := 4) rfl (.inl rfl)) (pd_var (i := 5) rfl (.inl rfl))) ad_nil))))) ss_nil) (ss_cons (sd_if (td_cmp op_eq os_eq (pd_var (i := 1) rfl (.inl rfl)) pd_str (nomark _)) (ss_cons (sd_set (i := 7) sc__law_c_step.nd rfl (Or.inl rfl) (pd_op op_sub os_sub (pd_ix ix_seq os_ix (pd_var (i := 0) rfl (.inl rfl)) pd_int (fun _ _ => rfl)) (pd_var (i := 4) rfl (.inl rfl)))) (ss_cons (sd_set (i := 4) sc__law_c_step.nd rfl (Or.inl rfl) (pd_ix ix_seq os_ix (pd_var (i := 0) rfl (.inl rfl)) pd_int (fun _ _ => rfl))) (ss_one (sd_set (i := 2) sc__law_c_step.nd rfl (Or.inl rfl) pd_int)))) ss_nil) (ss_cons (sd_if (td_cmp op_eq os_eq (pd_var (i := 1) rfl (.inl rfl)) pd_str (nomark _)) (ss_cons (sd_set (i := 4) sc__law_c_step.nd rfl (Or.inl rfl) pd_int) (ss_one (sd_set (i := 2) sc__law_c_step.nd rfl (Or.inl rfl) pd_int))) ss_nil) (ss_cons (sd_if (td_w (wd_or (td_cmp op_eq os_eq (pd_var (i := 1) rfl (.inl rfl)) pd_str (nomark _)) (wd_or1 (td_cmp op_eq os_eq (pd_var (i := 1) rfl (.inl rfl)) pd_str (nomark _))))) (ss_one (sd_set (i := 2) sc__law_c_step.nd rfl (Or.inl rfl) pd_int)) ss_nil) (ss_cons (sd_if (td_w (wd_or (td_cmp op_eq os_eq (pd_var (i := 1) rfl (.inl rfl)) pd_str (nomark _)) (wd_or1 (td_cmp op_eq os_eq (pd_var (i := 1) rfl (.inl rfl)) pd_str (nomark _))))) (ss_one (sd_set (i := 3) sc__law_c_step.nd rfl (Or.inl rfl) (pd_op op_sub os_sub pd_int (pd_var (i := 3) rfl (.inl rfl))))) ss_nil) (ss_cons (sd_if (td_cmp op_eq os_eq (pd_var (i := 2) rfl (.inl rfl)) pd_int (nomark _)) (ss_one (sd_set (i := 4) sc__law_c_step.nd rfl (Or.inl rfl) (pd_callB (call_max2 rfl) cs_max2 rfl T.b_max (by decide +kernel) (ad_cons pd_int (ad_cons (pd_op op_sub os_sub (pd_var (i := 4) rfl (.inl rfl)) (pd_var (i := 6) rfl (.inl rfl))) ad_nil))))) ss_nil) (ss_one (sd_ret (pd_tup (ad_cons (pd_var (i := 2) rfl (.inl rfl)) (ad_cons (pd_var (i := 3) rfl (.inl rfl)) (ad_cons (pd_var (i := 4) rfl (.inl rfl)) (ad_cons (pd_var (i := 7) rfl (.inl rfl)) ad_nil)))))))))))))))
def N__law_c_amounts : List Str := ["lock", "deed", "v"]
theorem sc__law_c_amounts : FnScope N__law_c_amounts ["lock", "deed"] (defScope s__law_c_amounts) := ⟨rfl, rfl, rfl, by decide +kernel, rfl, by decide +kernel, by decide +kernel⟩
def b__law_c_amounts : FS := (dSeq (dIfS (dB (dOp gEq (dVar 1) (dC (.str "f")))) (dRet (dLc 2 (dItA rng2 (dCons (dOp gIx (dOp gIx (dVar 0) (dC (.int 1))) (dC (.int 0))) (dCons (dOp gAdd (dOp gIx (dOp gIx (dVar 0) (dC (.int 1))) (dC (.int 1))) (dC (.int 1))) dNil))) dYes (dVar 2))) dNext) (dSeq (dIfS (dB (dOp gEq (dVar 1) (dC (.str "e")))) (dRet (dLc 2 (dItA rng2 (dCons (dOp gIx (dOp gIx (dVar 0) (dC (.int 2))) (dC (.int 0))) (dCons (dOp gAdd (dOp gIx (dOp gIx (dVar 0) (dC (.int 2))) (dC (.int 1))) (dC (.int 1))) dNil))) dYes (dVar 2))) dNext) (dRet (dLst (dCons (dC (.int 0)) dNil)))))
def m__law_c_amounts : List D → M D := runD 3 b__law_c_amounts
theorem ok__law_c_amounts (T : Tx K mg) : Fn P W K mg base (clOf K) 1 "_law_c_amounts" ["lock", "deed"] m__law_c_amounts := by
  refine fn_mk (N := N__law_c_amounts) (s := b__law_c_amounts) T.d__law_c_amounts T.g__law_c_amounts sc__law_c_amounts rfl (fun _ _ _ _ _ _ us hl => match us, hl with | [_, _], _ => rfl) fun fd cdv A outer s0 H E hr => ?_
  exact (ss_cons (sd_if (td_cmp op_eq os_eq (pd_var (i := 1) rfl (.inl rfl)) pd_str (nomark _)) (ss_one (sd_ret (pd_own_ (od_lc (i := 2) rfl sc__law_c_amounts.nd (id_rng2 rfl T.b_range (ad_cons (pd_ix ix_seq os_ix (pd_ix ix_seq os_ix (pd_var (i := 0) rfl (.inl rfl)) pd_int (fun _ _ => rfl)) pd_int (fun _ _ => rfl)) (ad_cons (pd_op ho_add os_add (pd_ix ix_seq os_ix (pd_ix ix_seq os_ix (pd_var (i := 0) rfl (.inl rfl)) pd_int (fun _ _ => rfl)) pd_int (fun _ _ => rfl)) pd_int) ad_nil))) (blkOk_by (N := N__law_c_amounts) (sc := defScope s__law_c_amounts) (by decide +kernel)) (fun _ _ _ _ _ => pg_name (i := 2) sc__law_c_amounts.nd rfl (Or.inl rfl)) (fun _ _ _ _ _ => (pd_var (i := 2) rfl (.inl rfl))))))) ss_nil) (ss_cons (sd_if (td_cmp op_eq os_eq (pd_var (i := 1) rfl (.inl rfl)) pd_str (nomark _)) (ss_one (sd_ret (pd_own_ (od_lc (i := 2) rfl sc__law_c_amounts.nd (id_rng2 rfl T.b_range (ad_cons (pd_ix ix_seq os_ix (pd_ix ix_seq os_ix (pd_var (i := 0) rfl (.inl rfl)) pd_int (fun _ _ => rfl)) pd_int (fun _ _ => rfl)) (ad_cons (pd_op ho_add os_add (pd_ix ix_seq os_ix (pd_ix ix_seq os_ix (pd_var (i := 0) rfl (.inl rfl)) pd_int (fun _ _ => rfl)) pd_int (fun _ _ => rfl)) pd_int) ad_nil))) (blkOk_by (N := N__law_c_amounts) (sc := defScope s__law_c_amounts) (by decide +kernel)) (fun _ _ _ _ _ => pg_name (i := 2) sc__law_c_amounts.nd rfl (Or.inl rfl)) (fun _ _ _ _ _ => (pd_var (i := 2) rfl (.inl rfl))))))) ss_nil) (ss_one (sd_ret (pd_lst (ad_cons pd_int ad_nil))))))
def N__law_next : List Str := ["lock", "place", "deed", "coming", "told", "c", "amount", "leak"]
theorem sc__law_next : FnScope N__law_next ["lock", "place", "deed"] (defScope s__law_next) := ⟨rfl, rfl, rfl, by decide +kernel, rfl, by decide +kernel, by decide +kernel⟩
def b__law_next : FS := (dSeq (dDk0 3) (dSeq (dSet 4 (dTup (dCons (dOp gIx (dVar 1) (dC (.int 0))) (dCons (dOp gIx (dVar 1) (dC (.int 1))) (dCons (dC (.int 0)) (dCons (dC (.int 0)) dNil)))))) (dSeq (dFor (gNm 5) (dIt asAny (dOp gIx (dVar 1) (dC (.int 2)))) (dSeq (dIfS (dNot (dB (dFn m__law_c_allowed (dCons (dVar 0) (dCons (dVar 2) (dCons (dOp gIx (dVar 1) (dC (.int 0))) (dCons (dOp gIx (dVar 1) (dC (.int 1))) (dCons (dVar 5) dNil)))))))) (dRet (dC .non)) dNext) (dFor (gNm 6) (dIt asAny (dFn m__law_c_amounts (dCons (dVar 0) (dCons (dVar 2) dNil)))) (dFor (gNm 7) (dItA rng1 (dCons (dOp gAdd (dOp gIx (dVar 0) (dC (.int 3))) (dC (.int 1))) dNil)) (dSeq (dSet 4 (dFn m__law_c_step (dCons (dVar 0) (dCons (dVar 2) (dCons (dOp gIx (dVar 1) (dC (.int 0))) (dCons (dOp gIx (dVar 1) (dC (.int 1))) (dCons (dVar 5) (dCons (dVar 6) (dCons (dVar 7) dNil))))))))) (dDk 3 (dC (.bl true)) (dOp gIx (dVar 4) (dC (.int 2))))))))) (dRet (dLst (dCons (dOp gIx (dVar 4) (dC (.int 0))) (dCons (dOp gIx (dVar 4) (dC (.int 1))) (dCons (dCall gSortDk (dCons (dOwn 3) dNil)) dNil))))))))
def m__law_next : List D → M D := runD 8 b__law_next
theorem ok__law_next (T : Tx K mg) (F__law_c_amounts : Fn P W K mg base (clOf K) 1 "_law_c_amounts" ["lock", "deed"] m__law_c_amounts) (F__law_c_step : Fn P W K mg base (clOf K) 1 "_law_c_step" ["lock", "deed", "gate", "inside", "c", "amount", "leak"] m__law_c_step) (F__law_c_allowed : Fn P W K mg base (clOf K) 1 "_law_c_allowed" ["lock", "deed", "gate", "inside", "c"] m__law_c_allowed) : Fn P W K mg base (clOf K) 2 "_law_next" ["lock", "place", "deed"] m__law_next := by
  refine fn_mk (N := N__law_next) (s := b__law_next) T.d__law_next T.g__law_next sc__law_next rfl (fun _ _ _ _ _ _ us hl => match us, hl with | [_, _, _], _ => rfl) fun fd cdv A outer s0 H E hr => ?_
  exact (ss_cons (sd_dk0 (i := 3) sc__law_next.nd rfl (Or.inl rfl)) (ss_cons (sd_set (i := 4) sc__law_next.nd rfl (Or.inl rfl) (pd_tup (ad_cons (pd_ix ix_seq os_ix (pd_var (i := 1) rfl (.inl rfl)) pd_int (fun _ _ => rfl)) (ad_cons (pd_ix ix_seq os_ix (pd_var (i := 1) rfl (.inl rfl)) pd_int (fun _ _ => rfl)) (ad_cons pd_int (ad_cons pd_int ad_nil)))))) (ss_cons (sd_for PassesOwn.never rfl (id_any (pd_ix ix_seq os_ix (pd_var (i := 1) rfl (.inl rfl)) pd_int (fun _ _ => rfl))) (gd_name (i := 5) sc__law_next.nd rfl (Or.inl rfl)) (ss_cons (sd_if (td_not (td_val (pd_fn F__law_c_allowed hr rfl (ad_cons (pd_var (i := 0) rfl (.inl rfl)) (ad_cons (pd_var (i := 2) rfl (.inl rfl)) (ad_cons (pd_ix ix_seq os_ix (pd_var (i := 1) rfl (.inl rfl)) pd_int (fun _ _ => rfl)) (ad_cons (pd_ix ix_seq os_ix (pd_var (i := 1) rfl (.inl rfl)) pd_int (fun _ _ => rfl)) (ad_cons (pd_var (i := 5) rfl (.inl rfl)) ad_nil))))) (dCons_len (dCons_len (dCons_len (dCons_len (dCons_len (fun _ _ _ h => dNil_len h)))))) rfl))) (ss_one (sd_ret pd_non)) ss_nil) (ss_one (sd_for PassesOwn.never rfl (id_any (pd_fn F__law_c_amounts hr rfl (ad_cons (pd_var (i := 0) rfl (.inl rfl)) (ad_cons (pd_var (i := 2) rfl (.inl rfl)) ad_nil)) (dCons_len (dCons_len (fun _ _ _ h => dNil_len h))) rfl)) (gd_name (i := 6) sc__law_next.nd rfl (Or.inl rfl)) (ss_one (sd_for PassesOwn.never rfl (id_rng1 rfl T.b_range (ad_cons (pd_op ho_add os_add (pd_ix ix_seq os_ix (pd_var (i := 0) rfl (.inl rfl)) pd_int (fun _ _ => rfl)) pd_int) ad_nil)) (gd_name (i := 7) sc__law_next.nd rfl (Or.inl rfl)) (ss_cons (sd_set (i := 4) sc__law_next.nd rfl (Or.inl rfl) (pd_fn F__law_c_step hr rfl (ad_cons (pd_var (i := 0) rfl (.inl rfl)) (ad_cons (pd_var (i := 2) rfl (.inl rfl)) (ad_cons (pd_ix ix_seq os_ix (pd_var (i := 1) rfl (.inl rfl)) pd_int (fun _ _ => rfl)) (ad_cons (pd_ix ix_seq os_ix (pd_var (i := 1) rfl (.inl rfl)) pd_int (fun _ _ => rfl)) (ad_cons (pd_var (i := 5) rfl (.inl rfl)) (ad_cons (pd_var (i := 6) rfl (.inl rfl)) (ad_cons (pd_var (i := 7) rfl (.inl rfl)) ad_nil))))))) (dCons_len (dCons_len (dCons_len (dCons_len (dCons_len (dCons_len (dCons_len (fun _ _ _ h => dNil_len h)))))))) rfl)) (ss_one (sd_dk (i := 3) hr rfl (.inl rfl) pd_bl (pd_ix ix_seq os_ix (pd_var (i := 4) rfl (.inl rfl)) pd_int (fun _ _ => rfl))))))))))) (ss_one (sd_ret (pd_lst (ad_cons (pd_ix ix_seq os_ix (pd_var (i := 4) rfl (.inl rfl)) pd_int (fun _ _ => rfl)) (ad_cons (pd_ix ix_seq os_ix (pd_var (i := 4) rfl (.inl rfl)) pd_int (fun _ _ => rfl)) (ad_cons (pd_callB (call_sortedDI rfl) cs_sortDk rfl T.b_sorted (by decide +kernel) (ad_cons (pd_own (i := 3) rfl (.inl rfl)) ad_nil)) ad_nil)))))))))
def N__law_m_next : List Str := ["lock", "state", "deed", "ends", "told", "c", "amount", "leak"]
theorem sc__law_m_next : FnScope N__law_m_next ["lock", "state", "deed"] (defScope s__law_m_next) := ⟨rfl, rfl, rfl, by decide +kernel, rfl, by decide +kernel, by decide +kernel⟩
def b__law_m_next : FS := (dSeq (dSetO 3 (dLst dNil)) (dSeq (dSet 4 (dTup (dCons (dOp gIx (dVar 1) (dC (.int 0))) (dCons (dOp gIx (dVar 1) (dC (.int 1))) (dCons (dC (.int 0)) (dCons (dC (.int 0)) dNil)))))) (dSeq (dFor (gNm 5) (dItA rng2 (dCons (dOp gIx (dVar 1) (dC (.int 2))) (dCons (dOp gAdd (dOp gIx (dVar 1) (dC (.int 3))) (dC (.int 1))) dNil))) (dSeq (dIfS (dNot (dB (dFn m__law_c_allowed (dCons (dVar 0) (dCons (dVar 2) (dCons (dOp gIx (dVar 1) (dC (.int 0))) (dCons (dOp gIx (dVar 1) (dC (.int 1))) (dCons (dVar 5) dNil)))))))) (dRet (dC .non)) dNext) (dFor (gNm 6) (dIt asAny (dFn m__law_c_amounts (dCons (dVar 0) (dCons (dVar 2) dNil)))) (dFor (gNm 7) (dItA rng1 (dCons (dOp gAdd (dOp gIx (dVar 0) (dC (.int 3))) (dC (.int 1))) dNil)) (dSeq (dSet 4 (dFn m__law_c_step (dCons (dVar 0) (dCons (dVar 2) (dCons (dOp gIx (dVar 1) (dC (.int 0))) (dCons (dOp gIx (dVar 1) (dC (.int 1))) (dCons (dVar 5) (dCons (dVar 6) (dCons (dVar 7) dNil))))))))) (dApp 3 (dOp gIx (dVar 4) (dC (.int 2))))))))) (dRet (dTup (dCons (dOp gIx (dVar 4) (dC (.int 0))) (dCons (dOp gIx (dVar 4) (dC (.int 1))) (dCons (dCall gMinL (dCons (dOwn 3) dNil)) (dCons (dCall gMaxL (dCons (dOwn 3) dNil)) dNil)))))))))
def m__law_m_next : List D → M D := runD 8 b__law_m_next
theorem ok__law_m_next (T : Tx K mg) (F__law_c_amounts : Fn P W K mg base (clOf K) 1 "_law_c_amounts" ["lock", "deed"] m__law_c_amounts) (F__law_c_step : Fn P W K mg base (clOf K) 1 "_law_c_step" ["lock", "deed", "gate", "inside", "c", "amount", "leak"] m__law_c_step) (F__law_c_allowed : Fn P W K mg base (clOf K) 1 "_law_c_allowed" ["lock", "deed", "gate", "inside", "c"] m__law_c_allowed) : Fn P W K mg base (clOf K) 2 "_law_m_next" ["lock", "state", "deed"] m__law_m_next := by
  refine fn_mk (N := N__law_m_next) (s := b__law_m_next) T.d__law_m_next T.g__law_m_next sc__law_m_next rfl (fun _ _ _ _ _ _ us hl => match us, hl with | [_, _, _], _ => rfl) fun fd cdv A outer s0 H E hr => ?_
  exact (ss_cons (sd_setO (i := 3) sc__law_m_next.nd rfl (Or.inl rfl) (od_lst ad_nil)) (ss_cons (sd_set (i := 4) sc__law_m_next.nd rfl (Or.inl rfl) (pd_tup (ad_cons (pd_ix ix_seq os_ix (pd_var (i := 1) rfl (.inl rfl)) pd_int (fun _ _ => rfl)) (ad_cons (pd_ix ix_seq os_ix (pd_var (i := 1) rfl (.inl rfl)) pd_int (fun _ _ => rfl)) (ad_cons pd_int (ad_cons pd_int ad_nil)))))) (ss_cons (sd_for PassesOwn.never rfl (id_rng2 rfl T.b_range (ad_cons (pd_ix ix_seq os_ix (pd_var (i := 1) rfl (.inl rfl)) pd_int (fun _ _ => rfl)) (ad_cons (pd_op ho_add os_add (pd_ix ix_seq os_ix (pd_var (i := 1) rfl (.inl rfl)) pd_int (fun _ _ => rfl)) pd_int) ad_nil))) (gd_name (i := 5) sc__law_m_next.nd rfl (Or.inl rfl)) (ss_cons (sd_if (td_not (td_val (pd_fn F__law_c_allowed hr rfl (ad_cons (pd_var (i := 0) rfl (.inl rfl)) (ad_cons (pd_var (i := 2) rfl (.inl rfl)) (ad_cons (pd_ix ix_seq os_ix (pd_var (i := 1) rfl (.inl rfl)) pd_int (fun _ _ => rfl)) (ad_cons (pd_ix ix_seq os_ix (pd_var (i := 1) rfl (.inl rfl)) pd_int (fun _ _ => rfl)) (ad_cons (pd_var (i := 5) rfl (.inl rfl)) ad_nil))))) (dCons_len (dCons_len (dCons_len (dCons_len (dCons_len (fun _ _ _ h => dNil_len h)))))) rfl))) (ss_one (sd_ret pd_non)) ss_nil) (ss_one (sd_for PassesOwn.never rfl (id_any (pd_fn F__law_c_amounts hr rfl (ad_cons (pd_var (i := 0) rfl (.inl rfl)) (ad_cons (pd_var (i := 2) rfl (.inl rfl)) ad_nil)) (dCons_len (dCons_len (fun _ _ _ h => dNil_len h))) rfl)) (gd_name (i := 6) sc__law_m_next.nd rfl (Or.inl rfl)) (ss_one (sd_for PassesOwn.never rfl (id_rng1 rfl T.b_range (ad_cons (pd_op ho_add os_add (pd_ix ix_seq os_ix (pd_var (i := 0) rfl (.inl rfl)) pd_int (fun _ _ => rfl)) pd_int) ad_nil)) (gd_name (i := 7) sc__law_m_next.nd rfl (Or.inl rfl)) (ss_cons (sd_set (i := 4) sc__law_m_next.nd rfl (Or.inl rfl) (pd_fn F__law_c_step hr rfl (ad_cons (pd_var (i := 0) rfl (.inl rfl)) (ad_cons (pd_var (i := 2) rfl (.inl rfl)) (ad_cons (pd_ix ix_seq os_ix (pd_var (i := 1) rfl (.inl rfl)) pd_int (fun _ _ => rfl)) (ad_cons (pd_ix ix_seq os_ix (pd_var (i := 1) rfl (.inl rfl)) pd_int (fun _ _ => rfl)) (ad_cons (pd_var (i := 5) rfl (.inl rfl)) (ad_cons (pd_var (i := 6) rfl (.inl rfl)) (ad_cons (pd_var (i := 7) rfl (.inl rfl)) ad_nil))))))) (dCons_len (dCons_len (dCons_len (dCons_len (dCons_len (dCons_len (dCons_len (fun _ _ _ h => dNil_len h)))))))) rfl)) (ss_one (sd_app (i := 3) rfl (.inl rfl) (pd_ix ix_seq os_ix (pd_var (i := 4) rfl (.inl rfl)) pd_int (fun _ _ => rfl))))))))))) (ss_one (sd_ret (pd_tup (ad_cons (pd_ix ix_seq os_ix (pd_var (i := 4) rfl (.inl rfl)) pd_int (fun _ _ => rfl)) (ad_cons (pd_ix ix_seq os_ix (pd_var (i := 4) rfl (.inl rfl)) pd_int (fun _ _ => rfl)) (ad_cons (pd_callB (cr_min rfl) cs_minL rfl T.b_min (by decide +kernel) (ad_cons (pd_own (i := 3) rfl (.inl rfl)) ad_nil)) (ad_cons (pd_callB (cr_max rfl) cs_maxL rfl T.b_max (by decide +kernel) (ad_cons (pd_own (i := 3) rfl (.inl rfl)) ad_nil)) ad_nil))))))))))
def N__law_least : List Str := ["lock", "way", "enter", "front", "seen", "length", "later", "pair", "state", "deed", "other", "key"]
theorem sc__law_least : FnScope N__law_least ["lock", "way"] (defScope s__law_least) := ⟨rfl, rfl, rfl, by decide +kernel, rfl, by decide +kernel, by decide +kernel⟩
def b__law_least : FS := (dSeq (dSet 2 (dOp gAdd (dC (.int 1)) (dCall gInt (dCons (dOp gEq (dVar 1) (dC (.str "up"))) dNil)))) (dSeq (dSet 3 (dLst (dCons (dTup (dCons (dTup (dCons (dC (.int 0)) (dCons (dC (.int 0)) (dCons (dC (.int 0)) (dCons (dOp gIx (dVar 0) (dC (.int 0))) dNil))))) (dCons (dC (.int 0)) dNil))) dNil))) (dSeq (dDn1 4 (dOp gIx (dVar 3) (dC (.int 0))) (dC (.bl true))) (dSeq (dFor (gNm 5) (dItA rng2 (dCons (dC (.int 1)) (dCons (dOp gAdd (dOp gMulA (dC (.int 2)) (dOp gIx (dVar 0) (dC (.int 0)))) (dC (.int 7))) dNil))) (dSeq (dSetO 6 (dLst dNil)) (dSeq (dFor (gNm 7) (dIt asAny (dVar 3)) (dSeq (dSet 8 (dOp gIx (dVar 7) (dC (.int 0)))) (dFor (gNm 9) (dIt asAny (dC (.str "feUuDdiow"))) (dSeq (dSet 10 (dC .non)) (dSeq (dIfS (dAnd (dOr (dB (dOp gNe (dVar 9) (dC (.str "i")))) (dAnd (dB (dOp gEq (dOp gIx (dVar 7) (dC (.int 1))) (dC (.int 0)))) (dB (dOp gEq (dOp gIx (dVar 8) (dC (.int 0))) (dVar 2))))) (dOr (dB (dOp gNe (dVar 9) (dC (.str "o")))) (dB (dOp gEq (dOp gIx (dVar 8) (dC (.int 0))) (dOp gSub (dC (.int 3)) (dVar 2)))))) (dSet 10 (dFn m__law_m_next (dCons (dVar 0) (dCons (dVar 8) (dCons (dVar 9) dNil))))) dNext) (dIfS (dB (dOp gNotN (dVar 10) (dC .non))) (dSeq (dSet 11 (dTup (dCons (dVar 10) (dCons (dOp gAdd (dOp gIx (dVar 7) (dC (.int 1))) (dCall gInt (dCons (dOp gInS (dVar 9) (dC (.str "io"))) dNil))) dNil)))) (dSeq (dIfS (dAnd (dB (dOp gEq (dOp gIx (dVar 11) (dC (.int 1))) (dC (.int 2)))) (dB (dOp gEq (dOp gIx (dVar 10) (dC (.int 0))) (dC (.int 0))))) (dRet (dVar 5)) dNext) (dIfS (dB (dOp gNotInDn (dVar 11) (dOwn 4))) (dSeq (dDn 4 (dC (.bl true)) (dVar 11)) (dApp 6 (dVar 11))) dNext))) dNext)))))) (dSet 3 (dCall gList (dCons (dOwn 6) dNil)))))) (dRet (dC (.int 0)))))))
def m__law_least : List D → M D := runD 12 b__law_least
theorem ok__law_least (T : Tx K mg) (F__law_m_next : Fn P W K mg base (clOf K) 2 "_law_m_next" ["lock", "state", "deed"] m__law_m_next) : Fn P W K mg base (clOf K) 3 "_law_least" ["lock", "way"] m__law_least := by
  refine fn_mk (N := N__law_least) (s := b__law_least) T.d__law_least T.g__law_least sc__law_least rfl (fun _ _ _ _ _ _ us hl => match us, hl with | [_, _], _ => rfl) fun fd cdv A outer s0 H E hr => ?_
  exact (ss_cons (sd_set (i := 2) sc__law_least.nd rfl (Or.inl rfl) (pd_op ho_add os_add pd_int (pd_callTy call_int1 cs_int rfl T.b_int (by decide +kernel) (ad_cons (pd_cmp op_eq os_eq (pd_var (i := 1) rfl (.inl rfl)) pd_str (nomark _)) ad_nil)))) (ss_cons (sd_set (i := 3) sc__law_least.nd rfl (Or.inl rfl) (pd_lst (ad_cons (pd_tup (ad_cons (pd_tup (ad_cons pd_int (ad_cons pd_int (ad_cons pd_int (ad_cons (pd_ix ix_seq os_ix (pd_var (i := 0) rfl (.inl rfl)) pd_int (fun _ _ => rfl)) ad_nil))))) (ad_cons pd_int ad_nil))) ad_nil))) (ss_cons (sd_dn1 (i := 4) hr sc__law_least.nd rfl (Or.inl rfl) (pd_ix ix_seq os_ix (pd_var (i := 3) rfl (.inl rfl)) pd_int (fun _ _ => rfl)) pd_bl) (ss_cons (sd_for PassesOwn.never rfl (id_rng2 rfl T.b_range (ad_cons pd_int (ad_cons (pd_op ho_add os_add (pd_op ho_mul os_mul pd_int (pd_ix ix_seq os_ix (pd_var (i := 0) rfl (.inl rfl)) pd_int (fun _ _ => rfl))) pd_int) ad_nil))) (gd_name (i := 5) sc__law_least.nd rfl (Or.inl rfl)) (ss_cons (sd_setO (i := 6) sc__law_least.nd rfl (Or.inl rfl) (od_lst ad_nil)) (ss_cons (sd_for PassesOwn.never rfl (id_any (pd_var (i := 3) rfl (.inl rfl))) (gd_name (i := 7) sc__law_least.nd rfl (Or.inl rfl)) (ss_cons (sd_set (i := 8) sc__law_least.nd rfl (Or.inl rfl) (pd_ix ix_seq os_ix (pd_var (i := 7) rfl (.inl rfl)) pd_int (fun _ _ => rfl))) (ss_one (sd_for PassesOwn.never rfl (id_any pd_str) (gd_name (i := 9) sc__law_least.nd rfl (Or.inl rfl)) (ss_cons (sd_set (i := 10) sc__law_least.nd rfl (Or.inl rfl) pd_non) (ss_cons (sd_if (td_w (wd_and (td_w (wd_or (td_cmp op_ne os_ne (pd_var (i := 9) rfl (.inl rfl)) pd_str (nomark _)) (wd_or1 (td_w (wd_and (td_cmp op_eq os_eq (pd_ix ix_seq os_ix (pd_var (i := 7) rfl (.inl rfl)) pd_int (fun _ _ => rfl)) pd_int (nomark _)) (wd_and1 (td_cmp op_eq os_eq (pd_ix ix_seq os_ix (pd_var (i := 8) rfl (.inl rfl)) pd_int (fun _ _ => rfl)) (pd_var (i := 2) rfl (.inl rfl)) (nomark _)))))))) (wd_and1 (td_w (wd_or (td_cmp op_ne os_ne (pd_var (i := 9) rfl (.inl rfl)) pd_str (nomark _)) (wd_or1 (td_cmp op_eq os_eq (pd_ix ix_seq os_ix (pd_var (i := 8) rfl (.inl rfl)) pd_int (fun _ _ => rfl)) (pd_op op_sub os_sub pd_int (pd_var (i := 2) rfl (.inl rfl))) (nomark _)))))))) (ss_one (sd_set (i := 10) sc__law_least.nd rfl (Or.inl rfl) (pd_fn F__law_m_next hr rfl (ad_cons (pd_var (i := 0) rfl (.inl rfl)) (ad_cons (pd_var (i := 8) rfl (.inl rfl)) (ad_cons (pd_var (i := 9) rfl (.inl rfl)) ad_nil))) (dCons_len (dCons_len (dCons_len (fun _ _ _ h => dNil_len h)))) rfl))) ss_nil) (ss_one (sd_if (td_cmp op_notN os_notN (pd_var (i := 10) rfl (.inl rfl)) pd_non (nomark _)) (ss_cons (sd_set (i := 11) sc__law_least.nd rfl (Or.inl rfl) (pd_tup (ad_cons (pd_var (i := 10) rfl (.inl rfl)) (ad_cons (pd_op ho_add os_add (pd_ix ix_seq os_ix (pd_var (i := 7) rfl (.inl rfl)) pd_int (fun _ _ => rfl)) (pd_callTy call_int1 cs_int rfl T.b_int (by decide +kernel) (ad_cons (pd_cmp op_in_sign os_inS (pd_var (i := 9) rfl (.inl rfl)) pd_str rfl) ad_nil))) ad_nil)))) (ss_cons (sd_if (td_w (wd_and (td_cmp op_eq os_eq (pd_ix ix_seq os_ix (pd_var (i := 11) rfl (.inl rfl)) pd_int (fun _ _ => rfl)) pd_int (nomark _)) (wd_and1 (td_cmp op_eq os_eq (pd_ix ix_seq os_ix (pd_var (i := 10) rfl (.inl rfl)) pd_int (fun _ _ => rfl)) pd_int (nomark _))))) (ss_one (sd_ret (pd_var (i := 5) rfl (.inl rfl)))) ss_nil) (ss_one (sd_if (td_cmp (op_notInDn hr) os_notInDn (pd_var (i := 11) rfl (.inl rfl)) (pd_own (i := 4) rfl (.inl rfl)) rfl) (ss_cons (sd_dn (i := 4) hr rfl (.inl rfl) pd_bl (pd_var (i := 11) rfl (.inl rfl))) (ss_one (sd_app (i := 6) rfl (.inl rfl) (pd_var (i := 11) rfl (.inl rfl))))) ss_nil)))) ss_nil)))))))) (ss_one (sd_set (i := 3) sc__law_least.nd rfl (Or.inl rfl) (pd_callTy call_list_of cs_list rfl T.b_list (by decide +kernel) (ad_cons (pd_own (i := 6) rfl (.inl rfl)) ad_nil))))))) (ss_one (sd_ret pd_int))))))
def N__law_is_whole : List Str := ["lock", "row", "way", "place", "sides", "deed", "enter", "c"]
theorem sc__law_is_whole : FnScope N__law_is_whole ["lock", "row", "way"] (defScope s__law_is_whole) := ⟨rfl, rfl, rfl, by decide +kernel, rfl, by decide +kernel, by decide +kernel⟩
def b__law_is_whole : FS := (dSeq (dSet 3 (dLst (dCons (dC (.int 0)) (dCons (dC (.int 0)) (dCons (dLc 7 (dItA rng1 (dCons (dOp gAdd (dOp gIx (dVar 0) (dC (.int 0))) (dC (.int 1))) dNil)) dYes (dVar 7)) dNil))))) (dSeq (dSetO 4 (dLst dNil)) (dSeq (dFor (gNm 5) (dIt asAny (dVar 1)) (dSeq (dIfS (dB (dOp gNotInS (dVar 5) (dC (.str "feUuDdiow")))) (dRet (dC (.bl false))) dNext) (dSeq (dIfS (dB (dOp gInS (dVar 5) (dC (.str "io")))) (dApp 4 (dTup (dCons (dVar 5) (dCons (dOp gIx (dVar 3) (dC (.int 0))) dNil)))) dNext) (dSeq (dSet 3 (dFn m__law_next (dCons (dVar 0) (dCons (dVar 3) (dCons (dVar 5) dNil))))) (dIfS (dB (dOp gIsN (dVar 3) (dC .non))) (dRet (dC (.bl false))) dNext))))) (dSeq (dSet 6 (dOp gAdd (dC (.int 1)) (dCall gInt (dCons (dOp gEq (dVar 2) (dC (.str "up"))) dNil)))) (dRet (dAndV (dOp gEq (dOp gIx (dVar 3) (dC (.int 0))) (dC (.int 0))) (dOp gEqD (dOwn 4) (dLst (dCons (dTup (dCons (dC (.str "i")) (dCons (dVar 6) dNil))) (dCons (dTup (dCons (dC (.str "o")) (dCons (dOp gSub (dC (.int 3)) (dVar 6)) dNil))) dNil))))))))))
def m__law_is_whole : List D → M D := runD 8 b__law_is_whole
theorem ok__law_is_whole (T : Tx K mg) (F__law_next : Fn P W K mg base (clOf K) 2 "_law_next" ["lock", "place", "deed"] m__law_next) : Fn P W K mg base (clOf K) 3 "_law_is_whole" ["lock", "row", "way"] m__law_is_whole := by
  refine fn_mk (N := N__law_is_whole) (s := b__law_is_whole) T.d__law_is_whole T.g__law_is_whole sc__law_is_whole rfl (fun _ _ _ _ _ _ us hl => match us, hl with | [_, _, _], _ => rfl) fun fd cdv A outer s0 H E hr => ?_
  exact (ss_cons (sd_set (i := 3) sc__law_is_whole.nd rfl (Or.inl rfl) (pd_lst (ad_cons pd_int (ad_cons pd_int (ad_cons (pd_own_ (od_lc (i := 7) rfl sc__law_is_whole.nd (id_rng1 rfl T.b_range (ad_cons (pd_op ho_add os_add (pd_ix ix_seq os_ix (pd_var (i := 0) rfl (.inl rfl)) pd_int (fun _ _ => rfl)) pd_int) ad_nil)) (blkOk_by (N := N__law_is_whole) (sc := defScope s__law_is_whole) (by decide +kernel)) (fun _ _ _ _ _ => pg_name (i := 7) sc__law_is_whole.nd rfl (Or.inl rfl)) (fun _ _ _ _ _ => (pd_var (i := 7) rfl (.inl rfl))))) ad_nil))))) (ss_cons (sd_setO (i := 4) sc__law_is_whole.nd rfl (Or.inl rfl) (od_lst ad_nil)) (ss_cons (sd_for PassesOwn.never rfl (id_any (pd_var (i := 1) rfl (.inl rfl))) (gd_name (i := 5) sc__law_is_whole.nd rfl (Or.inl rfl)) (ss_cons (sd_if (td_cmp op_notIn_sign os_notInS (pd_var (i := 5) rfl (.inl rfl)) pd_str rfl) (ss_one (sd_ret pd_bl)) ss_nil) (ss_cons (sd_if (td_cmp op_in_sign os_inS (pd_var (i := 5) rfl (.inl rfl)) pd_str rfl) (ss_one (sd_app (i := 4) rfl (.inl rfl) (pd_tup (ad_cons (pd_var (i := 5) rfl (.inl rfl)) (ad_cons (pd_ix ix_seq os_ix (pd_var (i := 3) rfl (.inl rfl)) pd_int (fun _ _ => rfl)) ad_nil))))) ss_nil) (ss_cons (sd_set (i := 3) sc__law_is_whole.nd rfl (Or.inl rfl) (pd_fn F__law_next hr rfl (ad_cons (pd_var (i := 0) rfl (.inl rfl)) (ad_cons (pd_var (i := 3) rfl (.inl rfl)) (ad_cons (pd_var (i := 5) rfl (.inl rfl)) ad_nil))) (dCons_len (dCons_len (dCons_len (fun _ _ _ h => dNil_len h)))) rfl)) (ss_one (sd_if (td_cmp op_isN os_isN (pd_var (i := 3) rfl (.inl rfl)) pd_non (nomark _)) (ss_one (sd_ret pd_bl)) ss_nil)))))) (ss_cons (sd_set (i := 6) sc__law_is_whole.nd rfl (Or.inl rfl) (pd_op ho_add os_add pd_int (pd_callTy call_int1 cs_int rfl T.b_int (by decide +kernel) (ad_cons (pd_cmp op_eq os_eq (pd_var (i := 2) rfl (.inl rfl)) pd_str (nomark _)) ad_nil)))) (ss_one (sd_ret (pd_and (pd_cmp op_eq os_eq (pd_ix ix_seq os_ix (pd_var (i := 3) rfl (.inl rfl)) pd_int (fun _ _ => rfl)) pd_int (nomark _)) (pd_one (pd_cmp (ho_eqD hr) os_eqD (pd_own (i := 4) rfl (.inl rfl)) (pd_lst (ad_cons (pd_tup (ad_cons pd_str (ad_cons (pd_var (i := 6) rfl (.inl rfl)) ad_nil))) (ad_cons (pd_tup (ad_cons pd_str (ad_cons (pd_op op_sub os_sub pd_int (pd_var (i := 6) rfl (.inl rfl))) ad_nil))) ad_nil))) (nomark _))))))))))
def N__law_right : List Str := ["made", "lock", "way", "least", "got"]
theorem sc__law_right : FnScope N__law_right ["made", "lock", "way", "least"] (defScope s__law_right) := ⟨rfl, rfl, rfl, by decide +kernel, rfl, by decide +kernel, by decide +kernel⟩
def b__law_right : FS := (dSeq (dSet 4 (dFn m_shortest_whole (dCons (dVar 0) (dCons (dVar 2) dNil)))) (dSeq (dIfS (dOr (dNot (dB (dCall gIsi (dCons (dVar 4) (dCons (dC (.ty "str")) dNil))))) (dOr (dB (dOp gNe (dCall gLen (dCons (dVar 4) dNil)) (dVar 3))) (dB (dOp gGt (dVar 3) (dOp gAdd (dOp gMulA (dC (.int 2)) (dOp gIx (dVar 1) (dC (.int 0)))) (dC (.int 6))))))) (dRet (dC (.bl false))) dNext) (dRet (dAndV (dFn m__law_is_whole (dCons (dVar 1) (dCons (dVar 4) (dCons (dVar 2) dNil)))) (dOp gIsN (dFn m_check_whole (dCons (dVar 0) (dCons (dVar 4) (dCons (dVar 2) dNil)))) (dC .non))))))
def m__law_right : List D → M D := runD 5 b__law_right
theorem ok__law_right (T : Tx K mg) (F__law_is_whole : Fn P W K mg base (clOf K) 3 "_law_is_whole" ["lock", "row", "way"] m__law_is_whole) (F_check_whole : Fn P W K mg base (clOf K) 4 "check_whole" ["lock", "row", "way"] m_check_whole) (F_shortest_whole : Fn P W K mg base (clOf K) 3 "shortest_whole" ["lock", "way"] m_shortest_whole) : Fn P W K mg base (clOf K) 5 "_law_right" ["made", "lock", "way", "least"] m__law_right := by
  refine fn_mk (N := N__law_right) (s := b__law_right) T.d__law_right T.g__law_right sc__law_right rfl (fun _ _ _ _ _ _ us hl => match us, hl with | [_, _, _, _], _ => rfl) fun fd cdv A outer s0 H E hr => ?_
  exact (ss_cons (sd_set (i := 4) sc__law_right.nd rfl (Or.inl rfl) (pd_fn F_shortest_whole hr rfl (ad_cons (pd_var (i := 0) rfl (.inl rfl)) (ad_cons (pd_var (i := 2) rfl (.inl rfl)) ad_nil)) (dCons_len (dCons_len (fun _ _ _ h => dNil_len h))) rfl)) (ss_cons (sd_if (td_w (wd_or (td_not (td_val (pd_callB call_isi cs_isi rfl T.b_isinstance (by decide +kernel) (ad_cons (pd_var (i := 4) rfl (.inl rfl)) (ad_cons (pd_ty rfl T.b_str (by decide +kernel)) ad_nil))))) (wd_or (td_cmp op_ne os_ne (pd_callB call_len cs_len rfl T.b_len (by decide +kernel) (ad_cons (pd_var (i := 4) rfl (.inl rfl)) ad_nil)) (pd_var (i := 3) rfl (.inl rfl)) (nomark _)) (wd_or1 (td_cmp op_gt os_cmp (pd_var (i := 3) rfl (.inl rfl)) (pd_op ho_add os_add (pd_op ho_mul os_mul pd_int (pd_ix ix_seq os_ix (pd_var (i := 1) rfl (.inl rfl)) pd_int (fun _ _ => rfl))) pd_int) (nomark _)))))) (ss_one (sd_ret pd_bl)) ss_nil) (ss_one (sd_ret (pd_and (pd_fn F__law_is_whole hr rfl (ad_cons (pd_var (i := 1) rfl (.inl rfl)) (ad_cons (pd_var (i := 4) rfl (.inl rfl)) (ad_cons (pd_var (i := 2) rfl (.inl rfl)) ad_nil))) (dCons_len (dCons_len (dCons_len (fun _ _ _ h => dNil_len h)))) rfl) (pd_one (pd_cmp op_isN os_isN (pd_fn F_check_whole hr rfl (ad_cons (pd_var (i := 0) rfl (.inl rfl)) (ad_cons (pd_var (i := 4) rfl (.inl rfl)) (ad_cons (pd_var (i := 2) rfl (.inl rfl)) ad_nil))) (dCons_len (dCons_len (dCons_len (fun _ _ _ h => dNil_len h)))) rfl) pd_non (nomark _))))))))
def N_Lock_init : List Str := ["self", "lift", "fill", "empty", "leak", "slack", "wrong"]
theorem sc_Lock_init : FnScope N_Lock_init ["self", "lift", "fill", "empty", "leak", "slack"] (defScope s_Lock_init) := ⟨rfl, rfl, rfl, by decide +kernel, rfl, by decide +kernel, by decide +kernel⟩
def b_Lock_init : FS := (dSeq (dSet 6 (dFn m_wrong_part (dCons (dVar 1) (dCons (dVar 2) (dCons (dVar 3) (dCons (dVar 4) (dCons (dVar 5) dNil))))))) (dSeq (dIfS (dB (dOp gNotN (dVar 6) (dC .non))) dNo dNext) (dSeq (dFldS 0 0 0 (dVar 1)) (dSeq (dFldS 0 0 1 (dCall gTuple (dCons (dVar 2) dNil))) (dSeq (dFldS 0 0 2 (dCall gTuple (dCons (dVar 3) dNil))) (dSeq (dFldS 0 0 3 (dVar 4)) (dFldS 0 0 4 (dVar 5))))))))
def mk_Lock : List D → M D := runI 0 5 7 b_Lock_init
theorem ok_Lock_init (T : Tx K mg) (F_wrong_part : Fn P W K mg base (clOf K) 5 "wrong_part" ["lift", "fill", "empty", "leak", "slack"] m_wrong_part) : FnC P W K mg base (clOf K) 6 "Lock" 0 5 mk_Lock := by
  obtain ⟨fd, F⟩ := T.d_Lock_init
  refine ⟨⟨_, fd, _, fn_I (N := N_Lock_init) (s := b_Lock_init) (c := 0) (m := 5) F sc_Lock_init rfl fun cdv A outer s0 H E hr => ?_, F.bindsN (fun _ _ _ _ _ _ us hl => match us, hl with | [_, _, _, _, _, _], _ => rfl), T.m_Lock⟩, rfl, T.g_Lock⟩
  exact (ss_cons (sd_set (i := 6) sc_Lock_init.nd rfl (Or.inl rfl) (pd_fn F_wrong_part hr rfl (ad_cons (pd_var (i := 1) rfl (.inl rfl)) (ad_cons (pd_var (i := 2) rfl (.inl rfl)) (ad_cons (pd_var (i := 3) rfl (.inl rfl)) (ad_cons (pd_var (i := 4) rfl (.inl rfl)) (ad_cons (pd_var (i := 5) rfl (.inl rfl)) ad_nil))))) (dCons_len (dCons_len (dCons_len (dCons_len (dCons_len (fun _ _ _ h => dNil_len h)))))) rfl)) (ss_cons (sd_if (td_cmp op_notN os_notN (pd_var (i := 6) rfl (.inl rfl)) pd_non (nomark _)) (ss_one sd_no) ss_nil) (ss_cons (sd_fldS (i := 0) (k := 0) (n := 0) (show List.Nodup _ from fl_nd_Lock) T.k_Lock T.n_Lock_lift rfl (by decide) rfl (.inl rfl) (pd_var (i := 1) rfl (.inl rfl))) (ss_cons (sd_fldS (i := 0) (k := 0) (n := 1) (show List.Nodup _ from fl_nd_Lock) T.k_Lock T.n_Lock_fill rfl (by decide) rfl (.inl rfl) (pd_callTy call_tuple_of cs_tuple rfl T.b_tuple (by decide +kernel) (ad_cons (pd_var (i := 2) rfl (.inl rfl)) ad_nil))) (ss_cons (sd_fldS (i := 0) (k := 0) (n := 2) (show List.Nodup _ from fl_nd_Lock) T.k_Lock T.n_Lock_empty rfl (by decide) rfl (.inl rfl) (pd_callTy call_tuple_of cs_tuple rfl T.b_tuple (by decide +kernel) (ad_cons (pd_var (i := 3) rfl (.inl rfl)) ad_nil))) (ss_cons (sd_fldS (i := 0) (k := 0) (n := 3) (show List.Nodup _ from fl_nd_Lock) T.k_Lock T.n_Lock_leak rfl (by decide) rfl (.inl rfl) (pd_var (i := 4) rfl (.inl rfl))) (ss_one (sd_fldS (i := 0) (k := 0) (n := 4) (show List.Nodup _ from fl_nd_Lock) T.k_Lock T.n_Lock_slack rfl (by decide) rfl (.inl rfl) (pd_var (i := 5) rfl (.inl rfl))))))))))
def N_law : List Str := ["script", "pool", "locks", "made", "way", "asked", "dues", "k", "n", "lock", "pair"]
theorem sc_law : FnScope N_law ["script"] (defScope s_law) := ⟨rfl, rfl, rfl, by decide +kernel, rfl, by decide +kernel, by decide +kernel⟩
def b_law : FS := (dSeq (dSet 1 (dFn m__law_pool (dCons (dVar 0) dNil))) (dSeq (dSet 2 (dLst (dCons (dFn m__law_lock (dCons (dVar 1) (dCons (dC (.int 6)) dNil))) (dCons (dFn m__law_lock (dCons (dVar 1) (dCons (dC (.int 6)) dNil))) dNil)))) (dSeq (dThen 3 (dSetO 3 (dLc 9 (dIt asAny (dVar 2)) dYes (dFn mk_Lock (dCons (dOp gIx (dVar 9) (dC (.int 0))) (dCons (dCall gList (dCons (dOp gIx (dVar 9) (dC (.int 1))) dNil)) (dCons (dCall gTuple (dCons (dOp gIx (dVar 9) (dC (.int 2))) dNil)) (dCons (dOp gIx (dVar 9) (dC (.int 3))) (dCons (dOp gIx (dVar 9) (dC (.int 4))) dNil))))))))) (dSeq (dSet 4 (dFn m__law_pick (dCons (dVar 1) (dCons (dLst (dCons (dC (.str "up")) (dCons (dC (.str "down")) dNil))) dNil)))) (dSeq (dSet 5 (dLst (dCons (dTup (dCons (dC (.int 0)) (dCons (dC (.str "up")) dNil))) (dCons (dTup (dCons (dC (.int 0)) (dCons (dC (.str "down")) dNil))) (dCons (dTup (dCons (dC (.int 1)) (dCons (dVar 4) dNil))) dNil))))) (dSeq (dThen 6 (dSetO 6 (dLc 10 (dIt asAny (dVar 5)) dYes (dFn m__law_least (dCons (dOp gIx (dVar 2) (dOp gIx (dVar 10) (dC (.int 0)))) (dCons (dOp gIx (dVar 10) (dC (.int 1))) dNil)))))) (dSeq (dFor (gNm 7) (dIt asAny (dTup (dCons (dC (.int 0)) (dCons (dC (.int 1)) (dCons (dC (.int 2)) (dCons (dC (.int 0)) dNil)))))) (dSeq (dSet 8 (dOp gIx (dOp gIx (dVar 5) (dVar 7)) (dC (.int 0)))) (dIfS (dOr (dB (dOp gEq (dOp gIx (dVar 6) (dVar 7)) (dC (.int 0)))) (dNot (dB (dFn m__law_right (dCons (dOp gIx (dVar 3) (dVar 8)) (dCons (dOp gIx (dVar 2) (dVar 8)) (dCons (dOp gIx (dOp gIx (dVar 5) (dVar 7)) (dC (.int 1))) (dCons (dOp gIx (dVar 6) (dVar 7)) dNil)))))))) (dRet (dC (.bl false))) dNext))) (dRet (dC (.bl true))))))))))
def m_law : List D → M D := runD 11 b_law
theorem ok_law (T : Tx K mg) (F__law_right : Fn P W K mg base (clOf K) 5 "_law_right" ["made", "lock", "way", "least"] m__law_right) (F__law_least : Fn P W K mg base (clOf K) 3 "_law_least" ["lock", "way"] m__law_least) (F__law_pick : Fn P W K mg base (clOf K) 2 "_law_pick" ["pool", "row"] m__law_pick) (F__law_lock : Fn P W K mg base (clOf K) 2 "_law_lock" ["pool", "most"] m__law_lock) (F__law_pool : Fn P W K mg base (clOf K) 1 "_law_pool" ["script"] m__law_pool) (C_Lock : FnC P W K mg base (clOf K) 6 "Lock" 0 5 mk_Lock) : Fn P W K mg base (clOf K) 8 "law" ["script"] m_law := by
  refine fn_mk (N := N_law) (s := b_law) T.d_law T.g_law sc_law rfl (fun _ _ _ _ _ _ us hl => match us, hl with | [_], _ => rfl) fun fd cdv A outer s0 H E hr => ?_
  exact (ss_cons (sd_set (i := 1) sc_law.nd rfl (Or.inl rfl) (pd_fn F__law_pool hr rfl (ad_cons (pd_var (i := 0) rfl (.inl rfl)) ad_nil) (dCons_len (fun _ _ _ h => dNil_len h)) rfl)) (ss_cons (sd_set (i := 2) sc_law.nd rfl (Or.inr rfl) (pd_lst (ad_cons (pd_fn F__law_lock hr rfl (ad_cons (pd_var (i := 1) rfl (.inl rfl)) (ad_cons pd_int ad_nil)) (dCons_len (dCons_len (fun _ _ _ h => dNil_len h))) rfl) (ad_cons (pd_fn F__law_lock hr rfl (ad_cons (pd_var (i := 1) rfl (.inl rfl)) (ad_cons pd_int ad_nil)) (dCons_len (dCons_len (fun _ _ _ h => dNil_len h))) rfl) ad_nil)))) (ss_cons (sd_then 3 (sd_setLc (i := 9) (j := 3) rfl sc_law.nd rfl rfl (sw_true rfl rfl rfl (by decide +kernel)) (id_any (pd_var (i := 2) rfl (.inr (.inl rfl)))) (blkOk_by (N := N_law) (sc := defScope s_law) (by decide +kernel)) (fun _ _ _ _ _ => pg_name (i := 9) sc_law.nd rfl (Or.inl rfl)) (fun _ _ _ _ _ => (pd_mk C_Lock hr rfl (ad_cons (pd_ix ix_seq os_ix (pd_var (i := 9) rfl (.inl rfl)) pd_int (fun _ _ => rfl)) (ad_cons (pd_callTy call_list_of cs_list rfl T.b_list (by decide +kernel) (ad_cons (pd_ix ix_seq os_ix (pd_var (i := 9) rfl (.inl rfl)) pd_int (fun _ _ => rfl)) ad_nil)) (ad_cons (pd_callTy call_tuple_of cs_tuple rfl T.b_tuple (by decide +kernel) (ad_cons (pd_ix ix_seq os_ix (pd_var (i := 9) rfl (.inl rfl)) pd_int (fun _ _ => rfl)) ad_nil)) (ad_cons (pd_ix ix_seq os_ix (pd_var (i := 9) rfl (.inl rfl)) pd_int (fun _ _ => rfl)) (ad_cons (pd_ix ix_seq os_ix (pd_var (i := 9) rfl (.inl rfl)) pd_int (fun _ _ => rfl)) ad_nil))))) (dCons_len (dCons_len (dCons_len (dCons_len (dCons_len (fun _ _ _ h => dNil_len h)))))))))) (ss_cons (sd_set (i := 4) sc_law.nd rfl (Or.inl rfl) (pd_fn F__law_pick hr rfl (ad_cons (pd_var (i := 1) rfl (.inl rfl)) (ad_cons (pd_lst (ad_cons pd_str (ad_cons pd_str ad_nil))) ad_nil)) (dCons_len (dCons_len (fun _ _ _ h => dNil_len h))) rfl)) (ss_cons (sd_set (i := 5) sc_law.nd rfl (Or.inl rfl) (pd_lst (ad_cons (pd_tup (ad_cons pd_int (ad_cons pd_str ad_nil))) (ad_cons (pd_tup (ad_cons pd_int (ad_cons pd_str ad_nil))) (ad_cons (pd_tup (ad_cons pd_int (ad_cons (pd_var (i := 4) rfl (.inl rfl)) ad_nil))) ad_nil))))) (ss_cons (sd_then 6 (sd_setLc (i := 10) (j := 6) rfl sc_law.nd rfl rfl (sw_true rfl rfl rfl (by decide +kernel)) (id_any (pd_var (i := 5) rfl (.inl rfl))) (blkOk_by (N := N_law) (sc := defScope s_law) (by decide +kernel)) (fun _ _ _ _ _ => pg_name (i := 10) sc_law.nd rfl (Or.inl rfl)) (fun _ _ _ _ _ => (pd_fn F__law_least hr rfl (ad_cons (pd_ix ix_seq os_ix (pd_var (i := 2) rfl (by first | exact Or.inr (Or.inr rfl) | exact Or.inl rfl | exact Or.inr (Or.inl rfl))) (pd_ix ix_seq os_ix (pd_var (i := 10) rfl (.inl rfl)) pd_int (fun _ _ => rfl)) (fun _ _ => rfl)) (ad_cons (pd_ix ix_seq os_ix (pd_var (i := 10) rfl (.inl rfl)) pd_int (fun _ _ => rfl)) ad_nil)) (dCons_len (dCons_len (fun _ _ _ h => dNil_len h))) rfl)))) (ss_cons (sd_for PassesOwn.never rfl (id_any (pd_tup (ad_cons pd_int (ad_cons pd_int (ad_cons pd_int (ad_cons pd_int ad_nil)))))) (gd_name (i := 7) sc_law.nd rfl (Or.inl rfl)) (ss_cons (sd_set (i := 8) sc_law.nd rfl (Or.inl rfl) (pd_ix ix_seq os_ix (pd_ix ix_seq os_ix (pd_var (i := 5) rfl (.inl rfl)) (pd_var (i := 7) rfl (.inl rfl)) (fun _ _ => rfl)) pd_int (fun _ _ => rfl))) (ss_one (sd_if (td_w (wd_or (td_cmp op_eq os_eq (pd_ix ix_seq os_ix (pd_var (i := 6) rfl (.inl rfl)) (pd_var (i := 7) rfl (.inl rfl)) (fun _ _ => rfl)) pd_int (nomark _)) (wd_or1 (td_not (td_val (pd_fn F__law_right hr rfl (ad_cons (pd_ix ix_seq os_ix (pd_var (i := 3) rfl (.inl rfl)) (pd_var (i := 8) rfl (.inl rfl)) (fun _ _ => rfl)) (ad_cons (pd_ix ix_seq os_ix (pd_var (i := 2) rfl (.inr (.inl rfl))) (pd_var (i := 8) rfl (.inl rfl)) (fun _ _ => rfl)) (ad_cons (pd_ix ix_seq os_ix (pd_ix ix_seq os_ix (pd_var (i := 5) rfl (.inl rfl)) (pd_var (i := 7) rfl (.inl rfl)) (fun _ _ => rfl)) pd_int (fun _ _ => rfl)) (ad_cons (pd_ix ix_seq os_ix (pd_var (i := 6) rfl (.inl rfl)) (pd_var (i := 7) rfl (.inl rfl)) (fun _ _ => rfl)) ad_nil)))) (dCons_len (dCons_len (dCons_len (dCons_len (fun _ _ _ h => dNil_len h))))) rfl)))))) (ss_one (sd_ret pd_bl)) ss_nil)))) (ss_one (sd_ret pd_bl)))))))))
end
end Hd

namespace Hd
open PySem PySem.Spec Dl
/-! ### typed: locks, states, letters -/
inductive Lt where
  | f | e | U | u | D | d | i | o | w
deriving DecidableEq
def lts : List Lt := [.f, .e, .U, .u, .D, .d, .i, .o, .w]
def lc : Lt → Nat
  | .f => 102 | .e => 101 | .U => 85 | .u => 117 | .D => 68 | .d => 100 | .i => 105 | .o => 111 | .w => 119
def ls (l : Lt) : Str := ⟨#[lc l]⟩
def rs (r : List Lt) : Str := ⟨(r.map lc).toArray⟩
structure Lk where
  (L fl fh el eh lk sl : Int)
structure Lk.Ok (k : Lk) : Prop where
  L1 : 1 ≤ k.L
  L6 : k.L ≤ 6
  f1 : 1 ≤ k.fl
  f2 : k.fl ≤ k.fh
  f3 : k.fh ≤ 3
  e1 : 1 ≤ k.el
  e2 : k.el ≤ k.eh
  e3 : k.eh ≤ 3
  k0 : 0 ≤ k.lk
  k1 : k.lk ≤ 1
  kf : k.lk < k.fl
  s1 : k.lk ≤ k.sl
  s2 : k.sl ≤ 2
def dLk (k : Lk) : D := .ins 0 [.int k.L, .tup [.int k.fl, .int k.fh], .tup [.int k.el, .int k.eh], .int k.lk, .int k.sl]
def lLk (k : Lk) : D := .lst [.int k.L, .lst [.int k.fl, .int k.fh], .lst [.int k.el, .int k.eh], .int k.lk, .int k.sl]
structure St where
  (g i a b : Int)
deriving DecidableEq
def dSt (s : St) : D := .tup [.int s.g, .int s.i, .int s.a, .int s.b]
def dS (l : Lt) : D := .str (ls l)

/-! ### one step of a denotation -/
theorem gEq_dS (l : Lt) (x : Str) : gEq (dS l) (.str x) = some (.bl (decide (ls l = x))) := gEq_str _ _
theorem gNe_dS (l : Lt) (x : Str) : gNe (dS l) (.str x) = some (.bl (!decide (ls l = x))) := gNe_str _ _
theorem e_f (l : Lt) : decide (ls l = "f") = decide (l = .f) := by cases l <;> decide
theorem e_e (l : Lt) : decide (ls l = "e") = decide (l = .e) := by cases l <;> decide
theorem e_U (l : Lt) : decide (ls l = "U") = decide (l = .U) := by cases l <;> decide
theorem e_u (l : Lt) : decide (ls l = "u") = decide (l = .u) := by cases l <;> decide
theorem e_D (l : Lt) : decide (ls l = "D") = decide (l = .D) := by cases l <;> decide
theorem e_d (l : Lt) : decide (ls l = "d") = decide (l = .d) := by cases l <;> decide
theorem e_i (l : Lt) : decide (ls l = "i") = decide (l = .i) := by cases l <;> decide
theorem e_o (l : Lt) : decide (ls l = "o") = decide (l = .o) := by cases l <;> decide
theorem e_w (l : Lt) : decide (ls l = "w") = decide (l = .w) := by cases l <;> decide

/-! ### the program's small functions -/
def allowed (k : Lk) (g i c : Int) : Lt → Bool
  | .f => !decide (g = 2)
  | .e => !decide (g = 1)
  | .U => decide (g = 0) && decide (k.L - k.sl ≤ c)
  | .u => decide (g = 1)
  | .D => decide (g = 0) && decide (c ≤ k.sl)
  | .d => decide (g = 2)
  | .i => !decide (g = 0) && decide (i = 0)
  | .o => !decide (g = 0) && decide (i = 1)
  | .w => true

theorem m_allowed (k : Lk) (g i c : Int) (l : Lt) (p) : m_is_allowed [dLk k, .int g, .int i, .int c, dS l] p = some (.bl (allowed k g i c l), p) := by
  cases l <;> simp [m_is_allowed, b_is_allowed, ↓ev_run, ↓ev_seq, ↓ev_if, ↓ev_b, ↓ev_op, ↓ev_un, ↓ev_var, ↓ev_own, ↓ev_c, ↓ev_rets, ↓ev_next, ↓ev_cnt, ↓ev_andV, ↓ev_orV, ↓ev_notV, ↓ev_and, ↓ev_or, ↓ev_not, ↓ev_ite, ↓ev_nil, ↓ev_cons, ↓ev_tup, ↓ev_lst, ↓ev_call, ↓ev_fn, ↓ev_it, ↓ev_itA, ↓ev_for, ↓ev_fld, ↓ev_set, ↓ev_setO, ↓ev_app, ↓ev_asg, ↓ev_bm, asStr, ↓ev_lc, ↓ev_yes, ↓ev_dk0, ↓ev_dn1, ↓ev_dn, ↓ev_dk, ↓ev_frz, ↓ev_thn, ↓ev_par, ↓ev_chain, fldD, ↓tn_some, tn_ite, aft_nx, aft_rt, aft_ct, slotV_val, slotO_own, runO, asB, gEq_int, gEq_str, gNe_int, gNe_str, gCmp, gSub, gAdd_int, gTp, gCn, gNl, gNm, gEq_dS, gNe_dS, dLk, e_f, e_e, e_U, e_u, e_D, e_d, e_i, e_o, e_w, allowed] <;> split <;> simp [↓ev_run, ↓ev_seq, ↓ev_if, ↓ev_b, ↓ev_op, ↓ev_un, ↓ev_var, ↓ev_own, ↓ev_c, ↓ev_rets, ↓ev_next, ↓ev_cnt, ↓ev_andV, ↓ev_orV, ↓ev_notV, ↓ev_and, ↓ev_or, ↓ev_not, ↓ev_ite, ↓ev_nil, ↓ev_cons, ↓ev_tup, ↓ev_lst, ↓ev_call, ↓ev_fn, ↓ev_it, ↓ev_itA, ↓ev_for, ↓ev_fld, ↓ev_set, ↓ev_setO, ↓ev_app, ↓ev_asg, ↓ev_bm, asStr, ↓ev_lc, ↓ev_yes, ↓ev_dk0, ↓ev_dn1, ↓ev_dn, ↓ev_dk, ↓ev_frz, ↓ev_thn, ↓ev_par, ↓ev_chain, fldD, ↓tn_some, tn_ite, aft_nx, aft_rt, aft_ct, slotV_val, slotO_own, runO, asB, gEq_int, gEq_str, gNe_int, gNe_str, gCmp, gSub, gAdd_int, gTp, gCn, gNl, gNm, *]
def gAf (g : Int) : Lt → Int
  | .U => 1
  | .D => 2
  | .u => 0
  | .d => 0
  | _ => g
theorem m_gAf (g : Int) (l : Lt) (p) : m_gate_after [.int g, dS l] p = some (.int (gAf g l), p) := by
  cases l <;> simp [m_gate_after, b_gate_after, ↓ev_run, ↓ev_seq, ↓ev_if, ↓ev_b, ↓ev_op, ↓ev_un, ↓ev_var, ↓ev_own, ↓ev_c, ↓ev_rets, ↓ev_next, ↓ev_cnt, ↓ev_andV, ↓ev_orV, ↓ev_notV, ↓ev_and, ↓ev_or, ↓ev_not, ↓ev_ite, ↓ev_nil, ↓ev_cons, ↓ev_tup, ↓ev_lst, ↓ev_call, ↓ev_fn, ↓ev_it, ↓ev_itA, ↓ev_for, ↓ev_fld, ↓ev_set, ↓ev_setO, ↓ev_app, ↓ev_asg, ↓ev_bm, asStr, ↓ev_lc, ↓ev_yes, ↓ev_dk0, ↓ev_dn1, ↓ev_dn, ↓ev_dk, ↓ev_frz, ↓ev_thn, ↓ev_par, ↓ev_chain, fldD, ↓tn_some, tn_ite, aft_nx, aft_rt, aft_ct, slotV_val, slotO_own, runO, asB, gEq_int, gEq_str, gNe_int, gNe_str, gCmp, gSub, gAdd_int, gTp, gCn, gNl, gNm, gEq_dS, gNe_dS, dLk, e_f, e_e, e_U, e_u, e_D, e_d, e_i, e_o, e_w, gAf]
def iAf (i : Int) : Lt → Int
  | .i => 1
  | .o => 0
  | _ => i
theorem m_iAf (i : Int) (l : Lt) (p) : m_inside_after [.int i, dS l] p = some (.int (iAf i l), p) := by
  cases l <;> simp [m_inside_after, b_inside_after, ↓ev_run, ↓ev_seq, ↓ev_if, ↓ev_b, ↓ev_op, ↓ev_un, ↓ev_var, ↓ev_own, ↓ev_c, ↓ev_rets, ↓ev_next, ↓ev_cnt, ↓ev_andV, ↓ev_orV, ↓ev_notV, ↓ev_and, ↓ev_or, ↓ev_not, ↓ev_ite, ↓ev_nil, ↓ev_cons, ↓ev_tup, ↓ev_lst, ↓ev_call, ↓ev_fn, ↓ev_it, ↓ev_itA, ↓ev_for, ↓ev_fld, ↓ev_set, ↓ev_setO, ↓ev_app, ↓ev_asg, ↓ev_bm, asStr, ↓ev_lc, ↓ev_yes, ↓ev_dk0, ↓ev_dn1, ↓ev_dn, ↓ev_dk, ↓ev_frz, ↓ev_thn, ↓ev_par, ↓ev_chain, fldD, ↓tn_some, tn_ite, aft_nx, aft_rt, aft_ct, slotV_val, slotO_own, runO, asB, gEq_int, gEq_str, gNe_int, gNe_str, gCmp, gSub, gAdd_int, gTp, gCn, gNl, gNm, gEq_dS, gNe_dS, dLk, e_f, e_e, e_U, e_u, e_D, e_d, e_i, e_o, e_w, iAf]
def mv (k : Lk) (c : Int) (l : Lt) (m : Int) : Int := match l with
  | .f => if c + m < k.L then c + m else k.L
  | .e => if c - m > 0 then c - m else 0
  | .U => k.L
  | .D => 0
  | _ => c
theorem m_mv (k : Lk) (c : Int) (l : Lt) (m : Int) (p) : m_moved_level [dLk k, .int c, dS l, .int m] p = some (.int (mv k c l m), p) := by
  cases l <;> simp [m_moved_level, b_moved_level, ↓ev_run, ↓ev_seq, ↓ev_if, ↓ev_b, ↓ev_op, ↓ev_un, ↓ev_var, ↓ev_own, ↓ev_c, ↓ev_rets, ↓ev_next, ↓ev_cnt, ↓ev_andV, ↓ev_orV, ↓ev_notV, ↓ev_and, ↓ev_or, ↓ev_not, ↓ev_ite, ↓ev_nil, ↓ev_cons, ↓ev_tup, ↓ev_lst, ↓ev_call, ↓ev_fn, ↓ev_it, ↓ev_itA, ↓ev_for, ↓ev_fld, ↓ev_set, ↓ev_setO, ↓ev_app, ↓ev_asg, ↓ev_bm, asStr, ↓ev_lc, ↓ev_yes, ↓ev_dk0, ↓ev_dn1, ↓ev_dn, ↓ev_dk, ↓ev_frz, ↓ev_thn, ↓ev_par, ↓ev_chain, fldD, ↓tn_some, tn_ite, aft_nx, aft_rt, aft_ct, slotV_val, slotO_own, runO, asB, gEq_int, gEq_str, gNe_int, gNe_str, gCmp, gSub, gAdd_int, gTp, gCn, gNl, gNm, gEq_dS, gNe_dS, dLk, e_f, e_e, e_U, e_u, e_D, e_d, e_i, e_o, e_w, mv, gMin2, gMax2]
def am (k : Lk) : Lt → Int × Int
  | .f => (k.fl, k.fh)
  | .e => (k.el, k.eh)
  | _ => (0, 0)
theorem m_am (k : Lk) (l : Lt) (p) : m_amounts [dLk k, dS l] p = some (.tup [.int (am k l).1, .int (am k l).2], p) := by
  cases l <;> simp [m_amounts, b_amounts, ↓ev_run, ↓ev_seq, ↓ev_if, ↓ev_b, ↓ev_op, ↓ev_un, ↓ev_var, ↓ev_own, ↓ev_c, ↓ev_rets, ↓ev_next, ↓ev_cnt, ↓ev_andV, ↓ev_orV, ↓ev_notV, ↓ev_and, ↓ev_or, ↓ev_not, ↓ev_ite, ↓ev_nil, ↓ev_cons, ↓ev_tup, ↓ev_lst, ↓ev_call, ↓ev_fn, ↓ev_it, ↓ev_itA, ↓ev_for, ↓ev_fld, ↓ev_set, ↓ev_setO, ↓ev_app, ↓ev_asg, ↓ev_bm, asStr, ↓ev_lc, ↓ev_yes, ↓ev_dk0, ↓ev_dn1, ↓ev_dn, ↓ev_dk, ↓ev_frz, ↓ev_thn, ↓ev_par, ↓ev_chain, fldD, ↓tn_some, tn_ite, aft_nx, aft_rt, aft_ct, slotV_val, slotO_own, runO, asB, gEq_int, gEq_str, gNe_int, gNe_str, gCmp, gSub, gAdd_int, gTp, gCn, gNl, gNm, gEq_dS, gNe_dS, dLk, e_f, e_e, e_U, e_u, e_D, e_d, e_i, e_o, e_w, am]
def lkA (k : Lk) (g : Int) : Int := if g = 0 then k.lk else 0
theorem m_lkA (k : Lk) (g : Int) (p) : m_most_leak [dLk k, .int g] p = some (.int (lkA k g), p) := by
  simp [m_most_leak, b_most_leak, ↓ev_run, ↓ev_seq, ↓ev_if, ↓ev_b, ↓ev_op, ↓ev_un, ↓ev_var, ↓ev_own, ↓ev_c, ↓ev_rets, ↓ev_next, ↓ev_cnt, ↓ev_andV, ↓ev_orV, ↓ev_notV, ↓ev_and, ↓ev_or, ↓ev_not, ↓ev_ite, ↓ev_nil, ↓ev_cons, ↓ev_tup, ↓ev_lst, ↓ev_call, ↓ev_fn, ↓ev_it, ↓ev_itA, ↓ev_for, ↓ev_fld, ↓ev_set, ↓ev_setO, ↓ev_app, ↓ev_asg, ↓ev_bm, asStr, ↓ev_lc, ↓ev_yes, ↓ev_dk0, ↓ev_dn1, ↓ev_dn, ↓ev_dk, ↓ev_frz, ↓ev_thn, ↓ev_par, ↓ev_chain, fldD, ↓tn_some, tn_ite, aft_nx, aft_rt, aft_ct, slotV_val, slotO_own, runO, asB, gEq_int, gEq_str, gNe_int, gNe_str, gCmp, gSub, gAdd_int, gTp, gCn, gNl, gNm, gEq_dS, gNe_dS, dLk, e_f, e_e, e_U, e_u, e_D, e_d, e_i, e_o, e_w, lkA]
  split <;> simp [↓ev_run, ↓ev_seq, ↓ev_if, ↓ev_b, ↓ev_op, ↓ev_un, ↓ev_var, ↓ev_own, ↓ev_c, ↓ev_rets, ↓ev_next, ↓ev_cnt, ↓ev_andV, ↓ev_orV, ↓ev_notV, ↓ev_and, ↓ev_or, ↓ev_not, ↓ev_ite, ↓ev_nil, ↓ev_cons, ↓ev_tup, ↓ev_lst, ↓ev_call, ↓ev_fn, ↓ev_it, ↓ev_itA, ↓ev_for, ↓ev_fld, ↓ev_set, ↓ev_setO, ↓ev_app, ↓ev_asg, ↓ev_bm, asStr, ↓ev_lc, ↓ev_yes, ↓ev_dk0, ↓ev_dn1, ↓ev_dn, ↓ev_dk, ↓ev_frz, ↓ev_thn, ↓ev_par, ↓ev_chain, fldD, ↓tn_some, tn_ite, aft_nx, aft_rt, aft_ct, slotV_val, slotO_own, runO, asB, gEq_int, gEq_str, gNe_int, gNe_str, gCmp, gSub, gAdd_int, gTp, gCn, gNl, gNm, *]
def st0 (k : Lk) : St := ⟨0, 0, 0, k.L⟩
theorem m_st0 (k : Lk) (p) : m_first_state [dLk k] p = some (dSt (st0 k), p) := by
  simp [m_first_state, b_first_state, ↓ev_run, ↓ev_seq, ↓ev_if, ↓ev_b, ↓ev_op, ↓ev_un, ↓ev_var, ↓ev_own, ↓ev_c, ↓ev_rets, ↓ev_next, ↓ev_cnt, ↓ev_andV, ↓ev_orV, ↓ev_notV, ↓ev_and, ↓ev_or, ↓ev_not, ↓ev_ite, ↓ev_nil, ↓ev_cons, ↓ev_tup, ↓ev_lst, ↓ev_call, ↓ev_fn, ↓ev_it, ↓ev_itA, ↓ev_for, ↓ev_fld, ↓ev_set, ↓ev_setO, ↓ev_app, ↓ev_asg, ↓ev_bm, asStr, ↓ev_lc, ↓ev_yes, ↓ev_dk0, ↓ev_dn1, ↓ev_dn, ↓ev_dk, ↓ev_frz, ↓ev_thn, ↓ev_par, ↓ev_chain, fldD, ↓tn_some, tn_ite, aft_nx, aft_rt, aft_ct, slotV_val, slotO_own, runO, asB, gEq_int, gEq_str, gNe_int, gNe_str, gCmp, gSub, gAdd_int, gTp, gCn, gNl, gNm, gEq_dS, gNe_dS, dLk, e_f, e_e, e_U, e_u, e_D, e_d, e_i, e_o, e_w, st0, dSt]
def mx0 (n : Int) : Int := if n > 0 then n else 0
def nextS (k : Lk) (s : St) (l : Lt) : Option St :=
  if allowed k s.g s.i s.a l = true ∧ allowed k s.g s.i s.b l = true then
    some ⟨gAf s.g l, iAf s.i l, mx0 (mv k s.a l (if l = .e then (am k l).2 else (am k l).1) - lkA k (gAf s.g l)), mv k s.b l (if l = .e then (am k l).1 else (am k l).2)⟩
  else none
def oD (o : Option St) : D := match o with
  | some s => dSt s
  | none => .non
theorem m_next (k : Lk) (s : St) (l : Lt) (p) : m_next_state [dLk k, dSt s, dS l] p = some (oD (nextS k s l), p) := by
  unfold nextS
  by_cases h1 : allowed k s.g s.i s.a l = true
  · by_cases h2 : allowed k s.g s.i s.b l = true
    · by_cases h3 : l = .e
      · subst h3
        simp [m_next_state, b_next_state, ↓ev_run, ↓ev_seq, ↓ev_if, ↓ev_b, ↓ev_op, ↓ev_un, ↓ev_var, ↓ev_own, ↓ev_c, ↓ev_rets, ↓ev_next, ↓ev_cnt, ↓ev_andV, ↓ev_orV, ↓ev_notV, ↓ev_and, ↓ev_or, ↓ev_not, ↓ev_ite, ↓ev_nil, ↓ev_cons, ↓ev_tup, ↓ev_lst, ↓ev_call, ↓ev_fn, ↓ev_it, ↓ev_itA, ↓ev_for, ↓ev_fld, ↓ev_set, ↓ev_setO, ↓ev_app, ↓ev_asg, ↓ev_bm, asStr, ↓ev_lc, ↓ev_yes, ↓ev_dk0, ↓ev_dn1, ↓ev_dn, ↓ev_dk, ↓ev_frz, ↓ev_thn, ↓ev_par, ↓ev_chain, fldD, ↓tn_some, tn_ite, aft_nx, aft_rt, aft_ct, slotV_val, slotO_own, runO, asB, gEq_int, gEq_str, gNe_int, gNe_str, gCmp, gSub, gAdd_int, gTp, gCn, gNl, gNm, dSt, m_allowed, h1, h2, m_am, gEq_dS, e_e, m_gAf, m_iAf, m_mv, m_lkA, gMax2, mx0, oD]
      · simp [m_next_state, b_next_state, ↓ev_run, ↓ev_seq, ↓ev_if, ↓ev_b, ↓ev_op, ↓ev_un, ↓ev_var, ↓ev_own, ↓ev_c, ↓ev_rets, ↓ev_next, ↓ev_cnt, ↓ev_andV, ↓ev_orV, ↓ev_notV, ↓ev_and, ↓ev_or, ↓ev_not, ↓ev_ite, ↓ev_nil, ↓ev_cons, ↓ev_tup, ↓ev_lst, ↓ev_call, ↓ev_fn, ↓ev_it, ↓ev_itA, ↓ev_for, ↓ev_fld, ↓ev_set, ↓ev_setO, ↓ev_app, ↓ev_asg, ↓ev_bm, asStr, ↓ev_lc, ↓ev_yes, ↓ev_dk0, ↓ev_dn1, ↓ev_dn, ↓ev_dk, ↓ev_frz, ↓ev_thn, ↓ev_par, ↓ev_chain, fldD, ↓tn_some, tn_ite, aft_nx, aft_rt, aft_ct, slotV_val, slotO_own, runO, asB, gEq_int, gEq_str, gNe_int, gNe_str, gCmp, gSub, gAdd_int, gTp, gCn, gNl, gNm, dSt, m_allowed, h1, h2, h3, m_am, gEq_dS, e_e, m_gAf, m_iAf, m_mv, m_lkA, gMax2, mx0, oD]
    · simp [m_next_state, b_next_state, ↓ev_run, ↓ev_seq, ↓ev_if, ↓ev_b, ↓ev_op, ↓ev_un, ↓ev_var, ↓ev_own, ↓ev_c, ↓ev_rets, ↓ev_next, ↓ev_cnt, ↓ev_andV, ↓ev_orV, ↓ev_notV, ↓ev_and, ↓ev_or, ↓ev_not, ↓ev_ite, ↓ev_nil, ↓ev_cons, ↓ev_tup, ↓ev_lst, ↓ev_call, ↓ev_fn, ↓ev_it, ↓ev_itA, ↓ev_for, ↓ev_fld, ↓ev_set, ↓ev_setO, ↓ev_app, ↓ev_asg, ↓ev_bm, asStr, ↓ev_lc, ↓ev_yes, ↓ev_dk0, ↓ev_dn1, ↓ev_dn, ↓ev_dk, ↓ev_frz, ↓ev_thn, ↓ev_par, ↓ev_chain, fldD, ↓tn_some, tn_ite, aft_nx, aft_rt, aft_ct, slotV_val, slotO_own, runO, asB, gEq_int, gEq_str, gNe_int, gNe_str, gCmp, gSub, gAdd_int, gTp, gCn, gNl, gNm, dSt, m_allowed, h1, h2, oD]
  · simp [m_next_state, b_next_state, ↓ev_run, ↓ev_seq, ↓ev_if, ↓ev_b, ↓ev_op, ↓ev_un, ↓ev_var, ↓ev_own, ↓ev_c, ↓ev_rets, ↓ev_next, ↓ev_cnt, ↓ev_andV, ↓ev_orV, ↓ev_notV, ↓ev_and, ↓ev_or, ↓ev_not, ↓ev_ite, ↓ev_nil, ↓ev_cons, ↓ev_tup, ↓ev_lst, ↓ev_call, ↓ev_fn, ↓ev_it, ↓ev_itA, ↓ev_for, ↓ev_fld, ↓ev_set, ↓ev_setO, ↓ev_app, ↓ev_asg, ↓ev_bm, asStr, ↓ev_lc, ↓ev_yes, ↓ev_dk0, ↓ev_dn1, ↓ev_dn, ↓ev_dk, ↓ev_frz, ↓ev_thn, ↓ev_par, ↓ev_chain, fldD, ↓tn_some, tn_ite, aft_nx, aft_rt, aft_ct, slotV_val, slotO_own, runO, asB, gEq_int, gEq_str, gNe_int, gNe_str, gCmp, gSub, gAdd_int, gTp, gCn, gNl, gNm, dSt, m_allowed, h1, oD]

def wS : Bool → Str
  | true => "up"
  | false => "down"
def wD (u : Bool) : D := .str (wS u)
theorem gEq_wD (u : Bool) : gEq (wD u) (.str "up") = some (.bl u) := by cases u <;> exact gEq_str _ _
def en : Bool → Int
  | true => 2
  | false => 1
theorem m_sides (u : Bool) (p) : m_sides_of [wD u] p = some (.tup [.int (en u), .int (3 - en u)], p) := by
  cases u <;> simp [m_sides_of, b_sides_of, ↓ev_run, ↓ev_seq, ↓ev_if, ↓ev_b, ↓ev_op, ↓ev_un, ↓ev_var, ↓ev_own, ↓ev_c, ↓ev_rets, ↓ev_next, ↓ev_cnt, ↓ev_andV, ↓ev_orV, ↓ev_notV, ↓ev_and, ↓ev_or, ↓ev_not, ↓ev_ite, ↓ev_nil, ↓ev_cons, ↓ev_tup, ↓ev_lst, ↓ev_call, ↓ev_fn, ↓ev_it, ↓ev_itA, ↓ev_for, ↓ev_fld, ↓ev_set, ↓ev_setO, ↓ev_app, ↓ev_asg, ↓ev_bm, asStr, ↓ev_lc, ↓ev_yes, ↓ev_dk0, ↓ev_dn1, ↓ev_dn, ↓ev_dk, ↓ev_frz, ↓ev_thn, ↓ev_par, ↓ev_chain, fldD, ↓tn_some, tn_ite, aft_nx, aft_rt, aft_ct, slotV_val, slotO_own, runO, asB, gEq_int, gEq_str, gNe_int, gNe_str, gCmp, gSub, gAdd_int, gTp, gCn, gNl, gNm, gEq_wD, en]
def shA (u : Bool) (c g : Int) : Lt → Option Int
  | .i => if c = 0 ∧ g = en u then some 1 else none
  | .o => if c = 1 ∧ g = 3 - en u then some 2 else none
  | _ => some c
def oI : Option Int → D
  | some i => .int i
  | none => .non
theorem m_ship (u : Bool) (c g : Int) (l : Lt) (p) : m_ship_after [.int c, .int g, dS l, wD u] p = some (oI (shA u c g l), p) := by
  cases l <;> simp [m_ship_after, b_ship_after, ↓ev_run, ↓ev_seq, ↓ev_if, ↓ev_b, ↓ev_op, ↓ev_un, ↓ev_var, ↓ev_own, ↓ev_c, ↓ev_rets, ↓ev_next, ↓ev_cnt, ↓ev_andV, ↓ev_orV, ↓ev_notV, ↓ev_and, ↓ev_or, ↓ev_not, ↓ev_ite, ↓ev_nil, ↓ev_cons, ↓ev_tup, ↓ev_lst, ↓ev_call, ↓ev_fn, ↓ev_it, ↓ev_itA, ↓ev_for, ↓ev_fld, ↓ev_set, ↓ev_setO, ↓ev_app, ↓ev_asg, ↓ev_bm, asStr, ↓ev_lc, ↓ev_yes, ↓ev_dk0, ↓ev_dn1, ↓ev_dn, ↓ev_dk, ↓ev_frz, ↓ev_thn, ↓ev_par, ↓ev_chain, fldD, ↓tn_some, tn_ite, aft_nx, aft_rt, aft_ct, slotV_val, slotO_own, runO, asB, gEq_int, gEq_str, gNe_int, gNe_str, gCmp, gSub, gAdd_int, gTp, gCn, gNl, gNm, gEq_dS, gNe_dS, dLk, e_f, e_e, e_U, e_u, e_D, e_d, e_i, e_o, e_w, m_sides, shA, oI]
  · by_cases h : c = 0 <;> by_cases h2 : g = en u <;> simp [↓ev_run, ↓ev_seq, ↓ev_if, ↓ev_b, ↓ev_op, ↓ev_un, ↓ev_var, ↓ev_own, ↓ev_c, ↓ev_rets, ↓ev_next, ↓ev_cnt, ↓ev_andV, ↓ev_orV, ↓ev_notV, ↓ev_and, ↓ev_or, ↓ev_not, ↓ev_ite, ↓ev_nil, ↓ev_cons, ↓ev_tup, ↓ev_lst, ↓ev_call, ↓ev_fn, ↓ev_it, ↓ev_itA, ↓ev_for, ↓ev_fld, ↓ev_set, ↓ev_setO, ↓ev_app, ↓ev_asg, ↓ev_bm, asStr, ↓ev_lc, ↓ev_yes, ↓ev_dk0, ↓ev_dn1, ↓ev_dn, ↓ev_dk, ↓ev_frz, ↓ev_thn, ↓ev_par, ↓ev_chain, fldD, ↓tn_some, tn_ite, aft_nx, aft_rt, aft_ct, slotV_val, slotO_own, runO, asB, gEq_int, gEq_str, gNe_int, gNe_str, gCmp, gSub, gAdd_int, gTp, gCn, gNl, gNm, h, h2]
  · by_cases h : c = 1 <;> by_cases h2 : g = 3 - en u <;> simp [↓ev_run, ↓ev_seq, ↓ev_if, ↓ev_b, ↓ev_op, ↓ev_un, ↓ev_var, ↓ev_own, ↓ev_c, ↓ev_rets, ↓ev_next, ↓ev_cnt, ↓ev_andV, ↓ev_orV, ↓ev_notV, ↓ev_and, ↓ev_or, ↓ev_not, ↓ev_ite, ↓ev_nil, ↓ev_cons, ↓ev_tup, ↓ev_lst, ↓ev_call, ↓ev_fn, ↓ev_it, ↓ev_itA, ↓ev_for, ↓ev_fld, ↓ev_set, ↓ev_setO, ↓ev_app, ↓ev_asg, ↓ev_bm, asStr, ↓ev_lc, ↓ev_yes, ↓ev_dk0, ↓ev_dn1, ↓ev_dn, ↓ev_dk, ↓ev_frz, ↓ev_thn, ↓ev_par, ↓ev_chain, fldD, ↓tn_some, tn_ite, aft_nx, aft_rt, aft_ct, slotV_val, slotO_own, runO, asB, gEq_int, gEq_str, gNe_int, gNe_str, gCmp, gSub, gAdd_int, gTp, gCn, gNl, gNm, h, h2]
/-! ### the law's small functions -/
def allowedL (g i c : Int) (k : Lk) : Lt → Bool
  | .i => decide (1 ≤ g) && decide (i = 0)
  | .o => decide (1 ≤ g) && decide (i = 1)
  | l => allowed k g i c l
theorem m_cAl (k : Lk) (g i c : Int) (l : Lt) (p) : m__law_c_allowed [lLk k, dS l, .int g, .int i, .int c] p = some (.bl (allowedL g i c k l), p) := by
  cases l <;> simp [m__law_c_allowed, b__law_c_allowed, ↓ev_run, ↓ev_seq, ↓ev_if, ↓ev_b, ↓ev_op, ↓ev_un, ↓ev_var, ↓ev_own, ↓ev_c, ↓ev_rets, ↓ev_next, ↓ev_cnt, ↓ev_andV, ↓ev_orV, ↓ev_notV, ↓ev_and, ↓ev_or, ↓ev_not, ↓ev_ite, ↓ev_nil, ↓ev_cons, ↓ev_tup, ↓ev_lst, ↓ev_call, ↓ev_fn, ↓ev_it, ↓ev_itA, ↓ev_for, ↓ev_fld, ↓ev_set, ↓ev_setO, ↓ev_app, ↓ev_asg, ↓ev_bm, asStr, ↓ev_lc, ↓ev_yes, ↓ev_dk0, ↓ev_dn1, ↓ev_dn, ↓ev_dk, ↓ev_frz, ↓ev_thn, ↓ev_par, ↓ev_chain, fldD, ↓tn_some, tn_ite, aft_nx, aft_rt, aft_ct, slotV_val, slotO_own, runO, asB, gEq_int, gEq_str, gNe_int, gNe_str, gCmp, gSub, gAdd_int, gTp, gCn, gNl, gNm, gEq_dS, gNe_dS, dLk, e_f, e_e, e_U, e_u, e_D, e_d, e_i, e_o, e_w, gIx, L2.atI, L2.ixN, lLk, allowedL, allowed] <;> split <;> simp [↓ev_run, ↓ev_seq, ↓ev_if, ↓ev_b, ↓ev_op, ↓ev_un, ↓ev_var, ↓ev_own, ↓ev_c, ↓ev_rets, ↓ev_next, ↓ev_cnt, ↓ev_andV, ↓ev_orV, ↓ev_notV, ↓ev_and, ↓ev_or, ↓ev_not, ↓ev_ite, ↓ev_nil, ↓ev_cons, ↓ev_tup, ↓ev_lst, ↓ev_call, ↓ev_fn, ↓ev_it, ↓ev_itA, ↓ev_for, ↓ev_fld, ↓ev_set, ↓ev_setO, ↓ev_app, ↓ev_asg, ↓ev_bm, asStr, ↓ev_lc, ↓ev_yes, ↓ev_dk0, ↓ev_dn1, ↓ev_dn, ↓ev_dk, ↓ev_frz, ↓ev_thn, ↓ev_par, ↓ev_chain, fldD, ↓tn_some, tn_ite, aft_nx, aft_rt, aft_ct, slotV_val, slotO_own, runO, asB, gEq_int, gEq_str, gNe_int, gNe_str, gCmp, gSub, gAdd_int, gTp, gCn, gNl, gNm, *]
def mvL (k : Lk) (c : Int) (l : Lt) (m : Int) : Int := match l with
  | .f => c + ((if c + m < k.L then c + m else k.L) - c)
  | .e => if c - m > 0 then c - m else 0
  | .U => k.L
  | .D => 0
  | _ => c
def drL (k : Lk) (c : Int) (l : Lt) (m : Int) : Int := match l with
  | .f => (if c + m < k.L then c + m else k.L) - c
  | .U => k.L - c
  | _ => 0
def iAfL (i : Int) : Lt → Int
  | .i => 1 - i
  | .o => 1 - i
  | _ => i
def cS (k : Lk) (g c : Int) (l : Lt) (m q : Int) : Int := if gAf g l = 0 then (if mvL k c l m - q > 0 then mvL k c l m - q else 0) else mvL k c l m
theorem m_cSt (k : Lk) (g i c m q : Int) (l : Lt) (p) : m__law_c_step [lLk k, dS l, .int g, .int i, .int c, .int m, .int q] p = some (.tup [.int (gAf g l), .int (iAfL i l), .int (cS k g c l m q), .int (drL k c l m)], p) := by
  cases l <;> simp [m__law_c_step, b__law_c_step, ↓ev_run, ↓ev_seq, ↓ev_if, ↓ev_b, ↓ev_op, ↓ev_un, ↓ev_var, ↓ev_own, ↓ev_c, ↓ev_rets, ↓ev_next, ↓ev_cnt, ↓ev_andV, ↓ev_orV, ↓ev_notV, ↓ev_and, ↓ev_or, ↓ev_not, ↓ev_ite, ↓ev_nil, ↓ev_cons, ↓ev_tup, ↓ev_lst, ↓ev_call, ↓ev_fn, ↓ev_it, ↓ev_itA, ↓ev_for, ↓ev_fld, ↓ev_set, ↓ev_setO, ↓ev_app, ↓ev_asg, ↓ev_bm, asStr, ↓ev_lc, ↓ev_yes, ↓ev_dk0, ↓ev_dn1, ↓ev_dn, ↓ev_dk, ↓ev_frz, ↓ev_thn, ↓ev_par, ↓ev_chain, fldD, ↓tn_some, tn_ite, aft_nx, aft_rt, aft_ct, slotV_val, slotO_own, runO, asB, gEq_int, gEq_str, gNe_int, gNe_str, gCmp, gSub, gAdd_int, gTp, gCn, gNl, gNm, gEq_dS, gNe_dS, dLk, e_f, e_e, e_U, e_u, e_D, e_d, e_i, e_o, e_w, gIx, L2.atI, L2.ixN, lLk, gAf, iAfL, cS, mvL, drL, gMin2, gMax2] <;> split <;> simp [↓ev_run, ↓ev_seq, ↓ev_if, ↓ev_b, ↓ev_op, ↓ev_un, ↓ev_var, ↓ev_own, ↓ev_c, ↓ev_rets, ↓ev_next, ↓ev_cnt, ↓ev_andV, ↓ev_orV, ↓ev_notV, ↓ev_and, ↓ev_or, ↓ev_not, ↓ev_ite, ↓ev_nil, ↓ev_cons, ↓ev_tup, ↓ev_lst, ↓ev_call, ↓ev_fn, ↓ev_it, ↓ev_itA, ↓ev_for, ↓ev_fld, ↓ev_set, ↓ev_setO, ↓ev_app, ↓ev_asg, ↓ev_bm, asStr, ↓ev_lc, ↓ev_yes, ↓ev_dk0, ↓ev_dn1, ↓ev_dn, ↓ev_dk, ↓ev_frz, ↓ev_thn, ↓ev_par, ↓ev_chain, fldD, ↓tn_some, tn_ite, aft_nx, aft_rt, aft_ct, slotV_val, slotO_own, runO, asB, gEq_int, gEq_str, gNe_int, gNe_str, gCmp, gSub, gAdd_int, gTp, gCn, gNl, gNm, *]
def amL (k : Lk) : Lt → List Int
  | .f => upI k.fl (k.fh + 1 - k.fl).toNat
  | .e => upI k.el (k.eh + 1 - k.el).toNat
  | _ => [0]
theorem m_cAm {k : Lk} (ok : k.Ok) (l : Lt) (p) : m__law_c_amounts [lLk k, dS l] p = some (.lst ((amL k l).map .int), p) := by
  obtain ⟨_, _, _, _, _, _, _, _, _, _, _, _, _⟩ := ok
  have h1 : -4611686018427387904 ≤ k.fl ∧ k.fl < 4611686018427387904 ∧ -4611686018427387904 ≤ k.fh + 1 ∧ k.fh + 1 < 4611686018427387904 := by omega
  have h2 : -4611686018427387904 ≤ k.el ∧ k.el < 4611686018427387904 ∧ -4611686018427387904 ≤ k.eh + 1 ∧ k.eh + 1 < 4611686018427387904 := by omega
  cases l <;> simp [m__law_c_amounts, b__law_c_amounts, ↓ev_run, ↓ev_seq, ↓ev_if, ↓ev_b, ↓ev_op, ↓ev_un, ↓ev_var, ↓ev_own, ↓ev_c, ↓ev_rets, ↓ev_next, ↓ev_cnt, ↓ev_andV, ↓ev_orV, ↓ev_notV, ↓ev_and, ↓ev_or, ↓ev_not, ↓ev_ite, ↓ev_nil, ↓ev_cons, ↓ev_tup, ↓ev_lst, ↓ev_call, ↓ev_fn, ↓ev_it, ↓ev_itA, ↓ev_for, ↓ev_fld, ↓ev_set, ↓ev_setO, ↓ev_app, ↓ev_asg, ↓ev_bm, asStr, ↓ev_lc, ↓ev_yes, ↓ev_dk0, ↓ev_dn1, ↓ev_dn, ↓ev_dk, ↓ev_frz, ↓ev_thn, ↓ev_par, ↓ev_chain, fldD, ↓tn_some, tn_ite, aft_nx, aft_rt, aft_ct, slotV_val, slotO_own, runO, asB, gEq_int, gEq_str, gNe_int, gNe_str, gCmp, gSub, gAdd_int, gTp, gCn, gNl, gNm, gEq_dS, gNe_dS, dLk, e_f, e_e, e_U, e_u, e_D, e_d, e_i, e_o, e_w, gIx, L2.atI, L2.ixN, lLk, amL, rng2, h1, h2]
  · rw [lc_id (by simp) _ (by rw [len_upTo]; omega), upTo_int]; simp [↓ev_run, ↓ev_seq, ↓ev_if, ↓ev_b, ↓ev_op, ↓ev_un, ↓ev_var, ↓ev_own, ↓ev_c, ↓ev_rets, ↓ev_next, ↓ev_cnt, ↓ev_andV, ↓ev_orV, ↓ev_notV, ↓ev_and, ↓ev_or, ↓ev_not, ↓ev_ite, ↓ev_nil, ↓ev_cons, ↓ev_tup, ↓ev_lst, ↓ev_call, ↓ev_fn, ↓ev_it, ↓ev_itA, ↓ev_for, ↓ev_fld, ↓ev_set, ↓ev_setO, ↓ev_app, ↓ev_asg, ↓ev_bm, asStr, ↓ev_lc, ↓ev_yes, ↓ev_dk0, ↓ev_dn1, ↓ev_dn, ↓ev_dk, ↓ev_frz, ↓ev_thn, ↓ev_par, ↓ev_chain, fldD, ↓tn_some, tn_ite, aft_nx, aft_rt, aft_ct, slotV_val, slotO_own, runO, asB, gEq_int, gEq_str, gNe_int, gNe_str, gCmp, gSub, gAdd_int, gTp, gCn, gNl, gNm]
  · rw [lc_id (by simp) _ (by rw [len_upTo]; omega), upTo_int]; simp [↓ev_run, ↓ev_seq, ↓ev_if, ↓ev_b, ↓ev_op, ↓ev_un, ↓ev_var, ↓ev_own, ↓ev_c, ↓ev_rets, ↓ev_next, ↓ev_cnt, ↓ev_andV, ↓ev_orV, ↓ev_notV, ↓ev_and, ↓ev_or, ↓ev_not, ↓ev_ite, ↓ev_nil, ↓ev_cons, ↓ev_tup, ↓ev_lst, ↓ev_call, ↓ev_fn, ↓ev_it, ↓ev_itA, ↓ev_for, ↓ev_fld, ↓ev_set, ↓ev_setO, ↓ev_app, ↓ev_asg, ↓ev_bm, asStr, ↓ev_lc, ↓ev_yes, ↓ev_dk0, ↓ev_dn1, ↓ev_dn, ↓ev_dk, ↓ev_frz, ↓ev_thn, ↓ev_par, ↓ev_chain, fldD, ↓tn_some, tn_ite, aft_nx, aft_rt, aft_ct, slotV_val, slotO_own, runO, asB, gEq_int, gEq_str, gNe_int, gNe_str, gCmp, gSub, gAdd_int, gTp, gCn, gNl, gNm]
end Hd

namespace Hd
open PySem PySem.Spec Dl
/-! ### the law's step on an interval is the program's -/
structure StOk (k : Lk) (s : St) : Prop where
  g0 : 0 ≤ s.g
  g2 : s.g ≤ 2
  i0 : 0 ≤ s.i
  i1 : s.i ≤ 1
  a0 : 0 ≤ s.a
  ab : s.a ≤ s.b
  bL : s.b ≤ k.L
theorem allowedL_eq {k : Lk} {g i c : Int} (h0 : 0 ≤ g) (l : Lt) : allowedL g i c k l = allowed k g i c l := by
  have e : decide (1 ≤ g) = !decide (g = 0) := by
    by_cases h : g = 0
    · subst h; rfl
    · rw [decide_eq_false h, decide_eq_true (by omega)]; rfl
  cases l <;> simp only [allowedL, allowed, e]
theorem allowed_mid {k : Lk} {g i a b c : Int} {l : Lt} (h1 : allowed k g i a l = true) (h2 : allowed k g i b l = true) (ha : a ≤ c) (hb : c ≤ b) : allowed k g i c l = true := by
  cases l <;> simp only [allowed] at h1 h2 ⊢ <;> first | exact h1 | (simp at h1 h2 ⊢; omega)
theorem iAfL_eq {k : Lk} {g i c : Int} {l : Lt} (h : allowed k g i c l = true) : iAfL i l = iAf i l := by
  cases l <;> simp only [allowed] at h <;> simp [iAf, iAfL] <;> simp at h <;> omega
theorem mem_am {k : Lk} (ok : k.Ok) {l : Lt} {m : Int} : m ∈ amL k l ↔ (am k l).1 ≤ m ∧ m ≤ (am k l).2 := by
  obtain ⟨_, _, _, _, _, _, _, _, _, _, _, _, _⟩ := ok
  cases l <;> simp only [amL, am, mem_upI, List.mem_singleton] <;> omega
theorem am_le {k : Lk} (ok : k.Ok) (l : Lt) : (am k l).1 ≤ (am k l).2 := by
  obtain ⟨_, _, _, _, _, _, _, _, _, _, _, _, _⟩ := ok
  cases l <;> simp only [am] <;> omega
theorem next_ok {k : Lk} (ok : k.Ok) {s s' : St} {l : Lt} (h : StOk k s) (e : nextS k s l = some s') : StOk k s' := by
  obtain ⟨_, _, _, _, _, _, _, _, _, _, _, _, _⟩ := ok
  obtain ⟨_, _, _, _, _, _, _⟩ := h
  unfold nextS at e
  split at e
  · cases e
    constructor <;> cases l <;> simp [gAf, iAf, mx0, mv, am, lkA] <;> omega
  · cases e
/-- where the ends of the next interval lie -/
theorem cS_in {k : Lk} (ok : k.Ok) {s s' : St} {l : Lt} (h : StOk k s) (e : nextS k s l = some s') {c m q : Int} (h1 : s.a ≤ c) (h2 : c ≤ s.b) (h3 : (am k l).1 ≤ m) (h4 : m ≤ (am k l).2) (h5 : 0 ≤ q) (h6 : q ≤ k.lk) : s'.a ≤ cS k s.g c l m q ∧ cS k s.g c l m q ≤ s'.b := by
  obtain ⟨_, _, _, _, _, _, _, _, _, _, _, _, _⟩ := ok
  obtain ⟨_, _, _, _, _, _, _⟩ := h
  unfold nextS at e
  split at e
  · cases e
    constructor <;> cases l <;> simp [am] at h3 h4 <;> simp [gAf, iAf, mx0, mv, am, lkA, cS, mvL] <;> omega
  · cases e
theorem cS_lo {k : Lk} (ok : k.Ok) {s s' : St} {l : Lt} (h : StOk k s) (e : nextS k s l = some s') : cS k s.g s.a l (if l = .e then (am k l).2 else (am k l).1) k.lk = s'.a := by
  obtain ⟨_, _, _, _, _, _, _, _, _, _, _, _, _⟩ := ok
  obtain ⟨_, _, _, _, _, _, _⟩ := h
  unfold nextS at e
  split at e
  · cases e
    cases l <;> simp [gAf, iAf, mx0, mv, am, lkA, cS, mvL] <;> omega
  · cases e
theorem cS_hi {k : Lk} (ok : k.Ok) {s s' : St} {l : Lt} (h : StOk k s) (e : nextS k s l = some s') : cS k s.g s.b l (if l = .e then (am k l).1 else (am k l).2) 0 = s'.b := by
  obtain ⟨_, _, _, _, _, _, _, _, _, _, _, _, _⟩ := ok
  obtain ⟨_, _, _, _, _, _, _⟩ := h
  unfold nextS at e
  split at e
  · cases e
    cases l <;> simp [gAf, iAf, mx0, mv, am, lkA, cS, mvL] <;> omega
  · cases e
end Hd

namespace Hd
open PySem PySem.Spec Dl
def qs (k : Lk) : List Int := upI 0 (k.lk + 1).toNat
theorem ix_dSt0 (s : St) : gIx (dSt s) (.int 0) = some (.int s.g) := by simp [dSt, gIx, L2.atI, L2.ixN]
theorem ix_dSt1 (s : St) : gIx (dSt s) (.int 1) = some (.int s.i) := by simp [dSt, gIx, L2.atI, L2.ixN]
theorem ix_dSt2 (s : St) : gIx (dSt s) (.int 2) = some (.int s.a) := by simp [dSt, gIx, L2.atI, L2.ixN]
theorem ix_dSt3 (s : St) : gIx (dSt s) (.int 3) = some (.int s.b) := by simp [dSt, gIx, L2.atI, L2.ixN]
theorem ix_lLk3 (k : Lk) : gIx (lLk k) (.int 3) = some (.int k.lk) := by simp [lLk, gIx, L2.atI, L2.ixN]
theorem ix_lLk0 (k : Lk) : gIx (lLk k) (.int 0) = some (.int k.L) := by simp [lLk, gIx, L2.atI, L2.ixN]
theorem ix_t0 (a b c d : D) : gIx (.tup [a, b, c, d]) (.int 0) = some a := by simp [gIx, L2.atI, L2.ixN]
theorem ix_t1 (a b c d : D) : gIx (.tup [a, b, c, d]) (.int 1) = some b := by simp [gIx, L2.atI, L2.ixN]
theorem ix_t2 (a b c d : D) : gIx (.tup [a, b, c, d]) (.int 2) = some c := by simp [gIx, L2.atI, L2.ixN]
theorem allI_map : ∀ l : List Int, allI (l.map D.int) = some l
  | [] => rfl
  | a :: r => by
    rw [List.map_cons]
    show (allI (r.map D.int)).map (a :: ·) = _
    rw [allI_map r]; rfl
theorem appC_own {l : List D} {x : D} (h : l.length < 100000) : appC (some (some (.own (.lst l)))) x = some (.own (.lst (l ++ [x]))) := by
  show (if _ then _ else _) = _
  rw [if_pos h]
theorem am_len {k : Lk} (ok : k.Ok) (l : Lt) : (amL k l).length ≤ 3 := by
  obtain ⟨_, _, _, _, _, _, _, _, _, _, _, _, _⟩ := id ok
  cases l <;> simp only [amL, len_upI, List.length_singleton] <;> omega
theorem qs_len {k : Lk} (ok : k.Ok) : (qs k).length ≤ 2 := by
  have := ok.k1
  rw [qs, len_upI]
  omega
theorem am_ne {k : Lk} (ok : k.Ok) (l : Lt) : amL k l ≠ [] := by
  have h := (mem_am ok (l := l)).mpr ⟨Int.le_refl _, am_le ok l⟩
  intro e
  rw [e] at h
  cases h
theorem qs_mem {k : Lk} (ok : k.Ok) {q : Int} : q ∈ qs k ↔ 0 ≤ q ∧ q ≤ k.lk := by
  have := ok.k0
  rw [qs, mem_upI]
  omega
/-- every landing of the walked levels -/
def endA (k : Lk) (s : St) (l : Lt) (c m : Int) : List Int := (qs k).flatMap fun q => [cS k s.g c l m q]
def endC (k : Lk) (s : St) (l : Lt) (c : Int) : List Int := (amL k l).flatMap fun m => endA k s l c m
def Rm (k : Lk) (s : St) (l : Lt) (n : Nat) (es : List Int) (ρ : Rho) : Prop := es.length ≤ n ∧ ∃ told x5 x6 x7, ρ = [some (.val (lLk k)), some (.val (dSt s)), some (.val (dS l)), some (.own (.lst (es.map .int))), some (.val told), x5, x6, x7] ∧ (es ≠ [] → ∃ x y, told = .tup [.int (gAf s.g l), .int (iAfL s.i l), x, y])
theorem m_mnext0 {k : Lk} (ok : k.Ok) {s : St} (so : StOk k s) (l : Lt) (p) : m__law_m_next [lLk k, dSt s, dS l] p = some (oD (nextS k s l), p) := by
  obtain ⟨_, _, _, _, _, _, _, _, _, _, _, _, _⟩ := id ok
  obtain ⟨_, _, _, _, _, _, _⟩ := id so
  have h1 : -4611686018427387904 ≤ s.a ∧ s.a < 4611686018427387904 ∧ -4611686018427387904 ≤ s.b + 1 ∧ s.b + 1 < 4611686018427387904 := by omega
  have h2 : -4611686018427387904 ≤ k.lk + 1 ∧ k.lk + 1 < 4611686018427387904 := by omega
  simp [m__law_m_next, b__law_m_next, ↓ev_run, ↓ev_seq, ↓ev_if, ↓ev_b, ↓ev_op, ↓ev_un, ↓ev_var, ↓ev_own, ↓ev_c, ↓ev_rets, ↓ev_next, ↓ev_cnt, ↓ev_andV, ↓ev_orV, ↓ev_notV, ↓ev_and, ↓ev_or, ↓ev_not, ↓ev_ite, ↓ev_nil, ↓ev_cons, ↓ev_tup, ↓ev_lst, ↓ev_call, ↓ev_fn, ↓ev_it, ↓ev_itA, ↓ev_for, ↓ev_fld, ↓ev_set, ↓ev_setO, ↓ev_app, ↓ev_asg, ↓ev_bm, asStr, ↓ev_lc, ↓ev_yes, ↓ev_dk0, ↓ev_dn1, ↓ev_dn, ↓ev_dk, ↓ev_frz, ↓ev_thn, ↓ev_par, ↓ev_chain, fldD, ↓tn_some, tn_ite, aft_nx, aft_rt, aft_ct, slotV_val, slotO_own, runO, asB, gEq_int, gEq_str, gNe_int, gNe_str, gCmp, gSub, gAdd_int, gTp, gCn, gNl, gNm, ix_dSt0, ix_dSt1, ix_dSt2, ix_dSt3, rng2, h1]
  simp only [tn_assoc]
  rw [upTo_int]
  refine tn_simL (loop_simN D.int (fun es c => if allowedL s.g s.i c k l = true then .ok (es ++ endC k s l c) else .error D.non) (fun n => Rm k s l (6 * n)) p 100 (upI s.a (s.b + 1 - s.a).toNat) 0 (by rw [len_upI]; omega) ?_ [] _ ?_) ?_
  · intro n st ρ c hn hc ⟨hl, told, x5, x6, x7, e, ht⟩
    subst e
    refine ⟨_, rfl, ?_⟩
    cases ha : allowedL s.g s.i c k l with
    | false => simp [↓ev_run, ↓ev_seq, ↓ev_if, ↓ev_b, ↓ev_op, ↓ev_un, ↓ev_var, ↓ev_own, ↓ev_c, ↓ev_rets, ↓ev_next, ↓ev_cnt, ↓ev_andV, ↓ev_orV, ↓ev_notV, ↓ev_and, ↓ev_or, ↓ev_not, ↓ev_ite, ↓ev_nil, ↓ev_cons, ↓ev_tup, ↓ev_lst, ↓ev_call, ↓ev_fn, ↓ev_it, ↓ev_itA, ↓ev_for, ↓ev_fld, ↓ev_set, ↓ev_setO, ↓ev_app, ↓ev_asg, ↓ev_bm, asStr, ↓ev_lc, ↓ev_yes, ↓ev_dk0, ↓ev_dn1, ↓ev_dn, ↓ev_dk, ↓ev_frz, ↓ev_thn, ↓ev_par, ↓ev_chain, fldD, ↓tn_some, tn_ite, aft_nx, aft_rt, aft_ct, slotV_val, slotO_own, runO, asB, gEq_int, gEq_str, gNe_int, gNe_str, gCmp, gSub, gAdd_int, gTp, gCn, gNl, gNm, ix_dSt0, ix_dSt1, m_cAl, ha, SimB]
    | true =>
      simp [↓ev_run, ↓ev_seq, ↓ev_if, ↓ev_b, ↓ev_op, ↓ev_un, ↓ev_var, ↓ev_own, ↓ev_c, ↓ev_rets, ↓ev_next, ↓ev_cnt, ↓ev_andV, ↓ev_orV, ↓ev_notV, ↓ev_and, ↓ev_or, ↓ev_not, ↓ev_ite, ↓ev_nil, ↓ev_cons, ↓ev_tup, ↓ev_lst, ↓ev_call, ↓ev_fn, ↓ev_it, ↓ev_itA, ↓ev_for, ↓ev_fld, ↓ev_set, ↓ev_setO, ↓ev_app, ↓ev_asg, ↓ev_bm, asStr, ↓ev_lc, ↓ev_yes, ↓ev_dk0, ↓ev_dn1, ↓ev_dn, ↓ev_dk, ↓ev_frz, ↓ev_thn, ↓ev_par, ↓ev_chain, fldD, ↓tn_some, tn_ite, aft_nx, aft_rt, aft_ct, slotV_val, slotO_own, runO, asB, gEq_int, gEq_str, gNe_int, gNe_str, gCmp, gSub, gAdd_int, gTp, gCn, gNl, gNm, ix_dSt0, ix_dSt1, m_cAl, ha, m_cAm ok, asAny]
      rw [show (Except.ok (st ++ endC k s l c) : Except D (List Int)) = foldE (fun es m => .ok (es ++ endA k s l c m)) st (amL k l) from (foldE_app _ _ _).symm]
      refine (SimL.mono (loop_simN D.int (fun es m => .ok (es ++ endA k s l c m)) (fun j es ρ => Rm k s l (6 * n + 2 * j) es ρ ∧ ρ[5]? = some (some (.val (.int c)))) p 3 (amL k l) 0 (by have := am_len ok l; omega) ?_ st _ ⟨⟨by omega, _, _, _, _, rfl, ht⟩, rfl⟩) ?_).b
      · intro j st ρ m hj hm ⟨⟨hl, told, x5, x6, x7, e, ht⟩, e5⟩
        subst e
        cases e5
        refine ⟨_, rfl, ?_⟩
        simp [↓ev_run, ↓ev_seq, ↓ev_if, ↓ev_b, ↓ev_op, ↓ev_un, ↓ev_var, ↓ev_own, ↓ev_c, ↓ev_rets, ↓ev_next, ↓ev_cnt, ↓ev_andV, ↓ev_orV, ↓ev_notV, ↓ev_and, ↓ev_or, ↓ev_not, ↓ev_ite, ↓ev_nil, ↓ev_cons, ↓ev_tup, ↓ev_lst, ↓ev_call, ↓ev_fn, ↓ev_it, ↓ev_itA, ↓ev_for, ↓ev_fld, ↓ev_set, ↓ev_setO, ↓ev_app, ↓ev_asg, ↓ev_bm, asStr, ↓ev_lc, ↓ev_yes, ↓ev_dk0, ↓ev_dn1, ↓ev_dn, ↓ev_dk, ↓ev_frz, ↓ev_thn, ↓ev_par, ↓ev_chain, fldD, ↓tn_some, tn_ite, aft_nx, aft_rt, aft_ct, slotV_val, slotO_own, runO, asB, gEq_int, gEq_str, gNe_int, gNe_str, gCmp, gSub, gAdd_int, gTp, gCn, gNl, gNm, ix_lLk3, rng1, h2]
        rw [upTo_int, show (Except.ok (st ++ endA k s l c m) : Except D (List Int)) = foldE (fun es q => .ok (es ++ [cS k s.g c l m q])) st (qs k) from (foldE_app _ _ _).symm]
        refine (SimL.mono (loop_simN D.int (fun es q => .ok (es ++ [cS k s.g c l m q])) (fun i es ρ => Rm k s l (6 * n + 2 * j + i) es ρ ∧ ρ[5]? = some (some (.val (.int c))) ∧ ρ[6]? = some (some (.val (.int m)))) p 2 (qs k) 0 (by have := qs_len ok; omega) ?_ st _ ⟨⟨by omega, _, _, _, _, rfl, ht⟩, rfl, rfl⟩) ?_).b
        · intro i st ρ q hi hq ⟨⟨hl, told, x5, x6, x7, e, ht⟩, e5, e6⟩
          subst e
          cases e5
          cases e6
          refine ⟨_, rfl, ?_⟩
          have hA : (st.map D.int).length < 100000 := by rw [List.length_map]; omega
          simp [↓ev_run, ↓ev_seq, ↓ev_if, ↓ev_b, ↓ev_op, ↓ev_un, ↓ev_var, ↓ev_own, ↓ev_c, ↓ev_rets, ↓ev_next, ↓ev_cnt, ↓ev_andV, ↓ev_orV, ↓ev_notV, ↓ev_and, ↓ev_or, ↓ev_not, ↓ev_ite, ↓ev_nil, ↓ev_cons, ↓ev_tup, ↓ev_lst, ↓ev_call, ↓ev_fn, ↓ev_it, ↓ev_itA, ↓ev_for, ↓ev_fld, ↓ev_set, ↓ev_setO, ↓ev_app, ↓ev_asg, ↓ev_bm, asStr, ↓ev_lc, ↓ev_yes, ↓ev_dk0, ↓ev_dn1, ↓ev_dn, ↓ev_dk, ↓ev_frz, ↓ev_thn, ↓ev_par, ↓ev_chain, fldD, ↓tn_some, tn_ite, aft_nx, aft_rt, aft_ct, slotV_val, slotO_own, runO, asB, gEq_int, gEq_str, gNe_int, gNe_str, gCmp, gSub, gAdd_int, gTp, gCn, gNl, gNm, ix_dSt0, ix_dSt1, m_cSt, ix_t2, appC_own hA]
          refine ⟨_, .inl rfl, ⟨by rw [List.length_append, List.length_singleton]; omega, _, _, _, _, by rw [List.map_append]; rfl, fun _ => ⟨_, _, rfl⟩⟩, rfl, rfl⟩
        · intro st ρ ⟨⟨hl, r⟩, e5, _⟩
          exact ⟨⟨by have := qs_len ok; omega, r⟩, e5⟩
      · intro st ρ ⟨⟨hl, r⟩, e5⟩
        exact ⟨by have := am_len ok l; omega, r⟩
  · exact ⟨by decide, _, _, _, _, rfl, fun z => (z rfl).elim⟩
  · rw [foldE_chk, List.nil_append]
    cases hn : nextS k s l with
    | none =>
      have : ¬ ((upI s.a (s.b + 1 - s.a).toNat).all fun c => allowedL s.g s.i c k l) = true := fun z => by
        rw [List.all_eq_true] at z
        have za := z s.a (mem_upI.mpr (by omega))
        have zb := z s.b (mem_upI.mpr (by omega))
        rw [allowedL_eq so.g0] at za zb
        unfold nextS at hn
        rw [if_pos ⟨za, zb⟩] at hn
        cases hn
      rw [if_neg this]
      rfl
    | some s' =>
      have hn' := hn
      unfold nextS at hn'
      split at hn'
      case isFalse => cases hn'
      rename_i hal
      have : ((upI s.a (s.b + 1 - s.a).toNat).all fun c => allowedL s.g s.i c k l) = true := by
        rw [List.all_eq_true]
        intro c hc
        rw [mem_upI] at hc
        rw [allowedL_eq so.g0]
        exact allowed_mid hal.1 hal.2 hc.1 (by omega)
      rw [if_pos this]
      rintro ρ2 ⟨hl, told, x5, x6, x7, e, ht⟩
      subst e
      have eg : s'.g = gAf s.g l ∧ s'.i = iAf s.i l := by cases hn'; exact ⟨rfl, rfl⟩
      have mem : ∀ x, x ∈ (upI s.a (s.b + 1 - s.a).toNat).flatMap (endC k s l) ↔ ∃ c m q, (s.a ≤ c ∧ c ≤ s.b) ∧ ((am k l).1 ≤ m ∧ m ≤ (am k l).2) ∧ (0 ≤ q ∧ q ≤ k.lk) ∧ x = cS k s.g c l m q := fun x => by
        simp only [List.mem_flatMap, endC, endA, mem_upI, mem_am ok, qs_mem ok, List.mem_singleton]
        constructor
        · rintro ⟨c, h1, m, h2, q, h3, h4⟩
          exact ⟨c, m, q, by omega, h2, h3, h4⟩
        · rintro ⟨c, m, q, h1, h2, h3, h4⟩
          exact ⟨c, by omega, m, h2, q, h3, h4⟩
      have lo : s'.a ∈ (upI s.a (s.b + 1 - s.a).toNat).flatMap (endC k s l) := (mem _).mpr ⟨s.a, _, k.lk, by omega, by split <;> exact ⟨by have := am_le ok l; omega, by have := am_le ok l; omega⟩, by omega, (cS_lo ok so hn).symm⟩
      have hi : s'.b ∈ (upI s.a (s.b + 1 - s.a).toNat).flatMap (endC k s l) := (mem _).mpr ⟨s.b, _, 0, by omega, by split <;> exact ⟨by have := am_le ok l; omega, by have := am_le ok l; omega⟩, by omega, (cS_hi ok so hn).symm⟩
      have all : ∀ x ∈ (upI s.a (s.b + 1 - s.a).toNat).flatMap (endC k s l), s'.a ≤ x ∧ x ≤ s'.b := fun x hx => by
        obtain ⟨c, m, q, h1, h2, h3, rfl⟩ := (mem x).mp hx
        exact cS_in ok so hn h1.1 h1.2 h2.1 h2.2 h3.1 h3.2
      generalize (upI s.a (s.b + 1 - s.a).toNat).flatMap (endC k s l) = es at *
      have ne : es ≠ [] := fun z => by rw [z] at lo; cases lo
      obtain ⟨x, y, rfl⟩ := ht ne
      have l1 := leastI_spec ne
      have l2 := mostI_spec ne
      have ea : leastI es = s'.a := by
        have := all _ l1.1
        have := l1.2 _ lo
        omega
      have eb : mostI es = s'.b := by
        have := all _ l2.1
        have := l2.2 _ hi
        omega
      have em : es.isEmpty = false := by cases es with
        | nil => exact (ne rfl).elim
        | cons _ _ => rfl
      simp [↓ev_run, ↓ev_seq, ↓ev_if, ↓ev_b, ↓ev_op, ↓ev_un, ↓ev_var, ↓ev_own, ↓ev_c, ↓ev_rets, ↓ev_next, ↓ev_cnt, ↓ev_andV, ↓ev_orV, ↓ev_notV, ↓ev_and, ↓ev_or, ↓ev_not, ↓ev_ite, ↓ev_nil, ↓ev_cons, ↓ev_tup, ↓ev_lst, ↓ev_call, ↓ev_fn, ↓ev_it, ↓ev_itA, ↓ev_for, ↓ev_fld, ↓ev_set, ↓ev_setO, ↓ev_app, ↓ev_asg, ↓ev_bm, asStr, ↓ev_lc, ↓ev_yes, ↓ev_dk0, ↓ev_dn1, ↓ev_dn, ↓ev_dk, ↓ev_frz, ↓ev_thn, ↓ev_par, ↓ev_chain, fldD, ↓tn_some, tn_ite, aft_nx, aft_rt, aft_ct, slotV_val, slotO_own, runO, asB, gEq_int, gEq_str, gNe_int, gNe_str, gCmp, gSub, gAdd_int, gTp, gCn, gNl, gNm, ix_t0, ix_t1, gMinL, gMaxL, allI_map, ea, eb, em, oD, dSt, eg.1, eg.2, ne]
      rw [iAfL_eq hal.1]
end Hd

namespace Hd
open PySem PySem.Spec Dl
theorem nodup_le {lo : Int} : ∀ (n : Nat) (l : List Int), l.Nodup → (∀ x ∈ l, lo ≤ x ∧ x < lo + n) → l.length ≤ n
  | 0, l, _, h => by
    cases l with
    | nil => exact Nat.le_refl 0
    | cons a r => have := h a List.mem_cons_self; omega
  | n + 1, l, nd, h => by
    by_cases hm : lo + (n : Int) ∈ l
    · have h1 := nodup_le (lo := lo) n (l.erase (lo + n)) (nd.erase _) fun x hx => by
        rw [nd.mem_erase_iff] at hx
        have := h x hx.2
        have := hx.1
        omega
      rw [List.length_erase_of_mem hm] at h1
      omega
    · have h1 := nodup_le (lo := lo) n l nd fun x hx => by
        have := h x hx
        have : x ≠ lo + (n : Int) := fun z => hm (z ▸ hx)
        omega
      omega
/-! ### the law's step on a set of levels stays within the program's interval -/
def keyD (ks : List Int) : D := .dk (ks.map Sum.inl) (ks.map fun _ => .bl true)
def put (ks : List Int) (x : Int) : List Int := if x ∈ ks then ks else ks ++ [x]
theorem putD_put : ∀ (ks : List Int) (x : Int), putD (ks.map Sum.inl) (ks.map fun _ => D.bl true) (Sum.inl x) (.bl true) = ((put ks x).map Sum.inl, (put ks x).map fun _ => D.bl true)
  | [], x => rfl
  | a :: r, x => by
    have ih := putD_put r x
    rw [List.map_cons, List.map_cons]
    show (if (Sum.inl a : L2.Key) = Sum.inl x then _ else _) = _
    by_cases h : a = x
    · subst h
      rw [if_pos rfl]
      unfold put
      rw [if_pos List.mem_cons_self]
      rfl
    · rw [if_neg fun z => h (Sum.inl.inj z)]
      show ((Sum.inl a : L2.Key) :: (putD _ _ _ _).1, (D.bl true) :: (putD _ _ _ _).2) = _
      rw [ih]
      unfold put
      by_cases h2 : x ∈ r
      · rw [if_pos h2, if_pos (List.mem_cons_of_mem _ h2)]; rfl
      · rw [if_neg h2, if_neg fun z => by rcases List.mem_cons.mp z with z | z; exact h z.symm; exact h2 z]
        simp
theorem dkC_put {ks : List Int} (h : ks.length < 100000) (x : Int) : dkC (some (some (.own (keyD ks)))) (.int x) (.bl true) = some (.own (keyD (put ks x))) := by
  show (if (ks.map Sum.inl).length < 100000 then _ else _) = _
  rw [List.length_map, if_pos h, putD_put]
  rfl
theorem put_nodup {ks : List Int} (h : ks.Nodup) (x : Int) : (put ks x).Nodup := by
  unfold put
  split
  · exact h
  · rename_i hx
    exact List.nodup_append.mpr ⟨h, List.pairwise_singleton _ x, fun a ha b hb => by rw [List.mem_singleton.mp hb]; exact fun z => hx (z ▸ ha)⟩
theorem mem_put {ks : List Int} {x y : Int} : y ∈ put ks x ↔ y ∈ ks ∨ y = x := by
  unfold put
  split
  · rename_i h
    exact ⟨.inl, fun z => z.elim id fun e => e ▸ h⟩
  · rw [List.mem_append, List.mem_singleton]
theorem keysI_map : ∀ ks : List Int, keysI (ks.map Sum.inl) = some ks
  | [] => rfl
  | a :: r => by
    rw [List.map_cons]
    show (keysI (r.map Sum.inl)).map (a :: ·) = _
    rw [keysI_map r]; rfl
theorem gSort_key {ks : List Int} (h : ks.length < 64) : gSortDk [keyD ks] = some (.lst ((sortI ks).map .int)) := by
  show (keysI (ks.map Sum.inl)).bind _ = _
  rw [keysI_map]
  show (if ks.length < 64 then _ else _) = _
  rw [if_pos h]
def dPl (s : St) (cs : List Int) : D := .lst [.int s.g, .int s.i, .lst (cs.map .int)]
theorem ix_dPl0 (s : St) (cs) : gIx (dPl s cs) (.int 0) = some (.int s.g) := by simp [dPl, gIx, L2.atI, L2.ixN]
theorem ix_dPl1 (s : St) (cs) : gIx (dPl s cs) (.int 1) = some (.int s.i) := by simp [dPl, gIx, L2.atI, L2.ixN]
theorem ix_dPl2 (s : St) (cs) : gIx (dPl s cs) (.int 2) = some (.lst (cs.map .int)) := by simp [dPl, gIx, L2.atI, L2.ixN]
def Rn (k : Lk) (s : St) (l : Lt) (cs : List Int) (s' : St) (b : Bool) (ρ : Rho) : Prop := ∃ ks told x5 x6 x7, ρ = [some (.val (lLk k)), some (.val (dPl s cs)), some (.val (dS l)), some (.own (keyD ks)), some (.val told), x5, x6, x7] ∧ ks.Nodup ∧ (∀ x ∈ ks, s'.a ≤ x ∧ x ≤ s'.b) ∧ (b = true → ks ≠ [] ∧ ∃ x y, told = .tup [.int s'.g, .int s'.i, x, y])
theorem keys_len {k : Lk} (ok : k.Ok) {s' : St} (so : StOk k s') {ks : List Int} (nd : ks.Nodup) (h : ∀ x ∈ ks, s'.a ≤ x ∧ x ≤ s'.b) : ks.length ≤ 7 := nodup_le (lo := 0) 7 ks nd fun x hx => by
  have := h x hx
  have := so.a0
  have := so.bL
  have := ok.L6
  omega
theorem m_lnext {k : Lk} (ok : k.Ok) {s s' : St} (so : StOk k s) {l : Lt} (hn : nextS k s l = some s') {cs : List Int} (hne : cs ≠ []) (hcs : ∀ c ∈ cs, s.a ≤ c ∧ c ≤ s.b) (p) :
    ∃ cs', m__law_next [lLk k, dPl s cs, dS l] p = some (dPl s' cs', p) ∧ cs' ≠ [] ∧ ∀ c ∈ cs', s'.a ≤ c ∧ c ≤ s'.b := by
  have so' := next_ok ok so hn
  have h2 : -4611686018427387904 ≤ k.lk + 1 ∧ k.lk + 1 < 4611686018427387904 := by have := ok.k0; have := ok.k1; omega
  have hn' := hn
  unfold nextS at hn'
  split at hn'
  case isFalse => cases hn'
  rename_i hal
  have eg : s'.g = gAf s.g l ∧ s'.i = iAfL s.i l := by rw [iAfL_eq hal.1]; cases hn'; exact ⟨rfl, rfl⟩
  have hex : ∃ ks told x5 x6 x7, ks.Nodup ∧ (∀ x ∈ ks, s'.a ≤ x ∧ x ≤ s'.b) ∧ (ks ≠ [] ∧ ∃ x y, told = D.tup [.int s'.g, .int s'.i, x, y]) ∧ loopD (gNm 5) (dSeq (dIfS (dNot (dB (dFn m__law_c_allowed (dCons (dVar 0) (dCons (dVar 2) (dCons (dOp gIx (dVar 1) (dC (.int 0))) (dCons (dOp gIx (dVar 1) (dC (.int 1))) (dCons (dVar 5) dNil)))))))) (dRet (dC .non)) dNext) (dFor (gNm 6) (dIt asAny (dFn m__law_c_amounts (dCons (dVar 0) (dCons (dVar 2) dNil)))) (dFor (gNm 7) (dItA rng1 (dCons (dOp gAdd (dOp gIx (dVar 0) (dC (.int 3))) (dC (.int 1))) dNil)) (dSeq (dSet 4 (dFn m__law_c_step (dCons (dVar 0) (dCons (dVar 2) (dCons (dOp gIx (dVar 1) (dC (.int 0))) (dCons (dOp gIx (dVar 1) (dC (.int 1))) (dCons (dVar 5) (dCons (dVar 6) (dCons (dVar 7) dNil))))))))) (dDk 3 (dC (.bl true)) (dOp gIx (dVar 4) (dC (.int 2)))))))) (cs.map .int) [some (.val (lLk k)), some (.val (dPl s cs)), some (.val (dS l)), some (.own (keyD [])), some (.val (.tup [.int s.g, .int s.i, .int 0, .int 0])), none, none, none] p = some (.nx [some (.val (lLk k)), some (.val (dPl s cs)), some (.val (dS l)), some (.own (keyD ks)), some (.val told), x5, x6, x7], p) := by
    have := loop_sim (t := gNm 5) (s := (dSeq (dIfS (dNot (dB (dFn m__law_c_allowed (dCons (dVar 0) (dCons (dVar 2) (dCons (dOp gIx (dVar 1) (dC (.int 0))) (dCons (dOp gIx (dVar 1) (dC (.int 1))) (dCons (dVar 5) dNil)))))))) (dRet (dC .non)) dNext) (dFor (gNm 6) (dIt asAny (dFn m__law_c_amounts (dCons (dVar 0) (dCons (dVar 2) dNil)))) (dFor (gNm 7) (dItA rng1 (dCons (dOp gAdd (dOp gIx (dVar 0) (dC (.int 3))) (dC (.int 1))) dNil)) (dSeq (dSet 4 (dFn m__law_c_step (dCons (dVar 0) (dCons (dVar 2) (dCons (dOp gIx (dVar 1) (dC (.int 0))) (dCons (dOp gIx (dVar 1) (dC (.int 1))) (dCons (dVar 5) (dCons (dVar 6) (dCons (dVar 7) dNil))))))))) (dDk 3 (dC (.bl true)) (dOp gIx (dVar 4) (dC (.int 2))))))))) D.int (fun _ _ => .ok true) (Rn k s l cs s') p cs ?_ false [some (.val (lLk k)), some (.val (dPl s cs)), some (.val (dS l)), some (.own (keyD [])), some (.val (.tup [.int s.g, .int s.i, .int 0, .int 0])), none, none, none] ⟨[], _, _, _, _, rfl, List.nodup_nil, (fun x h => by cases h), fun z => by cases z⟩
    · rw [foldE_tt] at this
      obtain ⟨ρ2, e, ks, told, x5, x6, x7, rfl, h1, h3, h4⟩ := this
      exact ⟨ks, told, x5, x6, x7, h1, h3, h4 (by cases cs with | nil => exact (hne rfl).elim | cons _ _ => rfl), e⟩
    · intro b ρ c hc ⟨ks, told, x5, x6, x7, e, nd, bd, ht⟩
      subst e
      have hc2 := hcs c hc
      have ha : allowedL s.g s.i c k l = true := by rw [allowedL_eq so.g0]; exact allowed_mid hal.1 hal.2 hc2.1 hc2.2
      refine ⟨_, rfl, ?_⟩
      simp [↓ev_run, ↓ev_seq, ↓ev_if, ↓ev_b, ↓ev_op, ↓ev_un, ↓ev_var, ↓ev_own, ↓ev_c, ↓ev_rets, ↓ev_next, ↓ev_cnt, ↓ev_andV, ↓ev_orV, ↓ev_notV, ↓ev_and, ↓ev_or, ↓ev_not, ↓ev_ite, ↓ev_nil, ↓ev_cons, ↓ev_tup, ↓ev_lst, ↓ev_call, ↓ev_fn, ↓ev_it, ↓ev_itA, ↓ev_for, ↓ev_fld, ↓ev_set, ↓ev_setO, ↓ev_app, ↓ev_asg, ↓ev_bm, asStr, ↓ev_lc, ↓ev_yes, ↓ev_dk0, ↓ev_dn1, ↓ev_dn, ↓ev_dk, ↓ev_frz, ↓ev_thn, ↓ev_par, ↓ev_chain, fldD, ↓tn_some, tn_ite, aft_nx, aft_rt, aft_ct, slotV_val, slotO_own, runO, asB, gEq_int, gEq_str, gNe_int, gNe_str, gCmp, gSub, gAdd_int, gTp, gCn, gNl, gNm, ix_dPl0, ix_dPl1, m_cAl, ha, m_cAm ok, asAny]
      rw [show (Except.ok true : Except D Bool) = foldE (fun _ _ => .ok true) b (amL k l) by
        rw [foldE_tt]
        have := am_ne ok l
        cases h : amL k l with
        | nil => exact (this h).elim
        | cons _ _ => cases b <;> rfl]
      refine (SimL.mono (loop_sim D.int (fun _ _ => .ok true) (fun b ρ => Rn k s l cs s' b ρ ∧ ρ[5]? = some (some (.val (.int c)))) p (amL k l) ?_ b _ ⟨⟨ks, _, _, _, _, rfl, nd, bd, ht⟩, rfl⟩) fun _ _ h => h.1).b
      intro b ρ m hm ⟨⟨ks, told, x5, x6, x7, e, nd, bd, ht⟩, e5⟩
      subst e
      cases e5
      refine ⟨_, rfl, ?_⟩
      simp [↓ev_run, ↓ev_seq, ↓ev_if, ↓ev_b, ↓ev_op, ↓ev_un, ↓ev_var, ↓ev_own, ↓ev_c, ↓ev_rets, ↓ev_next, ↓ev_cnt, ↓ev_andV, ↓ev_orV, ↓ev_notV, ↓ev_and, ↓ev_or, ↓ev_not, ↓ev_ite, ↓ev_nil, ↓ev_cons, ↓ev_tup, ↓ev_lst, ↓ev_call, ↓ev_fn, ↓ev_it, ↓ev_itA, ↓ev_for, ↓ev_fld, ↓ev_set, ↓ev_setO, ↓ev_app, ↓ev_asg, ↓ev_bm, asStr, ↓ev_lc, ↓ev_yes, ↓ev_dk0, ↓ev_dn1, ↓ev_dn, ↓ev_dk, ↓ev_frz, ↓ev_thn, ↓ev_par, ↓ev_chain, fldD, ↓tn_some, tn_ite, aft_nx, aft_rt, aft_ct, slotV_val, slotO_own, runO, asB, gEq_int, gEq_str, gNe_int, gNe_str, gCmp, gSub, gAdd_int, gTp, gCn, gNl, gNm, ix_lLk3, rng1, h2]
      rw [upTo_int, show (Except.ok true : Except D Bool) = foldE (fun _ _ => .ok true) b (qs k) by
        rw [foldE_tt]
        have := (qs_mem ok (q := 0)).mpr ⟨Int.le_refl _, ok.k0⟩
        cases h : qs k with
        | nil => rw [h] at this; cases this
        | cons _ _ => cases b <;> rfl]
      refine (SimL.mono (loop_sim D.int (fun _ _ => .ok true) (fun b ρ => Rn k s l cs s' b ρ ∧ ρ[5]? = some (some (.val (.int c))) ∧ ρ[6]? = some (some (.val (.int m)))) p (qs k) ?_ b _ ⟨⟨ks, _, _, _, _, rfl, nd, bd, ht⟩, rfl, rfl⟩) fun _ _ h => ⟨h.1, h.2.1⟩).b
      intro b ρ q hq ⟨⟨ks, told, x5, x6, x7, e, nd, bd, ht⟩, e5, e6⟩
      subst e
      cases e5
      cases e6
      refine ⟨_, rfl, ?_⟩
      have hl := keys_len ok so' nd bd
      simp [↓ev_run, ↓ev_seq, ↓ev_if, ↓ev_b, ↓ev_op, ↓ev_un, ↓ev_var, ↓ev_own, ↓ev_c, ↓ev_rets, ↓ev_next, ↓ev_cnt, ↓ev_andV, ↓ev_orV, ↓ev_notV, ↓ev_and, ↓ev_or, ↓ev_not, ↓ev_ite, ↓ev_nil, ↓ev_cons, ↓ev_tup, ↓ev_lst, ↓ev_call, ↓ev_fn, ↓ev_it, ↓ev_itA, ↓ev_for, ↓ev_fld, ↓ev_set, ↓ev_setO, ↓ev_app, ↓ev_asg, ↓ev_bm, asStr, ↓ev_lc, ↓ev_yes, ↓ev_dk0, ↓ev_dn1, ↓ev_dn, ↓ev_dk, ↓ev_frz, ↓ev_thn, ↓ev_par, ↓ev_chain, fldD, ↓tn_some, tn_ite, aft_nx, aft_rt, aft_ct, slotV_val, slotO_own, runO, asB, gEq_int, gEq_str, gNe_int, gNe_str, gCmp, gSub, gAdd_int, gTp, gCn, gNl, gNm, ix_dPl0, ix_dPl1, m_cSt, ix_t2, dkC_put (show ks.length < 100000 by omega)]
      have hm' := (mem_am ok).mp hm
      have hq' := (qs_mem ok).mp hq
      refine ⟨_, .inl rfl, ⟨put ks _, _, _, _, _, rfl, put_nodup nd _, fun x hx => ?_, fun _ => ⟨fun z => ?_, ?_⟩⟩, rfl, rfl⟩
      · rcases mem_put.mp hx with hx | rfl
        · exact bd x hx
        · exact cS_in ok so hn hc2.1 hc2.2 hm'.1 hm'.2 hq'.1 hq'.2
      · have : cS k s.g c l m q ∈ put ks (cS k s.g c l m q) := mem_put.mpr (.inr rfl)
        rw [z] at this
        cases this
      · rw [eg.1, eg.2]
        exact ⟨_, _, rfl⟩
  obtain ⟨ks, told, x5, x6, x7, nd, bd, ⟨kne, x, y, rfl⟩, e⟩ := hex
  have hl := keys_len ok so' nd bd
  refine ⟨sortI ks, ?_, fun z => ?_, fun c hc => bd c ((sortI_perm ks).mem_iff.mp hc)⟩
  · simp [m__law_next, b__law_next, ↓ev_run, ↓ev_seq, ↓ev_if, ↓ev_b, ↓ev_op, ↓ev_un, ↓ev_var, ↓ev_own, ↓ev_c, ↓ev_rets, ↓ev_next, ↓ev_cnt, ↓ev_andV, ↓ev_orV, ↓ev_notV, ↓ev_and, ↓ev_or, ↓ev_not, ↓ev_ite, ↓ev_nil, ↓ev_cons, ↓ev_tup, ↓ev_lst, ↓ev_call, ↓ev_fn, ↓ev_it, ↓ev_itA, ↓ev_for, ↓ev_fld, ↓ev_set, ↓ev_setO, ↓ev_app, ↓ev_asg, ↓ev_bm, asStr, ↓ev_lc, ↓ev_yes, ↓ev_dk0, ↓ev_dn1, ↓ev_dn, ↓ev_dk, ↓ev_frz, ↓ev_thn, ↓ev_par, ↓ev_chain, fldD, ↓tn_some, tn_ite, aft_nx, aft_rt, aft_ct, slotV_val, slotO_own, runO, asB, gEq_int, gEq_str, gNe_int, gNe_str, gCmp, gSub, gAdd_int, gTp, gCn, gNl, gNm, ix_dPl0, ix_dPl1, ix_dPl2, asAny]
    rw [show D.dk [] [] = keyD [] from rfl, e]
    simp [↓ev_run, ↓ev_seq, ↓ev_if, ↓ev_b, ↓ev_op, ↓ev_un, ↓ev_var, ↓ev_own, ↓ev_c, ↓ev_rets, ↓ev_next, ↓ev_cnt, ↓ev_andV, ↓ev_orV, ↓ev_notV, ↓ev_and, ↓ev_or, ↓ev_not, ↓ev_ite, ↓ev_nil, ↓ev_cons, ↓ev_tup, ↓ev_lst, ↓ev_call, ↓ev_fn, ↓ev_it, ↓ev_itA, ↓ev_for, ↓ev_fld, ↓ev_set, ↓ev_setO, ↓ev_app, ↓ev_asg, ↓ev_bm, asStr, ↓ev_lc, ↓ev_yes, ↓ev_dk0, ↓ev_dn1, ↓ev_dn, ↓ev_dk, ↓ev_frz, ↓ev_thn, ↓ev_par, ↓ev_chain, fldD, ↓tn_some, tn_ite, aft_nx, aft_rt, aft_ct, slotV_val, slotO_own, runO, asB, gEq_int, gEq_str, gNe_int, gNe_str, gCmp, gSub, gAdd_int, gTp, gCn, gNl, gNm, ix_t0, ix_t1, gSort_key (show ks.length < 64 by omega), dPl]
  · have := (sortI_perm ks).length_eq
    rw [z] at this
    cases ks with
    | nil => exact kne rfl
    | cons _ _ => cases this
end Hd

namespace Hd
open PySem PySem.Spec Dl
/-! ### the search, typed -/
abbrev Ky := St × Int
abbrev Itm := Ky × List Lt
structure KOk (k : Lk) (y : Ky) : Prop where
  st : StOk k y.1
  c0 : 0 ≤ y.2
  c2 : y.2 ≤ 2
  ci : y.1.i = if y.2 = 1 then 1 else 0
def goal (y : Ky) : Prop := y.1.g = 0 ∧ y.2 = 2
instance (y : Ky) : Decidable (goal y) := by unfold goal; infer_instance
def succ (k : Lk) (u : Bool) (y : Ky) (l : Lt) : Option Ky := match nextS k y.1 l, shA u y.2 y.1.g l with
  | some s, some c => some (s, c)
  | _, _ => none
def tr (k : Lk) (u : Bool) : Ky → List Lt → Option Ky
  | y, [] => some y
  | y, l :: r => (succ k u y l).bind fun z => tr k u z r
theorem tr_append {k : Lk} {u : Bool} : ∀ (r r' : List Lt) (y : Ky), tr k u y (r ++ r') = (tr k u y r).bind fun z => tr k u z r'
  | [], r', y => rfl
  | l :: r, r', y => by
    rw [List.cons_append, tr, tr]
    cases succ k u y l with
    | none => rfl
    | some z => exact tr_append r r' z
theorem tr_snoc {k : Lk} {u : Bool} {r : List Lt} {l : Lt} {y z : Ky} (h : tr k u y r = some z) : tr k u y (r ++ [l]) = succ k u z l := by
  rw [tr_append, h]
  show (succ k u z l).bind some = _
  cases succ k u z l <;> rfl
def y0 (k : Lk) : Ky := (st0 k, 0)
theorem y0_ok {k : Lk} (ok : k.Ok) : KOk k (y0 k) := by
  obtain ⟨_, _, _, _, _, _, _, _, _, _, _, _, _⟩ := ok
  refine ⟨⟨?_, ?_, ?_, ?_, ?_, ?_, ?_⟩, ?_, ?_, ?_⟩ <;> simp [y0, st0] <;> omega
theorem succ_ok {k : Lk} (ok : k.Ok) {u : Bool} {y z : Ky} {l : Lt} (h : KOk k y) (e : succ k u y l = some z) : KOk k z := by
  unfold succ at e
  split at e
  · rename_i s c es ec
    cases e
    have so := next_ok ok h.st es
    have h0 := h.c0
    have h2 := h.c2
    have ci := h.ci
    refine ⟨so, ?_, ?_, ?_⟩
    · cases l <;> simp [shA] at ec <;> omega
    · cases l <;> simp [shA] at ec <;> omega
    · unfold nextS at es
      split at es
      · cases es
        cases l <;> simp [shA] at ec <;> simp [iAf] <;> first | (rw [← ec]; exact ci) | (obtain ⟨_, rfl⟩ := ec; decide)
      · cases es
  · cases e
theorem tr_ok {k : Lk} (ok : k.Ok) {u : Bool} : ∀ {r : List Lt} {y z : Ky}, KOk k y → tr k u y r = some z → KOk k z
  | [], y, z, h, e => by cases e; exact h
  | l :: r, y, z, h, e => by
    obtain ⟨x, e1, e2⟩ := Option.bind_eq_some_iff.mp e
    exact tr_ok ok (succ_ok ok h e1) e2
/-- keys that differ are few -/
def code (y : Ky) : Int := y.1.g + 3 * (y.1.i + 2 * (y.1.a + 7 * (y.1.b + 7 * y.2)))
theorem keys_few {k : Lk} (ok : k.Ok) {l : List Ky} (nd : l.Nodup) (h : ∀ y ∈ l, KOk k y) : l.length ≤ 882 := by
  have L6 := ok.L6
  rw [← List.length_map (f := code)]
  refine nodup_le (lo := 0) 882 _ ?_ ?_
  · show List.Pairwise _ _
    rw [List.pairwise_map]
    refine List.Pairwise.imp_of_mem ?_ nd
    intro x y hx hy hne e
    apply hne
    obtain ⟨⟨g, i, a, b⟩, c⟩ := x
    obtain ⟨⟨g', i', a', b'⟩, c'⟩ := y
    obtain ⟨⟨_, _, _, _, _, _, _⟩, _, _, _⟩ := h _ hx
    obtain ⟨⟨_, _, _, _, _, _, _⟩, _, _, _⟩ := h _ hy
    simp only [code] at *
    have h1 : g = g' := by omega
    have h2 : i = i' := by omega
    have h3 : a = a' := by omega
    have h4 : b = b' := by omega
    have h5 : c = c' := by omega
    rw [h1, h2, h3, h4, h5]
  · intro x hx
    obtain ⟨y, hy, rfl⟩ := List.mem_map.mp hx
    obtain ⟨⟨_, _, _, _, _, _, _⟩, _, _, _⟩ := h _ hy
    simp only [code]
    omega
/-- one letter tried at one item -/
def stp (k : Lk) (u : Bool) (x : Itm) (st : List Ky × List Itm) (l : Lt) : Except (List Lt) (List Ky × List Itm) := match succ k u x.1 l with
  | none => .ok st
  | some y => if goal y then .error (x.2 ++ [l]) else if y ∈ st.1 then .ok st else .ok (st.1 ++ [y], st.2 ++ [(y, x.2 ++ [l])])
def stI (k : Lk) (u : Bool) (st : List Ky × List Itm) (x : Itm) : Except (List Lt) (List Ky × List Itm) := foldE (stp k u x) st lts
/-- one round: what was seen, the front -/
def rnd (k : Lk) (u : Bool) (st : List Ky × List Itm) : Except (List Lt) (List Ky × List Itm) := foldE (stI k u) (st.1, []) st.2
structure Fr (k : Lk) (u : Bool) (n : Nat) (st : List Ky × List Itm) : Prop where
  nd : st.1.Nodup
  ok : ∀ y ∈ st.1, KOk k y ∧ ¬ goal y
  fl : st.2.length ≤ st.1.length
  it : ∀ x ∈ st.2, KOk k x.1 ∧ x.2.length = n ∧ tr k u (y0 k) x.2 = some x.1
/-- a row that ends as it should -/
def Hit (k : Lk) (u : Bool) (n : Nat) (r : List Lt) : Prop := r.length = n ∧ ∃ y, tr k u (y0 k) r = some y ∧ goal y
def ResE {σ ε : Type} (P : σ → Prop) (E : ε → Prop) : Except ε σ → Prop
  | .ok s => P s
  | .error e => E e
theorem stp_ok {k : Lk} (ok : k.Ok) {u : Bool} {n : Nat} {x : Itm} (hx : KOk k x.1 ∧ x.2.length = n ∧ tr k u (y0 k) x.2 = some x.1) {st : List Ky × List Itm} (h : Fr k u (n + 1) st) (l : Lt) : ResE (Fr k u (n + 1)) (Hit k u (n + 1)) (stp k u x st l) := by
  unfold stp
  cases e : succ k u x.1 l with
  | none => exact h
  | some y =>
    have er : tr k u (y0 k) (x.2 ++ [l]) = some y := by rw [tr_snoc hx.2.2, e]
    have hl : (x.2 ++ [l]).length = n + 1 := by rw [List.length_append, hx.2.1]; rfl
    have ky := succ_ok ok hx.1 e
    by_cases hg : goal y
    · simp only [hg, if_true]
      exact ⟨hl, y, er, hg⟩
    · simp only [hg, if_false]
      by_cases hm : y ∈ st.1
      · simp only [hm, if_true]
        exact h
      · simp only [hm, if_false]
        refine ⟨List.nodup_append.mpr ⟨h.nd, List.pairwise_singleton _ y, fun a ha b hb => by rw [List.mem_singleton.mp hb]; exact fun z => hm (z ▸ ha)⟩, fun z hz => ?_, ?_, fun z hz => ?_⟩
        · rcases List.mem_append.mp hz with hz | hz
          · exact h.ok z hz
          · rw [List.mem_singleton.mp hz]; exact ⟨ky, hg⟩
        · show (st.2 ++ [_]).length ≤ (st.1 ++ [y]).length
          rw [List.length_append, List.length_append]
          have := h.fl
          simp only [List.length_singleton]
          omega
        · rcases List.mem_append.mp hz with hz | hz
          · exact h.it z hz
          · rw [List.mem_singleton.mp hz]; exact ⟨ky, hl, er⟩
theorem foldE_inv {σ α ε : Type} {stp : σ → α → Except ε σ} (P : σ → Prop) (E : ε → Prop) : ∀ (xs : List α) (s : σ), (∀ x ∈ xs, ∀ s, P s → ResE P E (stp s x)) → P s → ResE P E (foldE stp s xs)
  | [], s, _, h => h
  | x :: xs, s, hs, h => by
    have h1 := hs x List.mem_cons_self s h
    rw [foldE]
    cases e : stp s x with
    | ok s' =>
      rw [e] at h1
      exact foldE_inv P E xs s' (fun x hx => hs x (List.mem_cons_of_mem _ hx)) h1
    | error d =>
      rw [e] at h1
      exact h1
theorem stI_ok {k : Lk} (ok : k.Ok) {u : Bool} {n : Nat} {x : Itm} (hx : KOk k x.1 ∧ x.2.length = n ∧ tr k u (y0 k) x.2 = some x.1) {st : List Ky × List Itm} (h : Fr k u (n + 1) st) : ResE (Fr k u (n + 1)) (Hit k u (n + 1)) (stI k u st x) := foldE_inv (Fr k u (n + 1)) (Hit k u (n + 1)) lts st (fun l _ s hs => stp_ok ok hx hs l) h
theorem Fr.start {k : Lk} {u : Bool} {n m : Nat} {st : List Ky × List Itm} (h : Fr k u n st) : Fr k u m (st.1, []) := ⟨h.nd, h.ok, Nat.zero_le _, fun x hx => by cases hx⟩
theorem rnd_ok {k : Lk} (ok : k.Ok) {u : Bool} {n : Nat} {st : List Ky × List Itm} (h : Fr k u n st) : ResE (Fr k u (n + 1)) (Hit k u (n + 1)) (rnd k u st) := foldE_inv (Fr k u (n + 1)) (Hit k u (n + 1)) st.2 _ (fun x hx s hs => stI_ok ok (h.it x hx) hs) h.start
/-! ### nothing is passed over -/
/-- of a round: what it adds, and that it closes what it walked -/
structure Gr (k : Lk) (u : Bool) (s0 : List Ky) (don : Ky → Lt → Prop) (st : List Ky × List Itm) : Prop where
  up : ∀ y ∈ s0, y ∈ st.1
  dn : ∀ y ∈ st.1, y ∈ s0 ∨ ∃ r, (y, r) ∈ st.2
  cl : ∀ x l y, don x l → succ k u x l = some y → ¬ goal y ∧ y ∈ st.1
theorem stp_gr {k : Lk} {u : Bool} {s0 : List Ky} {don : Ky → Lt → Prop} {st st' : List Ky × List Itm} {x : Itm} {l : Lt} (h : Gr k u s0 don st) (e : stp k u x st l = .ok st') : Gr k u s0 (fun y m => don y m ∨ (y = x.1 ∧ m = l)) st' := by
  unfold stp at e
  cases es : succ k u x.1 l with
  | none =>
    rw [es] at e
    cases e
    refine ⟨h.up, h.dn, fun y m z hd hz => ?_⟩
    rcases hd with hd | ⟨rfl, rfl⟩
    · exact h.cl y m z hd hz
    · rw [es] at hz; cases hz
  | some y =>
    rw [es] at e
    by_cases hg : goal y
    · simp only [hg, if_true] at e
      cases e
    · simp only [hg, if_false] at e
      by_cases hm : y ∈ st.1
      · simp only [hm, if_true] at e
        cases e
        refine ⟨h.up, h.dn, fun y m z hd hz => ?_⟩
        rcases hd with hd | ⟨rfl, rfl⟩
        · exact h.cl y m z hd hz
        · rw [es] at hz; cases hz; exact ⟨hg, hm⟩
      · simp only [hm, if_false] at e
        cases e
        refine ⟨fun y hy => List.mem_append_left _ (h.up y hy), fun z hz => ?_, fun y m z hd hz => ?_⟩
        · rcases List.mem_append.mp hz with hz | hz
          · rcases h.dn z hz with hz | ⟨r, hr⟩
            · exact .inl hz
            · exact .inr ⟨r, List.mem_append_left _ hr⟩
          · rw [List.mem_singleton.mp hz]
            exact .inr ⟨_, List.mem_append_right _ List.mem_cons_self⟩
        · rcases hd with hd | ⟨rfl, rfl⟩
          · have := h.cl y m z hd hz
            exact ⟨this.1, List.mem_append_left _ this.2⟩
          · rw [es] at hz; cases hz; exact ⟨hg, List.mem_append_right _ List.mem_cons_self⟩
theorem Gr.mono {k : Lk} {u : Bool} {s0 : List Ky} {don don' : Ky → Lt → Prop} {st : List Ky × List Itm} (h : Gr k u s0 don st) (m : ∀ y l, don' y l → don y l) : Gr k u s0 don' st := ⟨h.up, h.dn, fun x l y hd => h.cl x l y (m _ _ hd)⟩
theorem stI_gr0 {k : Lk} {u : Bool} {s0 : List Ky} {x : Itm} : ∀ (ms : List Lt) {don : Ky → Lt → Prop} {st st' : List Ky × List Itm}, Gr k u s0 don st → foldE (stp k u x) st ms = .ok st' → Gr k u s0 (fun y m => don y m ∨ (y = x.1 ∧ m ∈ ms)) st'
  | [], don, st, st', h, e => by
    cases e
    exact h.mono fun y l hd => hd.elim id fun z => by cases z.2
  | l :: ms, don, st, st', h, e => by
    rw [foldE] at e
    cases es : stp k u x st l with
    | error r => rw [es] at e; cases e
    | ok s1 =>
      rw [es] at e
      refine (stI_gr0 ms (stp_gr h es) e).mono fun y m hd => ?_
      rcases hd with hd | ⟨h1, h2⟩
      · exact .inl (.inl hd)
      · rcases List.mem_cons.mp h2 with h2 | h2
        · exact .inl (.inr ⟨h1, h2⟩)
        · exact .inr ⟨h1, h2⟩
theorem mem_lts (l : Lt) : l ∈ lts := by cases l <;> decide
theorem rnd_gr0 {k : Lk} {u : Bool} {s0 : List Ky} : ∀ (xs : List Itm) {don : Ky → Lt → Prop} {st st' : List Ky × List Itm}, Gr k u s0 don st → foldE (stI k u) st xs = .ok st' → Gr k u s0 (fun y m => don y m ∨ ∃ r, (y, r) ∈ xs) st'
  | [], don, st, st', h, e => by
    cases e
    exact h.mono fun y l hd => hd.elim id fun ⟨r, z⟩ => by cases z
  | x :: xs, don, st, st', h, e => by
    rw [foldE] at e
    cases es : stI k u st x with
    | error r => rw [es] at e; cases e
    | ok s1 =>
      rw [es] at e
      refine (rnd_gr0 xs (stI_gr0 lts h es) e).mono fun y m hd => ?_
      rcases hd with hd | ⟨r, hr⟩
      · exact .inl (.inl hd)
      · rcases List.mem_cons.mp hr with hr | hr
        · exact .inl (.inr ⟨by rw [← hr], mem_lts m⟩)
        · exact .inr ⟨r, hr⟩
/-- all keys within n letters are seen and no goal; what is seen is at the front or closed -/
structure Al (k : Lk) (u : Bool) (n : Nat) (st : List Ky × List Itm) : Prop where
  all : ∀ r y, r.length ≤ n → tr k u (y0 k) r = some y → y ∈ st.1 ∧ ¬ goal y
  cl : ∀ x ∈ st.1, (∃ r, (x, r) ∈ st.2) ∨ ∀ l y, succ k u x l = some y → ¬ goal y ∧ y ∈ st.1
theorem snoc_of {r : List Lt} {n : Nat} (h : r.length = n + 1) : ∃ r' l, r = r' ++ [l] ∧ r'.length = n := by
  refine ⟨r.dropLast, r.getLast (fun z => by rw [z] at h; cases h), (List.dropLast_concat_getLast _).symm, ?_⟩
  rw [List.length_dropLast, h]; rfl
theorem rnd_al {k : Lk} {u : Bool} {n : Nat} {st st' : List Ky × List Itm} (h : Al k u n st) (e : rnd k u st = .ok st') : Al k u (n + 1) st' := by
  have g := rnd_gr0 st.2 (don := fun _ _ => False) (s0 := st.1) (st := (st.1, [])) (st' := st') (k := k) (u := u) ⟨fun _ h => h, fun _ h => .inl h, fun _ _ _ z => z.elim⟩ e
  have cl : ∀ x ∈ st.1, ∀ l y, succ k u x l = some y → ¬ goal y ∧ y ∈ st'.1 := fun x hx l y hy => by
    rcases h.cl x hx with ⟨r, hr⟩ | hc
    · exact g.cl x l y (.inr ⟨r, hr⟩) hy
    · have := hc l y hy
      exact ⟨this.1, g.up y this.2⟩
  refine ⟨fun r y hr hy => ?_, fun x hx => ?_⟩
  · by_cases hl : r.length ≤ n
    · have := h.all r y hl hy
      exact ⟨g.up y this.1, this.2⟩
    · obtain ⟨r', l, rfl, hr'⟩ := snoc_of (show r.length = n + 1 by omega)
      rw [tr_append] at hy
      obtain ⟨x, hx, hy⟩ := Option.bind_eq_some_iff.mp hy
      obtain ⟨z, hz, hy⟩ := Option.bind_eq_some_iff.mp hy
      cases hy
      have := cl x (h.all r' x (by omega) hx).1 l _ hz
      exact ⟨this.2, this.1⟩
  · rcases g.dn x hx with hx | hx
    · exact .inr (cl x hx)
    · exact .inl hx
def s0 (k : Lk) : List Ky × List Itm := ([y0 k], [(y0 k, [])])
theorem s0_al (k : Lk) (u : Bool) : Al k u 0 (s0 k) := by
  refine ⟨fun r y hr hy => ?_, fun x hx => ?_⟩
  · cases r with
    | nil => cases hy; exact ⟨List.mem_cons_self, fun z => by simp [goal, y0] at z⟩
    | cons _ _ => cases hr
  · rw [List.mem_singleton.mp hx]
    exact .inl ⟨[], List.mem_cons_self⟩
theorem s0_fr {k : Lk} (ok : k.Ok) (u : Bool) : Fr k u 0 (s0 k) := by
  refine ⟨List.pairwise_singleton _ _, fun y hy => ?_, Nat.le_refl _, fun x hx => ?_⟩
  · rw [List.mem_singleton.mp hy]
    exact ⟨y0_ok ok, fun z => by simp [goal, y0] at z⟩
  · rw [List.mem_singleton.mp hx]
    exact ⟨y0_ok ok, rfl, rfl⟩
/-- n rounds -/
def bfs (k : Lk) (u : Bool) (n : Nat) : Except (List Lt) (List Ky × List Itm) := foldE (fun s _ => rnd k u s) (s0 k) (List.range n)
theorem bfs_succ (k : Lk) (u : Bool) (n : Nat) : bfs k u (n + 1) = match bfs k u n with
    | .ok s => rnd k u s
    | .error r => .error r := by
  unfold bfs
  rw [List.range_succ, foldE_append]
  cases foldE (fun s _ => rnd k u s) (s0 k) (List.range n) with
  | error r => rfl
  | ok s =>
    show foldE _ s [n] = rnd k u s
    rw [foldE]
    cases rnd k u s <;> rfl
theorem bfs_ok {k : Lk} (ok : k.Ok) (u : Bool) : ∀ n, ResE (fun s => Fr k u n s ∧ Al k u n s) (fun r => r.length ≤ n ∧ Hit k u r.length r) (bfs k u n)
  | 0 => ⟨s0_fr ok u, s0_al k u⟩
  | n + 1 => by
    have ih := bfs_ok ok u n
    rw [bfs_succ]
    cases e : bfs k u n with
    | error r =>
      rw [e] at ih
      exact ⟨Nat.le_succ_of_le ih.1, ih.2⟩
    | ok s =>
      rw [e] at ih
      have h1 := rnd_ok ok ih.1
      show ResE _ _ (rnd k u s)
      cases e2 : rnd k u s with
      | error r =>
        rw [e2] at h1
        exact ⟨by rw [h1.1]; exact Nat.le_refl _, by rw [h1.1]; exact h1⟩
      | ok s' =>
        rw [e2] at h1
        exact ⟨h1, rnd_al ih.2 e2⟩
end Hd

namespace Hd
open PySem PySem.Spec Dl
/-! ### rows as texts -/
theorem rs_len (r : List Lt) : (rs r).length = r.length := by
  show ((r.map lc).toArray).size = _
  rw [List.size_toArray, List.length_map]
theorem rs_app (r r' : List Lt) : rs r ++ rs r' = rs (r ++ r') := by
  show (⟨(r.map lc).toArray ++ (r'.map lc).toArray⟩ : Str) = ⟨((r ++ r').map lc).toArray⟩
  rw [List.map_append, List.append_toArray]
theorem gAdd_rs {r r' : List Lt} (h : r.length + r'.length ≤ 100000) : gAdd (.str (rs r)) (.str (rs r')) = some (.str (rs (r ++ r'))) := by
  show (if (rs r).length + (rs r').length ≤ 100000 then _ else _) = _
  rw [rs_len, rs_len, if_pos h, rs_app]
theorem gAdd_dS {r : List Lt} {l : Lt} (h : r.length + 1 ≤ 100000) : gAdd (.str (rs r)) (dS l) = some (.str (rs (r ++ [l]))) := gAdd_rs (r' := [l]) h
theorem gMul_c {l : Lt} {n : Int} (h0 : 0 ≤ n) (h1 : n ≤ 100) : gMulA (dS l) (.int n) = some (.str (rs (List.replicate n.toNat l))) := by
  show (if 0 ≤ n ∧ n ≤ 100 ∧ (ls l).length ≤ 1000 then _ else _) = _
  rw [if_pos ⟨h0, h1, show (1 : Nat) ≤ 1000 by decide⟩]
  congr 2
  show (⟨((List.replicate n.toNat [lc l]).flatten).toArray⟩ : Str) = ⟨((List.replicate n.toNat l).map lc).toArray⟩
  congr 2
  rw [List.map_replicate, List.flatten_replicate_singleton]
theorem c_e : (("e" : Str)) = ls .e := by decide
theorem c_f : (("f" : Str)) = ls .f := by decide
theorem c_1 : (("Did" : Str)) = rs [.D, .i, .d] := by decide
theorem c_2 : (("Uou" : Str)) = rs [.U, .o, .u] := by decide
theorem c_3 : (("Uiu" : Str)) = rs [.U, .i, .u] := by decide
theorem c_4 : (("Dod" : Str)) = rs [.D, .o, .d] := by decide
theorem c_0 : (("" : Str)) = rs [] := by decide
def plain (k : Lk) : Bool → List Lt
  | true => ((List.replicate k.L.toNat .e ++ [.D, .i, .d]) ++ List.replicate k.L.toNat .f) ++ [.U, .o, .u]
  | false => ((List.replicate k.L.toNat .f ++ [.U, .i, .u]) ++ List.replicate k.L.toNat .e) ++ [.D, .o, .d]
theorem plain_len (k : Lk) (u : Bool) : (plain k u).length = 2 * k.L.toNat + 6 := by
  cases u <;> simp [plain] <;> omega
theorem m_plain {k : Lk} (ok : k.Ok) (u : Bool) (p) : m_plain_whole [dLk k, wD u] p = some (.str (rs (plain k u)), p) := by
  have h0 : 0 ≤ k.L := by have := ok.L1; omega
  have h1 : k.L ≤ 100 := by have := ok.L6; omega
  have h2 : k.L.toNat ≤ 6 := by have := ok.L6; omega
  have he : gMulA (.str (ls .e)) (.int k.L) = _ := gMul_c h0 h1
  have hf : gMulA (.str (ls .f)) (.int k.L) = _ := gMul_c h0 h1
  have hl : ∀ l : Lt, (List.replicate k.L.toNat l).length ≤ 6 := fun l => by rw [List.length_replicate]; exact h2
  cases u <;> simp [m_plain_whole, b_plain_whole, ↓ev_run, ↓ev_seq, ↓ev_if, ↓ev_b, ↓ev_op, ↓ev_var, ↓ev_c, ↓ev_rets, ↓ev_next, ↓ev_fld, ↓ev_set, fldD, ↓tn_some, aft_nx, aft_rt, slotV_val, runO, asB, gEq_wD, dLk, c_e, c_f, c_1, c_2, c_3, c_4, he, hf, plain] <;>
  (rw [gAdd_rs (by simp; omega)]; simp [↓tn_some]; rw [gAdd_rs (by simp; omega)]; simp [↓tn_some]; rw [gAdd_rs (by simp; omega)]; simp [↓tn_some, aft_rt, runO])
/-! ### keys -/
def kd (y : Ky) : D := .tup [dSt y.1, .int y.2]
def nk (y : Ky) : NestedKey := .tup [.tup [.num y.1.g, .num y.1.i, .num y.1.a, .num y.1.b], .num y.2]
theorem nk_inj {y z : Ky} (h : nk y = nk z) : y = z := by
  obtain ⟨⟨g, i, a, b⟩, c⟩ := y
  obtain ⟨⟨g', i', a', b'⟩, c'⟩ := z
  simp [nk] at h
  obtain ⟨⟨rfl, rfl, rfl, rfl⟩, rfl⟩ := h
  rfl
theorem key_kd (y : Ky) : keyOf (kd y) = some (nk y) := by
  simp [keyOf, kd, dSt, keyL, key1, nk, NestedKey.depth, NestedKey.depthAll]
def dnS (ys : List Ky) : D := .dn (ys.map nk) (ys.map fun _ => .bl true)
theorem mem_nk {y : Ky} {ys : List Ky} : nk y ∈ ys.map nk ↔ y ∈ ys := by
  rw [List.mem_map]
  exact ⟨fun ⟨z, hz, e⟩ => nk_inj e ▸ hz, fun h => ⟨y, h, rfl⟩⟩
theorem gIn_kd (y : Ky) (ys : List Ky) : gInDn (kd y) (dnS ys) = some (.bl (decide (y ∈ ys))) := by
  unfold gInDn dnS
  simp only [key_kd]
  show some (D.bl (decide (nk y ∈ ys.map nk))) = _
  congr 2
  exact decide_eq_decide.mpr mem_nk
theorem gNotIn_kd (y : Ky) (ys : List Ky) : gNotInDn (kd y) (dnS ys) = some (.bl (!decide (y ∈ ys))) := by
  unfold gNotInDn dnS
  simp only [key_kd]
  show some (D.bl (!decide (nk y ∈ ys.map nk))) = _
  congr 3
  exact decide_eq_decide.mpr mem_nk
theorem dnC_kd {y : Ky} {ys : List Ky} (h : y ∉ ys) (hl : ys.length < 100000) : dnC (some (some (.own (dnS ys)))) (kd y) (.bl true) = some (.own (dnS (ys ++ [y]))) := by
  unfold dnC dnS
  simp only [key_kd]
  rw [if_pos ⟨fun z => h (mem_nk.mp z), by rw [List.length_map]; exact hl⟩, List.map_append, List.map_append]
  rfl
theorem dn1C_kd (y : Ky) : dn1C (kd y) (.bl true) = some (.own (dnS [y])) := by
  unfold dn1C
  rw [key_kd]
  rfl
theorem chs_l : chs ("feUuDdiow" : Str) = lts.map dS := by
  unfold chs
  rw [show ("feUuDdiow" : Str) = rs lts by decide]
  rfl
theorem isN_dSt (s : St) : gIsN (dSt s) .non = some (.bl false) := rfl
theorem isN_int (i : Int) : gIsN (.int i) .non = some (.bl false) := rfl
theorem notN_dSt (s : St) : gNotN (dSt s) .non = some (.bl true) := rfl
theorem notN_non : gNotN .non .non = some (.bl false) := rfl
end Hd

namespace Hd
open PySem PySem.Spec Dl
/-! ### the program's search -/
def itD (x : Itm) : D := .tup [dSt x.1.1, .int x.1.2, .str (rs x.2)]
def RL (k : Lk) (u : Bool) (n : Nat) (fr : D) (x : Itm) (st : List Ky × List Itm) (ρ : Rho) : Prop := Fr k u (n + 1) st ∧ ∃ x4 x9 x10 x11, ρ = [some (.val (dLk k)), some (.val (wD u)), some (.val fr), some (.own (dnS st.1)), x4, some (.own (.lst (st.2.map itD))), some (.val (dSt x.1.1)), some (.val (.int x.1.2)), some (.val (.str (rs x.2))), x9, x10, x11]
def RI (k : Lk) (u : Bool) (n : Nat) (fr : D) (st : List Ky × List Itm) (ρ : Rho) : Prop := Fr k u (n + 1) st ∧ ∃ x4 x6 x7 x8 x9 x10 x11, ρ = [some (.val (dLk k)), some (.val (wD u)), some (.val fr), some (.own (dnS st.1)), x4, some (.own (.lst (st.2.map itD))), x6, x7, x8, x9, x10, x11]
def RR (k : Lk) (u : Bool) (n : Nat) (st : List Ky × List Itm) (ρ : Rho) : Prop := Fr k u n st ∧ ∃ x4 x5 x6 x7 x8 x9 x10 x11, ρ = [some (.val (dLk k)), some (.val (wD u)), some (.val (.lst (st.2.map itD))), some (.own (dnS st.1)), x4, x5, x6, x7, x8, x9, x10, x11]
theorem m_shortest {k : Lk} (ok : k.Ok) (u : Bool) (p) : m_shortest_whole [dLk k, wD u] p = some (.str (rs (match bfs k u (2 * k.L + 5).toNat with
    | .ok _ => plain k u
    | .error r => r)), p) := by
  have L1 := ok.L1
  have L6 := ok.L6
  have e0 : (rs (plain k u)).length ≤ 100000 := by rw [rs_len, plain_len]; omega
  have e1 : ((rs (plain k u)).length : Int) - 1 = 2 * k.L + 5 := by rw [rs_len, plain_len]; omega
  have e2 : -4611686018427387904 ≤ 2 * k.L + 5 ∧ 2 * k.L + 5 < 4611686018427387904 := by omega
  simp [m_shortest_whole, b_shortest_whole, ↓ev_run, ↓ev_seq, ↓ev_if, ↓ev_b, ↓ev_op, ↓ev_un, ↓ev_var, ↓ev_own, ↓ev_c, ↓ev_rets, ↓ev_next, ↓ev_cnt, ↓ev_andV, ↓ev_orV, ↓ev_notV, ↓ev_and, ↓ev_or, ↓ev_not, ↓ev_ite, ↓ev_nil, ↓ev_cons, ↓ev_tup, ↓ev_lst, ↓ev_call, ↓ev_fn, ↓ev_it, ↓ev_itA, ↓ev_for, ↓ev_fld, ↓ev_set, ↓ev_setO, ↓ev_app, ↓ev_asg, ↓ev_bm, asStr, ↓ev_lc, ↓ev_yes, ↓ev_dk0, ↓ev_dn1, ↓ev_dn, ↓ev_dk, ↓ev_frz, ↓ev_thn, ↓ev_par, ↓ev_chain, fldD, ↓tn_some, tn_ite, aft_nx, aft_rt, aft_ct, slotV_val, slotO_own, runO, asB, gEq_int, gEq_str, gNe_int, gNe_str, gCmp, gSub, gAdd_int, gTp, gCn, gNl, gNm, m_st0, m_plain ok, gLen, e0, e1, e2, rng1]
  rw [show dn1C (D.tup [dSt (st0 k), D.int 0]) (D.bl true) = some (.own (dnS [y0 k])) from dn1C_kd (y0 k)]
  simp only [Option.map_some, tn_some, aft_nx, ↓ev_seq, ↓ev_for, ↓ev_itA, tn_assoc]
  simp [↓ev_run, ↓ev_seq, ↓ev_if, ↓ev_b, ↓ev_op, ↓ev_un, ↓ev_var, ↓ev_own, ↓ev_c, ↓ev_rets, ↓ev_next, ↓ev_cnt, ↓ev_andV, ↓ev_orV, ↓ev_notV, ↓ev_and, ↓ev_or, ↓ev_not, ↓ev_ite, ↓ev_nil, ↓ev_cons, ↓ev_tup, ↓ev_lst, ↓ev_call, ↓ev_fn, ↓ev_it, ↓ev_itA, ↓ev_for, ↓ev_fld, ↓ev_set, ↓ev_setO, ↓ev_app, ↓ev_asg, ↓ev_bm, asStr, ↓ev_lc, ↓ev_yes, ↓ev_dk0, ↓ev_dn1, ↓ev_dn, ↓ev_dk, ↓ev_frz, ↓ev_thn, ↓ev_par, ↓ev_chain, fldD, ↓tn_some, tn_ite, aft_nx, aft_rt, aft_ct, slotV_val, slotO_own, runO, asB, gEq_int, gEq_str, gNe_int, gNe_str, gCmp, gSub, gAdd_int, gTp, gCn, gNl, gNm, m_plain ok, gLen, e0, e1, e2, rng1]
  rw [upTo_int, c_0]
  refine tn_simL (loop_simN D.int (fun st _ => mapE (fun r => D.str (rs r)) (rnd k u st)) (RR k u) p 18 (upI 0 (2 * k.L + 5).toNat) 0 (by rw [len_upI]; omega) ?_ (s0 k) _ ⟨s0_fr ok u, _, _, _, _, _, _, _, _, rfl⟩) ?_
  · intro n st ρ x hn hx ⟨F, x4, x5, x6, x7, x8, x9, x10, x11, e⟩
    subst e
    refine ⟨_, rfl, ?_⟩
    simp [↓ev_run, ↓ev_seq, ↓ev_if, ↓ev_b, ↓ev_op, ↓ev_un, ↓ev_var, ↓ev_own, ↓ev_c, ↓ev_rets, ↓ev_next, ↓ev_cnt, ↓ev_andV, ↓ev_orV, ↓ev_notV, ↓ev_and, ↓ev_or, ↓ev_not, ↓ev_ite, ↓ev_nil, ↓ev_cons, ↓ev_tup, ↓ev_lst, ↓ev_call, ↓ev_fn, ↓ev_it, ↓ev_itA, ↓ev_for, ↓ev_fld, ↓ev_set, ↓ev_setO, ↓ev_app, ↓ev_asg, ↓ev_bm, asStr, ↓ev_lc, ↓ev_yes, ↓ev_dk0, ↓ev_dn1, ↓ev_dn, ↓ev_dk, ↓ev_frz, ↓ev_thn, ↓ev_par, ↓ev_chain, fldD, ↓tn_some, tn_ite, aft_nx, aft_rt, aft_ct, slotV_val, slotO_own, runO, asB, gEq_int, gEq_str, gNe_int, gNe_str, gCmp, gSub, gAdd_int, gTp, gCn, gNl, gNm, gList, asAny]
    rw [show mapE (fun r => D.str (rs r)) (rnd k u st) = foldE (fun st x => mapE (fun r => D.str (rs r)) (stI k u st x)) (st.1, []) st.2 from (foldE_map _ _ _ _).symm]
    refine simB_then (loop_sim itD (fun st x => mapE (fun r => D.str (rs r)) (stI k u st x)) (RI k u n (.lst (st.2.map itD))) p st.2 ?_ (st.1, []) _ ⟨F.start, _, _, _, _, _, _, _, rfl⟩) ?_ (fun d => rfl)
    · intro st' ρ y hy ⟨F', x4, x6, x7, x8, x9, x10, x11, e⟩
      subst e
      refine ⟨[some (.val (dLk k)), some (.val (wD u)), some (.val (.lst (st.2.map itD))), some (.own (dnS st'.1)), x4, some (.own (.lst (st'.2.map itD))), some (.val (dSt y.1.1)), some (.val (.int y.1.2)), some (.val (.str (rs y.2))), x9, x10, x11], by simp [gTp, gCn, gNl, gNm, itD], ?_⟩
      simp [↓ev_run, ↓ev_seq, ↓ev_if, ↓ev_b, ↓ev_op, ↓ev_un, ↓ev_var, ↓ev_own, ↓ev_c, ↓ev_rets, ↓ev_next, ↓ev_cnt, ↓ev_andV, ↓ev_orV, ↓ev_notV, ↓ev_and, ↓ev_or, ↓ev_not, ↓ev_ite, ↓ev_nil, ↓ev_cons, ↓ev_tup, ↓ev_lst, ↓ev_call, ↓ev_fn, ↓ev_it, ↓ev_itA, ↓ev_for, ↓ev_fld, ↓ev_set, ↓ev_setO, ↓ev_app, ↓ev_asg, ↓ev_bm, asStr, ↓ev_lc, ↓ev_yes, ↓ev_dk0, ↓ev_dn1, ↓ev_dn, ↓ev_dk, ↓ev_frz, ↓ev_thn, ↓ev_par, ↓ev_chain, fldD, ↓tn_some, tn_ite, aft_nx, aft_rt, aft_ct, slotV_val, slotO_own, runO, asB, gEq_int, gEq_str, gNe_int, gNe_str, gCmp, gSub, gAdd_int, gTp, gCn, gNl, gNm, asAny, chs_l]
      rw [show mapE (fun r => D.str (rs r)) (stI k u st' y) = foldE (fun st l => mapE (fun r => D.str (rs r)) (stp k u y st l)) st' lts from (foldE_map _ _ _ _).symm]
      refine (SimL.mono (loop_sim dS (fun st l => mapE (fun r => D.str (rs r)) (stp k u y st l)) (RL k u n (.lst (st.2.map itD)) y) p lts ?_ st' _ ⟨F', _, _, _, _, rfl⟩) ?_).b
      · intro st2 ρ l hl ⟨F2, x4, x9, x10, x11, e⟩
        subst e
        refine ⟨_, rfl, ?_⟩
        have hy' := F.it y hy
        have hr : y.2.length + 1 ≤ 100000 := by omega
        have hs := keys_few ok F2.nd fun z hz => (F2.ok z hz).1
        have hf := F2.fl
        unfold stp succ
        cases hn : nextS k y.1.1 l with
        | none =>
          simp [↓ev_run, ↓ev_seq, ↓ev_if, ↓ev_b, ↓ev_op, ↓ev_un, ↓ev_var, ↓ev_own, ↓ev_c, ↓ev_rets, ↓ev_next, ↓ev_cnt, ↓ev_andV, ↓ev_orV, ↓ev_notV, ↓ev_and, ↓ev_or, ↓ev_not, ↓ev_ite, ↓ev_nil, ↓ev_cons, ↓ev_tup, ↓ev_lst, ↓ev_call, ↓ev_fn, ↓ev_it, ↓ev_itA, ↓ev_for, ↓ev_fld, ↓ev_set, ↓ev_setO, ↓ev_app, ↓ev_asg, ↓ev_bm, asStr, ↓ev_lc, ↓ev_yes, ↓ev_dk0, ↓ev_dn1, ↓ev_dn, ↓ev_dk, ↓ev_frz, ↓ev_thn, ↓ev_par, ↓ev_chain, fldD, ↓tn_some, tn_ite, aft_nx, aft_rt, aft_ct, slotV_val, slotO_own, runO, asB, gEq_int, gEq_str, gNe_int, gNe_str, gCmp, gSub, gAdd_int, gTp, gCn, gNl, gNm, m_next, hn, oD, m_ship, ix_dSt0, gIsN_non]
          exact ⟨_, .inr rfl, F2, _, _, _, _, rfl⟩
        | some s =>
          cases hc : shA u y.1.2 y.1.1.g l with
          | none =>
            simp [↓ev_run, ↓ev_seq, ↓ev_if, ↓ev_b, ↓ev_op, ↓ev_un, ↓ev_var, ↓ev_own, ↓ev_c, ↓ev_rets, ↓ev_next, ↓ev_cnt, ↓ev_andV, ↓ev_orV, ↓ev_notV, ↓ev_and, ↓ev_or, ↓ev_not, ↓ev_ite, ↓ev_nil, ↓ev_cons, ↓ev_tup, ↓ev_lst, ↓ev_call, ↓ev_fn, ↓ev_it, ↓ev_itA, ↓ev_for, ↓ev_fld, ↓ev_set, ↓ev_setO, ↓ev_app, ↓ev_asg, ↓ev_bm, asStr, ↓ev_lc, ↓ev_yes, ↓ev_dk0, ↓ev_dn1, ↓ev_dn, ↓ev_dk, ↓ev_frz, ↓ev_thn, ↓ev_par, ↓ev_chain, fldD, ↓tn_some, tn_ite, aft_nx, aft_rt, aft_ct, slotV_val, slotO_own, runO, asB, gEq_int, gEq_str, gNe_int, gNe_str, gCmp, gSub, gAdd_int, gTp, gCn, gNl, gNm, m_next, hn, hc, oD, oI, m_ship, ix_dSt0, gIsN_non, isN_dSt]
            exact ⟨_, .inr rfl, F2, _, _, _, _, rfl⟩
          | some c =>
            have hk := gIn_kd (s, c) st2.1
            have hd := gAdd_dS (l := l) hr
            simp only [kd] at hk
            by_cases hm : (s, c) ∈ st2.1
            · have hg : ¬ goal (s, c) := (F2.ok _ hm).2
              simp [↓ev_run, ↓ev_seq, ↓ev_if, ↓ev_b, ↓ev_op, ↓ev_un, ↓ev_var, ↓ev_own, ↓ev_c, ↓ev_rets, ↓ev_next, ↓ev_cnt, ↓ev_andV, ↓ev_orV, ↓ev_notV, ↓ev_and, ↓ev_or, ↓ev_not, ↓ev_ite, ↓ev_nil, ↓ev_cons, ↓ev_tup, ↓ev_lst, ↓ev_call, ↓ev_fn, ↓ev_it, ↓ev_itA, ↓ev_for, ↓ev_fld, ↓ev_set, ↓ev_setO, ↓ev_app, ↓ev_asg, ↓ev_bm, asStr, ↓ev_lc, ↓ev_yes, ↓ev_dk0, ↓ev_dn1, ↓ev_dn, ↓ev_dk, ↓ev_frz, ↓ev_thn, ↓ev_par, ↓ev_chain, fldD, ↓tn_some, tn_ite, aft_nx, aft_rt, aft_ct, slotV_val, slotO_own, runO, asB, gEq_int, gEq_str, gNe_int, gNe_str, gCmp, gSub, gAdd_int, gTp, gCn, gNl, gNm, m_next, hn, hc, oD, oI, m_ship, ix_dSt0, gIsN_non, isN_dSt, isN_int, hk, hm, hg]
              exact ⟨_, .inr rfl, F2, _, _, _, _, rfl⟩
            · by_cases hg : goal (s, c)
              · have hg1 := hg.1
                have hg2 := hg.2
                simp only at hg1 hg2
                subst hg2
                simp [↓ev_run, ↓ev_seq, ↓ev_if, ↓ev_b, ↓ev_op, ↓ev_un, ↓ev_var, ↓ev_own, ↓ev_c, ↓ev_rets, ↓ev_next, ↓ev_cnt, ↓ev_andV, ↓ev_orV, ↓ev_notV, ↓ev_and, ↓ev_or, ↓ev_not, ↓ev_ite, ↓ev_nil, ↓ev_cons, ↓ev_tup, ↓ev_lst, ↓ev_call, ↓ev_fn, ↓ev_it, ↓ev_itA, ↓ev_for, ↓ev_fld, ↓ev_set, ↓ev_setO, ↓ev_app, ↓ev_asg, ↓ev_bm, asStr, ↓ev_lc, ↓ev_yes, ↓ev_dk0, ↓ev_dn1, ↓ev_dn, ↓ev_dk, ↓ev_frz, ↓ev_thn, ↓ev_par, ↓ev_chain, fldD, ↓tn_some, tn_ite, aft_nx, aft_rt, aft_ct, slotV_val, slotO_own, runO, asB, gEq_int, gEq_str, gNe_int, gNe_str, gCmp, gSub, gAdd_int, gTp, gCn, gNl, gNm, m_next, hn, hc, oD, oI, m_ship, ix_dSt0, gIsN_non, isN_dSt, isN_int, hk, hm, hg, hg1, hd]
                exact rfl
              · have hw := dnC_kd hm (show st2.1.length < 100000 by omega)
                simp only [kd] at hw
                have ha := appC_own (l := st2.2.map itD) (x := .tup [dSt s, .int c, .str (rs (y.2 ++ [l]))]) (by rw [List.length_map]; omega)
                have hL : Fr k u (n + 1) (st2.1 ++ [(s, c)], st2.2 ++ [((s, c), y.2 ++ [l])]) := by
                  have := stp_ok ok hy' F2 l
                  unfold stp succ at this
                  simpa [hn, hc, hg, hm, ResE] using this
                by_cases hg1 : s.g = 0
                · have hg2 : c ≠ 2 := fun z => hg ⟨hg1, z⟩
                  simp [↓ev_run, ↓ev_seq, ↓ev_if, ↓ev_b, ↓ev_op, ↓ev_un, ↓ev_var, ↓ev_own, ↓ev_c, ↓ev_rets, ↓ev_next, ↓ev_cnt, ↓ev_andV, ↓ev_orV, ↓ev_notV, ↓ev_and, ↓ev_or, ↓ev_not, ↓ev_ite, ↓ev_nil, ↓ev_cons, ↓ev_tup, ↓ev_lst, ↓ev_call, ↓ev_fn, ↓ev_it, ↓ev_itA, ↓ev_for, ↓ev_fld, ↓ev_set, ↓ev_setO, ↓ev_app, ↓ev_asg, ↓ev_bm, asStr, ↓ev_lc, ↓ev_yes, ↓ev_dk0, ↓ev_dn1, ↓ev_dn, ↓ev_dk, ↓ev_frz, ↓ev_thn, ↓ev_par, ↓ev_chain, fldD, ↓tn_some, tn_ite, aft_nx, aft_rt, aft_ct, slotV_val, slotO_own, runO, asB, gEq_int, gEq_str, gNe_int, gNe_str, gCmp, gSub, gAdd_int, gTp, gCn, gNl, gNm, m_next, hn, hc, oD, oI, m_ship, ix_dSt0, gIsN_non, isN_dSt, isN_int, hk, hm, hg, hg1, hg2, hd, hw, ha]
                  exact ⟨_, .inl rfl, hL, _, _, _, _, by rw [show List.map itD (st2.2 ++ [((s, c), y.2 ++ [l])]) = st2.2.map itD ++ [.tup [dSt s, .int c, .str (rs (y.2 ++ [l]))]] from List.map_append]⟩
                · simp [↓ev_run, ↓ev_seq, ↓ev_if, ↓ev_b, ↓ev_op, ↓ev_un, ↓ev_var, ↓ev_own, ↓ev_c, ↓ev_rets, ↓ev_next, ↓ev_cnt, ↓ev_andV, ↓ev_orV, ↓ev_notV, ↓ev_and, ↓ev_or, ↓ev_not, ↓ev_ite, ↓ev_nil, ↓ev_cons, ↓ev_tup, ↓ev_lst, ↓ev_call, ↓ev_fn, ↓ev_it, ↓ev_itA, ↓ev_for, ↓ev_fld, ↓ev_set, ↓ev_setO, ↓ev_app, ↓ev_asg, ↓ev_bm, asStr, ↓ev_lc, ↓ev_yes, ↓ev_dk0, ↓ev_dn1, ↓ev_dn, ↓ev_dk, ↓ev_frz, ↓ev_thn, ↓ev_par, ↓ev_chain, fldD, ↓tn_some, tn_ite, aft_nx, aft_rt, aft_ct, slotV_val, slotO_own, runO, asB, gEq_int, gEq_str, gNe_int, gNe_str, gCmp, gSub, gAdd_int, gTp, gCn, gNl, gNm, m_next, hn, hc, oD, oI, m_ship, ix_dSt0, gIsN_non, isN_dSt, isN_int, hk, hm, hg, hg1, hd, hw, ha]
                  exact ⟨_, .inl rfl, hL, _, _, _, _, by rw [show List.map itD (st2.2 ++ [((s, c), y.2 ++ [l])]) = st2.2.map itD ++ [.tup [dSt s, .int c, .str (rs (y.2 ++ [l]))]] from List.map_append]⟩
      · intro st ρ ⟨F, x4, x9, x10, x11, e⟩
        exact ⟨F, _, _, _, _, _, _, _, e⟩
    · intro st' ρ ⟨F', x4, x6, x7, x8, x9, x10, x11, e⟩
      subst e
      exact ⟨_, rfl, F', _, _, _, _, _, _, _, _, rfl⟩
  · rw [foldE_map, foldE_len (rnd k u) _ (List.range (2 * k.L + 5).toNat) _ (by rw [len_upI, List.length_range])]
    show AftL _ _ _ _ (mapE _ (bfs k u _))
    cases bfs k u (2 * k.L + 5).toNat with
    | error r => exact rfl
    | ok st =>
      rintro ρ2 ⟨F, x4, x5, x6, x7, x8, x9, x10, x11, e⟩
      subst e
      simp [↓ev_run, ↓ev_seq, ↓ev_if, ↓ev_b, ↓ev_op, ↓ev_un, ↓ev_var, ↓ev_own, ↓ev_c, ↓ev_rets, ↓ev_next, ↓ev_cnt, ↓ev_andV, ↓ev_orV, ↓ev_notV, ↓ev_and, ↓ev_or, ↓ev_not, ↓ev_ite, ↓ev_nil, ↓ev_cons, ↓ev_tup, ↓ev_lst, ↓ev_call, ↓ev_fn, ↓ev_it, ↓ev_itA, ↓ev_for, ↓ev_fld, ↓ev_set, ↓ev_setO, ↓ev_app, ↓ev_asg, ↓ev_bm, asStr, ↓ev_lc, ↓ev_yes, ↓ev_dk0, ↓ev_dn1, ↓ev_dn, ↓ev_dk, ↓ev_frz, ↓ev_thn, ↓ev_par, ↓ev_chain, fldD, ↓tn_some, tn_ite, aft_nx, aft_rt, aft_ct, slotV_val, slotO_own, runO, asB, gEq_int, gEq_str, gNe_int, gNe_str, gCmp, gSub, gAdd_int, gTp, gCn, gNl, gNm, m_plain ok]
end Hd

namespace Hd
open PySem PySem.Spec Dl
/-! ### the law's search -/
def ltD (x : Itm) : D := kd x.1
/-- the law's test ahead of its step -/
def cond (u : Bool) (y : Ky) : Lt → Bool
  | .i => decide (y.2 = 0 ∧ y.1.g = en u)
  | .o => decide (y.1.g = 3 - en u)
  | _ => true
def io : Lt → Int
  | .i => 1
  | .o => 1
  | _ => 0
def ioB : Lt → Bool
  | .i => true
  | .o => true
  | _ => false
theorem in_io (l : Lt) : gInS (dS l) (.str "io") = some (.bl (ioB l)) := by cases l <;> rfl
theorem ioI (l : Lt) : (if ioB l = true then (1 : Int) else 0) = io l := by cases l <;> rfl
theorem gInt_b (b : Bool) : gInt [.bl b] = some (.int (if b = true then 1 else 0)) := rfl
theorem law_succ {k : Lk} {u : Bool} {y : Ky} (h : KOk k y) (l : Lt) : succ k u y l = if cond u y l = true then (nextS k y.1 l).map fun s => (s, y.2 + io l) else none := by
  unfold succ
  cases hn : nextS k y.1 l with
  | none => cases hc : shA u y.2 y.1.g l <;> simp
  | some s =>
    have hci := h.ci
    cases l <;> simp [shA, cond, io]
    · by_cases h1 : y.2 = 0 <;> by_cases h2 : y.1.g = en u <;> simp [h1, h2]
    · have h1 : y.2 = 1 := by
        unfold nextS at hn
        split at hn
        · rename_i ha
          have := ha.1
          simp [allowed] at this
          rw [this.2] at hci
          by_cases hc : y.2 = 1
          · exact hc
          · rw [if_neg hc] at hci; omega
        · cases hn
      by_cases h2 : y.1.g = 3 - en u <;> simp [h1, h2]
def QL (k : Lk) (u : Bool) (n : Nat) (fr : D) (x : Itm) (st : List Ky × List Itm) (ρ : Rho) : Prop := Fr k u (n + 1) st ∧ ∃ x9 x10 x11, ρ = [some (.val (lLk k)), some (.val (wD u)), some (.val (.int (en u))), some (.val fr), some (.own (dnS st.1)), some (.val (.int (n + 1))), some (.own (.lst (st.2.map ltD))), some (.val (kd x.1)), some (.val (dSt x.1.1)), x9, x10, x11]
def QI (k : Lk) (u : Bool) (n : Nat) (fr : D) (st : List Ky × List Itm) (ρ : Rho) : Prop := Fr k u (n + 1) st ∧ ∃ x7 x8 x9 x10 x11, ρ = [some (.val (lLk k)), some (.val (wD u)), some (.val (.int (en u))), some (.val fr), some (.own (dnS st.1)), some (.val (.int (n + 1))), some (.own (.lst (st.2.map ltD))), x7, x8, x9, x10, x11]
def QR (k : Lk) (u : Bool) (n : Nat) (st : List Ky × List Itm) (ρ : Rho) : Prop := Fr k u n st ∧ ∃ x5 x6 x7 x8 x9 x10 x11, ρ = [some (.val (lLk k)), some (.val (wD u)), some (.val (.int (en u))), some (.val (.lst (st.2.map ltD))), some (.own (dnS st.1)), x5, x6, x7, x8, x9, x10, x11]
theorem ix_kd0 (y : Ky) : gIx (kd y) (.int 0) = some (dSt y.1) := by simp [kd, gIx, L2.atI, L2.ixN]
theorem ix_kd1 (y : Ky) : gIx (kd y) (.int 1) = some (.int y.2) := by simp [kd, gIx, L2.atI, L2.ixN]
theorem ix_p1 (a b : D) : gIx (.tup [a, b]) (.int 1) = some b := by simp [gIx, L2.atI, L2.ixN]
theorem ix_l1 (d : D) : gIx (.lst [d]) (.int 0) = some d := by simp [gIx, L2.atI, L2.ixN]
def lenD (r : List Lt) : D := .int r.length
theorem m_least {k : Lk} (ok : k.Ok) (u : Bool) (p) : m__law_least [lLk k, wD u] p = some (.int (match bfs k u (2 * k.L + 6).toNat with
    | .ok _ => 0
    | .error r => (r.length : Int)), p) := by
  have L1 := ok.L1
  have L6 := ok.L6
  have e2 : -4611686018427387904 ≤ 2 * k.L + 7 ∧ 2 * k.L + 7 < 4611686018427387904 := by omega
  have e3 : gMulA (.int 2) (.int k.L) = some (.int (2 * k.L)) := by simp [gMulA]
  have e4 : (1 : Int) + (if u = true then 1 else 0) = en u := by cases u <;> rfl
  have e5 : (2 * k.L + 7).toNat - 1 = (2 * k.L + 6).toNat := by omega
  simp [m__law_least, b__law_least, ↓ev_run, ↓ev_seq, ↓ev_if, ↓ev_b, ↓ev_op, ↓ev_un, ↓ev_var, ↓ev_own, ↓ev_c, ↓ev_rets, ↓ev_next, ↓ev_cnt, ↓ev_andV, ↓ev_orV, ↓ev_notV, ↓ev_and, ↓ev_or, ↓ev_not, ↓ev_ite, ↓ev_nil, ↓ev_cons, ↓ev_tup, ↓ev_lst, ↓ev_call, ↓ev_fn, ↓ev_it, ↓ev_itA, ↓ev_for, ↓ev_fld, ↓ev_set, ↓ev_setO, ↓ev_app, ↓ev_asg, ↓ev_bm, asStr, ↓ev_lc, ↓ev_yes, ↓ev_dk0, ↓ev_dn1, ↓ev_dn, ↓ev_dk, ↓ev_frz, ↓ev_thn, ↓ev_par, ↓ev_chain, fldD, ↓tn_some, tn_ite, aft_nx, aft_rt, aft_ct, slotV_val, slotO_own, runO, asB, gEq_int, gEq_str, gNe_int, gNe_str, gCmp, gSub, gAdd_int, gTp, gCn, gNl, gNm, gEq_wD, gInt, e4, ix_l1, ix_lLk0]
  rw [show dn1C (D.tup [D.tup [D.int 0, D.int 0, D.int 0, D.int k.L], D.int 0]) (D.bl true) = some (.own (dnS [y0 k])) from dn1C_kd (y0 k)]
  simp [↓ev_run, ↓ev_seq, ↓ev_if, ↓ev_b, ↓ev_op, ↓ev_un, ↓ev_var, ↓ev_own, ↓ev_c, ↓ev_rets, ↓ev_next, ↓ev_cnt, ↓ev_andV, ↓ev_orV, ↓ev_notV, ↓ev_and, ↓ev_or, ↓ev_not, ↓ev_ite, ↓ev_nil, ↓ev_cons, ↓ev_tup, ↓ev_lst, ↓ev_call, ↓ev_fn, ↓ev_it, ↓ev_itA, ↓ev_for, ↓ev_fld, ↓ev_set, ↓ev_setO, ↓ev_app, ↓ev_asg, ↓ev_bm, asStr, ↓ev_lc, ↓ev_yes, ↓ev_dk0, ↓ev_dn1, ↓ev_dn, ↓ev_dk, ↓ev_frz, ↓ev_thn, ↓ev_par, ↓ev_chain, fldD, ↓tn_some, tn_ite, aft_nx, aft_rt, aft_ct, slotV_val, slotO_own, runO, asB, gEq_int, gEq_str, gNe_int, gNe_str, gCmp, gSub, gAdd_int, gTp, gCn, gNl, gNm, rng2, e2, e3, ix_lLk0]
  rw [upTo_int, e5]
  simp only [tn_assoc]
  refine tn_simL (loop_simI D.int (fun st _ => mapE lenD (rnd k u st)) (QR k u) p (upI 1 (2 * k.L + 6).toNat) ?_ (upI 1 (2 * k.L + 6).toNat) 0 (by rw [List.drop_zero]) (Nat.zero_le _) (s0 k) _ ⟨s0_fr ok u, _, _, _, _, _, _, _, rfl⟩) ?_
  · intro n st ρ x hx ⟨F, x5, x6, x7, x8, x9, x10, x11, e⟩
    subst e
    have hlt : n < 18 := by
      have := (List.getElem?_eq_some_iff.mp hx).1
      rw [len_upI] at this
      omega
    have ex : x = n + 1 := by
      have := (List.getElem?_eq_some_iff.mp hx).2
      simp [upI] at this
      omega
    subst ex
    refine ⟨_, rfl, ?_⟩
    simp [↓ev_run, ↓ev_seq, ↓ev_if, ↓ev_b, ↓ev_op, ↓ev_un, ↓ev_var, ↓ev_own, ↓ev_c, ↓ev_rets, ↓ev_next, ↓ev_cnt, ↓ev_andV, ↓ev_orV, ↓ev_notV, ↓ev_and, ↓ev_or, ↓ev_not, ↓ev_ite, ↓ev_nil, ↓ev_cons, ↓ev_tup, ↓ev_lst, ↓ev_call, ↓ev_fn, ↓ev_it, ↓ev_itA, ↓ev_for, ↓ev_fld, ↓ev_set, ↓ev_setO, ↓ev_app, ↓ev_asg, ↓ev_bm, asStr, ↓ev_lc, ↓ev_yes, ↓ev_dk0, ↓ev_dn1, ↓ev_dn, ↓ev_dk, ↓ev_frz, ↓ev_thn, ↓ev_par, ↓ev_chain, fldD, ↓tn_some, tn_ite, aft_nx, aft_rt, aft_ct, slotV_val, slotO_own, runO, asB, gEq_int, gEq_str, gNe_int, gNe_str, gCmp, gSub, gAdd_int, gTp, gCn, gNl, gNm, asAny]
    rw [show mapE lenD (rnd k u st) = foldE (fun st x => mapE lenD (stI k u st x)) (st.1, []) st.2 from (foldE_map _ _ _ _).symm]
    refine simB_then (loop_sim ltD (fun st x => mapE lenD (stI k u st x)) (QI k u n (.lst (st.2.map ltD))) p st.2 ?_ (st.1, []) _ ⟨F.start, _, _, _, _, _, rfl⟩) ?_ (fun d => rfl)
    · intro st' ρ y hy ⟨F', x7, x8, x9, x10, x11, e⟩
      subst e
      refine ⟨_, rfl, ?_⟩
      simp [↓ev_run, ↓ev_seq, ↓ev_if, ↓ev_b, ↓ev_op, ↓ev_un, ↓ev_var, ↓ev_own, ↓ev_c, ↓ev_rets, ↓ev_next, ↓ev_cnt, ↓ev_andV, ↓ev_orV, ↓ev_notV, ↓ev_and, ↓ev_or, ↓ev_not, ↓ev_ite, ↓ev_nil, ↓ev_cons, ↓ev_tup, ↓ev_lst, ↓ev_call, ↓ev_fn, ↓ev_it, ↓ev_itA, ↓ev_for, ↓ev_fld, ↓ev_set, ↓ev_setO, ↓ev_app, ↓ev_asg, ↓ev_bm, asStr, ↓ev_lc, ↓ev_yes, ↓ev_dk0, ↓ev_dn1, ↓ev_dn, ↓ev_dk, ↓ev_frz, ↓ev_thn, ↓ev_par, ↓ev_chain, fldD, ↓tn_some, tn_ite, aft_nx, aft_rt, aft_ct, slotV_val, slotO_own, runO, asB, gEq_int, gEq_str, gNe_int, gNe_str, gCmp, gSub, gAdd_int, gTp, gCn, gNl, gNm, ix_kd0, ltD, asAny, chs_l]
      rw [show mapE lenD (stI k u st' y) = foldE (fun st l => mapE lenD (stp k u y st l)) st' lts from (foldE_map _ _ _ _).symm]
      refine (SimL.mono (loop_sim dS (fun st l => mapE lenD (stp k u y st l)) (QL k u n (.lst (st.2.map ltD)) y) p lts ?_ st' _ ⟨F', _, _, _, rfl⟩) ?_).b
      · intro st2 ρ l hl ⟨F2, x9, x10, x11, e⟩
        subst e
        refine ⟨_, rfl, ?_⟩
        have hy' := F.it y hy
        have hs := keys_few ok F2.nd fun z hz => (F2.ok z hz).1
        have hf := F2.fl
        have hsu := law_succ (u := u) hy'.1 l
        have hin := in_io l
        by_cases hcd : cond u y.1 l = true
        · have hcase : (l = .i ∧ y.1.2 = 0 ∧ y.1.1.g = en u) ∨ (l = .o ∧ True ∧ y.1.1.g = 3 - en u) ∨ (l ≠ .i ∧ l ≠ .o ∧ True) := by
            cases l <;> simp [cond] at hcd <;> simp [hcd]
          rw [if_pos hcd] at hsu
          unfold stp
          rw [hsu]
          rcases hcase with ⟨h0, h1, h2⟩ | ⟨h0, h1, h2⟩ | ⟨h0, h1, h2⟩
          · subst h0
            have hcv : y.1.2 + io .i = 1 := by rw [h1]; rfl
            have hb : (if ioB .i = true then (1 : Int) else 0) = io .i := ioI .i
            have hnx : ∀ p, m__law_m_next [lLk k, dSt y.1.1, dS .i] p = some (oD (nextS k y.1.1 .i), p) := fun p => m_mnext0 ok hy'.1.st .i p
            have hstp := stp_ok (u := u) ok hy' F2 .i
            unfold stp at hstp
            rw [hsu, hcv] at hstp
            rw [hcv]
            cases hn : nextS k y.1.1 .i with
            | none =>
              simp [↓ev_run, ↓ev_seq, ↓ev_if, ↓ev_b, ↓ev_op, ↓ev_un, ↓ev_var, ↓ev_own, ↓ev_c, ↓ev_rets, ↓ev_next, ↓ev_cnt, ↓ev_andV, ↓ev_orV, ↓ev_notV, ↓ev_and, ↓ev_or, ↓ev_not, ↓ev_ite, ↓ev_nil, ↓ev_cons, ↓ev_tup, ↓ev_lst, ↓ev_call, ↓ev_fn, ↓ev_it, ↓ev_itA, ↓ev_for, ↓ev_fld, ↓ev_set, ↓ev_setO, ↓ev_app, ↓ev_asg, ↓ev_bm, asStr, ↓ev_lc, ↓ev_yes, ↓ev_dk0, ↓ev_dn1, ↓ev_dn, ↓ev_dk, ↓ev_frz, ↓ev_thn, ↓ev_par, ↓ev_chain, fldD, ↓tn_some, tn_ite, aft_nx, aft_rt, aft_ct, slotV_val, slotO_own, runO, asB, gEq_int, gEq_str, gNe_int, gNe_str, gCmp, gSub, gAdd_int, gTp, gCn, gNl, gNm, gEq_dS, gNe_dS, dLk, e_f, e_e, e_U, e_u, e_D, e_d, e_i, e_o, e_w, ix_kd0, ix_kd1, ix_dSt0, hnx, hn, oD, notN_non, h1, h2]
              exact ⟨_, .inl rfl, F2, _, _, _, rfl⟩
            | some s =>
              rw [hn] at hstp hnx
              have hnx : ∀ p, m__law_m_next [lLk k, dSt y.1.1, dS .i] p = some (dSt s, p) := hnx
              have hstp : ResE (Fr k u (n + 1)) (Hit k u (n + 1)) (if goal (s, 1) then .error (y.2 ++ [.i]) else if (s, 1) ∈ st2.1 then .ok st2 else .ok (st2.1 ++ [(s, 1)], st2.2 ++ [((s, 1), y.2 ++ [.i])])) := hstp
              show SimB _ p _ (mapE lenD (if goal (s, 1) then .error (y.2 ++ [.i]) else if (s, 1) ∈ st2.1 then .ok st2 else .ok (st2.1 ++ [(s, 1)], st2.2 ++ [((s, 1), y.2 ++ [.i])])))
              have hk := gNotIn_kd (s, 1) st2.1
              simp only [kd] at hk
              by_cases hg : goal (s, 1)
              · have hg1 : s.g = 0 := hg.1
                have hg2 : 1 = (2 : Int) := hg.2
                exact absurd hg2 (by decide)
              · by_cases hm : (s, 1) ∈ st2.1
                · skip
                  simp [↓ev_run, ↓ev_seq, ↓ev_if, ↓ev_b, ↓ev_op, ↓ev_un, ↓ev_var, ↓ev_own, ↓ev_c, ↓ev_rets, ↓ev_next, ↓ev_cnt, ↓ev_andV, ↓ev_orV, ↓ev_notV, ↓ev_and, ↓ev_or, ↓ev_not, ↓ev_ite, ↓ev_nil, ↓ev_cons, ↓ev_tup, ↓ev_lst, ↓ev_call, ↓ev_fn, ↓ev_it, ↓ev_itA, ↓ev_for, ↓ev_fld, ↓ev_set, ↓ev_setO, ↓ev_app, ↓ev_asg, ↓ev_bm, asStr, ↓ev_lc, ↓ev_yes, ↓ev_dk0, ↓ev_dn1, ↓ev_dn, ↓ev_dk, ↓ev_frz, ↓ev_thn, ↓ev_par, ↓ev_chain, fldD, ↓tn_some, tn_ite, aft_nx, aft_rt, aft_ct, slotV_val, slotO_own, runO, asB, gEq_int, gEq_str, gNe_int, gNe_str, gCmp, gSub, gAdd_int, gTp, gCn, gNl, gNm, gEq_dS, gNe_dS, dLk, e_f, e_e, e_U, e_u, e_D, e_d, e_i, e_o, e_w, ix_kd0, ix_kd1, ix_dSt0, ix_p1, hnx, notN_dSt, hin, gInt_b, ioB, h1, h2, hk, hg, hm]
                  exact ⟨_, .inl rfl, F2, _, _, _, rfl⟩
                · have hw := dnC_kd hm (show st2.1.length < 100000 by omega)
                  simp only [kd] at hw
                  have ha := appC_own (l := st2.2.map ltD) (x := .tup [dSt s, .int (1)]) (by rw [List.length_map]; omega)
                  simp only [hg, hm, if_false, ResE] at hstp
                  simp [↓ev_run, ↓ev_seq, ↓ev_if, ↓ev_b, ↓ev_op, ↓ev_un, ↓ev_var, ↓ev_own, ↓ev_c, ↓ev_rets, ↓ev_next, ↓ev_cnt, ↓ev_andV, ↓ev_orV, ↓ev_notV, ↓ev_and, ↓ev_or, ↓ev_not, ↓ev_ite, ↓ev_nil, ↓ev_cons, ↓ev_tup, ↓ev_lst, ↓ev_call, ↓ev_fn, ↓ev_it, ↓ev_itA, ↓ev_for, ↓ev_fld, ↓ev_set, ↓ev_setO, ↓ev_app, ↓ev_asg, ↓ev_bm, asStr, ↓ev_lc, ↓ev_yes, ↓ev_dk0, ↓ev_dn1, ↓ev_dn, ↓ev_dk, ↓ev_frz, ↓ev_thn, ↓ev_par, ↓ev_chain, fldD, ↓tn_some, tn_ite, aft_nx, aft_rt, aft_ct, slotV_val, slotO_own, runO, asB, gEq_int, gEq_str, gNe_int, gNe_str, gCmp, gSub, gAdd_int, gTp, gCn, gNl, gNm, gEq_dS, gNe_dS, dLk, e_f, e_e, e_U, e_u, e_D, e_d, e_i, e_o, e_w, ix_kd0, ix_kd1, ix_dSt0, ix_p1, hnx, notN_dSt, hin, gInt_b, ioB, h1, h2, hk, hg, hm, hw, ha]
                  exact ⟨_, .inl rfl, hstp, _, _, _, by rw [show List.map ltD (st2.2 ++ [((s, 1), y.2 ++ [.i])]) = st2.2.map ltD ++ [.tup [dSt s, .int (1)]] from List.map_append]⟩
          · subst h0
            have hcv : y.1.2 + io .o = y.1.2 + 1 := rfl
            have hb : (if ioB .o = true then (1 : Int) else 0) = io .o := ioI .o
            have hnx : ∀ p, m__law_m_next [lLk k, dSt y.1.1, dS .o] p = some (oD (nextS k y.1.1 .o), p) := fun p => m_mnext0 ok hy'.1.st .o p
            have hstp := stp_ok (u := u) ok hy' F2 .o
            unfold stp at hstp
            rw [hsu, hcv] at hstp
            rw [hcv]
            cases hn : nextS k y.1.1 .o with
            | none =>
              simp [↓ev_run, ↓ev_seq, ↓ev_if, ↓ev_b, ↓ev_op, ↓ev_un, ↓ev_var, ↓ev_own, ↓ev_c, ↓ev_rets, ↓ev_next, ↓ev_cnt, ↓ev_andV, ↓ev_orV, ↓ev_notV, ↓ev_and, ↓ev_or, ↓ev_not, ↓ev_ite, ↓ev_nil, ↓ev_cons, ↓ev_tup, ↓ev_lst, ↓ev_call, ↓ev_fn, ↓ev_it, ↓ev_itA, ↓ev_for, ↓ev_fld, ↓ev_set, ↓ev_setO, ↓ev_app, ↓ev_asg, ↓ev_bm, asStr, ↓ev_lc, ↓ev_yes, ↓ev_dk0, ↓ev_dn1, ↓ev_dn, ↓ev_dk, ↓ev_frz, ↓ev_thn, ↓ev_par, ↓ev_chain, fldD, ↓tn_some, tn_ite, aft_nx, aft_rt, aft_ct, slotV_val, slotO_own, runO, asB, gEq_int, gEq_str, gNe_int, gNe_str, gCmp, gSub, gAdd_int, gTp, gCn, gNl, gNm, gEq_dS, gNe_dS, dLk, e_f, e_e, e_U, e_u, e_D, e_d, e_i, e_o, e_w, ix_kd0, ix_kd1, ix_dSt0, hnx, hn, oD, notN_non, h2]
              exact ⟨_, .inl rfl, F2, _, _, _, rfl⟩
            | some s =>
              rw [hn] at hstp hnx
              have hnx : ∀ p, m__law_m_next [lLk k, dSt y.1.1, dS .o] p = some (dSt s, p) := hnx
              have hstp : ResE (Fr k u (n + 1)) (Hit k u (n + 1)) (if goal (s, y.1.2 + 1) then .error (y.2 ++ [.o]) else if (s, y.1.2 + 1) ∈ st2.1 then .ok st2 else .ok (st2.1 ++ [(s, y.1.2 + 1)], st2.2 ++ [((s, y.1.2 + 1), y.2 ++ [.o])])) := hstp
              show SimB _ p _ (mapE lenD (if goal (s, y.1.2 + 1) then .error (y.2 ++ [.o]) else if (s, y.1.2 + 1) ∈ st2.1 then .ok st2 else .ok (st2.1 ++ [(s, y.1.2 + 1)], st2.2 ++ [((s, y.1.2 + 1), y.2 ++ [.o])])))
              have hk := gNotIn_kd (s, y.1.2 + 1) st2.1
              simp only [kd] at hk
              by_cases hg : goal (s, y.1.2 + 1)
              · have hg1 : s.g = 0 := hg.1
                have hg2 : y.1.2 + 1 = (2 : Int) := hg.2
                have hc2 : y.1.2 + 1 = 2 := by omega
                have hc3 : (y.1.2 + 1 = 2) = True := eq_true hc2
                simp [↓ev_run, ↓ev_seq, ↓ev_if, ↓ev_b, ↓ev_op, ↓ev_un, ↓ev_var, ↓ev_own, ↓ev_c, ↓ev_rets, ↓ev_next, ↓ev_cnt, ↓ev_andV, ↓ev_orV, ↓ev_notV, ↓ev_and, ↓ev_or, ↓ev_not, ↓ev_ite, ↓ev_nil, ↓ev_cons, ↓ev_tup, ↓ev_lst, ↓ev_call, ↓ev_fn, ↓ev_it, ↓ev_itA, ↓ev_for, ↓ev_fld, ↓ev_set, ↓ev_setO, ↓ev_app, ↓ev_asg, ↓ev_bm, asStr, ↓ev_lc, ↓ev_yes, ↓ev_dk0, ↓ev_dn1, ↓ev_dn, ↓ev_dk, ↓ev_frz, ↓ev_thn, ↓ev_par, ↓ev_chain, fldD, ↓tn_some, tn_ite, aft_nx, aft_rt, aft_ct, slotV_val, slotO_own, runO, asB, gEq_int, gEq_str, gNe_int, gNe_str, gCmp, gSub, gAdd_int, gTp, gCn, gNl, gNm, gEq_dS, gNe_dS, dLk, e_f, e_e, e_U, e_u, e_D, e_d, e_i, e_o, e_w, ix_kd0, ix_kd1, ix_dSt0, ix_p1, hnx, notN_dSt, hin, gInt_b, ioB, h2, hk, hg, hg1, hc3]
                show some (Out.rt (D.int ((n : Int) + 1)), p) = some (.rt (lenD (y.2 ++ [.o])), p)
                simp [lenD, hy'.2.1]
              · by_cases hm : (s, y.1.2 + 1) ∈ st2.1
                · skip
                  by_cases hc2 : y.1.2 + 1 = 2
                  · have hg1 : ¬ s.g = 0 := fun z => hg ⟨z, show y.1.2 + 1 = (2 : Int) by omega⟩
                    have hc3 : (y.1.2 + 1 = 2) = True := eq_true hc2
                    simp [↓ev_run, ↓ev_seq, ↓ev_if, ↓ev_b, ↓ev_op, ↓ev_un, ↓ev_var, ↓ev_own, ↓ev_c, ↓ev_rets, ↓ev_next, ↓ev_cnt, ↓ev_andV, ↓ev_orV, ↓ev_notV, ↓ev_and, ↓ev_or, ↓ev_not, ↓ev_ite, ↓ev_nil, ↓ev_cons, ↓ev_tup, ↓ev_lst, ↓ev_call, ↓ev_fn, ↓ev_it, ↓ev_itA, ↓ev_for, ↓ev_fld, ↓ev_set, ↓ev_setO, ↓ev_app, ↓ev_asg, ↓ev_bm, asStr, ↓ev_lc, ↓ev_yes, ↓ev_dk0, ↓ev_dn1, ↓ev_dn, ↓ev_dk, ↓ev_frz, ↓ev_thn, ↓ev_par, ↓ev_chain, fldD, ↓tn_some, tn_ite, aft_nx, aft_rt, aft_ct, slotV_val, slotO_own, runO, asB, gEq_int, gEq_str, gNe_int, gNe_str, gCmp, gSub, gAdd_int, gTp, gCn, gNl, gNm, gEq_dS, gNe_dS, dLk, e_f, e_e, e_U, e_u, e_D, e_d, e_i, e_o, e_w, ix_kd0, ix_kd1, ix_dSt0, ix_p1, hnx, notN_dSt, hin, gInt_b, ioB, h2, hk, hg, hm, hg1, hc3]
                    exact ⟨_, .inl rfl, F2, _, _, _, rfl⟩
                  · skip
                    simp [↓ev_run, ↓ev_seq, ↓ev_if, ↓ev_b, ↓ev_op, ↓ev_un, ↓ev_var, ↓ev_own, ↓ev_c, ↓ev_rets, ↓ev_next, ↓ev_cnt, ↓ev_andV, ↓ev_orV, ↓ev_notV, ↓ev_and, ↓ev_or, ↓ev_not, ↓ev_ite, ↓ev_nil, ↓ev_cons, ↓ev_tup, ↓ev_lst, ↓ev_call, ↓ev_fn, ↓ev_it, ↓ev_itA, ↓ev_for, ↓ev_fld, ↓ev_set, ↓ev_setO, ↓ev_app, ↓ev_asg, ↓ev_bm, asStr, ↓ev_lc, ↓ev_yes, ↓ev_dk0, ↓ev_dn1, ↓ev_dn, ↓ev_dk, ↓ev_frz, ↓ev_thn, ↓ev_par, ↓ev_chain, fldD, ↓tn_some, tn_ite, aft_nx, aft_rt, aft_ct, slotV_val, slotO_own, runO, asB, gEq_int, gEq_str, gNe_int, gNe_str, gCmp, gSub, gAdd_int, gTp, gCn, gNl, gNm, gEq_dS, gNe_dS, dLk, e_f, e_e, e_U, e_u, e_D, e_d, e_i, e_o, e_w, ix_kd0, ix_kd1, ix_dSt0, ix_p1, hnx, notN_dSt, hin, gInt_b, ioB, h2, hk, hg, hm, hc2]
                    exact ⟨_, .inl rfl, F2, _, _, _, rfl⟩
                · have hw := dnC_kd hm (show st2.1.length < 100000 by omega)
                  simp only [kd] at hw
                  have ha := appC_own (l := st2.2.map ltD) (x := .tup [dSt s, .int (y.1.2 + 1)]) (by rw [List.length_map]; omega)
                  simp only [hg, hm, if_false, ResE] at hstp
                  by_cases hc2 : y.1.2 + 1 = 2
                  · have hg1 : ¬ s.g = 0 := fun z => hg ⟨z, show y.1.2 + 1 = (2 : Int) by omega⟩
                    have hc3 : (y.1.2 + 1 = 2) = True := eq_true hc2
                    simp [↓ev_run, ↓ev_seq, ↓ev_if, ↓ev_b, ↓ev_op, ↓ev_un, ↓ev_var, ↓ev_own, ↓ev_c, ↓ev_rets, ↓ev_next, ↓ev_cnt, ↓ev_andV, ↓ev_orV, ↓ev_notV, ↓ev_and, ↓ev_or, ↓ev_not, ↓ev_ite, ↓ev_nil, ↓ev_cons, ↓ev_tup, ↓ev_lst, ↓ev_call, ↓ev_fn, ↓ev_it, ↓ev_itA, ↓ev_for, ↓ev_fld, ↓ev_set, ↓ev_setO, ↓ev_app, ↓ev_asg, ↓ev_bm, asStr, ↓ev_lc, ↓ev_yes, ↓ev_dk0, ↓ev_dn1, ↓ev_dn, ↓ev_dk, ↓ev_frz, ↓ev_thn, ↓ev_par, ↓ev_chain, fldD, ↓tn_some, tn_ite, aft_nx, aft_rt, aft_ct, slotV_val, slotO_own, runO, asB, gEq_int, gEq_str, gNe_int, gNe_str, gCmp, gSub, gAdd_int, gTp, gCn, gNl, gNm, gEq_dS, gNe_dS, dLk, e_f, e_e, e_U, e_u, e_D, e_d, e_i, e_o, e_w, ix_kd0, ix_kd1, ix_dSt0, ix_p1, hnx, notN_dSt, hin, gInt_b, ioB, h2, hk, hg, hm, hw, ha, hg1, hc3]
                    exact ⟨_, .inl rfl, hstp, _, _, _, by rw [show List.map ltD (st2.2 ++ [((s, y.1.2 + 1), y.2 ++ [.o])]) = st2.2.map ltD ++ [.tup [dSt s, .int (y.1.2 + 1)]] from List.map_append]⟩
                  · skip
                    simp [↓ev_run, ↓ev_seq, ↓ev_if, ↓ev_b, ↓ev_op, ↓ev_un, ↓ev_var, ↓ev_own, ↓ev_c, ↓ev_rets, ↓ev_next, ↓ev_cnt, ↓ev_andV, ↓ev_orV, ↓ev_notV, ↓ev_and, ↓ev_or, ↓ev_not, ↓ev_ite, ↓ev_nil, ↓ev_cons, ↓ev_tup, ↓ev_lst, ↓ev_call, ↓ev_fn, ↓ev_it, ↓ev_itA, ↓ev_for, ↓ev_fld, ↓ev_set, ↓ev_setO, ↓ev_app, ↓ev_asg, ↓ev_bm, asStr, ↓ev_lc, ↓ev_yes, ↓ev_dk0, ↓ev_dn1, ↓ev_dn, ↓ev_dk, ↓ev_frz, ↓ev_thn, ↓ev_par, ↓ev_chain, fldD, ↓tn_some, tn_ite, aft_nx, aft_rt, aft_ct, slotV_val, slotO_own, runO, asB, gEq_int, gEq_str, gNe_int, gNe_str, gCmp, gSub, gAdd_int, gTp, gCn, gNl, gNm, gEq_dS, gNe_dS, dLk, e_f, e_e, e_U, e_u, e_D, e_d, e_i, e_o, e_w, ix_kd0, ix_kd1, ix_dSt0, ix_p1, hnx, notN_dSt, hin, gInt_b, ioB, h2, hk, hg, hm, hw, ha, hc2]
                    exact ⟨_, .inl rfl, hstp, _, _, _, by rw [show List.map ltD (st2.2 ++ [((s, y.1.2 + 1), y.2 ++ [.o])]) = st2.2.map ltD ++ [.tup [dSt s, .int (y.1.2 + 1)]] from List.map_append]⟩
          · skip
            have hcv : y.1.2 + io l = y.1.2 := by cases l <;> first | exact (h0 rfl).elim | exact (h1 rfl).elim | exact Int.add_zero _
            have hb : (if ioB l = true then (1 : Int) else 0) = io l := ioI l
            have hnx : ∀ p, m__law_m_next [lLk k, dSt y.1.1, dS l] p = some (oD (nextS k y.1.1 l), p) := fun p => m_mnext0 ok hy'.1.st l p
            have hstp := stp_ok (u := u) ok hy' F2 l
            unfold stp at hstp
            rw [hsu, hcv] at hstp
            rw [hcv]
            cases hn : nextS k y.1.1 l with
            | none =>
              simp [↓ev_run, ↓ev_seq, ↓ev_if, ↓ev_b, ↓ev_op, ↓ev_un, ↓ev_var, ↓ev_own, ↓ev_c, ↓ev_rets, ↓ev_next, ↓ev_cnt, ↓ev_andV, ↓ev_orV, ↓ev_notV, ↓ev_and, ↓ev_or, ↓ev_not, ↓ev_ite, ↓ev_nil, ↓ev_cons, ↓ev_tup, ↓ev_lst, ↓ev_call, ↓ev_fn, ↓ev_it, ↓ev_itA, ↓ev_for, ↓ev_fld, ↓ev_set, ↓ev_setO, ↓ev_app, ↓ev_asg, ↓ev_bm, asStr, ↓ev_lc, ↓ev_yes, ↓ev_dk0, ↓ev_dn1, ↓ev_dn, ↓ev_dk, ↓ev_frz, ↓ev_thn, ↓ev_par, ↓ev_chain, fldD, ↓tn_some, tn_ite, aft_nx, aft_rt, aft_ct, slotV_val, slotO_own, runO, asB, gEq_int, gEq_str, gNe_int, gNe_str, gCmp, gSub, gAdd_int, gTp, gCn, gNl, gNm, gEq_dS, gNe_dS, dLk, e_f, e_e, e_U, e_u, e_D, e_d, e_i, e_o, e_w, ix_kd0, ix_kd1, ix_dSt0, hnx, hn, oD, notN_non, h0, h1]
              exact ⟨_, .inl rfl, F2, _, _, _, rfl⟩
            | some s =>
              rw [hn] at hstp hnx
              have hnx : ∀ p, m__law_m_next [lLk k, dSt y.1.1, dS l] p = some (dSt s, p) := hnx
              have hstp : ResE (Fr k u (n + 1)) (Hit k u (n + 1)) (if goal (s, y.1.2) then .error (y.2 ++ [l]) else if (s, y.1.2) ∈ st2.1 then .ok st2 else .ok (st2.1 ++ [(s, y.1.2)], st2.2 ++ [((s, y.1.2), y.2 ++ [l])])) := hstp
              show SimB _ p _ (mapE lenD (if goal (s, y.1.2) then .error (y.2 ++ [l]) else if (s, y.1.2) ∈ st2.1 then .ok st2 else .ok (st2.1 ++ [(s, y.1.2)], st2.2 ++ [((s, y.1.2), y.2 ++ [l])])))
              have hk := gNotIn_kd (s, y.1.2) st2.1
              simp only [kd] at hk
              by_cases hg : goal (s, y.1.2)
              · have hg1 : s.g = 0 := hg.1
                have hg2 : y.1.2 = (2 : Int) := hg.2
                have hb0 : ioB l = false := by cases l <;> first | exact (h0 rfl).elim | exact (h1 rfl).elim | rfl
                have hc2 : y.1.2 = 2 := by omega
                have hc3 : (y.1.2 = 2) = True := eq_true hc2
                simp [↓ev_run, ↓ev_seq, ↓ev_if, ↓ev_b, ↓ev_op, ↓ev_un, ↓ev_var, ↓ev_own, ↓ev_c, ↓ev_rets, ↓ev_next, ↓ev_cnt, ↓ev_andV, ↓ev_orV, ↓ev_notV, ↓ev_and, ↓ev_or, ↓ev_not, ↓ev_ite, ↓ev_nil, ↓ev_cons, ↓ev_tup, ↓ev_lst, ↓ev_call, ↓ev_fn, ↓ev_it, ↓ev_itA, ↓ev_for, ↓ev_fld, ↓ev_set, ↓ev_setO, ↓ev_app, ↓ev_asg, ↓ev_bm, asStr, ↓ev_lc, ↓ev_yes, ↓ev_dk0, ↓ev_dn1, ↓ev_dn, ↓ev_dk, ↓ev_frz, ↓ev_thn, ↓ev_par, ↓ev_chain, fldD, ↓tn_some, tn_ite, aft_nx, aft_rt, aft_ct, slotV_val, slotO_own, runO, asB, gEq_int, gEq_str, gNe_int, gNe_str, gCmp, gSub, gAdd_int, gTp, gCn, gNl, gNm, gEq_dS, gNe_dS, dLk, e_f, e_e, e_U, e_u, e_D, e_d, e_i, e_o, e_w, ix_kd0, ix_kd1, ix_dSt0, ix_p1, hnx, notN_dSt, hin, gInt_b, hb0, h0, h1, hk, hg, hg1, hc3]
                show some (Out.rt (D.int ((n : Int) + 1)), p) = some (.rt (lenD (y.2 ++ [l])), p)
                simp [lenD, hy'.2.1]
              · by_cases hm : (s, y.1.2) ∈ st2.1
                · skip
                  have hb0 : ioB l = false := by cases l <;> first | exact (h0 rfl).elim | exact (h1 rfl).elim | rfl
                  by_cases hc2 : y.1.2 = 2
                  · have hg1 : ¬ s.g = 0 := fun z => hg ⟨z, show y.1.2 = (2 : Int) by omega⟩
                    have hc3 : (y.1.2 = 2) = True := eq_true hc2
                    simp [↓ev_run, ↓ev_seq, ↓ev_if, ↓ev_b, ↓ev_op, ↓ev_un, ↓ev_var, ↓ev_own, ↓ev_c, ↓ev_rets, ↓ev_next, ↓ev_cnt, ↓ev_andV, ↓ev_orV, ↓ev_notV, ↓ev_and, ↓ev_or, ↓ev_not, ↓ev_ite, ↓ev_nil, ↓ev_cons, ↓ev_tup, ↓ev_lst, ↓ev_call, ↓ev_fn, ↓ev_it, ↓ev_itA, ↓ev_for, ↓ev_fld, ↓ev_set, ↓ev_setO, ↓ev_app, ↓ev_asg, ↓ev_bm, asStr, ↓ev_lc, ↓ev_yes, ↓ev_dk0, ↓ev_dn1, ↓ev_dn, ↓ev_dk, ↓ev_frz, ↓ev_thn, ↓ev_par, ↓ev_chain, fldD, ↓tn_some, tn_ite, aft_nx, aft_rt, aft_ct, slotV_val, slotO_own, runO, asB, gEq_int, gEq_str, gNe_int, gNe_str, gCmp, gSub, gAdd_int, gTp, gCn, gNl, gNm, gEq_dS, gNe_dS, dLk, e_f, e_e, e_U, e_u, e_D, e_d, e_i, e_o, e_w, ix_kd0, ix_kd1, ix_dSt0, ix_p1, hnx, notN_dSt, hin, gInt_b, hb0, h0, h1, hk, hg, hm, hg1, hc3]
                    exact ⟨_, .inl rfl, F2, _, _, _, rfl⟩
                  · skip
                    simp [↓ev_run, ↓ev_seq, ↓ev_if, ↓ev_b, ↓ev_op, ↓ev_un, ↓ev_var, ↓ev_own, ↓ev_c, ↓ev_rets, ↓ev_next, ↓ev_cnt, ↓ev_andV, ↓ev_orV, ↓ev_notV, ↓ev_and, ↓ev_or, ↓ev_not, ↓ev_ite, ↓ev_nil, ↓ev_cons, ↓ev_tup, ↓ev_lst, ↓ev_call, ↓ev_fn, ↓ev_it, ↓ev_itA, ↓ev_for, ↓ev_fld, ↓ev_set, ↓ev_setO, ↓ev_app, ↓ev_asg, ↓ev_bm, asStr, ↓ev_lc, ↓ev_yes, ↓ev_dk0, ↓ev_dn1, ↓ev_dn, ↓ev_dk, ↓ev_frz, ↓ev_thn, ↓ev_par, ↓ev_chain, fldD, ↓tn_some, tn_ite, aft_nx, aft_rt, aft_ct, slotV_val, slotO_own, runO, asB, gEq_int, gEq_str, gNe_int, gNe_str, gCmp, gSub, gAdd_int, gTp, gCn, gNl, gNm, gEq_dS, gNe_dS, dLk, e_f, e_e, e_U, e_u, e_D, e_d, e_i, e_o, e_w, ix_kd0, ix_kd1, ix_dSt0, ix_p1, hnx, notN_dSt, hin, gInt_b, hb0, h0, h1, hk, hg, hm, hc2]
                    exact ⟨_, .inl rfl, F2, _, _, _, rfl⟩
                · have hw := dnC_kd hm (show st2.1.length < 100000 by omega)
                  simp only [kd] at hw
                  have ha := appC_own (l := st2.2.map ltD) (x := .tup [dSt s, .int (y.1.2)]) (by rw [List.length_map]; omega)
                  simp only [hg, hm, if_false, ResE] at hstp
                  have hb0 : ioB l = false := by cases l <;> first | exact (h0 rfl).elim | exact (h1 rfl).elim | rfl
                  by_cases hc2 : y.1.2 = 2
                  · have hg1 : ¬ s.g = 0 := fun z => hg ⟨z, show y.1.2 = (2 : Int) by omega⟩
                    have hc3 : (y.1.2 = 2) = True := eq_true hc2
                    simp [↓ev_run, ↓ev_seq, ↓ev_if, ↓ev_b, ↓ev_op, ↓ev_un, ↓ev_var, ↓ev_own, ↓ev_c, ↓ev_rets, ↓ev_next, ↓ev_cnt, ↓ev_andV, ↓ev_orV, ↓ev_notV, ↓ev_and, ↓ev_or, ↓ev_not, ↓ev_ite, ↓ev_nil, ↓ev_cons, ↓ev_tup, ↓ev_lst, ↓ev_call, ↓ev_fn, ↓ev_it, ↓ev_itA, ↓ev_for, ↓ev_fld, ↓ev_set, ↓ev_setO, ↓ev_app, ↓ev_asg, ↓ev_bm, asStr, ↓ev_lc, ↓ev_yes, ↓ev_dk0, ↓ev_dn1, ↓ev_dn, ↓ev_dk, ↓ev_frz, ↓ev_thn, ↓ev_par, ↓ev_chain, fldD, ↓tn_some, tn_ite, aft_nx, aft_rt, aft_ct, slotV_val, slotO_own, runO, asB, gEq_int, gEq_str, gNe_int, gNe_str, gCmp, gSub, gAdd_int, gTp, gCn, gNl, gNm, gEq_dS, gNe_dS, dLk, e_f, e_e, e_U, e_u, e_D, e_d, e_i, e_o, e_w, ix_kd0, ix_kd1, ix_dSt0, ix_p1, hnx, notN_dSt, hin, gInt_b, hb0, h0, h1, hk, hg, hm, hw, ha, hg1, hc3]
                    exact ⟨_, .inl rfl, hstp, _, _, _, by rw [show List.map ltD (st2.2 ++ [((s, y.1.2), y.2 ++ [l])]) = st2.2.map ltD ++ [.tup [dSt s, .int (y.1.2)]] from List.map_append]⟩
                  · skip
                    simp [↓ev_run, ↓ev_seq, ↓ev_if, ↓ev_b, ↓ev_op, ↓ev_un, ↓ev_var, ↓ev_own, ↓ev_c, ↓ev_rets, ↓ev_next, ↓ev_cnt, ↓ev_andV, ↓ev_orV, ↓ev_notV, ↓ev_and, ↓ev_or, ↓ev_not, ↓ev_ite, ↓ev_nil, ↓ev_cons, ↓ev_tup, ↓ev_lst, ↓ev_call, ↓ev_fn, ↓ev_it, ↓ev_itA, ↓ev_for, ↓ev_fld, ↓ev_set, ↓ev_setO, ↓ev_app, ↓ev_asg, ↓ev_bm, asStr, ↓ev_lc, ↓ev_yes, ↓ev_dk0, ↓ev_dn1, ↓ev_dn, ↓ev_dk, ↓ev_frz, ↓ev_thn, ↓ev_par, ↓ev_chain, fldD, ↓tn_some, tn_ite, aft_nx, aft_rt, aft_ct, slotV_val, slotO_own, runO, asB, gEq_int, gEq_str, gNe_int, gNe_str, gCmp, gSub, gAdd_int, gTp, gCn, gNl, gNm, gEq_dS, gNe_dS, dLk, e_f, e_e, e_U, e_u, e_D, e_d, e_i, e_o, e_w, ix_kd0, ix_kd1, ix_dSt0, ix_p1, hnx, notN_dSt, hin, gInt_b, hb0, h0, h1, hk, hg, hm, hw, ha, hc2]
                    exact ⟨_, .inl rfl, hstp, _, _, _, by rw [show List.map ltD (st2.2 ++ [((s, y.1.2), y.2 ++ [l])]) = st2.2.map ltD ++ [.tup [dSt s, .int (y.1.2)]] from List.map_append]⟩
        · have hsn : succ k u y.1 l = none := by rw [hsu, if_neg hcd]
          unfold stp
          rw [hsn]
          have hcase : (l = .i ∧ ¬ y.1.2 = 0) ∨ (l = .i ∧ ¬ y.1.1.g = en u) ∨ (l = .o ∧ ¬ y.1.1.g = 3 - en u) := by
            cases l <;> simp [cond] at hcd <;> simp [hcd]
            by_cases h : y.1.2 = 0
            · exact .inr (hcd h)
            · exact .inl h
          rcases hcase with ⟨h0, h2⟩ | ⟨h0, h2⟩ | ⟨h0, h2⟩
          · subst h0
            simp [↓ev_run, ↓ev_seq, ↓ev_if, ↓ev_b, ↓ev_op, ↓ev_un, ↓ev_var, ↓ev_own, ↓ev_c, ↓ev_rets, ↓ev_next, ↓ev_cnt, ↓ev_andV, ↓ev_orV, ↓ev_notV, ↓ev_and, ↓ev_or, ↓ev_not, ↓ev_ite, ↓ev_nil, ↓ev_cons, ↓ev_tup, ↓ev_lst, ↓ev_call, ↓ev_fn, ↓ev_it, ↓ev_itA, ↓ev_for, ↓ev_fld, ↓ev_set, ↓ev_setO, ↓ev_app, ↓ev_asg, ↓ev_bm, asStr, ↓ev_lc, ↓ev_yes, ↓ev_dk0, ↓ev_dn1, ↓ev_dn, ↓ev_dk, ↓ev_frz, ↓ev_thn, ↓ev_par, ↓ev_chain, fldD, ↓tn_some, tn_ite, aft_nx, aft_rt, aft_ct, slotV_val, slotO_own, runO, asB, gEq_int, gEq_str, gNe_int, gNe_str, gCmp, gSub, gAdd_int, gTp, gCn, gNl, gNm, gEq_dS, gNe_dS, dLk, e_f, e_e, e_U, e_u, e_D, e_d, e_i, e_o, e_w, ix_kd0, ix_kd1, ix_dSt0, notN_non, h2]
            exact ⟨_, .inl rfl, F2, _, _, _, rfl⟩
          · subst h0
            by_cases h1 : y.1.2 = 0
            · simp [↓ev_run, ↓ev_seq, ↓ev_if, ↓ev_b, ↓ev_op, ↓ev_un, ↓ev_var, ↓ev_own, ↓ev_c, ↓ev_rets, ↓ev_next, ↓ev_cnt, ↓ev_andV, ↓ev_orV, ↓ev_notV, ↓ev_and, ↓ev_or, ↓ev_not, ↓ev_ite, ↓ev_nil, ↓ev_cons, ↓ev_tup, ↓ev_lst, ↓ev_call, ↓ev_fn, ↓ev_it, ↓ev_itA, ↓ev_for, ↓ev_fld, ↓ev_set, ↓ev_setO, ↓ev_app, ↓ev_asg, ↓ev_bm, asStr, ↓ev_lc, ↓ev_yes, ↓ev_dk0, ↓ev_dn1, ↓ev_dn, ↓ev_dk, ↓ev_frz, ↓ev_thn, ↓ev_par, ↓ev_chain, fldD, ↓tn_some, tn_ite, aft_nx, aft_rt, aft_ct, slotV_val, slotO_own, runO, asB, gEq_int, gEq_str, gNe_int, gNe_str, gCmp, gSub, gAdd_int, gTp, gCn, gNl, gNm, gEq_dS, gNe_dS, dLk, e_f, e_e, e_U, e_u, e_D, e_d, e_i, e_o, e_w, ix_kd0, ix_kd1, ix_dSt0, notN_non, h1, h2]
              exact ⟨_, .inl rfl, F2, _, _, _, rfl⟩
            · simp [↓ev_run, ↓ev_seq, ↓ev_if, ↓ev_b, ↓ev_op, ↓ev_un, ↓ev_var, ↓ev_own, ↓ev_c, ↓ev_rets, ↓ev_next, ↓ev_cnt, ↓ev_andV, ↓ev_orV, ↓ev_notV, ↓ev_and, ↓ev_or, ↓ev_not, ↓ev_ite, ↓ev_nil, ↓ev_cons, ↓ev_tup, ↓ev_lst, ↓ev_call, ↓ev_fn, ↓ev_it, ↓ev_itA, ↓ev_for, ↓ev_fld, ↓ev_set, ↓ev_setO, ↓ev_app, ↓ev_asg, ↓ev_bm, asStr, ↓ev_lc, ↓ev_yes, ↓ev_dk0, ↓ev_dn1, ↓ev_dn, ↓ev_dk, ↓ev_frz, ↓ev_thn, ↓ev_par, ↓ev_chain, fldD, ↓tn_some, tn_ite, aft_nx, aft_rt, aft_ct, slotV_val, slotO_own, runO, asB, gEq_int, gEq_str, gNe_int, gNe_str, gCmp, gSub, gAdd_int, gTp, gCn, gNl, gNm, gEq_dS, gNe_dS, dLk, e_f, e_e, e_U, e_u, e_D, e_d, e_i, e_o, e_w, ix_kd0, ix_kd1, ix_dSt0, notN_non, h1]
              exact ⟨_, .inl rfl, F2, _, _, _, rfl⟩
          · subst h0
            simp [↓ev_run, ↓ev_seq, ↓ev_if, ↓ev_b, ↓ev_op, ↓ev_un, ↓ev_var, ↓ev_own, ↓ev_c, ↓ev_rets, ↓ev_next, ↓ev_cnt, ↓ev_andV, ↓ev_orV, ↓ev_notV, ↓ev_and, ↓ev_or, ↓ev_not, ↓ev_ite, ↓ev_nil, ↓ev_cons, ↓ev_tup, ↓ev_lst, ↓ev_call, ↓ev_fn, ↓ev_it, ↓ev_itA, ↓ev_for, ↓ev_fld, ↓ev_set, ↓ev_setO, ↓ev_app, ↓ev_asg, ↓ev_bm, asStr, ↓ev_lc, ↓ev_yes, ↓ev_dk0, ↓ev_dn1, ↓ev_dn, ↓ev_dk, ↓ev_frz, ↓ev_thn, ↓ev_par, ↓ev_chain, fldD, ↓tn_some, tn_ite, aft_nx, aft_rt, aft_ct, slotV_val, slotO_own, runO, asB, gEq_int, gEq_str, gNe_int, gNe_str, gCmp, gSub, gAdd_int, gTp, gCn, gNl, gNm, gEq_dS, gNe_dS, dLk, e_f, e_e, e_U, e_u, e_D, e_d, e_i, e_o, e_w, ix_kd0, ix_kd1, ix_dSt0, notN_non, h2]
            exact ⟨_, .inl rfl, F2, _, _, _, rfl⟩
      · intro st ρ ⟨F, x9, x10, x11, e⟩
        exact ⟨F, _, _, _, _, _, e⟩
    · intro st' ρ ⟨F', x7, x8, x9, x10, x11, e⟩
      subst e
      exact ⟨_, rfl, F', _, _, _, _, _, _, _, rfl⟩
  · rw [foldE_map, foldE_len (rnd k u) _ (List.range (2 * k.L + 6).toNat) _ (by rw [len_upI, List.length_range])]
    show AftL _ _ _ _ (mapE _ (bfs k u _))
    cases bfs k u (2 * k.L + 6).toNat with
    | error r => exact rfl
    | ok st =>
      rintro ρ2 ⟨F, x5, x6, x7, x8, x9, x10, x11, e⟩
      subst e
      simp [↓ev_run, ↓ev_seq, ↓ev_if, ↓ev_b, ↓ev_op, ↓ev_un, ↓ev_var, ↓ev_own, ↓ev_c, ↓ev_rets, ↓ev_next, ↓ev_cnt, ↓ev_andV, ↓ev_orV, ↓ev_notV, ↓ev_and, ↓ev_or, ↓ev_not, ↓ev_ite, ↓ev_nil, ↓ev_cons, ↓ev_tup, ↓ev_lst, ↓ev_call, ↓ev_fn, ↓ev_it, ↓ev_itA, ↓ev_for, ↓ev_fld, ↓ev_set, ↓ev_setO, ↓ev_app, ↓ev_asg, ↓ev_bm, asStr, ↓ev_lc, ↓ev_yes, ↓ev_dk0, ↓ev_dn1, ↓ev_dn, ↓ev_dk, ↓ev_frz, ↓ev_thn, ↓ev_par, ↓ev_chain, fldD, ↓tn_some, tn_ite, aft_nx, aft_rt, aft_ct, slotV_val, slotO_own, runO, asB, gEq_int, gEq_str, gNe_int, gNe_str, gCmp, gSub, gAdd_int, gTp, gCn, gNl, gNm]
end Hd

namespace Hd
open PySem PySem.Spec Dl
/-! ### the plain row ends as it should -/
theorem e_run {k : Lk} (ok : k.Ok) (u : Bool) : ∀ (n : Nat) (y : Ky), y.1.g = 0 → StOk k y.1 → ∃ y' : Ky, tr k u y (List.replicate n .e) = some y' ∧ y'.1.g = 0 ∧ y'.1.i = y.1.i ∧ y'.2 = y.2 ∧ StOk k y'.1 ∧ (y'.1.b ≤ 0 ∨ y'.1.b ≤ y.1.b - n)
  | 0, y, h, so => ⟨y, rfl, h, rfl, rfl, so, .inr (by simp)⟩
  | n + 1, y, h, so => by
    have e : nextS k y.1 .e = some ⟨0, y.1.i, mx0 (mv k y.1.a .e k.eh - k.lk), mv k y.1.b .e k.el⟩ := by
      simp [nextS, allowed, h, gAf, iAf, am, lkA]
    have so' := next_ok ok so e
    obtain ⟨y', h1, h2, h3, h4, h5, h6⟩ := e_run ok u n (⟨0, y.1.i, mx0 (mv k y.1.a .e k.eh - k.lk), mv k y.1.b .e k.el⟩, y.2) rfl so'
    have e1 := ok.e1
    refine ⟨y', ?_, h2, h3, h4, h5, ?_⟩
    · rw [List.replicate_succ, tr]
      unfold succ
      rw [e]
      exact h1
    · have : mv k y.1.b .e k.el ≤ 0 ∨ mv k y.1.b .e k.el ≤ y.1.b - 1 := by
        simp only [mv]
        split <;> omega
      simp only at h6
      omega
theorem f_run {k : Lk} (ok : k.Ok) (u : Bool) : ∀ (n : Nat) (y : Ky), y.1.g = 0 → StOk k y.1 → ∃ y' : Ky, tr k u y (List.replicate n .f) = some y' ∧ y'.1.g = 0 ∧ y'.1.i = y.1.i ∧ y'.2 = y.2 ∧ StOk k y'.1 ∧ (k.L - k.lk ≤ y'.1.a ∨ y.1.a + n ≤ y'.1.a)
  | 0, y, h, so => ⟨y, rfl, h, rfl, rfl, so, .inr (by simp)⟩
  | n + 1, y, h, so => by
    have e : nextS k y.1 .f = some ⟨0, y.1.i, mx0 (mv k y.1.a .f k.fl - k.lk), mv k y.1.b .f k.fh⟩ := by
      simp [nextS, allowed, h, gAf, iAf, am, lkA]
    have so' := next_ok ok so e
    obtain ⟨y', h1, h2, h3, h4, h5, h6⟩ := f_run ok u n (⟨0, y.1.i, mx0 (mv k y.1.a .f k.fl - k.lk), mv k y.1.b .f k.fh⟩, y.2) rfl so'
    have e1 := ok.kf
    have e2 := so.a0
    have e3 := so.ab
    have e4 := so.bL
    have e5 := ok.k0
    refine ⟨y', ?_, h2, h3, h4, h5, ?_⟩
    · rw [List.replicate_succ, tr]
      unfold succ
      rw [e]
      exact h1
    · have : k.L - k.lk ≤ mx0 (mv k y.1.a .f k.fl - k.lk) ∨ y.1.a + 1 ≤ mx0 (mv k y.1.a .f k.fl - k.lk) := by
        simp only [mv, mx0]
        split <;> split <;> omega
      simp only at h6
      rcases h6 with h6 | h6
      · exact .inl h6
      · rcases this with h7 | h7
        · left; omega
        · right; omega
theorem D_run {k : Lk} (ok : k.Ok) (u : Bool) {y : Ky} (hg : y.1.g = 0) (so : StOk k y.1) (hb : y.1.b ≤ 0) (l : Lt) (c : Int) (h : (l = .i ∧ y.1.i = 0 ∧ y.2 = 0 ∧ u = true ∧ c = 1) ∨ (l = .o ∧ y.1.i = 1 ∧ y.2 = 1 ∧ u = false ∧ c = 2)) :
    ∃ y' : Ky, tr k u y [.D, l, .d] = some y' ∧ y'.1.g = 0 ∧ y'.1.i = 1 - y.1.i ∧ y'.2 = c ∧ StOk k y'.1 := by
  have a0 := so.a0
  have ab := so.ab
  have s0 : 0 ≤ k.sl := by have := ok.k0; have := ok.s1; omega
  have k0 := ok.k0
  have L1 := ok.L1
  have h1 : y.1.a ≤ k.sl := by omega
  have h2 : y.1.b ≤ k.sl := by omega
  have h3 : ¬ k.lk < 0 := by omega
  obtain ⟨⟨g, i, a, b⟩, c0⟩ := y
  simp only at *
  subst hg
  rcases h with ⟨rfl, rfl, rfl, rfl, rfl⟩ | ⟨rfl, rfl, rfl, rfl, rfl⟩
  · refine ⟨(⟨0, 1, 0, 0⟩, 1), ?_, rfl, rfl, rfl, ⟨?_, ?_, ?_, ?_, ?_, ?_, ?_⟩⟩ <;> first | (simp [tr, succ, nextS, allowed, h1, h2, gAf, iAf, mv, lkA, mx0, am, shA, en]; try omega) | omega
  · refine ⟨(⟨0, 0, 0, 0⟩, 2), ?_, rfl, rfl, rfl, ⟨?_, ?_, ?_, ?_, ?_, ?_, ?_⟩⟩ <;> first | (simp [tr, succ, nextS, allowed, h1, h2, gAf, iAf, mv, lkA, mx0, am, shA, en]; try omega) | omega
theorem U_run {k : Lk} (ok : k.Ok) (u : Bool) {y : Ky} (hg : y.1.g = 0) (so : StOk k y.1) (ha : k.L - k.lk ≤ y.1.a) (l : Lt) (c : Int) (h : (l = .i ∧ y.1.i = 0 ∧ y.2 = 0 ∧ u = false ∧ c = 1) ∨ (l = .o ∧ y.1.i = 1 ∧ y.2 = 1 ∧ u = true ∧ c = 2)) :
    ∃ y' : Ky, tr k u y [.U, l, .u] = some y' ∧ y'.1.g = 0 ∧ y'.1.i = 1 - y.1.i ∧ y'.2 = c ∧ StOk k y'.1 := by
  have a0 := so.a0
  have ab := so.ab
  have s1 := ok.s1
  have k0 := ok.k0
  have k1 := ok.k1
  have L1 := ok.L1
  have h1 : k.L - k.sl ≤ y.1.a := by omega
  have h2 : k.L - k.sl ≤ y.1.b := by omega
  have h3 : 0 < k.L := by omega
  obtain ⟨⟨g, i, a, b⟩, c0⟩ := y
  simp only at *
  subst hg
  rcases h with ⟨rfl, rfl, rfl, rfl, rfl⟩ | ⟨rfl, rfl, rfl, rfl, rfl⟩
  · refine ⟨(⟨0, 1, mx0 (k.L - k.lk), k.L⟩, 1), ?_, rfl, rfl, rfl, ⟨?_, ?_, ?_, ?_, ?_, ?_, ?_⟩⟩ <;> first | (simp [tr, succ, nextS, allowed, h1, h2, h3, gAf, iAf, mv, lkA, mx0, am, shA, en]; done) | (simp [mx0]; omega) | omega
  · refine ⟨(⟨0, 0, mx0 (k.L - k.lk), k.L⟩, 2), ?_, rfl, rfl, rfl, ⟨?_, ?_, ?_, ?_, ?_, ?_, ?_⟩⟩ <;> first | (simp [tr, succ, nextS, allowed, h1, h2, h3, gAf, iAf, mv, lkA, mx0, am, shA, en]; done) | (simp [mx0]; omega) | omega
theorem plain_hit {k : Lk} (ok : k.Ok) (u : Bool) : Hit k u (2 * k.L + 6).toNat (plain k u) := by
  have L1 := ok.L1
  refine ⟨by rw [plain_len]; omega, ?_⟩
  have hy0 := (y0_ok ok).st
  cases u with
  | true =>
    obtain ⟨y1, e1, g1, i1, c1, so1, b1⟩ := e_run ok true k.L.toNat (y0 k) rfl hy0
    have hb : y1.1.b ≤ 0 := by simp only [y0, st0] at b1; omega
    obtain ⟨y2, e2, g2, i2, c2, so2⟩ := D_run ok true g1 so1 hb .i 1 (.inl ⟨rfl, by rw [i1]; rfl, by rw [c1]; rfl, rfl, rfl⟩)
    obtain ⟨y3, e3, g3, i3, c3, so3, a3⟩ := f_run ok true k.L.toNat y2 g2 so2
    have ha : k.L - k.lk ≤ y3.1.a := by have := so2.a0; have := ok.k0; omega
    obtain ⟨y4, e4, g4, i4, c4, so4⟩ := U_run ok true g3 so3 ha .o 2 (.inr ⟨rfl, by rw [i3, i2, i1]; rfl, by rw [c3, c2], rfl, rfl⟩)
    refine ⟨y4, ?_, g4, c4⟩
    show tr k true (y0 k) (((List.replicate k.L.toNat .e ++ [.D, .i, .d]) ++ List.replicate k.L.toNat .f) ++ [.U, .o, .u]) = _
    rw [tr_append, tr_append, tr_append, e1]
    show Option.bind (Option.bind (tr k true y1 [.D, .i, .d]) _) _ = _
    rw [e2]
    show Option.bind (tr k true y2 _) _ = _
    rw [e3]
    exact e4
  | false =>
    obtain ⟨y1, e1, g1, i1, c1, so1, b1⟩ := f_run ok false k.L.toNat (y0 k) rfl hy0
    have hb : k.L - k.lk ≤ y1.1.a := by simp only [y0, st0] at b1; have := ok.k0; omega
    obtain ⟨y2, e2, g2, i2, c2, so2⟩ := U_run ok false g1 so1 hb .i 1 (.inl ⟨rfl, by rw [i1]; rfl, by rw [c1]; rfl, rfl, rfl⟩)
    obtain ⟨y3, e3, g3, i3, c3, so3, a3⟩ := e_run ok false k.L.toNat y2 g2 so2
    have ha : y3.1.b ≤ 0 := by have := so2.bL; omega
    obtain ⟨y4, e4, g4, i4, c4, so4⟩ := D_run ok false g3 so3 ha .o 2 (.inr ⟨rfl, by rw [i3, i2, i1]; rfl, by rw [c3, c2], rfl, rfl⟩)
    refine ⟨y4, ?_, g4, c4⟩
    show tr k false (y0 k) (((List.replicate k.L.toNat .f ++ [.U, .i, .u]) ++ List.replicate k.L.toNat .e) ++ [.D, .o, .d]) = _
    rw [tr_append, tr_append, tr_append, e1]
    show Option.bind (Option.bind (tr k false y1 [.U, .i, .u]) _) _ = _
    rw [e2]
    show Option.bind (tr k false y2 _) _ = _
    rw [e3]
    exact e4
/-- what the two searches give -/
theorem both {k : Lk} (ok : k.Ok) (u : Bool) : ∃ r : List Lt, Hit k u r.length r ∧ (r.length : Int) ≤ 2 * k.L + 6 ∧ (r.length : Int) ≠ 0 ∧
    (∀ p, m_shortest_whole [dLk k, wD u] p = some (.str (rs r), p)) ∧ ∀ p, m__law_least [lLk k, wD u] p = some (.int r.length, p) := by
  have L1 := ok.L1
  have ne : ∀ {n r}, Hit k u n r → (r.length : Int) ≠ 0 := fun {n r} h z => by
    have : r = [] := List.length_eq_zero_iff.mp (by omega)
    subst this
    obtain ⟨_, y, e, g⟩ := h
    cases e
    simp [goal, y0] at g
  have e6 : (2 * k.L + 6).toNat = (2 * k.L + 5).toNat + 1 := by omega
  have h5 := bfs_ok ok u (2 * k.L + 5).toNat
  have h6 := bfs_ok ok u (2 * k.L + 6).toNat
  have hs := m_shortest ok u
  have hl := m_least ok u
  rw [e6, bfs_succ] at hl h6
  cases e : bfs k u (2 * k.L + 5).toNat with
  | error r =>
    rw [e] at h5 hs hl
    exact ⟨r, h5.2, by have := h5.1; omega, ne h5.2, hs, hl⟩
  | ok s =>
    rw [e] at h5 hs hl h6
    have hs : ∀ p, m_shortest_whole [dLk k, wD u] p = some (.str (rs (plain k u)), p) := hs
    have h6 : ResE _ _ (rnd k u s) := h6
    have ph := plain_hit ok u
    have pl : (plain k u).length = (2 * k.L + 5).toNat + 1 := by rw [ph.1]; omega
    have ph' : Hit k u (plain k u).length (plain k u) := ⟨rfl, ph.2⟩
    refine ⟨plain k u, ph', by omega, ne ph, hs, fun p => ?_⟩
    rw [hl]
    show some (D.int (match rnd k u s with | .ok _ => 0 | .error r => (r.length : Int)), p) = _
    have hr := rnd_ok ok h5.1
    cases er : rnd k u s with
    | ok s' =>
      rw [er] at h6
      obtain ⟨_, y, ey, gy⟩ := ph
      exact ((h6.2.all _ y (by omega) ey).2 gy).elim
    | error r =>
      rw [er] at hr
      show some (D.int (r.length : Int), p) = _
      rw [hr.1, pl]
end Hd

namespace Hd
open PySem PySem.Spec Dl
/-! ### walking a row that steps -/
theorem loop_path {k : Lk} {u : Bool} {t : FG} {s : FS} {p : Option Pool} (f : Lt → D) (R : Ky → Rho → Prop) (h : ∀ y z l ρ, succ k u y l = some z → R y ρ → ∃ ρ1, t (f l) ρ = some ρ1 ∧ ∃ ρ2, s ρ1 p = some (.nx ρ2, p) ∧ R z ρ2) :
    ∀ (r : List Lt) (y z : Ky) (ρ : Rho), tr k u y r = some z → R y ρ → ∃ ρ2, loopD t s (r.map f) ρ p = some (.nx ρ2, p) ∧ R z ρ2
  | [], y, z, ρ, e, r => by cases e; exact ⟨ρ, rfl, r⟩
  | l :: ls, y, z, ρ, e, r => by
    obtain ⟨x, e1, e2⟩ := Option.bind_eq_some_iff.mp e
    obtain ⟨ρ1, h1, ρ2, h2, h3⟩ := h y x l ρ e1 r
    obtain ⟨ρ3, h4, h5⟩ := loop_path f R h ls x z ρ2 e2 h3
    refine ⟨ρ3, ?_, h5⟩
    rw [List.map_cons, loop_cons h1, h2]
    exact h4
theorem tn_path {k : Lk} {u : Bool} {t : FG} {s : FS} {p : Option Pool} {β : Type} {kk : Out → Option Pool → Option (β × Option Pool)} {w : Option (β × Option Pool)} (f : Lt → D) (R : Ky → Rho → Prop) (h : ∀ y z l ρ, succ k u y l = some z → R y ρ → ∃ ρ1, t (f l) ρ = some ρ1 ∧ ∃ ρ2, s ρ1 p = some (.nx ρ2, p) ∧ R z ρ2)
    (r : List Lt) (y z : Ky) (ρ : Rho) (e : tr k u y r = some z) (hr : R y ρ) (hk : ∀ ρ2, R z ρ2 → kk (.nx ρ2) p = w) : tn (loopD t s (r.map f) ρ p) kk = w := by
  obtain ⟨ρ2, e2, r2⟩ := loop_path f R h r y z ρ e hr
  rw [e2]
  exact hk ρ2 r2
theorem chs_rs (r : List Lt) : chs (rs r) = r.map dS := by
  show ((r.map lc).toArray.toList).map _ = _
  rw [List.map_map]
  rfl
theorem succ_st {k : Lk} {u : Bool} {y z : Ky} {l : Lt} (e : succ k u y l = some z) : nextS k y.1 l = some z.1 ∧ shA u y.2 y.1.g l = some z.2 := by
  unfold succ at e
  split at e
  · rename_i s c e1 e2
    cases e
    exact ⟨e1, e2⟩
  · cases e
/-! ### the law's check of a row -/
def sides (u : Bool) (c : Int) : List D := if c = 0 then [] else if c = 1 then [.tup [dS .i, .int (en u)]] else [.tup [dS .i, .int (en u)], .tup [dS .o, .int (3 - en u)]]
theorem notin_l (l : Lt) : gNotInS (dS l) (.str "feUuDdiow") = some (.bl false) := by cases l <;> rfl
theorem gEq_sides (u : Bool) : gEqD (.lst (sides u 2)) (.lst [.tup [.str "i", .int (en u)], .tup [.str "o", .int (3 - en u)]]) = some (.bl true) := by
  cases u
  · show (if SeqAt.shaped (PyData.list [.tuple [.str (ls .i), .int 1], .tuple [.str (ls .o), .int 2]]) = true ∧ SeqAt.shaped (PyData.list [.tuple [.str "i", .int 1], .tuple [.str "o", .int 2]]) = true then some (D.bl (PyData.eqv (.list [.tuple [.str (ls .i), .int 1], .tuple [.str (ls .o), .int 2]]) (.list [.tuple [.str "i", .int 1], .tuple [.str "o", .int 2]]))) else none) = _
    rw [if_pos (by decide +kernel)]
    congr 2
  · show (if SeqAt.shaped (PyData.list [.tuple [.str (ls .i), .int 2], .tuple [.str (ls .o), .int 1]]) = true ∧ SeqAt.shaped (PyData.list [.tuple [.str "i", .int 2], .tuple [.str "o", .int 1]]) = true then some (D.bl (PyData.eqv (.list [.tuple [.str (ls .i), .int 2], .tuple [.str (ls .o), .int 1]]) (.list [.tuple [.str "i", .int 2], .tuple [.str "o", .int 1]]))) else none) = _
    rw [if_pos (by decide +kernel)]
    congr 2
def WR (k : Lk) (u : Bool) (r : List Lt) (y : Ky) (ρ : Rho) : Prop := KOk k y ∧ ∃ cs x5, cs ≠ [] ∧ (∀ c ∈ cs, y.1.a ≤ c ∧ c ≤ y.1.b) ∧ ρ = [some (.val (lLk k)), some (.val (.str (rs r))), some (.val (wD u)), some (.val (dPl y.1 cs)), some (.own (.lst (sides u y.2))), x5, none, none]
theorem isN_dPl (s : St) (cs) : gIsN (dPl s cs) .non = some (.bl false) := rfl
theorem m_whole {k : Lk} (ok : k.Ok) {u : Bool} {n : Nat} {r : List Lt} (h : Hit k u n r) (p) : m__law_is_whole [lLk k, .str (rs r), wD u] p = some (.bl true, p) := by
  have L1 := ok.L1
  have L6 := ok.L6
  obtain ⟨_, z, hz, hg1, hg2⟩ := h
  have e2 : -4611686018427387904 ≤ k.L + 1 ∧ k.L + 1 < 4611686018427387904 := by omega
  have e4 : (1 : Int) + (if u = true then 1 else 0) = en u := by cases u <;> rfl
  have elc : ∀ ρ : Rho, 7 < ρ.length → lcD 7 dYes (dVar 7) ρ (Dl.upTo 0 (k.L + 1).toNat) [] p = some (.lst ((upI 0 (k.L + 1).toNat).map .int), p) := fun ρ hρ => by
    rw [lc_id hρ _ (by rw [len_upTo]; omega), upTo_int]
  simp [m__law_is_whole, b__law_is_whole, ↓ev_run, ↓ev_seq, ↓ev_if, ↓ev_b, ↓ev_op, ↓ev_un, ↓ev_var, ↓ev_own, ↓ev_c, ↓ev_rets, ↓ev_next, ↓ev_cnt, ↓ev_andV, ↓ev_orV, ↓ev_notV, ↓ev_and, ↓ev_or, ↓ev_not, ↓ev_ite, ↓ev_nil, ↓ev_cons, ↓ev_tup, ↓ev_lst, ↓ev_call, ↓ev_fn, ↓ev_it, ↓ev_itA, ↓ev_for, ↓ev_fld, ↓ev_set, ↓ev_setO, ↓ev_app, ↓ev_asg, ↓ev_bm, asStr, ↓ev_lc, ↓ev_yes, ↓ev_dk0, ↓ev_dn1, ↓ev_dn, ↓ev_dk, ↓ev_frz, ↓ev_thn, ↓ev_par, ↓ev_chain, fldD, ↓tn_some, tn_ite, aft_nx, aft_rt, aft_ct, slotV_val, slotO_own, runO, asB, gEq_int, gEq_str, gNe_int, gNe_str, gCmp, gSub, gAdd_int, gTp, gCn, gNl, gNm, rng1, e2, ix_lLk0, elc, asAny, chs_rs]
  simp only [tn_assoc]
  refine tn_path (k := k) (u := u) dS (WR k u r) ?_ r (y0 k) z _ hz ⟨y0_ok ok, upI 0 (k.L + 1).toNat, none, fun z => by
      have := congrArg List.length z
      rw [len_upI] at this
      simp at this
      omega, fun c hc => by
      rw [mem_upI] at hc
      simp [y0, st0]
      omega, rfl⟩ ?_
  · intro y z l ρ hsu ⟨ko, cs, x5, hne, hcs, e⟩
    subst e
    refine ⟨_, rfl, ?_⟩
    have hst := succ_st hsu
    have kz := succ_ok ok ko hsu
    obtain ⟨cs', e1, e2, e3⟩ := m_lnext ok ko.st hst.1 hne hcs p
    have hin := in_io l
    have hnot := notin_l l
    by_cases hi : l = .i
    · subst hi
      have hs := hst.2
      simp [shA] at hs
      obtain ⟨⟨h1, h2⟩, h3⟩ := hs
      simp [↓ev_run, ↓ev_seq, ↓ev_if, ↓ev_b, ↓ev_op, ↓ev_un, ↓ev_var, ↓ev_own, ↓ev_c, ↓ev_rets, ↓ev_next, ↓ev_cnt, ↓ev_andV, ↓ev_orV, ↓ev_notV, ↓ev_and, ↓ev_or, ↓ev_not, ↓ev_ite, ↓ev_nil, ↓ev_cons, ↓ev_tup, ↓ev_lst, ↓ev_call, ↓ev_fn, ↓ev_it, ↓ev_itA, ↓ev_for, ↓ev_fld, ↓ev_set, ↓ev_setO, ↓ev_app, ↓ev_asg, ↓ev_bm, asStr, ↓ev_lc, ↓ev_yes, ↓ev_dk0, ↓ev_dn1, ↓ev_dn, ↓ev_dk, ↓ev_frz, ↓ev_thn, ↓ev_par, ↓ev_chain, fldD, ↓tn_some, tn_ite, aft_nx, aft_rt, aft_ct, slotV_val, slotO_own, runO, asB, gEq_int, gEq_str, gNe_int, gNe_str, gCmp, gSub, gAdd_int, gTp, gCn, gNl, gNm, hnot, hin, ioB, ix_dPl0, h2, sides, h1, appC, e1, isN_dPl]
      exact ⟨kz, cs', _, e2, e3, by rw [← h3]; rfl⟩
    · by_cases ho : l = .o
      · subst ho
        have hs := hst.2
        simp [shA] at hs
        obtain ⟨⟨h1, h2⟩, h3⟩ := hs
        simp [↓ev_run, ↓ev_seq, ↓ev_if, ↓ev_b, ↓ev_op, ↓ev_un, ↓ev_var, ↓ev_own, ↓ev_c, ↓ev_rets, ↓ev_next, ↓ev_cnt, ↓ev_andV, ↓ev_orV, ↓ev_notV, ↓ev_and, ↓ev_or, ↓ev_not, ↓ev_ite, ↓ev_nil, ↓ev_cons, ↓ev_tup, ↓ev_lst, ↓ev_call, ↓ev_fn, ↓ev_it, ↓ev_itA, ↓ev_for, ↓ev_fld, ↓ev_set, ↓ev_setO, ↓ev_app, ↓ev_asg, ↓ev_bm, asStr, ↓ev_lc, ↓ev_yes, ↓ev_dk0, ↓ev_dn1, ↓ev_dn, ↓ev_dk, ↓ev_frz, ↓ev_thn, ↓ev_par, ↓ev_chain, fldD, ↓tn_some, tn_ite, aft_nx, aft_rt, aft_ct, slotV_val, slotO_own, runO, asB, gEq_int, gEq_str, gNe_int, gNe_str, gCmp, gSub, gAdd_int, gTp, gCn, gNl, gNm, hnot, hin, ioB, ix_dPl0, h2, sides, h1, appC, e1, isN_dPl]
        exact ⟨kz, cs', _, e2, e3, by rw [← h3]; rfl⟩
      · have hb : ioB l = false := by cases l <;> first | exact (hi rfl).elim | exact (ho rfl).elim | rfl
        have hc : z.2 = y.2 := by
          have := hst.2
          cases l <;> first | exact (hi rfl).elim | exact (ho rfl).elim | exact (Option.some.inj this).symm
        simp [↓ev_run, ↓ev_seq, ↓ev_if, ↓ev_b, ↓ev_op, ↓ev_un, ↓ev_var, ↓ev_own, ↓ev_c, ↓ev_rets, ↓ev_next, ↓ev_cnt, ↓ev_andV, ↓ev_orV, ↓ev_notV, ↓ev_and, ↓ev_or, ↓ev_not, ↓ev_ite, ↓ev_nil, ↓ev_cons, ↓ev_tup, ↓ev_lst, ↓ev_call, ↓ev_fn, ↓ev_it, ↓ev_itA, ↓ev_for, ↓ev_fld, ↓ev_set, ↓ev_setO, ↓ev_app, ↓ev_asg, ↓ev_bm, asStr, ↓ev_lc, ↓ev_yes, ↓ev_dk0, ↓ev_dn1, ↓ev_dn, ↓ev_dk, ↓ev_frz, ↓ev_thn, ↓ev_par, ↓ev_chain, fldD, ↓tn_some, tn_ite, aft_nx, aft_rt, aft_ct, slotV_val, slotO_own, runO, asB, gEq_int, gEq_str, gNe_int, gNe_str, gCmp, gSub, gAdd_int, gTp, gCn, gNl, gNm, hnot, hin, hb, e1, isN_dPl]
        exact ⟨kz, cs', _, e2, e3, by rw [hc]⟩
  · rintro ρ2 ⟨ko, cs, x5, hne, hcs, e⟩
    subst e
    have es := gEq_sides u
    simp [↓ev_run, ↓ev_seq, ↓ev_if, ↓ev_b, ↓ev_op, ↓ev_un, ↓ev_var, ↓ev_own, ↓ev_c, ↓ev_rets, ↓ev_next, ↓ev_cnt, ↓ev_andV, ↓ev_orV, ↓ev_notV, ↓ev_and, ↓ev_or, ↓ev_not, ↓ev_ite, ↓ev_nil, ↓ev_cons, ↓ev_tup, ↓ev_lst, ↓ev_call, ↓ev_fn, ↓ev_it, ↓ev_itA, ↓ev_for, ↓ev_fld, ↓ev_set, ↓ev_setO, ↓ev_app, ↓ev_asg, ↓ev_bm, asStr, ↓ev_lc, ↓ev_yes, ↓ev_dk0, ↓ev_dn1, ↓ev_dn, ↓ev_dk, ↓ev_frz, ↓ev_thn, ↓ev_par, ↓ev_chain, fldD, ↓tn_some, tn_ite, aft_nx, aft_rt, aft_ct, slotV_val, slotO_own, runO, asB, gEq_int, gEq_str, gNe_int, gNe_str, gCmp, gSub, gAdd_int, gTp, gCn, gNl, gNm, gEq_wD, gInt, e4, ix_dPl0, hg1, hg2, es]
end Hd

namespace Hd
open PySem PySem.Spec Dl
/-! ### where the ship's letters lie -/
theorem sh2 {k : Lk} {u : Bool} : ∀ (r : List Lt) (y z : Ky), y.2 = 2 → tr k u y r = some z → .i ∉ r ∧ .o ∉ r
  | [], y, z, h, e => ⟨(fun z => by cases z), (fun z => by cases z)⟩
  | l :: r, y, z, h, e => by
    obtain ⟨x, e1, e2⟩ := Option.bind_eq_some_iff.mp e
    have hs := (succ_st e1).2
    have hl : l ≠ .i ∧ l ≠ .o ∧ x.2 = 2 := by
      cases l <;> simp [shA, h] at hs <;> simp [hs]
    have ih := sh2 r x z hl.2.2 e2
    refine ⟨fun z => ?_, fun z => ?_⟩
    · rcases List.mem_cons.mp z with z | z
      · exact hl.1 z.symm
      · exact ih.1 z
    · rcases List.mem_cons.mp z with z | z
      · exact hl.2.1 z.symm
      · exact ih.2 z
theorem sh1 {k : Lk} {u : Bool} : ∀ (r : List Lt) (y z : Ky), y.2 = 1 → tr k u y r = some z → z.2 = 2 → .i ∉ r ∧ ∃ b c x, r = b ++ .o :: c ∧ .o ∉ b ∧ .o ∉ c ∧ tr k u y b = some x ∧ x.1.g = 3 - en u
  | [], y, z, h, e, hz => by cases e; omega
  | l :: r, y, z, h, e, hz => by
    obtain ⟨x, e1, e2⟩ := Option.bind_eq_some_iff.mp e
    have hs := (succ_st e1).2
    by_cases ho : l = .o
    · subst ho
      simp [shA] at hs
      have h2 := sh2 r x z hs.2.symm e2
      refine ⟨fun z => ?_, [], r, y, rfl, (fun z => by cases z), h2.2, rfl, hs.1.2⟩
      rcases List.mem_cons.mp z with z | z
      · cases z
      · exact h2.1 z
    · have hl : l ≠ .i ∧ x.2 = 1 := by
        cases l <;> simp [shA, h] at hs ho <;> simp [hs]
      obtain ⟨hi, b, c, w, e3, hb, hc, e4, hg⟩ := sh1 r x z hl.2 e2 hz
      refine ⟨fun z => ?_, l :: b, c, w, by rw [e3]; rfl, fun z => ?_, hc, by rw [tr, e1]; exact e4, hg⟩
      · rcases List.mem_cons.mp z with z | z
        · exact hl.1 z.symm
        · exact hi z
      · rcases List.mem_cons.mp z with z | z
        · exact ho z.symm
        · exact hb z
theorem sh0 {k : Lk} {u : Bool} : ∀ (r : List Lt) (y z : Ky), y.2 = 0 → tr k u y r = some z → z.2 = 2 → (∃ a c x, r = a ++ .i :: c ∧ .i ∉ a ∧ .i ∉ c ∧ tr k u y a = some x ∧ x.1.g = en u) ∧ ∃ b c x, r = b ++ .o :: c ∧ .o ∉ b ∧ .o ∉ c ∧ tr k u y b = some x ∧ x.1.g = 3 - en u
  | [], y, z, h, e, hz => by cases e; omega
  | l :: r, y, z, h, e, hz => by
    obtain ⟨x, e1, e2⟩ := Option.bind_eq_some_iff.mp e
    have hs := (succ_st e1).2
    by_cases hi : l = .i
    · subst hi
      simp [shA] at hs
      obtain ⟨h2, b, c, w, e3, hb, hc, e4, hg⟩ := sh1 r x z hs.2.symm e2 hz
      refine ⟨⟨[], r, y, rfl, (fun z => by cases z), h2, rfl, hs.1.2⟩, .i :: b, c, w, by rw [e3]; rfl, fun z => ?_, hc, by rw [tr, e1]; exact e4, hg⟩
      rcases List.mem_cons.mp z with z | z
      · cases z
      · exact hb z
    · have hl : l ≠ .o ∧ x.2 = 0 := by
        cases l <;> simp [shA, h] at hs hi <;> simp [hs]
      obtain ⟨⟨a, c1, w1, e31, hb1, hc1, e41, hg1⟩, b, c, w, e3, hb, hc, e4, hg⟩ := sh0 r x z hl.2 e2 hz
      refine ⟨⟨l :: a, c1, w1, by rw [e31]; rfl, fun z => ?_, hc1, by rw [tr, e1]; exact e41, hg1⟩, l :: b, c, w, by rw [e3]; rfl, fun z => ?_, hc, by rw [tr, e1]; exact e4, hg⟩
      · rcases List.mem_cons.mp z with z | z
        · exact hi z.symm
        · exact hb1 z
      · rcases List.mem_cons.mp z with z | z
        · exact hl.1 z.symm
        · exact hb z
/-! ### one sign's count and place in a row -/
theorem lc_inj {l m : Lt} (h : lc l = lc m) : l = m := by cases l <;> cases m <;> first | rfl | (simp [lc] at h)
theorem mem_lc {l : Lt} {r : List Lt} : lc l ∈ r.map lc ↔ l ∈ r := by
  rw [List.mem_map]
  exact ⟨fun ⟨m, hm, e⟩ => lc_inj e ▸ hm, fun h => ⟨l, h, rfl⟩⟩
theorem rs_cps (r : List Lt) : (rs r).cps.toList = r.map lc := rfl
theorem count1 {l : Lt} {a c : List Lt} (ha : l ∉ a) (hc : l ∉ c) : gCount (.str (rs (a ++ l :: c))) [.str (ls l)] = some (.int 1) := by
  show some (D.int (Txt.count (rs (a ++ l :: c)) ⟨#[lc l]⟩)) = _
  rw [PyProof.Rows.count_cnt, rs_cps, List.map_append, List.map_cons, PyProof.Rows.cnt_append, PyProof.Rows.cnt_cons, PyProof.Rows.cnt_none _ _ (fun z => ha (mem_lc.mp z)), PyProof.Rows.cnt_none _ _ (fun z => hc (mem_lc.mp z)), if_pos rfl]
  rfl
theorem index1 {l : Lt} {a c : List Lt} (ha : l ∉ a) : gIndex (.str (rs (a ++ l :: c))) [.str (ls l)] = some (.int (a.length : Nat)) := by
  have at_ : ∀ i, StrLaws.At (rs (a ++ l :: c)) ⟨#[lc l]⟩ (rs (a ++ l :: c)).length i ↔ ((a ++ l :: c).map lc)[i]? = some (lc l) := fun i => StrLaws.subAt_one _ _ _
  have hat : StrLaws.At (rs (a ++ l :: c)) ⟨#[lc l]⟩ (rs (a ++ l :: c)).length a.length := (at_ _).mpr (by rw [List.getElem?_map, List.getElem?_append_right (Nat.le_refl _), Nat.sub_self]; rfl)
  have hno : ∀ i, i < a.length → ¬ StrLaws.At (rs (a ++ l :: c)) ⟨#[lc l]⟩ (rs (a ++ l :: c)).length i := fun i hi h => by
    have h := (at_ i).mp h
    rw [List.getElem?_map, List.getElem?_append_left hi] at h
    obtain ⟨m, hm, e⟩ := Option.map_eq_some_iff.mp h
    exact ha (lc_inj e ▸ List.mem_of_getElem? hm)
  have key : ∃ q, Builtin.Str.occurrences (rs (a ++ l :: c)) (ls l) 0 (rs (a ++ l :: c)).length 1 = a.length :: q := by
    rcases StrLaws.occ_head (rs (a ++ l :: c)) ⟨#[lc l]⟩ 1 (Nat.le_refl _) with ⟨_, h⟩ | ⟨i, q, e, h1, h2⟩
    · exact (h _ hat).elim
    · have : i = a.length := by
        rcases Nat.lt_trichotomy i a.length with h | h | h
        · exact (hno i h h1).elim
        · exact h
        · exact (h2 _ h hat).elim
      exact ⟨q, this ▸ e⟩
  obtain ⟨q, e⟩ := key
  unfold gIndex
  simp only [e]
/-! ### the gates along a row -/
def gts (g : Int) : List Lt → List Int
  | [] => [g]
  | l :: r => g :: gts (gAf g l) r
theorem gts_len : ∀ (r : List Lt) (g : Int), (gts g r).length = r.length + 1
  | [], _ => rfl
  | l :: r, g => by rw [gts, List.length_cons, gts_len r, List.length_cons]
theorem succ_g {k : Lk} {u : Bool} {y z : Ky} {l : Lt} (e : succ k u y l = some z) : z.1.g = gAf y.1.g l := by
  have h := (succ_st e).1
  unfold nextS at h
  split at h
  · have := Option.some.inj h
    rw [← this]
  · cases h
theorem gts_at {k : Lk} {u : Bool} : ∀ (a c : List Lt) (y x : Ky), tr k u y a = some x → (gts y.1.g (a ++ c))[a.length]? = some x.1.g
  | [], c, y, x, e => by
    cases e
    cases c <;> rfl
  | l :: a, c, y, x, e => by
    obtain ⟨w, e1, e2⟩ := Option.bind_eq_some_iff.mp e
    have ih := gts_at a c w x e2
    rw [succ_g e1] at ih
    rw [List.cons_append, gts, List.length_cons, List.getElem?_cons_succ]
    exact ih
theorem atI_nat {α : Type} {l : List α} {j : Nat} {x : α} (h : l[j]? = some x) : L2.atI l (j : Int) = some x := by
  have hj := (List.getElem?_eq_some_iff.mp h).1
  unfold L2.atI L2.ixN
  rw [if_pos (by omega), if_pos (by omega)]
  exact h
theorem atI_last {α : Type} {l : List α} {n : Nat} {x : α} (hl : l.length = n + 1) (h : l[n]? = some x) : L2.atI l (-1) = some x := by
  unfold L2.atI L2.ixN
  rw [if_neg (by omega), if_pos (by omega)]
  show l[(-1 + (l.length : Int)).toNat]? = _
  rw [show (-1 + (l.length : Int)).toNat = n by omega]
  exact h
theorem gIx_snoc (pre : List Int) (g : Int) : gIx (.lst ((pre ++ [g]).map .int)) (.int (-1)) = some (.int g) := by
  show L2.atI _ _ = _
  exact atI_last (n := pre.length) (by rw [List.length_map, List.length_append]; rfl) (by rw [List.getElem?_map, List.getElem?_append_right (Nat.le_refl _), Nat.sub_self]; rfl)
theorem gates_loop {p : Option Pool} {row : D} : ∀ (r : List Lt) (pre : List Int) (g : Int) (x2 : Option Cell), pre.length + r.length < 1000 → ∃ x2', loopD (gNm 2) (dApp 1 (dFn m_gate_after (dCons (dOp gIx (dOwn 1) (dUn gNeg (dC (.int 1)))) (dCons (dVar 2) dNil)))) (r.map dS) [some (.val row), some (.own (.lst ((pre ++ [g]).map .int))), x2] p = some (.nx [some (.val row), some (.own (.lst ((pre ++ gts g r).map .int))), x2'], p)
  | [], pre, g, x2, h => ⟨x2, rfl⟩
  | l :: r, pre, g, x2, h => by
    rw [List.length_cons] at h
    obtain ⟨x, ih⟩ := gates_loop (p := p) (row := row) r (pre ++ [g]) (gAf g l) (some (.val (dS l))) (by rw [List.length_append, List.length_singleton]; omega)
    refine ⟨x, ?_⟩
    have ha := appC_own (l := (pre ++ [g]).map D.int) (x := .int (gAf g l)) (by rw [List.length_map, List.length_append, List.length_singleton]; omega)
    have hx := gIx_snoc pre g
    have e : dApp 1 (dFn m_gate_after (dCons (dOp gIx (dOwn 1) (dUn gNeg (dC (.int 1)))) (dCons (dVar 2) dNil))) [some (.val row), some (.own (.lst ((pre ++ [g]).map .int))), some (.val (dS l))] p = some (.nx [some (.val row), some (.own (.lst (((pre ++ [g]) ++ [gAf g l]).map .int))), some (.val (dS l))], p) := by
      rw [List.map_append (l₁ := pre ++ [g])]
      generalize (pre ++ [g]).map D.int = Ls at *
      simp [↓ev_run, ↓ev_seq, ↓ev_if, ↓ev_b, ↓ev_op, ↓ev_un, ↓ev_var, ↓ev_own, ↓ev_c, ↓ev_rets, ↓ev_next, ↓ev_cnt, ↓ev_andV, ↓ev_orV, ↓ev_notV, ↓ev_and, ↓ev_or, ↓ev_not, ↓ev_ite, ↓ev_nil, ↓ev_cons, ↓ev_tup, ↓ev_lst, ↓ev_call, ↓ev_fn, ↓ev_it, ↓ev_itA, ↓ev_for, ↓ev_fld, ↓ev_set, ↓ev_setO, ↓ev_app, ↓ev_asg, ↓ev_bm, asStr, ↓ev_lc, ↓ev_yes, ↓ev_dk0, ↓ev_dn1, ↓ev_dn, ↓ev_dk, ↓ev_frz, ↓ev_thn, ↓ev_par, ↓ev_chain, fldD, ↓tn_some, tn_ite, aft_nx, aft_rt, aft_ct, slotV_val, slotO_own, runO, asB, gEq_int, gEq_str, gNe_int, gNe_str, gCmp, gSub, gAdd_int, gTp, gCn, gNl, gNm, gNeg, hx, m_gAf, ha]
    rw [List.map_cons, loop_cons (ρ1 := [some (.val row), some (.own (.lst ((pre ++ [g]).map .int))), some (.val (dS l))]) rfl, e]
    show loopD _ _ _ _ _ = _
    rw [ih, gts, List.append_assoc]
    rfl
theorem m_gates {r : List Lt} (h : r.length < 900) (p) : m_gates_of [.str (rs r)] p = some (.lst ((gts 0 r).map .int), p) := by
  obtain ⟨x, e⟩ := gates_loop (p := p) (row := .str (rs r)) r [] 0 none (by rw [List.length_nil]; omega)
  simp [m_gates_of, b_gates_of, ↓ev_run, ↓ev_seq, ↓ev_if, ↓ev_b, ↓ev_op, ↓ev_un, ↓ev_var, ↓ev_own, ↓ev_c, ↓ev_rets, ↓ev_next, ↓ev_cnt, ↓ev_andV, ↓ev_orV, ↓ev_notV, ↓ev_and, ↓ev_or, ↓ev_not, ↓ev_ite, ↓ev_nil, ↓ev_cons, ↓ev_tup, ↓ev_lst, ↓ev_call, ↓ev_fn, ↓ev_it, ↓ev_itA, ↓ev_for, ↓ev_fld, ↓ev_set, ↓ev_setO, ↓ev_app, ↓ev_asg, ↓ev_bm, asStr, ↓ev_lc, ↓ev_yes, ↓ev_dk0, ↓ev_dn1, ↓ev_dn, ↓ev_dk, ↓ev_frz, ↓ev_thn, ↓ev_par, ↓ev_chain, fldD, ↓tn_some, tn_ite, aft_nx, aft_rt, aft_ct, slotV_val, slotO_own, runO, asB, gEq_int, gEq_str, gNe_int, gNe_str, gCmp, gSub, gAdd_int, gTp, gCn, gNl, gNm, asAny, chs_rs]
  rw [show ([D.int 0] : List D) = (([] ++ [0] : List Int).map .int) from rfl, e]
  simp [↓ev_run, ↓ev_seq, ↓ev_if, ↓ev_b, ↓ev_op, ↓ev_un, ↓ev_var, ↓ev_own, ↓ev_c, ↓ev_rets, ↓ev_next, ↓ev_cnt, ↓ev_andV, ↓ev_orV, ↓ev_notV, ↓ev_and, ↓ev_or, ↓ev_not, ↓ev_ite, ↓ev_nil, ↓ev_cons, ↓ev_tup, ↓ev_lst, ↓ev_call, ↓ev_fn, ↓ev_it, ↓ev_itA, ↓ev_for, ↓ev_fld, ↓ev_set, ↓ev_setO, ↓ev_app, ↓ev_asg, ↓ev_bm, asStr, ↓ev_lc, ↓ev_yes, ↓ev_dk0, ↓ev_dn1, ↓ev_dn, ↓ev_dk, ↓ev_frz, ↓ev_thn, ↓ev_par, ↓ev_chain, fldD, ↓tn_some, tn_ite, aft_nx, aft_rt, aft_ct, slotV_val, slotO_own, runO, asB, gEq_int, gEq_str, gNe_int, gNe_str, gCmp, gSub, gAdd_int, gTp, gCn, gNl, gNm, frz]
end Hd

namespace Hd
open PySem PySem.Spec Dl
/-! ### the program's check of a row -/
def enumD (j : Nat) : List Lt → List D
  | [] => []
  | l :: r => .tup [.int (j : Int), dS l] :: enumD (j + 1) r
theorem enumD_len : ∀ (r : List Lt) (j : Nat), (enumD j r).length = r.length
  | [], _ => rfl
  | l :: r, j => by rw [enumD, List.length_cons, enumD_len r, List.length_cons]
theorem enumD_at : ∀ (r : List Lt) (j i : Nat) (l : Lt), r[i]? = some l → (enumD j r)[i]? = some (.tup [.int ((j + i : Nat) : Int), dS l])
  | l :: r, j, 0, m, h => by cases h; rfl
  | l :: r, j, i + 1, m, h => by
    rw [enumD, List.getElem?_cons_succ, enumD_at r (j + 1) i m h]
    congr 4
    omega
theorem gEnum_rs (r : List Lt) : gEnumS [.str (rs r)] = some (enumD 0 r) := by
  show some ((List.range (rs r).cps.size).map fun (i : Nat) => D.tup [.int (i : Int), .str ⟨#[(rs r).cps.getD i 0]⟩]) = _
  congr 1
  have hs : (rs r).cps.size = r.length := rs_len r
  apply List.ext_getElem?
  intro i
  by_cases hi : i < r.length
  · obtain ⟨l, hl⟩ : ∃ l, r[i]? = some l := ⟨_, List.getElem?_eq_getElem hi⟩
    rw [enumD_at r 0 i l hl, List.getElem?_map, List.getElem?_range (by omega)]
    show some (D.tup [.int (i : Int), .str ⟨#[(rs r).cps.getD i 0]⟩]) = _
    have e : (rs r).cps.getD i 0 = lc l := by
      show ((r.map lc).toArray).getD i 0 = _
      rw [Array.getD_eq_getD_getElem?, List.getElem?_toArray, List.getElem?_map, hl]
      rfl
    rw [e, Nat.zero_add]
    rfl
  · rw [List.getElem?_eq_none (by rw [List.length_map, List.length_range]; omega), List.getElem?_eq_none (by rw [enumD_len]; omega)]
theorem unsafe_loop {k : Lk} {u : Bool} {p : Option Pool} {row : D} : ∀ (r : List Lt) (j : Nat) (y z : Ky) (x3 x4 : Option Cell), tr k u y r = some z →
    ∃ x3' x4', loopD (gTp 2 (gCn (gNm 3) (gCn (gNm 4) gNl))) (dSeq (dSet 2 (dFn m_next_state (dCons (dVar 0) (dCons (dVar 2) (dCons (dVar 4) dNil))))) (dIfS (dB (dOp gIsN (dVar 2) (dC .non))) (dRet (dOp gAdd (dVar 3) (dC (.int 1)))) dNext)) (enumD j r) [some (.val (dLk k)), some (.val row), some (.val (dSt y.1)), x3, x4] p = some (.nx [some (.val (dLk k)), some (.val row), some (.val (dSt z.1)), x3', x4'], p)
  | [], j, y, z, x3, x4, e => by cases e; exact ⟨x3, x4, rfl⟩
  | l :: r, j, y, z, x3, x4, e => by
    obtain ⟨w, e1, e2⟩ := Option.bind_eq_some_iff.mp e
    obtain ⟨a, b, ih⟩ := unsafe_loop (k := k) (u := u) (p := p) (row := row) r (j + 1) w z (some (.val (.int (j : Int)))) (some (.val (dS l))) e2
    refine ⟨a, b, ?_⟩
    have hn := (succ_st e1).1
    have e3 : dSeq (dSet 2 (dFn m_next_state (dCons (dVar 0) (dCons (dVar 2) (dCons (dVar 4) dNil))))) (dIfS (dB (dOp gIsN (dVar 2) (dC .non))) (dRet (dOp gAdd (dVar 3) (dC (.int 1)))) dNext) [some (.val (dLk k)), some (.val row), some (.val (dSt y.1)), some (.val (.int (j : Int))), some (.val (dS l))] p = some (.nx [some (.val (dLk k)), some (.val row), some (.val (dSt w.1)), some (.val (.int (j : Int))), some (.val (dS l))], p) := by
      simp [↓ev_run, ↓ev_seq, ↓ev_if, ↓ev_b, ↓ev_op, ↓ev_un, ↓ev_var, ↓ev_own, ↓ev_c, ↓ev_rets, ↓ev_next, ↓ev_cnt, ↓ev_andV, ↓ev_orV, ↓ev_notV, ↓ev_and, ↓ev_or, ↓ev_not, ↓ev_ite, ↓ev_nil, ↓ev_cons, ↓ev_tup, ↓ev_lst, ↓ev_call, ↓ev_fn, ↓ev_it, ↓ev_itA, ↓ev_for, ↓ev_fld, ↓ev_set, ↓ev_setO, ↓ev_app, ↓ev_asg, ↓ev_bm, asStr, ↓ev_lc, ↓ev_yes, ↓ev_dk0, ↓ev_dn1, ↓ev_dn, ↓ev_dk, ↓ev_frz, ↓ev_thn, ↓ev_par, ↓ev_chain, fldD, ↓tn_some, tn_ite, aft_nx, aft_rt, aft_ct, slotV_val, slotO_own, runO, asB, gEq_int, gEq_str, gNe_int, gNe_str, gCmp, gSub, gAdd_int, gTp, gCn, gNl, gNm, m_next, hn, oD, isN_dSt]
    rw [enumD, loop_cons (ρ1 := [some (.val (dLk k)), some (.val row), some (.val (dSt y.1)), some (.val (.int (j : Int))), some (.val (dS l))]) (by simp [gTp, gCn, gNm, gNl]), e3]
    exact ih
theorem m_unsafe {k : Lk} {u : Bool} {r : List Lt} {z : Ky} (h : tr k u (y0 k) r = some z) (p) : m_unsafe_at [dLk k, .str (rs r)] p = some (.int 0, p) := by
  obtain ⟨a, b, e⟩ := unsafe_loop (p := p) (row := .str (rs r)) r 0 (y0 k) z none none h
  have e0 : dSt (y0 k).1 = dSt (st0 k) := rfl
  rw [e0] at e
  simp [m_unsafe_at, b_unsafe_at, ↓ev_run, ↓ev_seq, ↓ev_if, ↓ev_b, ↓ev_op, ↓ev_un, ↓ev_var, ↓ev_own, ↓ev_c, ↓ev_rets, ↓ev_next, ↓ev_cnt, ↓ev_andV, ↓ev_orV, ↓ev_notV, ↓ev_and, ↓ev_or, ↓ev_not, ↓ev_ite, ↓ev_nil, ↓ev_cons, ↓ev_tup, ↓ev_lst, ↓ev_call, ↓ev_fn, ↓ev_it, ↓ev_itA, ↓ev_for, ↓ev_fld, ↓ev_set, ↓ev_setO, ↓ev_app, ↓ev_asg, ↓ev_bm, asStr, ↓ev_lc, ↓ev_yes, ↓ev_dk0, ↓ev_dn1, ↓ev_dn, ↓ev_dk, ↓ev_frz, ↓ev_thn, ↓ev_par, ↓ev_chain, fldD, ↓tn_some, tn_ite, aft_nx, aft_rt, aft_ct, slotV_val, slotO_own, runO, asB, gEq_int, gEq_str, gNe_int, gNe_str, gCmp, gSub, gAdd_int, gTp, gCn, gNl, gNm, m_st0, gEnum_rs, e]
theorem m_check {k : Lk} {u : Bool} {n : Nat} {r : List Lt} (h : Hit k u n r) (hn : n < 900) (p) : m_check_whole [dLk k, .str (rs r), wD u] p = some (.non, p) := by
  obtain ⟨hl, z, hz, hg1, hg2⟩ := h
  have hlen : r.length < 900 := by omega
  obtain ⟨⟨a, c, x, ea, ia, ic, ta, ga⟩, b, c', x', eb, ib, ic', tb, gb⟩ := sh0 r (y0 k) z rfl hz hg2
  have hi : gCount (.str (rs r)) [.str "i"] = some (.int 1) := by rw [ea]; exact count1 (l := .i) ia ic
  have ho : gCount (.str (rs r)) [.str "o"] = some (.int 1) := by rw [eb]; exact count1 (l := .o) ib ic'
  have hi2 : gIndex (.str (rs r)) [.str "i"] = some (.int (a.length : Nat)) := by rw [ea]; exact index1 (l := .i) ia
  have ho2 : gIndex (.str (rs r)) [.str "o"] = some (.int (b.length : Nat)) := by rw [eb]; exact index1 (l := .o) ib
  have g1 : gIx (.lst ((gts 0 r).map .int)) (.int (a.length : Nat)) = some (.int (en u)) := by
    have := gts_at a (.i :: c) (y0 k) x ta
    rw [← ea] at this
    show L2.atI _ _ = _
    exact atI_nat (by rw [List.getElem?_map]; show Option.map _ (gts (y0 k).1.g r)[a.length]? = _; rw [this, ga]; rfl)
  have g2 : gIx (.lst ((gts 0 r).map .int)) (.int (b.length : Nat)) = some (.int (3 - en u)) := by
    have := gts_at b (.o :: c') (y0 k) x' tb
    rw [← eb] at this
    show L2.atI _ _ = _
    exact atI_nat (by rw [List.getElem?_map]; show Option.map _ (gts (y0 k).1.g r)[b.length]? = _; rw [this, gb]; rfl)
  have g3 : gIx (.lst ((gts 0 r).map .int)) (.int (-1)) = some (.int 0) := by
    have := gts_at r [] (y0 k) z hz
    rw [List.append_nil] at this
    show L2.atI _ _ = _
    exact atI_last (n := r.length) (by rw [List.length_map, gts_len]) (by rw [List.getElem?_map]; show Option.map _ (gts (y0 k).1.g r)[r.length]? = _; rw [this, hg1]; rfl)
  simp [m_check_whole, b_check_whole, ↓ev_run, ↓ev_seq, ↓ev_if, ↓ev_b, ↓ev_op, ↓ev_un, ↓ev_var, ↓ev_own, ↓ev_c, ↓ev_rets, ↓ev_next, ↓ev_cnt, ↓ev_andV, ↓ev_orV, ↓ev_notV, ↓ev_and, ↓ev_or, ↓ev_not, ↓ev_ite, ↓ev_nil, ↓ev_cons, ↓ev_tup, ↓ev_lst, ↓ev_call, ↓ev_fn, ↓ev_it, ↓ev_itA, ↓ev_for, ↓ev_fld, ↓ev_set, ↓ev_setO, ↓ev_app, ↓ev_asg, ↓ev_bm, asStr, ↓ev_lc, ↓ev_yes, ↓ev_dk0, ↓ev_dn1, ↓ev_dn, ↓ev_dk, ↓ev_frz, ↓ev_thn, ↓ev_par, ↓ev_chain, fldD, ↓tn_some, tn_ite, aft_nx, aft_rt, aft_ct, slotV_val, slotO_own, runO, asB, gEq_int, gEq_str, gNe_int, gNe_str, gCmp, gSub, gAdd_int, gTp, gCn, gNl, gNm, m_unsafe hz, m_gates hlen, gNeg, g3, hi, ho, hi2, ho2, g1, g2, m_sides]
end Hd

namespace Hd
open PySem PySem.Spec Dl
/-! ### the law's own lines -/
theorem m_right {k : Lk} (ok : k.Ok) {u : Bool} {r : List Lt} (h : Hit k u r.length r) (hl : (r.length : Int) ≤ 2 * k.L + 6) (hs : ∀ p, m_shortest_whole [dLk k, wD u] p = some (.str (rs r), p)) (p) :
    m__law_right [dLk k, lLk k, wD u, .int r.length] p = some (.bl true, p) := by
  have L6 := ok.L6
  have e0 : r.length ≤ 100000 := by omega
  have e1 : (rs r).length = r.length := rs_len r
  have e3 : gMulA (.int 2) (.int k.L) = some (.int (2 * k.L)) := by simp [gMulA]
  have e4 : ¬ 2 * k.L + 6 < (r.length : Int) := by omega
  simp [m__law_right, b__law_right, ↓ev_run, ↓ev_seq, ↓ev_if, ↓ev_b, ↓ev_op, ↓ev_un, ↓ev_var, ↓ev_own, ↓ev_c, ↓ev_rets, ↓ev_next, ↓ev_cnt, ↓ev_andV, ↓ev_orV, ↓ev_notV, ↓ev_and, ↓ev_or, ↓ev_not, ↓ev_ite, ↓ev_nil, ↓ev_cons, ↓ev_tup, ↓ev_lst, ↓ev_call, ↓ev_fn, ↓ev_it, ↓ev_itA, ↓ev_for, ↓ev_fld, ↓ev_set, ↓ev_setO, ↓ev_app, ↓ev_asg, ↓ev_isi2, ↓ev_to, ↓ev_fldS, ↓ev_runI,  ↓ev_bm, asStr, ↓ev_lc, ↓ev_yes, ↓ev_dk0, ↓ev_dn1, ↓ev_dn, ↓ev_dk, ↓ev_frz, ↓ev_thn, ↓ev_par, ↓ev_chain, fldD, ↓tn_some, tn_ite, aft_nx, aft_rt, aft_ct, slotV_val, slotO_own, runO, asB, gEq_int, gEq_str, gNe_int, gNe_str, gCmp, gSub, gAdd_int, gTp, gCn, gNl, gNm, hs, gIsi_ss, gLen, e0, e1, e3, e4, ix_lLk0, m_whole ok h, m_check h (by omega), gIsN_non]
theorem m_isnum (v a b : Int) (p) : m_is_number [.int v, .int a, .int b] p = some (.bl (decide (a ≤ v) && decide (v ≤ b)), p) := by
  by_cases h : a ≤ v <;> simp [m_is_number, b_is_number, m_is_int, b_is_int, ↓ev_run, ↓ev_seq, ↓ev_if, ↓ev_b, ↓ev_op, ↓ev_un, ↓ev_var, ↓ev_own, ↓ev_c, ↓ev_rets, ↓ev_next, ↓ev_cnt, ↓ev_andV, ↓ev_orV, ↓ev_notV, ↓ev_and, ↓ev_or, ↓ev_not, ↓ev_ite, ↓ev_nil, ↓ev_cons, ↓ev_tup, ↓ev_lst, ↓ev_call, ↓ev_fn, ↓ev_it, ↓ev_itA, ↓ev_for, ↓ev_fld, ↓ev_set, ↓ev_setO, ↓ev_app, ↓ev_asg, ↓ev_isi2, ↓ev_to, ↓ev_fldS, ↓ev_runI,  ↓ev_bm, asStr, ↓ev_lc, ↓ev_yes, ↓ev_dk0, ↓ev_dn1, ↓ev_dn, ↓ev_dk, ↓ev_frz, ↓ev_thn, ↓ev_par, ↓ev_chain, fldD, ↓tn_some, tn_ite, aft_nx, aft_rt, aft_ct, slotV_val, slotO_own, runO, asB, gEq_int, gEq_str, gNe_int, gNe_str, gCmp, gSub, gAdd_int, gTp, gCn, gNl, gNm, gIsi_ii, gIsi_ib, h]
theorem m_isrowL (a b : D) (p) : m_is_row [.lst [a, b], .int 2, .int 2] p = some (.bl true, p) := by
  simp [m_is_row, b_is_row, m_is_any_row, b_is_any_row, ↓ev_run, ↓ev_seq, ↓ev_if, ↓ev_b, ↓ev_op, ↓ev_un, ↓ev_var, ↓ev_own, ↓ev_c, ↓ev_rets, ↓ev_next, ↓ev_cnt, ↓ev_andV, ↓ev_orV, ↓ev_notV, ↓ev_and, ↓ev_or, ↓ev_not, ↓ev_ite, ↓ev_nil, ↓ev_cons, ↓ev_tup, ↓ev_lst, ↓ev_call, ↓ev_fn, ↓ev_it, ↓ev_itA, ↓ev_for, ↓ev_fld, ↓ev_set, ↓ev_setO, ↓ev_app, ↓ev_asg, ↓ev_isi2, ↓ev_to, ↓ev_fldS, ↓ev_runI,  ↓ev_bm, asStr, ↓ev_lc, ↓ev_yes, ↓ev_dk0, ↓ev_dn1, ↓ev_dn, ↓ev_dk, ↓ev_frz, ↓ev_thn, ↓ev_par, ↓ev_chain, fldD, ↓tn_some, tn_ite, aft_nx, aft_rt, aft_ct, slotV_val, slotO_own, runO, asB, gEq_int, gEq_str, gNe_int, gNe_str, gCmp, gSub, gAdd_int, gTp, gCn, gNl, gNm, gLen, tyN, isT]
theorem m_isrowT (a b : D) (p) : m_is_row [.tup [a, b], .int 2, .int 2] p = some (.bl true, p) := by
  simp [m_is_row, b_is_row, m_is_any_row, b_is_any_row, ↓ev_run, ↓ev_seq, ↓ev_if, ↓ev_b, ↓ev_op, ↓ev_un, ↓ev_var, ↓ev_own, ↓ev_c, ↓ev_rets, ↓ev_next, ↓ev_cnt, ↓ev_andV, ↓ev_orV, ↓ev_notV, ↓ev_and, ↓ev_or, ↓ev_not, ↓ev_ite, ↓ev_nil, ↓ev_cons, ↓ev_tup, ↓ev_lst, ↓ev_call, ↓ev_fn, ↓ev_it, ↓ev_itA, ↓ev_for, ↓ev_fld, ↓ev_set, ↓ev_setO, ↓ev_app, ↓ev_asg, ↓ev_isi2, ↓ev_to, ↓ev_fldS, ↓ev_runI,  ↓ev_bm, asStr, ↓ev_lc, ↓ev_yes, ↓ev_dk0, ↓ev_dn1, ↓ev_dn, ↓ev_dk, ↓ev_frz, ↓ev_thn, ↓ev_par, ↓ev_chain, fldD, ↓tn_some, tn_ite, aft_nx, aft_rt, aft_ct, slotV_val, slotO_own, runO, asB, gEq_int, gEq_str, gNe_int, gNe_str, gCmp, gSub, gAdd_int, gTp, gCn, gNl, gNm, gLen, tyN, isT]
theorem m_ispairL {a b : Int} (h1 : 1 ≤ a) (h2 : a ≤ b) (h3 : b ≤ 3) (p) : m_is_pair [.lst [.int a, .int b], .int 1, .int 3] p = some (.bl true, p) := by
  have h4 : a ≤ 3 := by omega
  have h5 : 1 ≤ b := by omega
  simp [m_is_pair, b_is_pair, m_is_numbers, b_is_numbers, ↓ev_run, ↓ev_seq, ↓ev_if, ↓ev_b, ↓ev_op, ↓ev_un, ↓ev_var, ↓ev_own, ↓ev_c, ↓ev_rets, ↓ev_next, ↓ev_cnt, ↓ev_andV, ↓ev_orV, ↓ev_notV, ↓ev_and, ↓ev_or, ↓ev_not, ↓ev_ite, ↓ev_nil, ↓ev_cons, ↓ev_tup, ↓ev_lst, ↓ev_call, ↓ev_fn, ↓ev_it, ↓ev_itA, ↓ev_for, ↓ev_fld, ↓ev_set, ↓ev_setO, ↓ev_app, ↓ev_asg, ↓ev_isi2, ↓ev_to, ↓ev_fldS, ↓ev_runI,  ↓ev_bm, asStr, ↓ev_lc, ↓ev_yes, ↓ev_dk0, ↓ev_dn1, ↓ev_dn, ↓ev_dk, ↓ev_frz, ↓ev_thn, ↓ev_par, ↓ev_chain, fldD, ↓tn_some, tn_ite, aft_nx, aft_rt, aft_ct, slotV_val, slotO_own, runO, asB, gEq_int, gEq_str, gNe_int, gNe_str, gCmp, gSub, gAdd_int, gTp, gCn, gNl, gNm, m_isrowL, asAny, ↓ev_lcc, ↓ev_lcn, m_isnum, gAll, allB, h1, h2, h3, h4, h5, gIx, L2.atI, L2.ixN]
theorem m_ispairT {a b : Int} (h1 : 1 ≤ a) (h2 : a ≤ b) (h3 : b ≤ 3) (p) : m_is_pair [.tup [.int a, .int b], .int 1, .int 3] p = some (.bl true, p) := by
  have h4 : a ≤ 3 := by omega
  have h5 : 1 ≤ b := by omega
  simp [m_is_pair, b_is_pair, m_is_numbers, b_is_numbers, ↓ev_run, ↓ev_seq, ↓ev_if, ↓ev_b, ↓ev_op, ↓ev_un, ↓ev_var, ↓ev_own, ↓ev_c, ↓ev_rets, ↓ev_next, ↓ev_cnt, ↓ev_andV, ↓ev_orV, ↓ev_notV, ↓ev_and, ↓ev_or, ↓ev_not, ↓ev_ite, ↓ev_nil, ↓ev_cons, ↓ev_tup, ↓ev_lst, ↓ev_call, ↓ev_fn, ↓ev_it, ↓ev_itA, ↓ev_for, ↓ev_fld, ↓ev_set, ↓ev_setO, ↓ev_app, ↓ev_asg, ↓ev_isi2, ↓ev_to, ↓ev_fldS, ↓ev_runI,  ↓ev_bm, asStr, ↓ev_lc, ↓ev_yes, ↓ev_dk0, ↓ev_dn1, ↓ev_dn, ↓ev_dk, ↓ev_frz, ↓ev_thn, ↓ev_par, ↓ev_chain, fldD, ↓tn_some, tn_ite, aft_nx, aft_rt, aft_ct, slotV_val, slotO_own, runO, asB, gEq_int, gEq_str, gNe_int, gNe_str, gCmp, gSub, gAdd_int, gTp, gCn, gNl, gNm, m_isrowT, asAny, ↓ev_lcc, ↓ev_lcn, m_isnum, gAll, allB, h1, h2, h3, h4, h5, gIx, L2.atI, L2.ixN]
theorem mk_ok {k : Lk} (ok : k.Ok) (p) : mk_Lock [.int k.L, .lst [.int k.fl, .int k.fh], .tup [.int k.el, .int k.eh], .int k.lk, .int k.sl] p = some (dLk k, p) := by
  obtain ⟨h1, h2, h3, h4, h5, h6, h7, h8, h9, h10, h11, h12, h13⟩ := ok
  have h14 : ¬ k.fl ≤ k.lk := by omega
  have h15 : 0 ≤ k.sl := by omega
  have h16 : ¬ k.sl < k.lk := by omega
  have hw : ∀ p, m_wrong_part [.int k.L, .lst [.int k.fl, .int k.fh], .tup [.int k.el, .int k.eh], .int k.lk, .int k.sl] p = some (.non, p) := fun p => by
    simp [m_wrong_part, b_wrong_part, ↓ev_run, ↓ev_seq, ↓ev_if, ↓ev_b, ↓ev_op, ↓ev_un, ↓ev_var, ↓ev_own, ↓ev_c, ↓ev_rets, ↓ev_next, ↓ev_cnt, ↓ev_andV, ↓ev_orV, ↓ev_notV, ↓ev_and, ↓ev_or, ↓ev_not, ↓ev_ite, ↓ev_nil, ↓ev_cons, ↓ev_tup, ↓ev_lst, ↓ev_call, ↓ev_fn, ↓ev_it, ↓ev_itA, ↓ev_for, ↓ev_fld, ↓ev_set, ↓ev_setO, ↓ev_app, ↓ev_asg, ↓ev_isi2, ↓ev_to, ↓ev_fldS, ↓ev_runI,  ↓ev_bm, asStr, ↓ev_lc, ↓ev_yes, ↓ev_dk0, ↓ev_dn1, ↓ev_dn, ↓ev_dk, ↓ev_frz, ↓ev_thn, ↓ev_par, ↓ev_chain, fldD, ↓tn_some, tn_ite, aft_nx, aft_rt, aft_ct, slotV_val, slotO_own, runO, asB, gEq_int, gEq_str, gNe_int, gNe_str, gCmp, gSub, gAdd_int, gTp, gCn, gNl, gNm, m_isnum, m_ispairL h3 h4 h5, m_ispairT h6 h7 h8, h1, h2, h9, h10, h11, h12, h13, h14, h15, h16, gIx, L2.atI, L2.ixN]
  simp [mk_Lock, b_Lock_init, ↓ev_run, ↓ev_seq, ↓ev_if, ↓ev_b, ↓ev_op, ↓ev_un, ↓ev_var, ↓ev_own, ↓ev_c, ↓ev_rets, ↓ev_next, ↓ev_cnt, ↓ev_andV, ↓ev_orV, ↓ev_notV, ↓ev_and, ↓ev_or, ↓ev_not, ↓ev_ite, ↓ev_nil, ↓ev_cons, ↓ev_tup, ↓ev_lst, ↓ev_call, ↓ev_fn, ↓ev_it, ↓ev_itA, ↓ev_for, ↓ev_fld, ↓ev_set, ↓ev_setO, ↓ev_app, ↓ev_asg, ↓ev_isi2, ↓ev_to, ↓ev_fldS, ↓ev_runI,  ↓ev_bm, asStr, ↓ev_lc, ↓ev_yes, ↓ev_dk0, ↓ev_dn1, ↓ev_dn, ↓ev_dk, ↓ev_frz, ↓ev_thn, ↓ev_par, ↓ev_chain, fldD, ↓tn_some, tn_ite, aft_nx, aft_rt, aft_ct, slotV_val, slotO_own, runO, asB, gEq_int, gEq_str, gNe_int, gNe_str, gCmp, gSub, gAdd_int, gTp, gCn, gNl, gNm, hw, notN_non, gTuple, fldC, runO1, insC, dLk]
/-! ### draws -/
theorem m_lock {q : Pool} (w : PWf q) : ∃ (k : Lk) (q' : Pool), k.Ok ∧ PWf q' ∧ m__law_lock [.pool, .int 6] (some q) = some (lLk k, some q') := by
  obtain ⟨d1, q1, e1, a1, b1, w1⟩ := draw_ok (m := 3) (by decide) (by decide) w
  have key : ∀ lk : Int, (if d1 = 0 then (1 : Int) else 0) = lk → 0 ≤ lk → lk ≤ 1 → ∃ (k : Lk) (q' : Pool), k.Ok ∧ PWf q' ∧ m__law_lock [.pool, .int 6] (some q) = some (lLk k, some q') := fun lk hlk l0 l1 => by
    obtain ⟨d2, q2, e2, a2, b2, w2⟩ := draw_ok (m := 3 - lk) (by omega) (by omega) w1
    obtain ⟨d3, q3, e3, a3, b3, w3⟩ := draw_ok (m := 3) (by decide) (by decide) w2
    obtain ⟨d4, q4, e4, a4, b4, w4⟩ := draw_ok (m := 4 - (lk + 1 + d2)) (by omega) (by omega) w3
    obtain ⟨d5, q5, e5, a5, b5, w5⟩ := draw_ok (m := 4 - (1 + d3)) (by omega) (by omega) w4
    obtain ⟨d6, q6, e6, a6, b6, w6⟩ := draw_ok (m := 6) (by decide) (by decide) w5
    obtain ⟨d7, q7, e7, a7, b7, w7⟩ := draw_ok (m := 3 - lk) (by omega) (by omega) w6
    refine ⟨⟨1 + d6, lk + 1 + d2, lk + 1 + d2 + d4, 1 + d3, 1 + d3 + d5, lk, lk + d7⟩, q7, ⟨?_, ?_, ?_, ?_, ?_, ?_, ?_, ?_, ?_, ?_, ?_, ?_, ?_⟩, w7, ?_⟩
    case refine_14 =>
      simp [m__law_lock, b__law_lock, ↓ev_run, ↓ev_seq, ↓ev_if, ↓ev_b, ↓ev_op, ↓ev_un, ↓ev_var, ↓ev_own, ↓ev_c, ↓ev_rets, ↓ev_next, ↓ev_cnt, ↓ev_andV, ↓ev_orV, ↓ev_notV, ↓ev_and, ↓ev_or, ↓ev_not, ↓ev_ite, ↓ev_nil, ↓ev_cons, ↓ev_tup, ↓ev_lst, ↓ev_call, ↓ev_fn, ↓ev_it, ↓ev_itA, ↓ev_for, ↓ev_fld, ↓ev_set, ↓ev_setO, ↓ev_app, ↓ev_asg, ↓ev_isi2, ↓ev_to, ↓ev_fldS, ↓ev_runI,  ↓ev_bm, asStr, ↓ev_lc, ↓ev_yes, ↓ev_dk0, ↓ev_dn1, ↓ev_dn, ↓ev_dk, ↓ev_frz, ↓ev_thn, ↓ev_par, ↓ev_chain, fldD, ↓tn_some, tn_ite, aft_nx, aft_rt, aft_ct, slotV_val, slotO_own, runO, asB, gEq_int, gEq_str, gNe_int, gNe_str, gCmp, gSub, gAdd_int, gTp, gCn, gNl, gNm, e1, gInt, hlk, e2, e3, e4, e5, e6, e7, lLk]
    all_goals simp only; omega
  by_cases h : d1 = 0
  · exact key 1 (by rw [if_pos h]) (by decide) (by decide)
  · exact key 0 (by rw [if_neg h]) (by decide) (by decide)
theorem m_pick {q : Pool} (w : PWf q) : ∃ (u : Bool) (q' : Pool), m__law_pick [.pool, .lst [wD true, wD false]] (some q) = some (wD u, some q') := by
  obtain ⟨d, q1, e1, a1, b1, w1⟩ := draw_ok (m := 2) (by decide) (by decide) w
  by_cases h : d = 0
  · subst h
    exact ⟨true, q1, by simp [m__law_pick, b__law_pick, ↓ev_run, ↓ev_seq, ↓ev_if, ↓ev_b, ↓ev_op, ↓ev_un, ↓ev_var, ↓ev_own, ↓ev_c, ↓ev_rets, ↓ev_next, ↓ev_cnt, ↓ev_andV, ↓ev_orV, ↓ev_notV, ↓ev_and, ↓ev_or, ↓ev_not, ↓ev_ite, ↓ev_nil, ↓ev_cons, ↓ev_tup, ↓ev_lst, ↓ev_call, ↓ev_fn, ↓ev_it, ↓ev_itA, ↓ev_for, ↓ev_fld, ↓ev_set, ↓ev_setO, ↓ev_app, ↓ev_asg, ↓ev_isi2, ↓ev_to, ↓ev_fldS, ↓ev_runI,  ↓ev_bm, asStr, ↓ev_lc, ↓ev_yes, ↓ev_dk0, ↓ev_dn1, ↓ev_dn, ↓ev_dk, ↓ev_frz, ↓ev_thn, ↓ev_par, ↓ev_chain, fldD, ↓tn_some, tn_ite, aft_nx, aft_rt, aft_ct, slotV_val, slotO_own, runO, asB, gEq_int, gEq_str, gNe_int, gNe_str, gCmp, gSub, gAdd_int, gTp, gCn, gNl, gNm, gLen, e1, gIx, L2.atI, L2.ixN]⟩
  · have h : d = 1 := by omega
    subst h
    exact ⟨false, q1, by simp [m__law_pick, b__law_pick, ↓ev_run, ↓ev_seq, ↓ev_if, ↓ev_b, ↓ev_op, ↓ev_un, ↓ev_var, ↓ev_own, ↓ev_c, ↓ev_rets, ↓ev_next, ↓ev_cnt, ↓ev_andV, ↓ev_orV, ↓ev_notV, ↓ev_and, ↓ev_or, ↓ev_not, ↓ev_ite, ↓ev_nil, ↓ev_cons, ↓ev_tup, ↓ev_lst, ↓ev_call, ↓ev_fn, ↓ev_it, ↓ev_itA, ↓ev_for, ↓ev_fld, ↓ev_set, ↓ev_setO, ↓ev_app, ↓ev_asg, ↓ev_isi2, ↓ev_to, ↓ev_fldS, ↓ev_runI,  ↓ev_bm, asStr, ↓ev_lc, ↓ev_yes, ↓ev_dk0, ↓ev_dn1, ↓ev_dn, ↓ev_dk, ↓ev_frz, ↓ev_thn, ↓ev_par, ↓ev_chain, fldD, ↓tn_some, tn_ite, aft_nx, aft_rt, aft_ct, slotV_val, slotO_own, runO, asB, gEq_int, gEq_str, gNe_int, gNe_str, gCmp, gSub, gAdd_int, gTp, gCn, gNl, gNm, gLen, e1, gIx, L2.atI, L2.ixN]⟩
theorem ev_pool {ρ : Rho} {p : Option Pool} (i j : Nat) : dPool i j ρ p = (poolC ρ[i]? ρ[j]? p).map fun q => (.rt .pool, some q) := by
  unfold dPool
  cases poolC ρ[i]? ρ[j]? p <;> rfl
theorem m_pool {ns : List Int} (h : ns.length ≤ 63) : m__law_pool [.lst (ns.map .int)] none = some (.pool, some (newPool ns)) := by
  have ht : gTo (.lst (ns.map .int)) 63 = some (.lst (ns.map .int)) := by
    show some (D.lst (((ns.map D.int).drop (HT.sIx (ns.map D.int).length 0 none)).take (HT.sIx (ns.map D.int).length (ns.map D.int).length (some ((63 : Nat) : Int)) - HT.sIx (ns.map D.int).length 0 none))) = _
    rw [HT.sIx_none, HT.sIx_nat, List.drop_zero, List.take_of_length_le (by rw [List.length_map]; omega)]
  have hp : gPow (.int 10) (.int 18) = some (.int big) := by simp [gPow, big]
  have c1 : ∀ (ρ : Rho) (p : Option Pool), 3 < ρ.length → lcD 3 (dB (dOp gGe (dCall gAbs (dCons (dVar 3) dNil)) (dOp gPow (dC (.int 10)) (dC (.int 18))))) (dOp gSub (dCall gAbs (dCons (dVar 3) dNil)) (dOp gPow (dC (.int 10)) (dC (.int 18)))) ρ (ns.map .int) [] p = some (.lst ((newPool ns).gs.map .int), p) := fun ρ p hρ => by
    have e0 : ∀ d, slotV (ρ.set 3 (some (.val d)))[3]? = some d := fun d => by rw [List.getElem?_set_self hρ]; rfl
    rw [lc_pure (fun d => match d with | .int x => decide (big ≤ absI x) | _ => false) (fun d => match d with | .int x => .int (absI x - big) | d => d) _ _ (by rw [List.length_map, List.length_nil]; omega) (fun d hd => ?_) (fun d hd _ => ?_), List.filter_map, List.map_map, List.nil_append]
    · show some (D.lst _, p) = some (D.lst (List.map D.int (List.map _ _)), p)
      rw [List.map_map]
      rfl
    · obtain ⟨x, _, rfl⟩ := List.mem_map.mp hd
      simp [↓ev_run, ↓ev_seq, ↓ev_if, ↓ev_b, ↓ev_op, ↓ev_un, ↓ev_var, ↓ev_own, ↓ev_c, ↓ev_rets, ↓ev_next, ↓ev_cnt, ↓ev_andV, ↓ev_orV, ↓ev_notV, ↓ev_and, ↓ev_or, ↓ev_not, ↓ev_ite, ↓ev_nil, ↓ev_cons, ↓ev_tup, ↓ev_lst, ↓ev_call, ↓ev_fn, ↓ev_it, ↓ev_itA, ↓ev_for, ↓ev_fld, ↓ev_set, ↓ev_setO, ↓ev_app, ↓ev_asg, ↓ev_isi2, ↓ev_to, ↓ev_fldS, ↓ev_runI,  ↓ev_bm, asStr, ↓ev_lc, ↓ev_yes, ↓ev_dk0, ↓ev_dn1, ↓ev_dn, ↓ev_dk, ↓ev_frz, ↓ev_thn, ↓ev_par, ↓ev_chain, fldD, ↓tn_some, tn_ite, aft_nx, aft_rt, aft_ct, slotV_val, slotO_own, runO, asB, gEq_int, gEq_str, gNe_int, gNe_str, gCmp, gSub, gAdd_int, gTp, gCn, gNl, gNm, e0, gAbs, hp, absI]; first | done | rfl
    · obtain ⟨x, _, rfl⟩ := List.mem_map.mp hd
      simp [↓ev_run, ↓ev_seq, ↓ev_if, ↓ev_b, ↓ev_op, ↓ev_un, ↓ev_var, ↓ev_own, ↓ev_c, ↓ev_rets, ↓ev_next, ↓ev_cnt, ↓ev_andV, ↓ev_orV, ↓ev_notV, ↓ev_and, ↓ev_or, ↓ev_not, ↓ev_ite, ↓ev_nil, ↓ev_cons, ↓ev_tup, ↓ev_lst, ↓ev_call, ↓ev_fn, ↓ev_it, ↓ev_itA, ↓ev_for, ↓ev_fld, ↓ev_set, ↓ev_setO, ↓ev_app, ↓ev_asg, ↓ev_isi2, ↓ev_to, ↓ev_fldS, ↓ev_runI,  ↓ev_bm, asStr, ↓ev_lc, ↓ev_yes, ↓ev_dk0, ↓ev_dn1, ↓ev_dn, ↓ev_dk, ↓ev_frz, ↓ev_thn, ↓ev_par, ↓ev_chain, fldD, ↓tn_some, tn_ite, aft_nx, aft_rt, aft_ct, slotV_val, slotO_own, runO, asB, gEq_int, gEq_str, gNe_int, gNe_str, gCmp, gSub, gAdd_int, gTp, gCn, gNl, gNm, e0, gAbs, hp, absI]; first | done | rfl
  have c2 : ∀ (ρ : Rho) (p : Option Pool), 3 < ρ.length → lcD 3 (dB (dOp gLt (dCall gAbs (dCons (dVar 3) dNil)) (dOp gPow (dC (.int 10)) (dC (.int 18))))) (dCall gAbs (dCons (dVar 3) dNil)) ρ (ns.map .int) [] p = some (.lst ((newPool ns).ss.map .int), p) := fun ρ p hρ => by
    have e0 : ∀ d, slotV (ρ.set 3 (some (.val d)))[3]? = some d := fun d => by rw [List.getElem?_set_self hρ]; rfl
    rw [lc_pure (fun d => match d with | .int x => decide (absI x < big) | _ => false) (fun d => match d with | .int x => .int (absI x) | d => d) _ _ (by rw [List.length_map, List.length_nil]; omega) (fun d hd => ?_) (fun d hd _ => ?_), List.filter_map, List.map_map, List.nil_append]
    · show some (D.lst _, p) = some (D.lst (List.map D.int (List.map _ _)), p)
      rw [List.map_map]
      rfl
    · obtain ⟨x, _, rfl⟩ := List.mem_map.mp hd
      simp [↓ev_run, ↓ev_seq, ↓ev_if, ↓ev_b, ↓ev_op, ↓ev_un, ↓ev_var, ↓ev_own, ↓ev_c, ↓ev_rets, ↓ev_next, ↓ev_cnt, ↓ev_andV, ↓ev_orV, ↓ev_notV, ↓ev_and, ↓ev_or, ↓ev_not, ↓ev_ite, ↓ev_nil, ↓ev_cons, ↓ev_tup, ↓ev_lst, ↓ev_call, ↓ev_fn, ↓ev_it, ↓ev_itA, ↓ev_for, ↓ev_fld, ↓ev_set, ↓ev_setO, ↓ev_app, ↓ev_asg, ↓ev_isi2, ↓ev_to, ↓ev_fldS, ↓ev_runI,  ↓ev_bm, asStr, ↓ev_lc, ↓ev_yes, ↓ev_dk0, ↓ev_dn1, ↓ev_dn, ↓ev_dk, ↓ev_frz, ↓ev_thn, ↓ev_par, ↓ev_chain, fldD, ↓tn_some, tn_ite, aft_nx, aft_rt, aft_ct, slotV_val, slotO_own, runO, asB, gEq_int, gEq_str, gNe_int, gNe_str, gCmp, gSub, gAdd_int, gTp, gCn, gNl, gNm, e0, gAbs, hp, absI]; first | done | rfl
    · obtain ⟨x, _, rfl⟩ := List.mem_map.mp hd
      simp [↓ev_run, ↓ev_seq, ↓ev_if, ↓ev_b, ↓ev_op, ↓ev_un, ↓ev_var, ↓ev_own, ↓ev_c, ↓ev_rets, ↓ev_next, ↓ev_cnt, ↓ev_andV, ↓ev_orV, ↓ev_notV, ↓ev_and, ↓ev_or, ↓ev_not, ↓ev_ite, ↓ev_nil, ↓ev_cons, ↓ev_tup, ↓ev_lst, ↓ev_call, ↓ev_fn, ↓ev_it, ↓ev_itA, ↓ev_for, ↓ev_fld, ↓ev_set, ↓ev_setO, ↓ev_app, ↓ev_asg, ↓ev_isi2, ↓ev_to, ↓ev_fldS, ↓ev_runI,  ↓ev_bm, asStr, ↓ev_lc, ↓ev_yes, ↓ev_dk0, ↓ev_dn1, ↓ev_dn, ↓ev_dk, ↓ev_frz, ↓ev_thn, ↓ev_par, ↓ev_chain, fldD, ↓tn_some, tn_ite, aft_nx, aft_rt, aft_ct, slotV_val, slotO_own, runO, asB, gEq_int, gEq_str, gNe_int, gNe_str, gCmp, gSub, gAdd_int, gTp, gCn, gNl, gNm, e0, gAbs, hp, absI]; first | done | rfl
  simp [m__law_pool, b__law_pool, ↓ev_run, ↓ev_seq, ↓ev_if, ↓ev_b, ↓ev_op, ↓ev_un, ↓ev_var, ↓ev_own, ↓ev_c, ↓ev_rets, ↓ev_next, ↓ev_cnt, ↓ev_andV, ↓ev_orV, ↓ev_notV, ↓ev_and, ↓ev_or, ↓ev_not, ↓ev_ite, ↓ev_nil, ↓ev_cons, ↓ev_tup, ↓ev_lst, ↓ev_call, ↓ev_fn, ↓ev_it, ↓ev_itA, ↓ev_for, ↓ev_fld, ↓ev_set, ↓ev_setO, ↓ev_app, ↓ev_asg, ↓ev_isi2, ↓ev_to, ↓ev_fldS, ↓ev_runI,  ↓ev_bm, asStr, ↓ev_lc, ↓ev_yes, ↓ev_dk0, ↓ev_dn1, ↓ev_dn, ↓ev_dk, ↓ev_frz, ↓ev_thn, ↓ev_par, ↓ev_chain, fldD, ↓tn_some, tn_ite, aft_nx, aft_rt, aft_ct, slotV_val, slotO_own, runO, asB, gEq_int, gEq_str, gNe_int, gNe_str, gCmp, gSub, gAdd_int, gTp, gCn, gNl, gNm, ht, asAny, c1, c2, ev_pool, poolC, allI_map]
  rfl
theorem law_true (ns : List Int) (h : ns.length ≤ 63) : ∃ p, m_law [.lst (ns.map .int)] none = some (.bl true, p) := by
  obtain ⟨k0, q1, ok0, w1, e1⟩ := m_lock (newPool_wf h)
  obtain ⟨k1, q2, ok1, w2, e2⟩ := m_lock w1
  obtain ⟨u, q3, e3⟩ := m_pick w2
  obtain ⟨r0, h0, l0, n0, s0, t0⟩ := both ok0 true
  obtain ⟨r1, h1, l1, n1, s1, t1⟩ := both ok0 false
  obtain ⟨r2, h2, l2, n2, s2, t2⟩ := both ok1 u
  have hp := m_pool h
  have z0 := m_right ok0 h0 l0 s0
  have z1 := m_right ok0 h1 l1 s1
  have z2 := m_right ok1 h2 l2 s2
  have wt : wD true = .str "up" := rfl
  have wf : wD false = .str "down" := rfl
  rw [wt] at t0 z0
  rw [wf] at t1 z1
  rw [wt, wf] at e3
  have x1 : ∀ k, gIx (lLk k) (.int 1) = some (.lst [.int k.fl, .int k.fh]) := fun k => by simp [lLk, gIx, L2.atI, L2.ixN]
  have x2 : ∀ k, gIx (lLk k) (.int 2) = some (.lst [.int k.el, .int k.eh]) := fun k => by simp [lLk, gIx, L2.atI, L2.ixN]
  have x4 : ∀ k, gIx (lLk k) (.int 4) = some (.int k.sl) := fun k => by simp [lLk, gIx, L2.atI, L2.ixN]
  have y0 : ∀ a b : D, gIx (.lst [a, b]) (.int 0) = some a := fun a b => by simp [gIx, L2.atI, L2.ixN]
  have y1 : ∀ a b : D, gIx (.lst [a, b]) (.int 1) = some b := fun a b => by simp [gIx, L2.atI, L2.ixN]
  have y2 : ∀ a b c : D, gIx (.lst [a, b, c]) (.int 0) = some a := fun a b c => by simp [gIx, L2.atI, L2.ixN]
  have y3 : ∀ a b c : D, gIx (.lst [a, b, c]) (.int 1) = some b := fun a b c => by simp [gIx, L2.atI, L2.ixN]
  have y4 : ∀ a b c : D, gIx (.lst [a, b, c]) (.int 2) = some c := fun a b c => by simp [gIx, L2.atI, L2.ixN]
  have y5 : ∀ a b : D, gIx (.tup [a, b]) (.int 0) = some a := fun a b => by simp [gIx, L2.atI, L2.ixN]
  have n0' : ¬ r0.length = 0 := by omega
  have n1' : ¬ r1.length = 0 := by omega
  have n2' : ¬ r2.length = 0 := by omega
  refine ⟨some q3, ?_⟩
  simp [m_law, b_law, ↓ev_run, ↓ev_seq, ↓ev_if, ↓ev_b, ↓ev_op, ↓ev_un, ↓ev_var, ↓ev_own, ↓ev_c, ↓ev_rets, ↓ev_next, ↓ev_cnt, ↓ev_andV, ↓ev_orV, ↓ev_notV, ↓ev_and, ↓ev_or, ↓ev_not, ↓ev_ite, ↓ev_nil, ↓ev_cons, ↓ev_tup, ↓ev_lst, ↓ev_call, ↓ev_fn, ↓ev_it, ↓ev_itA, ↓ev_for, ↓ev_fld, ↓ev_set, ↓ev_setO, ↓ev_app, ↓ev_asg, ↓ev_isi2, ↓ev_to, ↓ev_fldS, ↓ev_runI,  ↓ev_bm, asStr, ↓ev_lc, ↓ev_yes, ↓ev_dk0, ↓ev_dn1, ↓ev_dn, ↓ev_dk, ↓ev_frz, ↓ev_thn, ↓ev_par, ↓ev_chain, fldD, ↓tn_some, tn_ite, aft_nx, aft_rt, aft_ct, slotV_val, slotO_own, runO, asB, gEq_int, gEq_str, gNe_int, gNe_str, gCmp, gSub, gAdd_int, gTp, gCn, gNl, gNm, hp, e1, e2, asAny, ↓ev_lcc, ↓ev_lcn, ix_lLk0, x1, x2, ix_lLk3, x4, gList, gTuple, mk_ok ok0, mk_ok ok1, frz]
  rw [e3]
  simp [↓ev_run, ↓ev_seq, ↓ev_if, ↓ev_b, ↓ev_op, ↓ev_un, ↓ev_var, ↓ev_own, ↓ev_c, ↓ev_rets, ↓ev_next, ↓ev_cnt, ↓ev_andV, ↓ev_orV, ↓ev_notV, ↓ev_and, ↓ev_or, ↓ev_not, ↓ev_ite, ↓ev_nil, ↓ev_cons, ↓ev_tup, ↓ev_lst, ↓ev_call, ↓ev_fn, ↓ev_it, ↓ev_itA, ↓ev_for, ↓ev_fld, ↓ev_set, ↓ev_setO, ↓ev_app, ↓ev_asg, ↓ev_isi2, ↓ev_to, ↓ev_fldS, ↓ev_runI,  ↓ev_bm, asStr, ↓ev_lc, ↓ev_yes, ↓ev_dk0, ↓ev_dn1, ↓ev_dn, ↓ev_dk, ↓ev_frz, ↓ev_thn, ↓ev_par, ↓ev_chain, fldD, ↓tn_some, tn_ite, aft_nx, aft_rt, aft_ct, slotV_val, slotO_own, runO, asB, gEq_int, gEq_str, gNe_int, gNe_str, gCmp, gSub, gAdd_int, gTp, gCn, gNl, gNm, asAny, ↓ev_lcc, ↓ev_lcn, frz, y0, y1, y2, y3, y4, y5, ix_p1, t0, t1, t2]
  simp [↓ev_run, ↓ev_seq, ↓ev_if, ↓ev_b, ↓ev_op, ↓ev_un, ↓ev_var, ↓ev_own, ↓ev_c, ↓ev_rets, ↓ev_next, ↓ev_cnt, ↓ev_andV, ↓ev_orV, ↓ev_notV, ↓ev_and, ↓ev_or, ↓ev_not, ↓ev_ite, ↓ev_nil, ↓ev_cons, ↓ev_tup, ↓ev_lst, ↓ev_call, ↓ev_fn, ↓ev_it, ↓ev_itA, ↓ev_for, ↓ev_fld, ↓ev_set, ↓ev_setO, ↓ev_app, ↓ev_asg, ↓ev_isi2, ↓ev_to, ↓ev_fldS, ↓ev_runI,  ↓ev_bm, asStr, ↓ev_lc, ↓ev_yes, ↓ev_dk0, ↓ev_dn1, ↓ev_dn, ↓ev_dk, ↓ev_frz, ↓ev_thn, ↓ev_par, ↓ev_chain, fldD, ↓tn_some, tn_ite, aft_nx, aft_rt, aft_ct, slotV_val, slotO_own, runO, asB, gEq_int, gEq_str, gNe_int, gNe_str, gCmp, gSub, gAdd_int, gTp, gCn, gNl, gNm, ↓ev_loopN, lpK_nx, y0, y1, y2, y3, y4, y5, ix_p1, z0, z1, z2, n0', n1', n2', loop_nil]
end Hd

namespace Hd
open PySem PySem.Spec PyProof.Rows L2 Dl
theorem all_ok {P : Program} {W : World} {K : PySem.W.Frag} {mg : Str → Option Value} {base : Heap} (T : Tx K mg) : Fn P W K mg base (clOf K) 8 "law" ["script"] m_law := by
  have F__law_draw : Fn P W K mg base (clOf K) 1 "_law_draw" ["pool", "many"] m__law_draw := ok__law_draw T.d__law_draw T.g__law_draw T.b_len T.b_range T.b_int
  have F_is_int := ok_is_int (P := P) (W := W) (base := base) T
  have F_is_number := ok_is_number (P := P) (W := W) (base := base) T F_is_int
  have F_is_any_row := ok_is_any_row (P := P) (W := W) (base := base) T
  have F_is_row := ok_is_row (P := P) (W := W) (base := base) T F_is_any_row
  have F_is_numbers := ok_is_numbers (P := P) (W := W) (base := base) T F_is_number F_is_row
  have F_is_pair := ok_is_pair (P := P) (W := W) (base := base) T F_is_numbers
  have F_wrong_part := ok_wrong_part (P := P) (W := W) (base := base) T F_is_number F_is_pair
  have F_is_allowed := ok_is_allowed (P := P) (W := W) (base := base) T
  have F_gate_after := ok_gate_after (P := P) (W := W) (base := base) T
  have F_inside_after := ok_inside_after (P := P) (W := W) (base := base) T
  have F_moved_level := ok_moved_level (P := P) (W := W) (base := base) T
  have F_amounts := ok_amounts (P := P) (W := W) (base := base) T
  have F_most_leak := ok_most_leak (P := P) (W := W) (base := base) T
  have F_first_state := ok_first_state (P := P) (W := W) (base := base) T
  have F_next_state := ok_next_state (P := P) (W := W) (base := base) T F_inside_after F_moved_level F_most_leak F_gate_after F_amounts F_is_allowed
  have F_unsafe_at := ok_unsafe_at (P := P) (W := W) (base := base) T F_next_state F_first_state
  have F_gates_of := ok_gates_of (P := P) (W := W) (base := base) T F_gate_after
  have F_sides_of := ok_sides_of (P := P) (W := W) (base := base) T
  have F_check_whole := ok_check_whole (P := P) (W := W) (base := base) T F_sides_of F_gates_of F_unsafe_at
  have F_plain_whole := ok_plain_whole (P := P) (W := W) (base := base) T
  have F_ship_after := ok_ship_after (P := P) (W := W) (base := base) T F_sides_of
  have F_shortest_whole := ok_shortest_whole (P := P) (W := W) (base := base) T F_plain_whole F_ship_after F_next_state F_first_state
  have F__law_pool := ok__law_pool (P := P) (W := W) (base := base) T
  have F__law_pick := ok__law_pick (P := P) (W := W) (base := base) T F__law_draw
  have F__law_lock := ok__law_lock (P := P) (W := W) (base := base) T F__law_draw
  have F__law_c_allowed := ok__law_c_allowed (P := P) (W := W) (base := base) T
  have F__law_c_step := ok__law_c_step (P := P) (W := W) (base := base) T
  have F__law_c_amounts := ok__law_c_amounts (P := P) (W := W) (base := base) T
  have F__law_next := ok__law_next (P := P) (W := W) (base := base) T F__law_c_amounts F__law_c_step F__law_c_allowed
  have F__law_m_next := ok__law_m_next (P := P) (W := W) (base := base) T F__law_c_amounts F__law_c_step F__law_c_allowed
  have F__law_least := ok__law_least (P := P) (W := W) (base := base) T F__law_m_next
  have F__law_is_whole := ok__law_is_whole (P := P) (W := W) (base := base) T F__law_next
  have F__law_right := ok__law_right (P := P) (W := W) (base := base) T F__law_is_whole F_check_whole F_shortest_whole
  have C_Lock := ok_Lock_init (P := P) (W := W) (base := base) T F_wrong_part
  have F_law := ok_law (P := P) (W := W) (base := base) T F__law_right F__law_least F__law_pick F__law_lock F__law_pool C_Lock
  exact F_law
theorem law_sp {K : PySem.W.Frag} {cl : Cl} {g : List D → M D} (hg : ∀ ns : List Int, ns.length ≤ 63 → ∃ p, g [.lst (ns.map .int)] none = some (.bl true, p)) (H : Hp) (a : Addr) (ns : List Int) (hl : ns.length ≤ 63) (hS : SqL K H a (ns.map V.int)) :
    spD K cl 1 g [.ref a] H (fun v _ => v = .bl true) fun _ _ _ => False := by
  obtain ⟨p, e⟩ := hg ns hl
  refine ⟨⟨H, H, none, none, none⟩, [.lst (ns.map .int)], .bl true, p, rfl, ⟨fun _ _ h => h, fun _ => rfl, fun _ _ h => nomatch h⟩, ⟨.ref a, [], rfl, ⟨a, ns.map V.int, rfl, hS, Reps.of_ints⟩, rfl⟩, rfl, e, fun v w' _ _ r => r⟩
end Hd
open PySem PySem.W PySem.Calls PyProof.Rows
set_option maxRecDepth 100000 in
set_option maxHeartbeats 0 in
theorem PySem.Challenge.cw_keeldeep_k97_shortest_whole_rows_holds : PySem.Challenge.rw_keeldeep_k97_shortest_whole_rows.Holds := by
  w_on; o_law
  refine HandSHeadRun.head_any (r := OpenLaw.row PySem.Challenge.rw_keeldeep_k97_shortest_whole_rows) (q := view (OpenLaw.row PySem.Challenge.rw_keeldeep_k97_shortest_whole_rows).prog [Hd.lawAt]) (H := Hd.hk) (ob := Hd.ob) (M := 20000) (loose := Hd.loose) (d := HandSHeadRun.topDef (OpenLaw.row PySem.Challenge.rw_keeldeep_k97_shortest_whole_rows).prog Hd.lawAt) (kwd := []) Hd.ob_eq
    (by kernel_rfl) (fun s => by kernel_rfl) Hd.run (by kernel_rfl) (by kernel_rfl) (by kernel_rfl) (by rfl) (by first | assumption | decide +kernel) (by decide +kernel) ⟨rfl, rfl, rfl, rfl, rfl, by decide +kernel⟩ ?hw ?hc
  case hw => w_witness2
  case hc =>
    refine L2.walk_ofE (l := PySem.Challenge.rw_keeldeep_k97_shortest_whole_rows) (n := 63) (k := 8) (x := "script") (CX := L2.CX0) rfl (by decide) (by kernel_rfl) ⟨rfl, by decide, by decide⟩ ?F (fun _ _ _ _ z => z)
    intro w mg fa h Y G hmg0
    obtain ⟨K, KX, c⟩ := Y
    have hmg : mg ("law" : PySem.Str) = some (.ref fa) := by
      have e : (HandSHeadRun.topDef (OpenLaw.row PySem.Challenge.rw_keeldeep_k97_shortest_whole_rows).prog Hd.lawAt).name = ("law" : PySem.Str) := by kernel_rfl
      rw [← e]
      exact hmg0
    have T : Hd.Tx K mg := ⟨h, KX, G, c⟩
    have e2 := hmg.symm.trans T.g_law
    cases e2
    obtain ⟨fd, F⟩ := T.d_law
    have b := L2.FunD.bindsA (ps := ["script"]) F fun _ _ _ _ _ _ us hl => match us, hl with | [_], _ => rfl
    refine ⟨K, fd, Dl.spD K (Hd.clOf K) 1 Hd.m_law, KX, fun s v => b s [v] rfl, fun H a ns hl _ hS => Hd.law_sp Hd.law_true H a ns hl hS, fun base _ _ => ?_⟩
    exact Dl.same_fd F (Hd.all_ok T)
