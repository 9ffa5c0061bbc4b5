import PyProof.Rows.All
import PySem.Challenge.RW_worneven_k07_whole_one_fallen_cell_is_me
import Wide.All
import OpenK.AllK
import Wide.FinOn
import HandS.ForMost
import HandS.ForExc
import HandS.IsInst
import HandS.Wide
import HandS.TupAny
import HandS.Conv
import HandS.Replace
import HandS.NoneIn
import HandS.Zip
import PyProof.ListStr
import HandS.Flow
import HandS.Walk
import HandS.Star
import KE.KStateDown
import HandS.More
import HandS.Words
import HandS.WordsExc
import HandS.Defaults
import HandS.Head0
import HandS.Head1
import HandS.Head2
import HandS.HeadEnd
import HandS.HeadHook1
import HandS.HeadHook2
import HandS.EndBits
section
set_option Elab.async false
set_option linter.all false
set_option maxRecDepth 100000
/-! Wn: values as trees, a mirror heap, how they stand in the layer's abstract heap. -/
namespace Wn
open PySem PySem.Spec PyProof.Rows L2

/-- a value as a tree; what is changed later is a cell of the mirror heap -/
inductive D where
  | non | bl (b : Bool) | int (i : Int) | str (x : Str) | tup (ds : List D) | lst (ds : List D) | scr (ds : List D) | ref (n : Nat) | ty (n : String)
/-- a cell of the mirror heap -/
inductive Cell where
  | lst (ds : List D) | dct (kvs : List (L2.Key × D)) | dead
abbrev Mem := List Cell
inductive Res (α : Type) where
  | ok (a : α) (M : Mem) | err (e : D) (M : Mem) | bad
abbrev Env := List (Option D)
abbrev St := L2.St

/-- a list that is never written any more -/
def FzL (H : Hp) (a : Addr) (xs : List V) : Prop := ∃ o, H a = some (.frz o (.lst xs))
/-- the script: it is known to the object, or one of the module's own -/
def ScL (K : PySem.W.Frag) (H : Hp) (a : Addr) (xs : List V) : Prop :=
  (∃ o, H a = some (.frz o (.lst xs))) ∨
    ∃ (o : Obj) (its : Array Value) (n : Nat), K.lookup a = some o ∧ o.cls = .type "list" ∧ o.dict = none ∧ o.data = .seq its n ∧ its.size ≤ sizeLine ∧ Vals xs its.toList
theorem FzL.sql {K : PySem.W.Frag} {H : Hp} {a : Addr} {xs : List V} (h : FzL H a xs) : SqL K H a xs := .inl (.inr h)
theorem ScL.sql {K : PySem.W.Frag} {H : Hp} {a : Addr} {xs : List V} (h : ScL K H a xs) : SqL K H a xs := by
  rcases h with h | h
  · exact .inl (.inr h)
  · exact .inr h

section
variable (K : PySem.W.Frag) (H : Hp) (r : List Addr)
mutual
def Rep : D → V → Prop
  | .non, v => v = .non
  | .bl b, v => v = .bl b
  | .int i, v => v = .int i
  | .str x, v => v = .str x
  | .tup ds, v => ∃ a vs, v = .ref a ∧ SqT K H a vs ∧ Reps ds vs
  | .lst ds, v => ∃ a vs, v = .ref a ∧ FzL H a vs ∧ Reps ds vs
  | .scr ds, v => ∃ a vs, v = .ref a ∧ ScL K H a vs ∧ Reps ds vs
  | .ref n, v => ∃ a, v = .ref a ∧ r[n]? = some a
  | .ty n, v => v = .ty n
def Reps : List D → List V → Prop
  | [], vs => vs = []
  | d :: ds, vs => ∃ v ws, vs = v :: ws ∧ Rep d v ∧ Reps ds ws
end
def CellRep (a : Addr) : Cell → Prop
  | .lst ds => ∃ vs, H a = some (.lst vs) ∧ Reps K H r ds vs
  | .dct kvs => ∃ ps : List (L2.Key × V), H a = some (.dK ps) ∧ ps.map (·.1) = kvs.map (·.1) ∧ Reps K H r (kvs.map (·.2)) (ps.map (·.2))
  | .dead => ∃ o, H a = some o
structure Sim (M : Mem) : Prop where
  len : r.length = M.length
  inj : ∀ (i j : Nat) a, r[i]? = some a → r[j]? = some a → i = j
  cell : ∀ (n : Nat) a c, r[n]? = some a → M[n]? = some c → CellRep K H r a c
end
/-- a cell that may still be written -/
def Live (M : Mem) (n : Nat) : Prop := ∃ c : Cell, M[n]? = some c ∧ c ≠ Cell.dead
/-- what a step leaves as it was -/
structure Ext (H : Hp) (r : List Addr) (M : Mem) (H' : Hp) (r' : List Addr) (M' : Mem) : Prop where
  pre : ∃ t, r' = r ++ t
  keep : ∀ b o, H b = some o → (∀ n : Nat, r[n]? = some b → ¬ Live M n) → H' b = some o
  fresh : ∀ (n : Nat) b, r.length ≤ n → r'[n]? = some b → H b = none
  dead : ∀ (n : Nat), M[n]? = some Cell.dead → M'[n]? = some Cell.dead

section
variable {K : PySem.W.Frag} {H H1 H2 H' : Hp} {r r1 r2 r' : List Addr} {M M1 M2 M' : Mem}
theorem Ext.refl : Ext H r M H r M :=
  ⟨⟨[], by simp⟩, fun _ _ e _ => e, fun n b h e => (by rw [List.getElem?_eq_none h] at e; cases e), fun _ h => h⟩
theorem Ext.get (e : Ext H r M H' r' M') {n : Nat} {a : Addr} (h : r[n]? = some a) : r'[n]? = some a := by
  obtain ⟨t, rfl⟩ := e.pre
  obtain ⟨hl, _⟩ := List.getElem?_eq_some_iff.mp h
  rw [List.getElem?_append_left hl]
  exact h
theorem Ext.len (e : Ext H r M H' r' M') : r.length ≤ r'.length := by
  obtain ⟨t, rfl⟩ := e.pre
  simp
theorem Sim.here (S : Sim K H r M) {n : Nat} {a : Addr} (h : r[n]? = some a) : ∃ c, M[n]? = some c ∧ CellRep K H r a c := by
  have hl : n < M.length := by rw [← S.len]; exact (List.getElem?_eq_some_iff.mp h).1
  exact ⟨M[n], List.getElem?_eq_getElem hl, S.cell n a _ h (List.getElem?_eq_getElem hl)⟩
theorem Sim.addr (S : Sim K H r M) {n : Nat} {c : Cell} (h : M[n]? = some c) : ∃ a, r[n]? = some a ∧ CellRep K H r a c := by
  have hl : n < r.length := by rw [S.len]; exact (List.getElem?_eq_some_iff.mp h).1
  exact ⟨r[n], List.getElem?_eq_getElem hl, S.cell n _ c (List.getElem?_eq_getElem hl) h⟩
theorem CellRep.there {a : Addr} {c : Cell} (h : CellRep K H r a c) : ∃ o, H a = some o := by
  cases c with
  | lst ds => obtain ⟨vs, e, _⟩ := h; exact ⟨_, e⟩
  | dct kvs => obtain ⟨vs, e, _⟩ := h; exact ⟨_, e⟩
  | dead => exact h
theorem Ext.trans (S : Sim K H r M) (S1 : Sim K H1 r1 M1) (a : Ext H r M H1 r1 M1) (b : Ext H1 r1 M1 H2 r2 M2) : Ext H r M H2 r2 M2 := by
  refine ⟨?_, fun c o e n => ?_, fun n c hn e => ?_, fun n h => b.dead n (a.dead n h)⟩
  · obtain ⟨t, rfl⟩ := a.pre
    obtain ⟨u, rfl⟩ := b.pre
    exact ⟨t ++ u, by rw [List.append_assoc]⟩
  · refine b.keep c o (a.keep c o e n) fun m hm hl => ?_
    by_cases hmr : m < r.length
    · have h0 : r[m]? = some c := by
        obtain ⟨t, rfl⟩ := a.pre
        rw [List.getElem?_append_left hmr] at hm
        exact hm
      obtain ⟨c0, h1, _⟩ := S.here h0
      have hd : c0 = .dead := Classical.byContradiction fun z => n m h0 ⟨c0, h1, z⟩
      subst hd
      obtain ⟨c1, h2, h3⟩ := hl
      rw [a.dead m h1] at h2
      cases h2
      exact h3 rfl
    · rw [a.fresh m c (Nat.le_of_not_lt hmr) hm] at e
      cases e
  · by_cases hmr : n < r1.length
    · refine a.fresh n c hn ?_
      obtain ⟨u, rfl⟩ := b.pre
      rw [List.getElem?_append_left hmr] at e
      exact e
    · have h1 := b.fresh n c (Nat.le_of_not_lt hmr) e
      cases q : H c with
      | none => rfl
      | some o =>
        by_cases hk : ∀ m, r[m]? = some c → ¬ Live M m
        · rw [a.keep c o q hk] at h1
          cases h1
        · obtain ⟨m, hm⟩ := Classical.not_forall.mp hk
          have h0 : r[m]? = some c := Classical.byContradiction fun z => hm fun w => absurd w z
          obtain ⟨c1, _, h3⟩ := S1.here (a.get h0)
          obtain ⟨o1, h4⟩ := h3.there
          rw [h4] at h1
          cases h1
/-- frozen things and tuples of the heap stay -/
structure Stay (H : Hp) (r : List Addr) (H' : Hp) (r' : List Addr) : Prop where
  tup : ∀ b xs, H b = some (.tup xs) → H' b = some (.tup xs)
  frz : ∀ b o u, H b = some (.frz o u) → H' b = some (.frz o u)
  get : ∀ (n : Nat) a, r[n]? = some a → r'[n]? = some a
theorem Sim.notLive (S : Sim K H r M) {b : Addr} {o : HO} (e : H b = some o) (hn : ∀ xs, o ≠ .lst xs) (hn2 : ∀ xs, o ≠ .dK xs) : ∀ n : Nat, r[n]? = some b → ¬ Live M n := fun n h ⟨c, hc, hd⟩ => by
  have q := S.cell n b c h hc
  cases c with
  | lst ds =>
    obtain ⟨vs, e2, _⟩ := q
    rw [e] at e2
    cases e2
    exact hn _ rfl
  | dct kvs =>
    obtain ⟨vs, e2, _⟩ := q
    rw [e] at e2
    cases e2
    exact hn2 _ rfl
  | dead => exact hd rfl
theorem Ext.stay (S : Sim K H r M) (e : Ext H r M H' r' M') : Stay H r H' r' :=
  ⟨fun b xs q => e.keep b _ q (S.notLive q (fun _ z => nomatch z) fun _ z => nomatch z), fun b o u q => e.keep b _ q (S.notLive q (fun _ z => nomatch z) fun _ z => nomatch z), fun _ _ h => e.get h⟩
theorem Stay.refl : Stay H r H r := ⟨fun _ _ h => h, fun _ _ _ h => h, fun _ _ h => h⟩
theorem Stay.sqt (e : Stay H r H' r') {a : Addr} {xs : List V} (h : SqT K H a xs) : SqT K H' a xs := by
  rcases h with (h | ⟨o, h⟩) | h
  · exact .inl (.inl (e.tup _ _ h))
  · exact .inl (.inr ⟨o, e.frz _ _ _ h⟩)
  · exact .inr h
theorem Stay.fzl (e : Stay H r H' r') {a : Addr} {xs : List V} (h : FzL H a xs) : FzL H' a xs := by
  obtain ⟨o, h⟩ := h
  exact ⟨o, e.frz _ _ _ h⟩
theorem Stay.scl (e : Stay H r H' r') {a : Addr} {xs : List V} (h : ScL K H a xs) : ScL K H' a xs := by
  rcases h with ⟨o, h⟩ | h
  · exact .inl ⟨o, e.frz _ _ _ h⟩
  · exact .inr h
mutual
theorem Rep.stay (e : Stay H r H' r') : ∀ {d : D} {v : V}, Rep K H r d v → Rep K H' r' d v
  | .non, _, h => h
  | .bl _, _, h => h
  | .int _, _, h => h
  | .str _, _, h => h
  | .tup ds, _, ⟨a, vs, e1, h1, h2⟩ => ⟨a, vs, e1, e.sqt h1, Reps.stay e h2⟩
  | .lst ds, _, ⟨a, vs, e1, h1, h2⟩ => ⟨a, vs, e1, e.fzl h1, Reps.stay e h2⟩
  | .scr ds, _, ⟨a, vs, e1, h1, h2⟩ => ⟨a, vs, e1, e.scl h1, Reps.stay e h2⟩
  | .ref n, _, ⟨a, e1, h1⟩ => ⟨a, e1, e.get _ _ h1⟩
  | .ty _, _, h => h
theorem Reps.stay (e : Stay H r H' r') : ∀ {ds : List D} {vs : List V}, Reps K H r ds vs → Reps K H' r' ds vs
  | [], _, h => h
  | _ :: _, _, ⟨v, ws, e1, h1, h2⟩ => ⟨v, ws, e1, Rep.stay e h1, Reps.stay e h2⟩
end
theorem Rep.ext {d : D} {v : V} (h : Rep K H r d v) (S : Sim K H r M) (e : Ext H r M H' r' M') : Rep K H' r' d v := h.stay (e.stay S)
theorem Reps.ext {d : List D} {v : List V} (h : Reps K H r d v) (S : Sim K H r M) (e : Ext H r M H' r' M') : Reps K H' r' d v := h.stay (e.stay S)
theorem Reps.length : ∀ {ds : List D} {vs : List V}, Reps K H r ds vs → ds.length = vs.length
  | [], _, h => by cases h; rfl
  | _ :: _, _, ⟨v, ws, e1, h1, h2⟩ => by cases e1; simp [Reps.length h2]
theorem Reps.get : ∀ {ds : List D} {vs : List V} {i : Nat} {d : D}, Reps K H r ds vs → ds[i]? = some d → ∃ v, vs[i]? = some v ∧ Rep K H r d v
  | [], _, _, _, _, e => by simp at e
  | _ :: _, _, 0, _, ⟨v, ws, e1, h1, h2⟩, e => by cases e1; simp at e; subst e; exact ⟨v, rfl, h1⟩
  | _ :: _, _, i + 1, d, ⟨v, ws, e1, h1, h2⟩, e => by
    cases e1
    obtain ⟨x, a, b⟩ := Reps.get (i := i) (d := d) h2 (by simpa using e)
    exact ⟨x, by simpa using a, b⟩
theorem Reps.append : ∀ {ds es : List D} {vs ws : List V}, Reps K H r ds vs → Reps K H r es ws → Reps K H r (ds ++ es) (vs ++ ws)
  | [], _, _, _, h, h' => by cases h; exact h'
  | _ :: _, _, _, _, ⟨v, xs, e1, h1, h2⟩, h' => by cases e1; exact ⟨v, _, rfl, h1, Reps.append h2 h'⟩
theorem Reps.one {d : D} {v : V} (h : Rep K H r d v) : Reps K H r [d] [v] := ⟨v, [], rfl, h, rfl⟩
theorem Reps.set : ∀ {ds : List D} {vs : List V} {d : D} {v : V} (i : Nat), Reps K H r ds vs → Rep K H r d v → Reps K H r (ds.set i d) (vs.set i v)
  | [], _, _, _, _, h, _ => by cases h; rfl
  | _ :: _, _, _, _, 0, ⟨v, ws, e1, h1, h2⟩, h => by cases e1; exact ⟨_, _, rfl, h, h2⟩
  | _ :: _, _, _, _, i + 1, ⟨v, ws, e1, h1, h2⟩, h => by cases e1; exact ⟨_, _, rfl, h1, Reps.set i h2 h⟩
theorem Reps.take : ∀ {ds : List D} {vs : List V} (n : Nat), Reps K H r ds vs → Reps K H r (ds.take n) (vs.take n)
  | [], _, n, h => by cases h; simp; rfl
  | _ :: _, _, 0, _ => rfl
  | _ :: _, _, n + 1, ⟨v, ws, e1, h1, h2⟩ => by cases e1; exact ⟨v, _, rfl, h1, Reps.take n h2⟩
theorem Reps.drop : ∀ {ds : List D} {vs : List V} (n : Nat), Reps K H r ds vs → Reps K H r (ds.drop n) (vs.drop n)
  | [], _, n, h => by cases h; simp; rfl
  | _ :: _, _, 0, h => h
  | _ :: _, _, n + 1, ⟨v, ws, e1, h1, h2⟩ => by cases e1; exact Reps.drop n h2
theorem Reps.none_of {ds : List D} {vs : List V} {i : Nat} (h : Reps K H r ds vs) (e : ds[i]? = none) : vs[i]? = none := by
  have := h.length
  rw [List.getElem?_eq_none_iff] at e ⊢
  omega
end
end Wn
end

section
set_option Elab.async false
set_option linter.all false
set_option maxRecDepth 100000
namespace Wn
open PySem PySem.Spec PyProof.Rows L2

/-- what is wanted of an exception -/
abbrev ZK := D → Hp → List Addr → Mem → Prop
abbrev ZS := St → ZK
def bnd {α β : Type} (m : Mem → Res α) (k : α → Mem → Res β) : Mem → Res β := fun M => match m M with
  | .ok a M1 => k a M1
  | .err e M1 => .err e M1
  | .bad => .bad
def ret {α : Type} (a : α) : Mem → Res α := fun M => .ok a M
def stuck {α : Type} : Mem → Res α := fun _ => .bad
def opt (o : Option D) : Mem → Res D := fun M => match o with
  | some d => .ok d M
  | none => .bad
def Aft (K : PySem.W.Frag) (Z : ZK) (H : Hp) (r : List Addr) (M : Mem) (res : Res D) (Q : VK) : Prop := match res with
  | .ok d M' => ∀ v H' r', Ext H r M H' r' M' → Sim K H' r' M' → Rep K H' r' d v → Q v H'
  | .err e M' => ∀ H' r', Ext H r M H' r' M' → Sim K H' r' M' → Z e H' r' M'
  | .bad => False
def AftB (K : PySem.W.Frag) (Z : ZK) (H : Hp) (r : List Addr) (M : Mem) (res : Res Bool) (Q : Bool → Hp → Prop) : Prop := match res with
  | .ok d M' => ∀ H' r', Ext H r M H' r' M' → Sim K H' r' M' → Q d H'
  | .err e M' => ∀ H' r', Ext H r M H' r' M' → Sim K H' r' M' → Z e H' r' M'
  | .bad => False
def AftL (K : PySem.W.Frag) (Z : ZK) (H : Hp) (r : List Addr) (M : Mem) (res : Res (List D)) (Q : List V → Hp → Prop) : Prop := match res with
  | .ok d M' => ∀ v H' r', Ext H r M H' r' M' → Sim K H' r' M' → Reps K H' r' d v → Q v H'
  | .err e M' => ∀ H' r', Ext H r M H' r' M' → Sim K H' r' M' → Z e H' r' M'
  | .bad => False
/-- the slots -/
def EnvRep (K : PySem.W.Frag) (H : Hp) (r : List Addr) (σ : St) (δ : Env) : Prop :=
  σ.length = δ.length ∧ ∀ (i : Nat) d, δ[i]? = some (some d) → ∃ v, σ[i]? = some (some v) ∧ Rep K H r d v
def tM (K : PySem.W.Frag) (Z : ZS) (f : Env → Mem → Res D) : TE := fun σ H Q => ∃ δ r M, EnvRep K H r σ δ ∧ Sim K H r M ∧ Aft K (Z σ) H r M (f δ M) Q
def tB (K : PySem.W.Frag) (Z : ZS) (f : Env → Mem → Res Bool) : TT := fun σ H Q => ∃ δ r M, EnvRep K H r σ δ ∧ Sim K H r M ∧ AftB K (Z σ) H r M (f δ M) Q
def tL (K : PySem.W.Frag) (Z : ZS) (f : Env → Mem → Res (List D)) : TA := fun σ H Q => ∃ δ r M, EnvRep K H r σ δ ∧ Sim K H r M ∧ AftL K (Z σ) H r M (f δ M) Q

section
variable {K : PySem.W.Frag} {Z : ZK} {H H1 H2 H' : Hp} {r r1 r2 r' : List Addr} {M M1 M2 M' : Mem} {σ : St} {δ : Env}
theorem EnvRep.ext (h : EnvRep K H r σ δ) (S : Sim K H r M) (e : Ext H r M H' r' M') : EnvRep K H' r' σ δ :=
  ⟨h.1, fun i d q => let ⟨v, a, b⟩ := h.2 i d q; ⟨v, a, b.ext S e⟩⟩
theorem EnvRep.set {i : Nat} {d : D} {v : V} (h : EnvRep K H r σ δ) (q : Rep K H r d v) : EnvRep K H r (σ.set i (some v)) (δ.set i (some d)) := by
  refine ⟨by simp [h.1], fun j e hj => ?_⟩
  by_cases hij : i = j
  · subst hij
    by_cases hl : i < δ.length
    · rw [List.getElem?_set_self hl] at hj
      cases hj
      exact ⟨v, by rw [List.getElem?_set_self (by rw [h.1]; exact hl)], q⟩
    · rw [List.getElem?_eq_none (by simpa using hl)] at hj
      cases hj
  · rw [List.getElem?_set_ne hij] at hj ⊢
    exact h.2 j e hj
theorem EnvRep.unset {i : Nat} (h : EnvRep K H r σ δ) : EnvRep K H r (σ.set i none) (δ.set i none) := by
  refine ⟨by simp [h.1], fun j e hj => ?_⟩
  by_cases hij : i = j
  · subst hij
    by_cases hl : i < δ.length
    · rw [List.getElem?_set_self hl] at hj
      cases hj
    · rw [List.getElem?_eq_none (by simpa using hl)] at hj
      cases hj
  · rw [List.getElem?_set_ne hij] at hj ⊢
    exact h.2 j e hj
theorem Aft.step {res : Res D} {Q : VK} (S : Sim K H r M) (S1 : Sim K H1 r1 M1) (e : Ext H r M H1 r1 M1) (h : Aft K Z H r M res Q) : Aft K Z H1 r1 M1 res Q := by
  cases res with
  | ok d M' => exact fun v H' r' x s q => h v H' r' (e.trans S S1 x) s q
  | err d M' => exact fun H' r' x s => h H' r' (e.trans S S1 x) s
  | bad => exact h
theorem AftB.step {res : Res Bool} {Q : Bool → Hp → Prop} (S : Sim K H r M) (S1 : Sim K H1 r1 M1) (e : Ext H r M H1 r1 M1) (h : AftB K Z H r M res Q) : AftB K Z H1 r1 M1 res Q := by
  cases res with
  | ok d M' => exact fun H' r' x s => h H' r' (e.trans S S1 x) s
  | err d M' => exact fun H' r' x s => h H' r' (e.trans S S1 x) s
  | bad => exact h
theorem AftL.step {res : Res (List D)} {Q : List V → Hp → Prop} (S : Sim K H r M) (S1 : Sim K H1 r1 M1) (e : Ext H r M H1 r1 M1) (h : AftL K Z H r M res Q) : AftL K Z H1 r1 M1 res Q := by
  cases res with
  | ok d M' => exact fun v H' r' x s q => h v H' r' (e.trans S S1 x) s q
  | err d M' => exact fun H' r' x s => h H' r' (e.trans S S1 x) s
  | bad => exact h
/-- the first part, and what is wanted behind it -/
theorem Aft.bind {m : Mem → Res D} {k : D → Mem → Res D} {Q : VK} (S : Sim K H r M) (h : Aft K Z H r M (bnd m k M) Q) :
    Aft K Z H r M (m M) (fun v H1 => ∃ d1 M1 r1, m M = .ok d1 M1 ∧ Ext H r M H1 r1 M1 ∧ Sim K H1 r1 M1 ∧ Rep K H1 r1 d1 v ∧ Aft K Z H1 r1 M1 (k d1 M1) Q) := by
  unfold bnd at h
  cases e : m M with
  | ok d M' =>
    rw [e] at h
    exact fun v H' r' x s q => ⟨d, M', r', rfl, x, s, q, Aft.step S s x h⟩
  | err d M' => rw [e] at h; exact h
  | bad => rw [e] at h; exact h
theorem AftB.bind {m : Mem → Res D} {k : D → Mem → Res Bool} {Q : Bool → Hp → Prop} (S : Sim K H r M) (h : AftB K Z H r M (bnd m k M) Q) :
    Aft K Z H r M (m M) (fun v H1 => ∃ d1 M1 r1, m M = .ok d1 M1 ∧ Ext H r M H1 r1 M1 ∧ Sim K H1 r1 M1 ∧ Rep K H1 r1 d1 v ∧ AftB K Z H1 r1 M1 (k d1 M1) Q) := by
  unfold bnd at h
  cases e : m M with
  | ok d M' =>
    rw [e] at h
    exact fun v H' r' x s q => ⟨d, M', r', rfl, x, s, q, AftB.step S s x h⟩
  | err d M' => rw [e] at h; exact h
  | bad => rw [e] at h; exact h
theorem AftL.bind {m : Mem → Res D} {k : D → Mem → Res (List D)} {Q : List V → Hp → Prop} (S : Sim K H r M) (h : AftL K Z H r M (bnd m k M) Q) :
    Aft K Z H r M (m M) (fun v H1 => ∃ d1 M1 r1, m M = .ok d1 M1 ∧ Ext H r M H1 r1 M1 ∧ Sim K H1 r1 M1 ∧ Rep K H1 r1 d1 v ∧ AftL K Z H1 r1 M1 (k d1 M1) Q) := by
  unfold bnd at h
  cases e : m M with
  | ok d M' =>
    rw [e] at h
    exact fun v H' r' x s q => ⟨d, M', r', rfl, x, s, q, AftL.step S s x h⟩
  | err d M' => rw [e] at h; exact h
  | bad => rw [e] at h; exact h
theorem Aft.bindL {m : Mem → Res (List D)} {k : List D → Mem → Res D} {Q : VK} (S : Sim K H r M) (h : Aft K Z H r M (bnd m k M) Q) :
    AftL K Z H r M (m M) (fun v H1 => ∃ d1 M1 r1, m M = .ok d1 M1 ∧ Ext H r M H1 r1 M1 ∧ Sim K H1 r1 M1 ∧ Reps K H1 r1 d1 v ∧ Aft K Z H1 r1 M1 (k d1 M1) Q) := by
  unfold bnd at h
  cases e : m M with
  | ok d M' =>
    rw [e] at h
    exact fun v H' r' x s q => ⟨d, M', r', rfl, x, s, q, Aft.step S s x h⟩
  | err d M' => rw [e] at h; exact h
  | bad => rw [e] at h; exact h
theorem AftL.bindL {m : Mem → Res (List D)} {k : List D → Mem → Res (List D)} {Q : List V → Hp → Prop} (S : Sim K H r M) (h : AftL K Z H r M (bnd m k M) Q) :
    AftL K Z H r M (m M) (fun v H1 => ∃ d1 M1 r1, m M = .ok d1 M1 ∧ Ext H r M H1 r1 M1 ∧ Sim K H1 r1 M1 ∧ Reps K H1 r1 d1 v ∧ AftL K Z H1 r1 M1 (k d1 M1) Q) := by
  unfold bnd at h
  cases e : m M with
  | ok d M' =>
    rw [e] at h
    exact fun v H' r' x s q => ⟨d, M', r', rfl, x, s, q, AftL.step S s x h⟩
  | err d M' => rw [e] at h; exact h
  | bad => rw [e] at h; exact h
theorem Aft.bindB {m : Mem → Res Bool} {k : Bool → Mem → Res D} {Q : VK} (S : Sim K H r M) (h : Aft K Z H r M (bnd m k M) Q) :
    AftB K Z H r M (m M) (fun v H1 => ∃ M1 r1, m M = .ok v M1 ∧ Ext H r M H1 r1 M1 ∧ Sim K H1 r1 M1 ∧ Aft K Z H1 r1 M1 (k v M1) Q) := by
  unfold bnd at h
  cases e : m M with
  | ok d M' =>
    rw [e] at h
    exact fun H' r' x s => ⟨M', r', rfl, x, s, Aft.step S s x h⟩
  | err d M' => rw [e] at h; exact h
  | bad => rw [e] at h; exact h
theorem AftB.bindB {m : Mem → Res Bool} {k : Bool → Mem → Res Bool} {Q : Bool → Hp → Prop} (S : Sim K H r M) (h : AftB K Z H r M (bnd m k M) Q) :
    AftB K Z H r M (m M) (fun v H1 => ∃ M1 r1, m M = .ok v M1 ∧ Ext H r M H1 r1 M1 ∧ Sim K H1 r1 M1 ∧ AftB K Z H1 r1 M1 (k v M1) Q) := by
  unfold bnd at h
  cases e : m M with
  | ok d M' =>
    rw [e] at h
    exact fun H' r' x s => ⟨M', r', rfl, x, s, AftB.step S s x h⟩
  | err d M' => rw [e] at h; exact h
  | bad => rw [e] at h; exact h
theorem Aft.opt {o : Option D} {Q : VK} (h : Aft K Z H r M (opt o M) Q) : ∃ d, o = some d ∧ ∀ v H' r', Ext H r M H' r' M → Sim K H' r' M → Rep K H' r' d v → Q v H' := by
  cases o with
  | none => exact h.elim
  | some d => exact ⟨d, rfl, h⟩
/-! ### new things -/
theorem ext_new {p : Addr} {o : HO} (S : Sim K H r M) (hp : H p = none) : Ext H r M (upd H p o) r M :=
  ⟨⟨[], by simp⟩, fun b u e _ => (by rw [upd_ne (ne_of_none e hp)]; exact e), fun n b h e => (by rw [List.getElem?_eq_none h] at e; cases e), fun _ h => h⟩
theorem stay_new {p : Addr} {o : HO} (hp : H p = none) : Stay H r (upd H p o) r :=
  ⟨fun b u e => (by rw [upd_ne (ne_of_none e hp)]; exact e), fun b u x e => (by rw [upd_ne (ne_of_none e hp)]; exact e), fun _ _ h => h⟩
theorem CellRep.stay {a : Addr} {c : Cell} (e : Stay H r H' r') (h : CellRep K H r a c) (k : ∀ o, H a = some o → H' a = some o) : CellRep K H' r' a c := by
  cases c with
  | lst ds => obtain ⟨vs, e1, h1⟩ := h; exact ⟨vs, k _ e1, h1.stay e⟩
  | dct kvs => obtain ⟨vs, e1, h0, h1⟩ := h; exact ⟨vs, k _ e1, h0, h1.stay e⟩
  | dead => obtain ⟨o, e1⟩ := h; exact ⟨o, k _ e1⟩
theorem sim_new {p : Addr} {o : HO} (S : Sim K H r M) (hp : H p = none) : Sim K (upd H p o) r M :=
  ⟨S.len, S.inj, fun n a c h1 h2 => (S.cell n a c h1 h2).stay (stay_new hp) fun u e => by rw [upd_ne (ne_of_none e hp)]; exact e⟩
/-- a new tuple -/
theorem Aft.tup {p : Addr} {ds : List D} {vs : List V} {Q : VK} (S : Sim K H r M) (hp : H p = none) (q : Reps K H r ds vs) (h : Aft K Z H r M (.ok (.tup ds) M) Q) : Q (.ref p) (upd H p (.tup vs)) :=
  h _ _ r (ext_new S hp) (sim_new S hp) ⟨p, vs, rfl, .of upd_same, q.stay (stay_new hp)⟩
/-- a new list, frozen at once -/
theorem Aft.fzl {p : Addr} {o : Obj} {ds : List D} {vs : List V} {Q : VK} (S : Sim K H r M) (hp : H p = none) (q : Reps K H r ds vs) (h : Aft K Z H r M (.ok (.lst ds) M) Q) : Q (.ref p) (upd H p (.frz o (.lst vs))) :=
  h _ _ r (ext_new S hp) (sim_new S hp) ⟨p, vs, rfl, ⟨o, upd_same⟩, q.stay (stay_new hp)⟩
end

/-! ### freezing: a step of the abstract heap alone -/
section
variable {X : Cx} {pins : List (Addr × Obj)} {σ : St} {H : Hp} {s : Shared}
theorem inv_freeze {a : Addr} {xs : List V} (I : Inv X pins σ H s) (h : H a = some (.lst xs)) : ∃ o, Inv X pins σ (upd H a (.frz o (.lst xs))) s := by
  obtain ⟨hz, its, n, rv, e⟩ : xs.length ≤ sizeLine ∧ ∃ (its : List Value) (n : Nat), Vals xs its ∧ s.heap.get? a = some { cls := .type "list", data := .seq its.toArray n } := I.hok a _ h
  have hn : ∀ b, H b = none → b ≠ a := fun b q z => by rw [z, h] at q; cases q
  have hnt : ∀ b (u : HO), H b = some u → (∀ ys, u ≠ .lst ys) → b ≠ a := fun b u q z w => by rw [w, h] at q; cases q; exact z _ rfl
  have J := I.un (h' := s.heap) (t' := s.toks) (H' := upd H a (.frz { cls := .type "list", data := .seq its.toArray n } (.lst xs)))
    ⟨fun b o q _ _ _ => q, fun b o q _ _ _ => ⟨o.slots, q⟩, fun b o _ q _ => (by rw [upd_ne (hn b q)]; exact q), fun b o q _ => ⟨o, q⟩,
      fun b ys q => (by rw [upd_ne (hnt b _ q fun _ z => nomatch z)]; exact q), fun b o ys q => (by rw [upd_ne (hnt b _ q fun _ z => nomatch z)]; exact q),
      fun b ps q => ⟨#[], by rw [upd_ne (hnt b _ q fun _ z => nomatch z), q]; simp⟩⟩
    (fun b u q => by
      by_cases hb : b = a
      · subst hb
        rw [upd_same] at q
        cases q
        exact ⟨e, hz, its, n, rv, e⟩
      · rw [upd_ne hb] at q
        exact (I.hok b u q).stay (fun c v _ z => z) (fun c z => by rw [upd_ne (hnt c _ z fun _ w => nomatch w)]; exact z) fun c xs z => by rw [upd_ne (hnt c _ z fun _ w => nomatch w)]; exact z)
  exact ⟨_, J⟩
/-- what gives a new list gives a frozen one -/
theorem EP.freeze {Q : VK} {u : Value} {s' : Shared} (h : EP X pins σ (fun v H1 => ∃ a xs, v = .ref a ∧ H1 a = some (.lst xs) ∧ ∀ o, Q v (upd H1 a (.frz o (.lst xs)))) u s') : EP X pins σ Q u s' := by
  obtain ⟨v, H1, I, rv, a, xs, ev, ha, q⟩ := h
  obtain ⟨o, J⟩ := inv_freeze I ha
  exact ⟨v, _, J, rv, q o⟩
end
end Wn
end

section
set_option Elab.async false
set_option linter.all false
set_option maxRecDepth 100000
set_option maxHeartbeats 4000000
namespace Wn
open PySem PySem.Spec PyProof.Rows L2

/-- what is wanted of a value behind a step that leaves the mirror heap -/
abbrev Wnt (K : PySem.W.Frag) (H : Hp) (r : List Addr) (M : Mem) (d : D) (Q : VK) : Prop := ∀ v H' r', Ext H r M H' r' M → Sim K H' r' M → Rep K H' r' d v → Q v H'
/-- a two-place operation by values -/
def Op2 (X : Cx) (f : Value → Value → Sem Value) (g : Mem → D → D → Option D) : Prop :=
  ∀ (pins : List (Addr × Obj)) (s : Shared) (σ : St) (H : Hp) (r : List Addr) (M : Mem) (x y : V) (v u : Value) (dx dy d : D) (Q : VK), Inv X pins σ H s → RelV x v → RelV y u → Sim X.K H r M → Rep X.K H r dx x → Rep X.K H r dy y → g M dx dy = some d →
    Wnt X.K H r M d Q → wpAny (model X.prog X.w) X.A (f v u) (EP X pins σ Q) X.xe s
/-- a call of a value that is known -/
def CallS (X : Cx) (f : Value) (g : Mem → List D → Option D) : Prop :=
  ∀ (pins : List (Addr × Obj)) (s : Shared) (σ : St) (H : Hp) (r : List Addr) (M : Mem) (xs : List V) (us : List Value) (ds : List D) (d : D) (Q : VK), Inv X pins σ H s → Vals xs us → Sim X.K H r M → Reps X.K H r ds xs → g M ds = some d →
    Wnt X.K H r M d Q → wpAny (model X.prog X.w) X.A (call f us) (EP X pins σ Q) X.xe s
section
variable {K : PySem.W.Frag} {H : Hp} {r : List Addr} {M : Mem} {d : D} {Q : VK}
theorem Wnt.here (S : Sim K H r M) (h : Wnt K H r M d Q) {v : V} (q : Rep K H r d v) : Q v H := h v H r Ext.refl S q
theorem Wnt.tup (S : Sim K H r M) {ds : List D} {vs : List V} (h : Wnt K H r M (.tup ds) Q) (q : Reps K H r ds vs) : ∀ p, H p = none → Q (.ref p) (upd H p (.tup vs)) :=
  fun p hp => Aft.tup (Z := fun _ _ _ _ => True) S hp q h
/-- what is wanted of a new list that is frozen at once -/
def QFz (Q : VK) : VK := fun v H1 => ∃ a xs, v = .ref a ∧ H1 a = some (.lst xs) ∧ ∀ o, Q v (upd H1 a (.frz o (.lst xs)))
theorem Wnt.fzl (S : Sim K H r M) {ds : List D} {vs : List V} (h : Wnt K H r M (.lst ds) Q) (q : Reps K H r ds vs) : ∀ p, H p = none → QFz Q (.ref p) (upd H p (.lst vs)) :=
  fun p hp => ⟨p, vs, rfl, upd_same, fun o => by rw [upd_upd]; exact Aft.fzl (Z := fun _ _ _ _ => True) S hp q h⟩
end
theorem Op2.of {X : Cx} {f : Value → Value → Sem Value} {g : Mem → D → D → Option D} {rr : R2} (h : OpR X f rr)
    (hr : ∀ (H : Hp) (r : List Addr) (M : Mem) (x y : V) (dx dy d : D) (Q : VK), Sim X.K H r M → Rep X.K H r dx x → Rep X.K H r dy y → g M dx dy = some d → Wnt X.K H r M d Q → rr x y H Q) : Op2 X f g :=
  fun pins s σ H r M x y v u dx dy d Q I rx ry S qx qy e w => h pins s σ H x y v u Q I rx ry (hr H r M x y dx dy d Q S qx qy e w)
theorem Op2.or {X : Cx} {f : Value → Value → Sem Value} {g g' : Mem → D → D → Option D} (h : Op2 X f g) (h' : Op2 X f g') : Op2 X f (fun M a b => (g M a b).or (g' M a b)) :=
  fun pins s σ H r M x y v u dx dy d Q I rx ry S qx qy e w => by
    cases q : g M dx dy with
    | some d' =>
      have e' : (g M dx dy).or (g' M dx dy) = some d := e
      rw [q] at e'
      cases e'
      exact h pins s σ H r M x y v u dx dy _ Q I rx ry S qx qy q w
    | none =>
      have e' : (g M dx dy).or (g' M dx dy) = some d := e
      rw [q] at e'
      exact h' pins s σ H r M x y v u dx dy d Q I rx ry S qx qy e' w
theorem Op2.congr {X : Cx} {f : Value → Value → Sem Value} {g g' : Mem → D → D → Option D} (h : Op2 X f g) (e : ∀ M a b d, g' M a b = some d → g M a b = some d) : Op2 X f g' :=
  fun pins s σ H r M x y v u dx dy d Q I rx ry S qx qy q w => h pins s σ H r M x y v u dx dy d Q I rx ry S qx qy (e _ _ _ _ q) w
theorem CallS.of {X : Cx} {f : Value} {g : Mem → List D → Option D} {rr : List V → Hp → VK → Prop} (h : CallR X f rr)
    (hr : ∀ (H : Hp) (r : List Addr) (M : Mem) (xs : List V) (ds : List D) (d : D) (Q : VK), Sim X.K H r M → Reps X.K H r ds xs → g M ds = some d → Wnt X.K H r M d Q → rr xs H Q) : CallS X f g :=
  fun pins s σ H r M xs us ds d Q I rx S qx e w => h pins s σ H xs us Q I rx (hr H r M xs ds d Q S qx e w)
theorem CallS.ofF {X : Cx} {f : Value} {g : Mem → List D → Option D} {rr : List V → Hp → VK → Prop} (h : CallR X f rr)
    (hr : ∀ (H : Hp) (r : List Addr) (M : Mem) (xs : List V) (ds : List D) (d : D) (Q : VK), Sim X.K H r M → Reps X.K H r ds xs → g M ds = some d → Wnt X.K H r M d Q → rr xs H (QFz Q)) : CallS X f g :=
  fun pins s σ H r M xs us ds d Q I rx S qx e w => thn (h pins s σ H xs us (QFz Q) I rx (hr H r M xs ds d Q S qx e w)) fun u s' q => EP.freeze q
theorem CallS.or {X : Cx} {f : Value} {g g' : Mem → List D → Option D} (h : CallS X f g) (h' : CallS X f g') : CallS X f (fun M a => (g M a).or (g' M a)) :=
  fun pins s σ H r M xs us ds d Q I rx S qx e w => by
    cases q : g M ds with
    | some d' =>
      have e' : (g M ds).or (g' M ds) = some d := e
      rw [q] at e'
      cases e'
      exact h pins s σ H r M xs us ds _ Q I rx S qx q w
    | none =>
      have e' : (g M ds).or (g' M ds) = some d := e
      rw [q] at e'
      exact h' pins s σ H r M xs us ds d Q I rx S qx e' w
theorem CallS.congr {X : Cx} {f : Value} {g g' : Mem → List D → Option D} (h : CallS X f g) (e : ∀ M a d, g' M a = some d → g M a = some d) : CallS X f g' :=
  fun pins s σ H r M xs us ds d Q I rx S qx q w => h pins s σ H r M xs us ds d Q I rx S qx (e _ _ _ q) w

/-! ### lists that are read: frozen ones, cells -/
def lstX (M : Mem) : D → Option (List D)
  | .lst ds => some ds
  | .ref n => match M[n]? with
    | some (.lst ds) => some ds
    | _ => none
  | _ => none
/-- a list that lies as the abstract heap says -/
def XL (H : Hp) (a : Addr) (vs : List V) : Prop := H a = some (.lst vs) ∨ FzL H a vs
theorem XL.sql {K : PySem.W.Frag} {H : Hp} {a : Addr} {xs : List V} (h : XL H a xs) : SqL K H a xs := by
  rcases h with h | h
  · exact .of h
  · exact h.sql
theorem lstX_rep {K : PySem.W.Frag} {H : Hp} {r : List Addr} {M : Mem} {d : D} {ds : List D} {v : V} (S : Sim K H r M) (h : Rep K H r d v) (e : lstX M d = some ds) : ∃ a vs, v = .ref a ∧ XL H a vs ∧ Reps K H r ds vs := by
  cases d with
  | lst es =>
    cases e
    obtain ⟨a, vs, e1, h1, h2⟩ := h
    exact ⟨a, vs, e1, .inr h1, h2⟩
  | ref n =>
    obtain ⟨a, e1, h1⟩ := h
    have e' : (match M[n]? with | some (.lst ds) => some ds | _ => none) = some ds := e
    cases q : M[n]? with
    | none => rw [q] at e'; cases e'
    | some c =>
      rw [q] at e'
      cases c with
      | dead => cases e'
      | dct _ => cases e'
      | lst es =>
        cases e'
        obtain ⟨vs, h2, h3⟩ := S.cell n a _ h1 q
        exact ⟨a, vs, e1, .inl h2, h3⟩
  | _ => cases e
theorem XL.at {X : Cx} {pins : List (Addr × Obj)} {σ : St} {H : Hp} {s : Shared} {l : Addr} {xs : List V} (I : Inv X pins σ H s) (h : XL H l xs) :
    xs.length ≤ sizeLine ∧ ∃ (its : List Value) (n : Nat), Vals xs its ∧ xs.length = its.length ∧ s.heap.get? l = some { cls := .type "list", data := .seq its.toArray n } := by
  rcases h with h | ⟨o, h⟩
  · obtain ⟨z, its, n, q, e⟩ : xs.length ≤ sizeLine ∧ ∃ (its : List Value) (n : Nat), Vals xs its ∧ s.heap.get? l = some { cls := .type "list", data := .seq its.toArray n } := I.hok l _ h
    exact ⟨z, its, n, q, q.length, e⟩
  · obtain ⟨_, z, its, n, q, e⟩ : s.heap.get? l = some o ∧ xs.length ≤ sizeLine ∧ ∃ (its : List Value) (n : Nat), Vals xs its ∧ s.heap.get? l = some { cls := .type "list", data := .seq its.toArray n } := I.hok l _ h
    exact ⟨z, its, n, q, q.length, e⟩
def lstOf (M : Mem) : D → Option (List D)
  | .lst ds => some ds
  | .scr ds => some ds
  | .ref n => match M[n]? with
    | some (.lst ds) => some ds
    | _ => none
  | _ => none
theorem lstOf_rep {K : PySem.W.Frag} {H : Hp} {r : List Addr} {M : Mem} {d : D} {ds : List D} {v : V} (S : Sim K H r M) (h : Rep K H r d v) (e : lstOf M d = some ds) : ∃ a vs, v = .ref a ∧ SqL K H a vs ∧ Reps K H r ds vs := by
  cases d with
  | lst es =>
    cases e
    obtain ⟨a, vs, e1, h1, h2⟩ := h
    exact ⟨a, vs, e1, h1.sql, h2⟩
  | scr es =>
    cases e
    obtain ⟨a, vs, e1, h1, h2⟩ := h
    exact ⟨a, vs, e1, h1.sql, h2⟩
  | ref n =>
    obtain ⟨a, e1, h1⟩ := h
    have e' : (match M[n]? with | some (.lst ds) => some ds | _ => none) = some ds := e
    cases q : M[n]? with
    | none => rw [q] at e'; cases e'
    | some c =>
      rw [q] at e'
      cases c with
      | dead => cases e'
      | dct _ => cases e'
      | lst es =>
        cases e'
        obtain ⟨vs, h2, h3⟩ := S.cell n a _ h1 q
        exact ⟨a, vs, e1, .of h2, h3⟩
  | _ => cases e
/-! ### data as a whole -/
mutual
def toPy : D → Option PyData
  | .non => some .none
  | .bl b => some (.bool b)
  | .int i => some (.int i)
  | .str x => some (.str x)
  | .tup ds => (toPys ds).map .tuple
  | .lst ds => (toPys ds).map .list
  | .scr _ => none
  | .ref _ => none
  | .ty _ => none
def toPys : List D → Option (List PyData)
  | [] => some []
  | d :: ds => match toPy d, toPys ds with
    | some p, some ps => some (p :: ps)
    | _, _ => none
end
def toPyM (M : Mem) (d : D) : Option PyData := match d with
  | .ref n => (match M[n]? with
    | some (.lst ds) => (toPys ds).map .list
    | _ => none)
  | d => toPy d
section
variable {K : PySem.W.Frag} {H : Hp} {r : List Addr} {M : Mem}
mutual
theorem dp_of : ∀ {d : D} {v : V} {p : PyData}, Rep K H r d v → toPy d = some p → Dp K H v p
  | .non, _, _, h, e => by cases h; cases e; exact .non
  | .bl b, _, _, h, e => by cases h; cases e; exact .bl b
  | .int i, _, _, h, e => by cases h; cases e; exact .int i
  | .str x, _, _, h, e => by cases h; cases e; exact .str x
  | .tup ds, _, _, h, e => by
    obtain ⟨a, vs, rfl, h1, h2⟩ := h
    have e' : (toPys ds).map PyData.tuple = some _ := e
    obtain ⟨ps, e1, rfl⟩ := Option.map_eq_some_iff.mp e'
    exact .tup h1 (dps_of h2 e1)
  | .lst ds, _, _, h, e => by
    obtain ⟨a, vs, rfl, h1, h2⟩ := h
    have e' : (toPys ds).map PyData.list = some _ := e
    obtain ⟨ps, e1, rfl⟩ := Option.map_eq_some_iff.mp e'
    exact .lst h1.sql (dps_of h2 e1)
  | .scr _, _, _, _, e => by cases e
  | .ref _, _, _, _, e => by cases e
  | .ty _, _, _, _, e => by cases e
theorem dps_of : ∀ {ds : List D} {vs : List V} {ps : List PyData}, Reps K H r ds vs → toPys ds = some ps → DpAll K H vs ps
  | [], _, _, h, e => by cases h; cases e; exact .nil
  | d :: ds, _, _, h, e => by
    obtain ⟨v, ws, rfl, h1, h2⟩ := h
    have e' : (match toPy d, toPys ds with | some p, some ps => some (p :: ps) | _, _ => none) = some _ := e
    cases q1 : toPy d with
    | none => rw [q1] at e'; cases e'
    | some p =>
      cases q2 : toPys ds with
      | none => rw [q1, q2] at e'; cases e'
      | some ps =>
        rw [q1, q2] at e'
        cases e'
        exact .cons (dp_of h1 q1) (dps_of h2 q2)
end
theorem dpM_of {d : D} {v : V} {p : PyData} (S : Sim K H r M) (h : Rep K H r d v) (e : toPyM M d = some p) : Dp K H v p := by
  cases d with
  | ref n =>
    obtain ⟨a, rfl, h1⟩ := h
    have e' : (match M[n]? with | some (.lst ds) => (toPys ds).map PyData.list | _ => none) = some p := e
    cases q : M[n]? with
    | none => rw [q] at e'; cases e'
    | some c =>
      rw [q] at e'
      cases c with
      | dead => cases e'
      | dct _ => cases e'
      | lst es =>
        obtain ⟨ps, e1, rfl⟩ := Option.map_eq_some_iff.mp e'
        obtain ⟨vs, h2, h3⟩ := S.cell n a _ h1 q
        exact .lst (.of h2) (dps_of h3 e1)
  | non => exact dp_of h e
  | bl b => exact dp_of h e
  | int i => exact dp_of h e
  | str x => exact dp_of h e
  | tup ds => exact dp_of h e
  | lst ds => exact dp_of h e
  | scr ds => exact dp_of h e
  | ty n => exact dp_of h e
end

/-! ### the operators -/
def gAdd : Mem → D → D → Option D := fun _ x y => match x, y with
  | .int i, .int j => some (.int (i + j))
  | .str a, .str b => if a.length + b.length ≤ sizeLine then some (.str (a ++ b)) else none
  | .tup a, .tup b => if a.length + b.length ≤ sizeLine then some (.tup (a ++ b)) else none
  | _, _ => none
def gAddL : Mem → D → D → Option D := fun M x y => match lstX M x, lstX M y with
  | some a, some b => if a.length + b.length ≤ sizeLine then some (.lst (a ++ b)) else none
  | _, _ => none
def gSub : Mem → D → D → Option D := fun _ x y => match x, y with
  | .int i, .int j => some (.int (i - j))
  | _, _ => none
def gMul : Mem → D → D → Option D := fun _ x y => match x, y with
  | .int i, .int j => if i.natAbs.log2 + j.natAbs.log2 < 1000000 then some (.int (i * j)) else none
  | .str a, .int j => if a.length ≤ 16 ∧ j.natAbs ≤ 1048576 then some (.str (Txt.mul a j)) else none
  | _, _ => none
def gMod : Mem → D → D → Option D := fun _ x y => match x, y with
  | .int i, .int j => if 0 < j then some (.int (i % j)) else none
  | _, _ => none
def gDiv : Mem → D → D → Option D := fun _ x y => match x, y with
  | .int i, .int j => if 0 < j ∧ j.natAbs.log2 < 9000 then some (.int (i / j)) else none
  | _, _ => none
def gPow : Mem → D → D → Option D := fun _ x y => match x, y with
  | .int i, .int j => if 0 ≤ j ∧ j.natAbs ≤ 1000 ∧ i.natAbs.log2 < 10000 then some (.int (i ^ j.toNat)) else none
  | _, _ => none
section
variable {X : Cx}
theorem o2_add : Op2 X (binaryOp .Add) gAdd := by
  intro pins s σ H r M x y v u dx dy d Q I rx ry S qx qy e w
  cases dx <;> cases dy <;> first
    | (cases e; done)
    | skip
  · cases qx; cases qy; cases e
    exact op_add pins s σ H _ _ v u Q I rx ry ⟨_, _, rfl, rfl, w.here S rfl⟩
  · rename_i a b
    cases qx; cases qy
    have e' : (if a.length + b.length ≤ sizeLine then some (D.str (a ++ b)) else none) = some d := e
    by_cases c : a.length + b.length ≤ sizeLine
    · rw [if_pos c] at e'
      cases e'
      exact op_add_str pins s σ H _ _ v u Q I rx ry ⟨_, _, rfl, rfl, c, w.here S rfl⟩
    · rw [if_neg c] at e'
      cases e'
  · rename_i a b
    have e' : (if a.length + b.length ≤ sizeLine then some (D.tup (a ++ b)) else none) = some d := e
    by_cases c : a.length + b.length ≤ sizeLine
    · rw [if_pos c] at e'
      cases e'
      obtain ⟨p, vs, rfl, h1, h2⟩ := qx
      obtain ⟨p', vs', rfl, h1', h2'⟩ := qy
      have l1 := h2.length
      have l2 := h2'.length
      refine op_catA pins s σ H _ _ v u Q I rx ry ⟨_, _, _, _, rfl, rfl, h1, h1', by omega, fun z => ?_, fun z z2 => ?_, fun _ _ => w.tup S (h2.append h2')⟩
      · subst z
        have ea : a = [] := List.length_eq_zero_iff.mp l1
        subst ea
        exact w.here S ⟨_, _, rfl, h1', h2'⟩
      · subst z2
        have eb : b = [] := List.length_eq_zero_iff.mp l2
        subst eb
        rw [List.append_nil] at w
        exact w.here S ⟨_, _, rfl, h1, h2⟩
    · rw [if_neg c] at e'
      cases e'
theorem o2_sub : Op2 X (binaryOp .Sub) gSub := by
  intro pins s σ H r M x y v u dx dy d Q I rx ry S qx qy e w
  cases dx <;> cases dy <;> first
    | (cases e; done)
    | skip
  cases qx; cases qy; cases e
  exact op_sub pins s σ H _ _ v u Q I rx ry ⟨_, _, rfl, rfl, w.here S rfl⟩
theorem o2_mul : Op2 X (binaryOp .Mult) gMul := by
  intro pins s σ H r M x y v u dx dy d Q I rx ry S qx qy e w
  cases dx <;> cases dy <;> first
    | (cases e; done)
    | skip
  · rename_i i j
    cases qx; cases qy
    have e' : (if i.natAbs.log2 + j.natAbs.log2 < 1000000 then some (D.int (i * j)) else none) = some d := e
    by_cases c : i.natAbs.log2 + j.natAbs.log2 < 1000000
    · rw [if_pos c] at e'
      cases e'
      exact op_mulW pins s σ H _ _ v u Q I rx ry ⟨_, _, rfl, rfl, c, w.here S rfl⟩
    · rw [if_neg c] at e'
      cases e'
  · rename_i a j
    cases qx; cases qy
    have e' : (if a.length ≤ 16 ∧ j.natAbs ≤ 1048576 then some (D.str (Txt.mul a j)) else none) = some d := e
    by_cases c : a.length ≤ 16 ∧ j.natAbs ≤ 1048576
    · rw [if_pos c] at e'
      cases e'
      obtain ⟨t, rfl⟩ := rx
      obtain ⟨t', rfl⟩ := ry
      exact SB.mul (mulOk_of 16 1048576 c.1 (by omega) (by omega) (by decide) (by decide)) fun t' k => ⟨.str _, H, I.tok _, ⟨_, rfl⟩, w.here S rfl⟩
    · rw [if_neg c] at e'
      cases e'
theorem o2_mod : Op2 X (binaryOp .Mod) gMod := by
  intro pins s σ H r M x y v u dx dy d Q I rx ry S qx qy e w
  cases dx <;> cases dy <;> first
    | (cases e; done)
    | skip
  rename_i i j
  cases qx; cases qy
  have e' : (if 0 < j then some (D.int (i % j)) else none) = some d := e
  by_cases c : 0 < j
  · rw [if_pos c] at e'
    cases e'
    exact op_mod pins s σ H _ _ v u Q I rx ry ⟨_, _, rfl, rfl, c, w.here S rfl⟩
  · rw [if_neg c] at e'
    cases e'
theorem o2_div : Op2 X (binaryOp .FloorDiv) gDiv := by
  intro pins s σ H r M x y v u dx dy d Q I rx ry S qx qy e w
  cases dx <;> cases dy <;> first
    | (cases e; done)
    | skip
  rename_i i j
  cases qx; cases qy
  have e' : (if 0 < j ∧ j.natAbs.log2 < 9000 then some (D.int (i / j)) else none) = some d := e
  by_cases c : 0 < j ∧ j.natAbs.log2 < 9000
  · rw [if_pos c] at e'
    cases e'
    exact op_fdivW pins s σ H _ _ v u Q I rx ry ⟨_, _, rfl, rfl, c, w.here S rfl⟩
  · rw [if_neg c] at e'
    cases e'
theorem o2_pow : Op2 X (binaryOp .Pow) gPow := by
  intro pins s σ H r M x y v u dx dy d Q I rx ry S qx qy e w
  cases dx <;> cases dy <;> first
    | (cases e; done)
    | skip
  rename_i i j
  cases qx; cases qy
  have e' : (if 0 ≤ j ∧ j.natAbs ≤ 1000 ∧ i.natAbs.log2 < 10000 then some (D.int (i ^ j.toNat)) else none) = some d := e
  by_cases c : 0 ≤ j ∧ j.natAbs ≤ 1000 ∧ i.natAbs.log2 < 10000
  · rw [if_pos c] at e'
    cases e'
    obtain ⟨t, rfl⟩ := rx
    obtain ⟨t', rfl⟩ := ry
    have b : Builtin.Int.intBits i ≤ i.natAbs.log2 + 1 := by
      unfold Builtin.Int.intBits
      split <;> omega
    refine pow_int c.1 ?_ ⟨.int _, H, I.tok _, ⟨_, rfl⟩, w.here S rfl⟩
    have h1 : (Builtin.Int.intBits i : Int) ≤ 10000 := by omega
    have h2 : (Builtin.Int.intBits i : Int) * j ≤ 10000 * 1000 := Int.mul_le_mul h1 (by omega) c.1 (by decide)
    exact Int.le_trans h2 (by decide)
  · rw [if_neg c] at e'
    cases e'
theorem o2_addL : Op2 X (binaryOp .Add) gAddL := by
  intro pins s σ H r M x y v u dx dy d Q I rx ry S qx qy e w
  have e' : (match lstX M dx, lstX M dy with | some a, some b => if a.length + b.length ≤ sizeLine then some (D.lst (a ++ b)) else none | _, _ => none) = some d := e
  cases q1 : lstX M dx with
  | none => rw [q1] at e'; cases e'
  | some as =>
    cases q2 : lstX M dy with
    | none => rw [q1, q2] at e'; cases e'
    | some bs =>
      rw [q1, q2] at e'
      have e2 : (if as.length + bs.length ≤ sizeLine then some (D.lst (as ++ bs)) else none) = some d := e'
      by_cases c : as.length + bs.length ≤ sizeLine
      · rw [if_pos c] at e2
        cases e2
        obtain ⟨a, vs, rfl, h1, h2⟩ := lstX_rep S qx q1
        obtain ⟨b, ws, rfl, h1', h2'⟩ := lstX_rep S qy q2
        have l1 := h2.length
        have l2 := h2'.length
        cases rx
        cases ry
        obtain ⟨z, its, n, q, hl, e⟩ := h1.at I
        obtain ⟨z2, its2, n2, qq, hl2, e2⟩ := h1'.at I
        refine thn (Q := EP X pins σ (QFz Q)) (PySem.P.add_list e e2 ?_ (by rw [List.size_toArray, List.size_toArray]; omega)) fun u s' q => EP.freeze q
        have ea : its.toArray ++ its2.toArray = (its ++ its2).toArray := by simp
        rw [ea]
        exact ⟨.ref _, _, I.lnew (t' := s.toks) (q.append qq) (by rw [List.length_append]; omega), rfl, w.fzl S (h2.append h2') _ I.fresh⟩
      · rw [if_neg c] at e2
        cases e2
end
end Wn
end

section
set_option Elab.async false
set_option linter.all false
set_option maxRecDepth 100000
set_option maxHeartbeats 4000000
namespace Wn
open PySem PySem.Spec PyProof.Rows L2

/-! ### comparisons -/
def opt2 {α β γ : Type} (a : Option α) (b : Option β) (f : α → β → Option γ) : Option γ := a.bind fun x => b.bind fun y => f x y
theorem of_opt2 {α β γ : Type} {a : Option α} {b : Option β} {f : α → β → Option γ} {d : γ} (h : opt2 a b f = some d) : ∃ x y, a = some x ∧ b = some y ∧ f x y = some d := by
  obtain ⟨x, e1, h⟩ := Option.bind_eq_some_iff.mp h
  obtain ⟨y, e2, h⟩ := Option.bind_eq_some_iff.mp h
  exact ⟨x, y, e1, e2, h⟩
def gEq : Mem → D → D → Option D := fun M x y => opt2 (toPyM M x) (toPyM M y) fun p q => if SeqAt.shaped p = true ∧ SeqAt.shaped q = true then some (.bl (PyData.eqv p q)) else none
def gNe : Mem → D → D → Option D := fun M x y => opt2 (toPyM M x) (toPyM M y) fun p q => if SeqAt.shaped p = true ∧ SeqAt.shaped q = true then some (.bl (!PyData.eqv p q)) else none
def gLt : Mem → D → D → Option D := fun _ x y => match x, y with
  | .int i, .int j => some (.bl (decide (i < j)))
  | .str a, .str b => some (.bl (decide (a.cps.toList < b.cps.toList)))
  | _, _ => none
def gLe : Mem → D → D → Option D := fun _ x y => match x, y with
  | .int i, .int j => some (.bl (decide (i ≤ j)))
  | .str a, .str b => some (.bl (!decide (b.cps.toList < a.cps.toList)))
  | _, _ => none
def gGt : Mem → D → D → Option D := fun _ x y => match x, y with
  | .int i, .int j => some (.bl (decide (j < i)))
  | .str a, .str b => some (.bl (decide (b.cps.toList < a.cps.toList)))
  | _, _ => none
def gGe : Mem → D → D → Option D := fun _ x y => match x, y with
  | .int i, .int j => some (.bl (decide (j ≤ i)))
  | .str a, .str b => some (.bl (!decide (a.cps.toList < b.cps.toList)))
  | _, _ => none
def strIn (a b : Str) : Bool := !(Builtin.Str.occurrences b a 0 b.length 1).isEmpty
def seqOf (M : Mem) : D → Option (List D)
  | .tup ds => some ds
  | .lst ds => some ds
  | .ref n => (match M[n]? with
    | some (.lst ds) => some ds
    | _ => none)
  | _ => none
def gIn : Mem → D → D → Option D := fun M x y => match x, y with
  | .str a, .str b => some (.bl (strIn a b))
  | x, y => opt2 (toPy x) ((seqOf M y).bind toPys) fun p ps => if SeqAt.shaped p = true ∧ PyData.canLayAll0 ps = true then some (.bl (ps.any fun q => PyData.eqv q p)) else none
def gNotIn : Mem → D → D → Option D := fun M x y => match gIn M x y with
  | some (.bl b) => some (.bl (!b))
  | _ => none
def isNon : D → Bool
  | .non => true
  | _ => false
def gIs : Mem → D → D → Option D := fun _ x y => match y with
  | .non => some (.bl (isNon x))
  | _ => none
def gIsNot : Mem → D → D → Option D := fun _ x y => match y with
  | .non => some (.bl (!isNon x))
  | _ => none
theorem isNon_rep {K : PySem.W.Frag} {H : Hp} {r : List Addr} {d : D} {v : V} (h : Rep K H r d v) : decide (v = .non) = isNon d := by
  cases d with
  | non => cases h; rfl
  | bl b => cases h; rfl
  | int i => cases h; rfl
  | str x => cases h; rfl
  | tup ds => obtain ⟨a, vs, rfl, _⟩ := h; rfl
  | lst ds => obtain ⟨a, vs, rfl, _⟩ := h; rfl
  | scr ds => obtain ⟨a, vs, rfl, _⟩ := h; rfl
  | ref n => obtain ⟨a, rfl, _⟩ := h; rfl
  | ty n => cases h; rfl
theorem of_ite {α : Type} {c : Prop} [Decidable c] {x d : α} (h : (if c then some x else none) = some d) : c ∧ x = d := by
  by_cases e : c
  · rw [if_pos e] at h
    exact ⟨e, Option.some.inj h⟩
  · rw [if_neg e] at h
    cases h
section
variable {X : Cx}
theorem o2_eq (hu : X.A.units + 64 < cLine) : Op2 X (compareOp .Eq) gEq := Op2.of (op_eqD hu) fun H r M x y dx dy d Q S qx qy e w => by
  obtain ⟨p, q, e1, e2, e3⟩ := of_opt2 e
  obtain ⟨c, rfl⟩ := of_ite e3
  exact ⟨p, q, dpM_of S qx e1, dpM_of S qy e2, c.1, c.2, w.here S rfl⟩
theorem o2_ne (hu : X.A.units + 64 < cLine) : Op2 X (compareOp .NotEq) gNe := Op2.of (op_neD hu) fun H r M x y dx dy d Q S qx qy e w => by
  obtain ⟨p, q, e1, e2, e3⟩ := of_opt2 e
  obtain ⟨c, rfl⟩ := of_ite e3
  exact ⟨p, q, dpM_of S qx e1, dpM_of S qy e2, c.1, c.2, w.here S rfl⟩
theorem o2_lt : Op2 X (compareOp .Lt) gLt := by
  intro pins s σ H r M x y v u dx dy d Q I rx ry S qx qy e w
  cases dx <;> cases dy <;> first
    | (cases e; done)
    | skip
  · cases qx; cases qy; cases e
    exact op_lt pins s σ H _ _ v u Q I rx ry ⟨_, _, rfl, rfl, w.here S rfl⟩
  · cases qx; cases qy; cases e
    exact op_lt_str pins s σ H _ _ v u Q I rx ry ⟨_, _, rfl, rfl, w.here S rfl⟩
theorem o2_le : Op2 X (compareOp .LtE) gLe := by
  intro pins s σ H r M x y v u dx dy d Q I rx ry S qx qy e w
  cases dx <;> cases dy <;> first
    | (cases e; done)
    | skip
  · cases qx; cases qy; cases e
    exact op_le pins s σ H _ _ v u Q I rx ry ⟨_, _, rfl, rfl, w.here S rfl⟩
  · cases qx; cases qy; cases e
    exact op_le_str pins s σ H _ _ v u Q I rx ry ⟨_, _, rfl, rfl, w.here S rfl⟩
theorem o2_gt : Op2 X (compareOp .Gt) gGt := by
  intro pins s σ H r M x y v u dx dy d Q I rx ry S qx qy e w
  cases dx <;> cases dy <;> first
    | (cases e; done)
    | skip
  · cases qx; cases qy; cases e
    exact op_gt pins s σ H _ _ v u Q I rx ry ⟨_, _, rfl, rfl, w.here S rfl⟩
  · cases qx; cases qy; cases e
    exact op_gt_str pins s σ H _ _ v u Q I rx ry ⟨_, _, rfl, rfl, w.here S rfl⟩
theorem o2_ge : Op2 X (compareOp .GtE) gGe := by
  intro pins s σ H r M x y v u dx dy d Q I rx ry S qx qy e w
  cases dx <;> cases dy <;> first
    | (cases e; done)
    | skip
  · cases qx; cases qy; cases e
    exact op_ge pins s σ H _ _ v u Q I rx ry ⟨_, _, rfl, rfl, w.here S rfl⟩
  · cases qx; cases qy; cases e
    exact op_ge_str pins s σ H _ _ v u Q I rx ry ⟨_, _, rfl, rfl, w.here S rfl⟩
theorem o2_is : Op2 X (compareOp .Is) gIs := Op2.of op_isN fun H r M x y dx dy d Q S qx qy e w => by
  cases dy <;> first
    | (cases e; done)
    | skip
  cases qy; cases e
  exact ⟨rfl, w.here S (by rw [isNon_rep qx]; rfl)⟩
theorem o2_isNot : Op2 X (compareOp .IsNot) gIsNot := Op2.of op_notN fun H r M x y dx dy d Q S qx qy e w => by
  cases dy <;> first
    | (cases e; done)
    | skip
  cases qy; cases e
  exact ⟨rfl, w.here S (by rw [isNon_rep qx]; rfl)⟩
end
/-- a sequence that is asked for an item -/
theorem seqOf_dp {K : PySem.W.Frag} {H : Hp} {r : List Addr} {M : Mem} {d : D} {ds : List D} {ps : List PyData} {v : V} (S : Sim K H r M) (h : Rep K H r d v) (e : seqOf M d = some ds) (e2 : toPys ds = some ps) : Dp K H v (.tuple ps) ∨ Dp K H v (.list ps) := by
  cases d with
  | tup es =>
    cases e
    obtain ⟨a, vs, rfl, h1, h2⟩ := h
    exact .inl (.tup h1 (dps_of h2 e2))
  | lst es =>
    cases e
    obtain ⟨a, vs, rfl, h1, h2⟩ := h
    exact .inr (.lst h1.sql (dps_of h2 e2))
  | ref n =>
    obtain ⟨a, rfl, h1⟩ := h
    have e' : (match M[n]? with | some (.lst ds) => some ds | _ => none) = some ds := e
    cases q : M[n]? with
    | none => rw [q] at e'; cases e'
    | some c =>
      rw [q] at e'
      cases c with
      | dead => cases e'
      | dct _ => cases e'
      | lst es =>
        cases e'
        obtain ⟨vs, h2, h3⟩ := S.cell n a _ h1 q
        exact .inr (.lst (.of h2) (dps_of h3 e2))
  | _ => cases e
section
variable {X : Cx}
theorem gIn_seq {M : Mem} {x y d : D} (e : gIn M x y = some d) : (∃ a b, x = .str a ∧ y = .str b ∧ d = .bl (strIn a b)) ∨
    ∃ p ds ps, toPy x = some p ∧ seqOf M y = some ds ∧ toPys ds = some ps ∧ SeqAt.shaped p = true ∧ PyData.canLayAll0 ps = true ∧ d = .bl (ps.any fun q => PyData.eqv q p) := by
  have go : ∀ {x y : D}, opt2 (toPy x) ((seqOf M y).bind toPys) (fun p ps => if SeqAt.shaped p = true ∧ PyData.canLayAll0 ps = true then some (D.bl (ps.any fun q => PyData.eqv q p)) else none) = some d → ∃ p ds ps, toPy x = some p ∧ seqOf M y = some ds ∧ toPys ds = some ps ∧ SeqAt.shaped p = true ∧ PyData.canLayAll0 ps = true ∧ d = .bl (ps.any fun q => PyData.eqv q p) := by
    intro x y e
    obtain ⟨p, ps, e1, e2, e3⟩ := of_opt2 e
    obtain ⟨c, rfl⟩ := of_ite e3
    obtain ⟨ds, e4, e5⟩ := Option.bind_eq_some_iff.mp e2
    exact ⟨p, ds, ps, e1, e4, e5, c.1, c.2, rfl⟩
  cases x with
  | str a =>
    cases y with
    | str b => cases e; exact .inl ⟨a, b, rfl, rfl, rfl⟩
    | _ => exact .inr (go e)
  | _ => exact .inr (go e)
theorem depth_in {A : Around} {p : PyData} {ps : List PyData} (h : SeqAt.shaped p = true) (hu : A.units + 65 < cLine) : A.units + 1 + min (PyData.depthAll ps) p.depth < cLine := by
  have h1 := SeqAt.depth_of_shaped h
  have h2 : min (PyData.depthAll ps) p.depth ≤ p.depth := Nat.min_le_right _ _
  omega
theorem o2_in (hu : X.A.units + 65 < cLine) : Op2 X (compareOp .In) gIn := by
  intro pins s σ H r M x y v u dx dy d Q I rx ry S qx qy e w
  rcases gIn_seq e with ⟨a, b, rfl, rfl, rfl⟩ | ⟨p, ds, ps, e1, e2, e3, c1, c2, rfl⟩
  · cases qx; cases qy
    exact op_in_str pins s σ H _ _ v u Q I rx ry ⟨_, _, rfl, rfl, w.here S rfl⟩
  · obtain ⟨as, r1⟩ := Dp.reads I _ _ _ (dp_of qx e1) rx
    rcases seqOf_dp S qy e2 e3 with z | z
    · obtain ⟨bs, r2⟩ := Dp.reads I _ _ _ z ry
      exact SeqAt.in_tuple_reads r2 r1 c2 (SeqAt.canLay_of_shaped c1) (depth_in c1 hu) ⟨.bl _, H, I, rfl, w.here S rfl⟩
    · obtain ⟨bs, r2⟩ := Dp.reads I _ _ _ z ry
      exact SeqAt.in_list_reads r2 r1 c2 (SeqAt.canLay_of_shaped c1) (depth_in c1 hu) ⟨.bl _, H, I, rfl, w.here S rfl⟩
theorem o2_notIn (hu : X.A.units + 65 < cLine) : Op2 X (compareOp .NotIn) gNotIn := by
  intro pins s σ H r M x y v u dx dy d Q I rx ry S qx qy e w
  have e' : (match gIn M dx dy with | some (.bl b) => some (D.bl (!b)) | _ => none) = some d := e
  cases q : gIn M dx dy with
  | none => rw [q] at e'; cases e'
  | some z =>
    rw [q] at e'
    cases z with
    | bl b0 =>
      cases e'
      rcases gIn_seq q with ⟨a, b, rfl, rfl, e4⟩ | ⟨p, ds, ps, e1, e2, e3, c1, c2, e4⟩
      · cases qx; cases qy; cases e4
        exact op_notin_str pins s σ H _ _ v u Q I rx ry ⟨_, _, rfl, rfl, w.here S rfl⟩
      · cases e4
        obtain ⟨as, r1⟩ := Dp.reads I _ _ _ (dp_of qx e1) rx
        rcases seqOf_dp S qy e2 e3 with z | z
        · obtain ⟨bs, r2⟩ := Dp.reads I _ _ _ z ry
          exact SeqAt.notIn_tuple_reads r2 r1 c2 (SeqAt.canLay_of_shaped c1) (depth_in c1 hu) ⟨.bl _, H, I, rfl, w.here S rfl⟩
        · obtain ⟨bs, r2⟩ := Dp.reads I _ _ _ z ry
          exact SeqAt.notIn_list_reads r2 r1 c2 (SeqAt.canLay_of_shaped c1) (depth_in c1 hu) ⟨.bl _, H, I, rfl, w.here S rfl⟩
    | _ => cases e'
end

/-! ### places and slices -/
theorem Reps.atI {K : PySem.W.Frag} {H : Hp} {r : List Addr} {ds : List D} {vs : List V} {i : Int} {d : D} (h : Reps K H r ds vs) (e : L2.atI ds i = some d) : ∃ v, L2.atI vs i = some v ∧ Rep K H r d v := by
  unfold L2.atI at e ⊢
  rw [← h.length]
  obtain ⟨j, e1, e2⟩ := Option.bind_eq_some_iff.mp e
  obtain ⟨v, a, b⟩ := h.get e2
  exact ⟨v, by rw [e1]; exact a, b⟩
def gIx : Mem → D → D → Option D := fun M x y => match x, y with
  | .str z, .int i => if z.length ≤ sizeLine then (atI z.cps.toList i).map fun c => .str ⟨#[c]⟩ else none
  | .tup ds, .int i => atI ds i
  | x, .int i => (lstOf M x).bind fun ds => atI ds i
  | _, _ => none
def cutD {α : Type} (xs : List α) (lo hi : Option Int) : List α := (xs.drop (HT.sIx xs.length 0 lo)).take (HT.sIx xs.length xs.length hi - HT.sIx xs.length 0 lo)
theorem Reps.cut {K : PySem.W.Frag} {H : Hp} {r : List Addr} {ds : List D} {vs : List V} {lo hi : Option Int} (h : Reps K H r ds vs) : Reps K H r (cutD ds lo hi) (cutV vs lo hi) := by
  unfold cutD cutV
  rw [h.length]
  exact (h.drop _).take _
/-- a[b] by values -/
def IxS (X : Cx) (g : Mem → D → D → Option D) : Prop :=
  ∀ (value slice : Expr) (pins : List (Addr × Obj)) (s : Shared) (σ : St) (H : Hp) (r : List Addr) (M : Mem) (x y : V) (v u : Value) (dx dy d : D) (Q : VK), Inv X pins σ H s → RelV x v → RelV y u → Sim X.K H r M → Rep X.K H r dx x → Rep X.K H r dy y → g M dx dy = some d → Wnt X.K H r M d Q →
    subscripted slice false v u = operate [v, u] (getItem v u) → wpAny (model X.prog X.w) X.A (subscriptTail value slice v u) (EP X pins σ Q) X.xe s
section
variable {X : Cx}
theorem ixs : IxS X gIx := by
  intro value slice pins s σ H r M x y v u dx dy d Q I rx ry S qx qy e w hs
  have lst : ∀ {i : Int} {ds : List D}, dy = .int i → lstOf M dx = some ds → atI ds i = some d → wpAny (model X.prog X.w) X.A (subscriptTail value slice v u) (EP X pins σ Q) X.xe s := by
    intro i ds e0 e1 e2
    subst e0
    cases qy
    obtain ⟨a, vs, rfl, h1, h2⟩ := lstOf_rep S qx e1
    obtain ⟨z, a1, a2⟩ := h2.atI e2
    exact ix_list value slice pins s σ H _ _ v u Q I rx ry ⟨a, vs, i, z, rfl, rfl, h1, a1, w.here S a2⟩ hs
  cases dy <;> first
    | (cases dx <;> cases e; done)
    | skip
  rename_i i
  cases dx with
  | str z =>
    cases qx; cases qy
    have e' : (if z.length ≤ sizeLine then (atI z.cps.toList i).map fun c => D.str ⟨#[c]⟩ else none) = some d := e
    by_cases c : z.length ≤ sizeLine
    · rw [if_pos c] at e'
      obtain ⟨k, e1, rfl⟩ := Option.map_eq_some_iff.mp e'
      exact ix_str value slice pins s σ H _ _ v u Q I rx ry ⟨z, i, k, rfl, rfl, c, e1, w.here S rfl⟩ hs
    · rw [if_neg c] at e'
      cases e'
  | tup ds =>
    cases qy
    obtain ⟨a, vs, rfl, h1, h2⟩ := qx
    obtain ⟨z, a1, a2⟩ := h2.atI e
    exact ix_tup value slice pins s σ H _ _ v u Q I rx ry ⟨a, vs, i, z, rfl, rfl, h1, a1, w.here S a2⟩ hs
  | lst ds => exact lst rfl rfl e
  | scr ds => exact lst rfl rfl e
  | ref n =>
    obtain ⟨es, e1, e2⟩ := Option.bind_eq_some_iff.mp e
    exact lst rfl e1 e2
  | _ => cases e
end
end Wn
end

section
set_option Elab.async false
set_option linter.all false
set_option maxRecDepth 100000
set_option maxHeartbeats 4000000
namespace Wn
open PySem PySem.Spec PyProof.Rows L2

/-! ### slices -/
def gSl : Mem → D → Option Int → Option Int → Option D := fun M x lo hi => match x with
  | .str z => if z.length ≤ sizeLine then some (.str (cutS z lo hi)) else none
  | .tup ds => some (.tup (cutD ds lo hi))
  | x => (lstOf M x).map fun ds => .lst (cutD ds lo hi)
def SlS (X : Cx) (g : Mem → D → Option Int → Option Int → Option D) : Prop :=
  ∀ (pins : List (Addr × Obj)) (s : Shared) (σ : St) (H : Hp) (r : List Addr) (M : Mem) (x : V) (v vl vu : Value) (lo hi : Option Int) (sl : Addr) (dx d : D) (Q : VK), Inv X pins σ H s → RelV x v → s.heap.IsSliceOf sl vl vu .none → IsPart vl lo → IsPart vu hi → Sim X.K H r M → Rep X.K H r dx x →
    g M dx lo hi = some d → Wnt X.K H r M d Q → ∃ T id, typeLookup (.type T) "__getitem__" = pure (some (.builtin id)) ∧ s.TypeIs v T ∧ wpAny (model X.prog X.w) X.A (getItem v (.ref sl)) (EP X pins σ Q) X.xe s
theorem cutD_whole {α : Type} {xs : List α} {lo hi : Option Int} (h : HT.sIx xs.length 0 lo = 0 ∧ HT.sIx xs.length xs.length hi = xs.length) : cutD xs lo hi = xs := by
  unfold cutD
  rw [h.1, h.2]
  simp
section
variable {X : Cx}
theorem sls : SlS X gSl := by
  intro pins s σ H r M x v vl vu lo hi sl dx d Q I rx hs pl pu S qx e w
  have lst : ∀ {ds : List D}, lstOf M dx = some ds → d = .lst (cutD ds lo hi) → ∃ T id, typeLookup (.type T) "__getitem__" = pure (some (.builtin id)) ∧ s.TypeIs v T ∧ wpAny (model X.prog X.w) X.A (getItem v (.ref sl)) (EP X pins σ Q) X.xe s := by
    intro ds e1 e2
    subst e2
    obtain ⟨a, vs, rfl, h1, h2⟩ := lstOf_rep S qx e1
    obtain ⟨T, id, a1, a2, a3⟩ := sl_list pins s σ H _ v vl vu lo hi sl (QFz Q) I rx hs pl pu ⟨a, vs, rfl, h1, w.fzl S h2.cut⟩
    exact ⟨T, id, a1, a2, thn a3 fun u s' q => EP.freeze q⟩
  cases dx with
  | str z =>
    cases qx
    obtain ⟨c, rfl⟩ := of_ite (show (if z.length ≤ sizeLine then some (D.str (cutS z lo hi)) else none) = some d from e)
    exact sl_str pins s σ H _ v vl vu lo hi sl Q I rx hs pl pu ⟨z, rfl, c, w.here S rfl⟩
  | tup ds =>
    cases e
    obtain ⟨a, vs, rfl, h1, h2⟩ := qx
    have hl := h2.length
    refine sl_tupA pins s σ H _ v vl vu lo hi sl Q I rx hs pl pu ⟨a, vs, rfl, h1, fun z => ?_, fun _ => w.tup S h2.cut⟩
    rw [← hl] at z
    rw [cutD_whole z] at w
    exact w.here S ⟨a, vs, rfl, h1, h2⟩
  | lst ds => exact lst rfl (Option.some.inj e).symm
  | scr ds => exact lst rfl (Option.some.inj e).symm
  | ref n =>
    obtain ⟨ds, e1, e2⟩ := Option.map_eq_some_iff.mp (show (lstOf M (.ref n)).map (fun ds => D.lst (cutD ds lo hi)) = some d from e)
    exact lst e1 e2.symm
  | _ => cases e
end

/-! ### typed lists -/
def dInts : List D → Option (List Int)
  | [] => some []
  | .int i :: r => (dInts r).map (i :: ·)
  | _ => none
def dBools : List D → Option (List Bool)
  | [] => some []
  | .bl i :: r => (dBools r).map (i :: ·)
  | _ => none
def dStrs : List D → Option (List Str)
  | [] => some []
  | .str i :: r => (dStrs r).map (i :: ·)
  | _ => none
section
variable {K : PySem.W.Frag} {H : Hp} {r : List Addr}
theorem dInts_rep : ∀ {ds : List D} {vs : List V} {is : List Int}, Reps K H r ds vs → dInts ds = some is → vs = is.map V.int
  | [], _, _, h, e => by cases h; cases e; rfl
  | d :: ds, _, _, h, e => by
    obtain ⟨v, ws, rfl, h1, h2⟩ := h
    cases d with
    | int i =>
      obtain ⟨is, e1, rfl⟩ := Option.map_eq_some_iff.mp e
      rw [show v = V.int i from h1, dInts_rep h2 e1]
      rfl
    | _ => cases e
theorem dBools_rep : ∀ {ds : List D} {vs : List V} {is : List Bool}, Reps K H r ds vs → dBools ds = some is → vs = is.map V.bl
  | [], _, _, h, e => by cases h; cases e; rfl
  | d :: ds, _, _, h, e => by
    obtain ⟨v, ws, rfl, h1, h2⟩ := h
    cases d with
    | bl i =>
      obtain ⟨is, e1, rfl⟩ := Option.map_eq_some_iff.mp e
      rw [show v = V.bl i from h1, dBools_rep h2 e1]
      rfl
    | _ => cases e
theorem dStrs_rep : ∀ {ds : List D} {vs : List V} {is : List Str}, Reps K H r ds vs → dStrs ds = some is → vs = is.map V.str
  | [], _, _, h, e => by cases h; cases e; rfl
  | d :: ds, _, _, h, e => by
    obtain ⟨v, ws, rfl, h1, h2⟩ := h
    cases d with
    | str i =>
      obtain ⟨is, e1, rfl⟩ := Option.map_eq_some_iff.mp e
      rw [show v = V.str i from h1, dStrs_rep h2 e1]
      rfl
    | _ => cases e
theorem reps1 {ds : List D} {vs : List V} {d : D} (h : Reps K H r ds vs) (e : ds = [d]) : ∃ v, vs = [v] ∧ Rep K H r d v := by
  subst e
  obtain ⟨v, ws, rfl, h1, h2⟩ := h
  cases h2
  exact ⟨v, rfl, h1⟩
theorem reps2 {ds : List D} {vs : List V} {d e : D} (h : Reps K H r ds vs) (q : ds = [d, e]) : ∃ v u, vs = [v, u] ∧ Rep K H r d v ∧ Rep K H r e u := by
  subst q
  obtain ⟨v, ws, rfl, h1, h2⟩ := h
  obtain ⟨u, z, rfl, h3, h4⟩ := h2
  cases h4
  exact ⟨v, u, rfl, h1, h3⟩
end

/-! ### builtins by values -/
def g1 (f : Mem → D → Option D) : Mem → List D → Option D := fun M ds => match ds with
  | [d] => f M d
  | _ => none
def g2 (f : Mem → D → D → Option D) : Mem → List D → Option D := fun M ds => match ds with
  | [d, e] => f M d e
  | _ => none
theorem of_g1 {f : Mem → D → Option D} {M : Mem} {ds : List D} {d : D} (h : g1 f M ds = some d) : ∃ x, ds = [x] ∧ f M x = some d := by
  unfold g1 at h
  split at h
  · exact ⟨_, rfl, h⟩
  · cases h
theorem of_g2 {f : Mem → D → D → Option D} {M : Mem} {ds : List D} {d : D} (h : g2 f M ds = some d) : ∃ x y, ds = [x, y] ∧ f M x y = some d := by
  unfold g2 at h
  split at h
  · exact ⟨_, _, rfl, h⟩
  · cases h
def fLen : Mem → D → Option D := fun M x => match x with
  | .str z => if z.length ≤ sizeLine then some (.int z.length) else none
  | .tup ds => some (.int ds.length)
  | x => (lstOf M x).map fun ds => .int ds.length
def fAbs : Mem → D → Option D := fun _ x => match x with
  | .int i => some (.int (if i < 0 then -i else i))
  | _ => none
def fInt : Mem → D → Option D := fun _ x => match x with
  | .int i => some (.int i)
  | .bl b => some (.int (if b then 1 else 0))
  | _ => none
def fMax2 : Mem → D → D → Option D := fun _ x y => match x, y with
  | .int i, .int j => some (.int (if j > i then j else i))
  | _, _ => none
def fMin2 : Mem → D → D → Option D := fun _ x y => match x, y with
  | .int i, .int j => some (.int (if j < i then j else i))
  | _, _ => none
def fSum : Mem → D → Option D := fun M x => ((lstOf M x).bind dInts).map fun is => .int is.sum
def fAll : Mem → D → Option D := fun M x => ((lstOf M x).bind dBools).map fun is => .bl (is.all id)
def fAny : Mem → D → Option D := fun M x => ((lstOf M x).bind dBools).map fun is => .bl (is.any id)
def sgn (x : Str) : List D := x.cps.toList.map fun c => .str ⟨#[c]⟩
def fList : Mem → D → Option D := fun M x => match x with
  | .tup ds => some (.lst ds)
  | .str z => if z.length ≤ sizeLine then some (.lst (sgn z)) else none
  | x => (lstOf M x).map .lst
def fTuple : Mem → D → Option D := fun M x => match x with
  | .tup ds => some (.tup ds)
  | x => (lstOf M x).map .tup
def fOrd : Mem → D → Option D := fun _ x => match x with
  | .str z => if z.length = 1 then some (.int (z.cps.getD 0 0 : Nat)) else none
  | _ => none
def fStr : Mem → D → Option D := fun _ x => match x with
  | .int i => if i.natAbs.log2 < 1920 then some (.str (toString i)) else none
  | .str z => some (.str z)
  | _ => none
section
variable {X : Cx}
theorem c_len : CallS X (.builtin "len") (g1 fLen) := CallS.of call_len fun H r M xs ds d Q S qx e w => by
  obtain ⟨x, rfl, e1⟩ := of_g1 e
  clear e
  have e := e1
  clear e1
  obtain ⟨v, rfl, qv⟩ := reps1 qx rfl
  have lst : ∀ {es : List D}, lstOf M x = some es → d = .int es.length → ∃ x n, [v] = [x] ∧ LenV X.K x H n ∧ Q (.int n) H := by
    intro es e1 e2
    subst e2
    obtain ⟨a, vs, rfl, h1, h2⟩ := lstOf_rep S qv e1
    exact ⟨_, vs.length, rfl, .inl ⟨vs, h1, rfl⟩, w.here S (by rw [h2.length]; rfl)⟩
  cases x with
  | str z =>
    cases qv
    obtain ⟨c, rfl⟩ := of_ite (show (if z.length ≤ sizeLine then some (D.int z.length) else none) = some d from e)
    exact ⟨_, z.length, rfl, ⟨c, rfl⟩, w.here S rfl⟩
  | tup es =>
    cases e
    obtain ⟨a, vs, rfl, h1, h2⟩ := qv
    exact ⟨_, vs.length, rfl, .inr ⟨vs, h1, rfl⟩, w.here S (by rw [h2.length]; rfl)⟩
  | lst es => exact lst rfl (Option.some.inj e).symm
  | scr es => exact lst rfl (Option.some.inj e).symm
  | ref n =>
    obtain ⟨es, e1, e2⟩ := Option.map_eq_some_iff.mp (show (lstOf M (.ref n)).map (fun es => D.int es.length) = some d from e)
    exact lst e1 e2.symm
  | _ => cases e
theorem c_abs : CallS X (.builtin "abs") (g1 fAbs) := CallS.of call_abs fun H r M xs ds d Q S qx e w => by
  obtain ⟨x, rfl, e1⟩ := of_g1 e
  clear e
  have e := e1
  clear e1
  obtain ⟨v, rfl, qv⟩ := reps1 qx rfl
  cases x <;> first
    | (cases e; done)
    | skip
  cases qv; cases e
  exact ⟨_, rfl, w.here S rfl⟩
theorem c_int : CallS X (.type "int") (g1 fInt) := CallS.of call_int1 fun H r M xs ds d Q S qx e w => by
  obtain ⟨x, rfl, e1⟩ := of_g1 e
  clear e
  have e := e1
  clear e1
  obtain ⟨v, rfl, qv⟩ := reps1 qx rfl
  cases x <;> first
    | (cases e; done)
    | skip
  · cases qv; cases e
    exact .inr ⟨_, rfl, w.here S rfl⟩
  · cases qv; cases e
    exact .inl ⟨_, rfl, w.here S rfl⟩
theorem c_max2 (hc : X.calm = true) : CallS X (.builtin "max") (g2 fMax2) := CallS.of (call_max2 hc) fun H r M xs ds d Q S qx e w => by
  obtain ⟨x, y, rfl, e1⟩ := of_g2 e
  clear e
  have e := e1
  clear e1
  obtain ⟨v, u, rfl, qv, qu⟩ := reps2 qx rfl
  cases x <;> cases y <;> first
    | (cases e; done)
    | skip
  cases qv; cases qu; cases e
  exact ⟨_, _, rfl, w.here S rfl⟩
theorem c_min2 (hc : X.calm = true) : CallS X (.builtin "min") (g2 fMin2) := CallS.of (call_min2 hc) fun H r M xs ds d Q S qx e w => by
  obtain ⟨x, y, rfl, e1⟩ := of_g2 e
  clear e
  have e := e1
  clear e1
  obtain ⟨v, u, rfl, qv, qu⟩ := reps2 qx rfl
  cases x <;> cases y <;> first
    | (cases e; done)
    | skip
  cases qv; cases qu; cases e
  exact ⟨_, _, rfl, w.here S rfl⟩
theorem c_sum (hc : X.calm = true) : CallS X (.builtin "sum") (g1 fSum) := CallS.of (cr_sum hc) fun H r M xs ds d Q S qx e w => by
  obtain ⟨x, rfl, e1⟩ := of_g1 e
  clear e
  have e := e1
  clear e1
  obtain ⟨v, rfl, qv⟩ := reps1 qx rfl
  obtain ⟨is, e1, rfl⟩ := Option.map_eq_some_iff.mp e
  obtain ⟨es, e2, e3⟩ := Option.bind_eq_some_iff.mp e1
  obtain ⟨a, vs, rfl, h1, h2⟩ := lstOf_rep S qv e2
  rw [dInts_rep h2 e3] at h1
  exact ⟨a, is, rfl, h1, w.here S rfl⟩
theorem c_all (hc : X.calm = true) : CallS X (.builtin "all") (g1 fAll) := CallS.of (cr_all hc) fun H r M xs ds d Q S qx e w => by
  obtain ⟨x, rfl, e1⟩ := of_g1 e
  clear e
  have e := e1
  clear e1
  obtain ⟨v, rfl, qv⟩ := reps1 qx rfl
  obtain ⟨is, e1, rfl⟩ := Option.map_eq_some_iff.mp e
  obtain ⟨es, e2, e3⟩ := Option.bind_eq_some_iff.mp e1
  obtain ⟨a, vs, rfl, h1, h2⟩ := lstOf_rep S qv e2
  rw [dBools_rep h2 e3] at h1
  exact ⟨a, is, rfl, h1, w.here S rfl⟩
theorem c_any (hc : X.calm = true) : CallS X (.builtin "any") (g1 fAny) := CallS.of (cr_any hc) fun H r M xs ds d Q S qx e w => by
  obtain ⟨x, rfl, e1⟩ := of_g1 e
  clear e
  have e := e1
  clear e1
  obtain ⟨v, rfl, qv⟩ := reps1 qx rfl
  obtain ⟨is, e1, rfl⟩ := Option.map_eq_some_iff.mp e
  obtain ⟨es, e2, e3⟩ := Option.bind_eq_some_iff.mp e1
  obtain ⟨a, vs, rfl, h1, h2⟩ := lstOf_rep S qv e2
  rw [dBools_rep h2 e3] at h1
  exact ⟨a, is, rfl, h1, w.here S rfl⟩
theorem c_ord : CallS X (.builtin "ord") (g1 fOrd) := CallS.of call_ord fun H r M xs ds d Q S qx e w => by
  obtain ⟨x, rfl, e1⟩ := of_g1 e
  clear e
  have e := e1
  clear e1
  obtain ⟨v, rfl, qv⟩ := reps1 qx rfl
  cases x <;> first
    | (cases e; done)
    | skip
  rename_i z
  cases qv
  obtain ⟨c, rfl⟩ := of_ite (show (if z.length = 1 then some (D.int (z.cps.getD 0 0 : Nat)) else none) = some d from e)
  exact ⟨_, rfl, c, w.here S rfl⟩
theorem c_tuple : CallS X (.type "tuple") (g1 fTuple) := CallS.of call_tuple_of fun H r M xs ds d Q S qx e w => by
  obtain ⟨x, rfl, e1⟩ := of_g1 e
  clear e
  have e := e1
  clear e1
  obtain ⟨v, rfl, qv⟩ := reps1 qx rfl
  have lst : ∀ {es : List D}, lstOf M x = some es → d = .tup es → ∃ p ys, [v] = [V.ref p] ∧ ((SqL X.K H p ys ∧ ∀ l, H l = none → Q (.ref l) (upd H l (.tup ys))) ∨ (SqT X.K H p ys ∧ Q (.ref p) H)) := by
    intro es e1 e2
    subst e2
    obtain ⟨a, vs, rfl, h1, h2⟩ := lstOf_rep S qv e1
    exact ⟨a, vs, rfl, .inl ⟨h1, w.tup S h2⟩⟩
  cases x with
  | tup es =>
    cases e
    obtain ⟨a, vs, rfl, h1, h2⟩ := qv
    exact ⟨a, vs, rfl, .inr ⟨h1, w.here S ⟨a, vs, rfl, h1, h2⟩⟩⟩
  | lst es => exact lst rfl (Option.some.inj e).symm
  | scr es => exact lst rfl (Option.some.inj e).symm
  | ref n =>
    obtain ⟨es, e1, e2⟩ := Option.map_eq_some_iff.mp (show (lstOf M (.ref n)).map D.tup = some d from e)
    exact lst e1 e2.symm
  | _ => cases e
theorem vals_signs (x : Str) (acc : Array Value) (h : ItemsOf (SignAt x) acc x.cps.size) : Vals (x.cps.toList.map fun c => V.str ⟨#[c]⟩) acc.toList := by
  refine vals_of_at (by rw [List.length_map, Array.length_toList, Array.length_toList]; exact h.1.symm) fun j v u hv hu => ?_
  obtain ⟨c, t, e1, rfl⟩ := h.2 j u (by simpa using hu)
  rw [List.getElem?_map] at hv
  have e2 : x.cps.toList[j]? = some c := by simpa using e1
  rw [e2] at hv
  cases hv
  exact ⟨t, rfl⟩
theorem c_list (hc : X.calm = true) : CallS X (.type "list") (g1 fList) := by
  intro pins s σ H r M xs us ds d Q I rx S qx e w
  obtain ⟨x, rfl, e1⟩ := of_g1 e
  clear e
  have e := e1
  clear e1
  obtain ⟨v, rfl, qv⟩ := reps1 qx rfl
  have lst : ∀ {es : List D}, lstOf M x = some es → d = .lst es → wpAny (model X.prog X.w) X.A (call (.type "list") us) (EP X pins σ Q) X.xe s := by
    intro es e1 e2
    subst e2
    obtain ⟨a, vs, rfl, h1, h2⟩ := lstOf_rep S qv e1
    exact thn (call_list_of pins s σ H _ us (QFz Q) I rx ⟨a, vs, rfl, .inl h1, w.fzl S h2⟩) fun u s' q => EP.freeze q
  cases x with
  | tup es =>
    cases e
    obtain ⟨a, vs, rfl, h1, h2⟩ := qv
    exact thn (call_list_of pins s σ H _ us (QFz Q) I rx ⟨a, vs, rfl, .inr h1, w.fzl S h2⟩) fun u s' q => EP.freeze q
  | str z =>
    cases qv
    obtain ⟨c, rfl⟩ := of_ite (show (if z.length ≤ sizeLine then some (D.lst (sgn z)) else none) = some d from e)
    obtain ⟨u, rfl, t, rfl⟩ := vals1 rx
    refine thn (Q := EP X pins σ (QFz Q)) (call_list_str (I.ok.hd hc) z t (fun h' tk acc' c' k hS hacc => ?_) c) fun u s' q => EP.freeze q
    have hv := vals_signs z acc' hacc
    have hl := hv.length
    rw [List.length_map, Array.length_toList] at hl
    have hz : z.cps.toList.length ≤ sizeLine := by rw [Array.length_toList]; exact c
    refine ⟨.ref s.heap.objs.size, _, I.laid (o := .lst (z.cps.toList.map fun c => V.str ⟨#[c]⟩)) (a := s.heap.objs.size) (t' := tk) k (Nat.le_refl _) ⟨by rw [List.length_map]; exact hz, acc'.toList, c', hv, ?_⟩, rfl, w.fzl S ?_ _ I.fresh⟩
    · rw [hS]
    · have go : ∀ l : List Nat, Reps X.K H r (l.map fun c => D.str ⟨#[c]⟩) (l.map fun c => V.str ⟨#[c]⟩) := by
        intro l
        induction l with
        | nil => rfl
        | cons c l ih => exact ⟨_, _, rfl, rfl, ih⟩
      exact go _
  | lst es => exact lst rfl (Option.some.inj e).symm
  | scr es => exact lst rfl (Option.some.inj e).symm
  | ref n =>
    obtain ⟨es, e1, e2⟩ := Option.map_eq_some_iff.mp (show (lstOf M (.ref n)).map D.lst = some d from e)
    exact lst e1 e2.symm
  | _ => cases e
end
end Wn
end

section
set_option Elab.async false
set_option linter.all false
set_option maxRecDepth 100000
set_option maxHeartbeats 4000000
namespace Wn
open PySem PySem.Spec PyProof.Rows L2

theorem PE.cons {X : Cx} {e : Expr} {t t' : TE} (h : PE X e t) (k : ∀ σ H Q, t' σ H Q → t σ H Q) : PE X e t' := ⟨fun pins s σ H Q I q => h.run pins s σ H Q I (k σ H Q q)⟩
theorem PT.cons {X : Cx} {e : Expr} {t t' : TT} (h : PT X e t) (k : ∀ σ H Q, t' σ H Q → t σ H Q) : PT X e t' := ⟨fun pins s σ H Q I q => h.run pins s σ H Q I (k σ H Q q)⟩
theorem PW.cons {X : Cx} {e : Expr} {t t' : TT} (h : PW X e t) (k : ∀ σ H Q, t' σ H Q → t σ H Q) : PW X e t' := ⟨fun wh pins s σ H Q I q => h.run wh pins s σ H Q I (k σ H Q q)⟩
theorem PA.cons {X : Cx} {e : List Expr} {t t' : TA} (h : PA X e t) (k : ∀ σ H Q, t' σ H Q → t σ H Q) : PA X e t' := ⟨fun p pins s σ H Q I q => h.run p pins s σ H Q I (k σ H Q q)⟩

/-- a value's truth -/
def truD (M : Mem) : D → Option Bool
  | .non => some false
  | .bl b => some b
  | .int i => some (i != 0)
  | .str y => if y.length ≤ sizeLine then some ((y.length : Int) != 0) else none
  | .tup ds => some (!ds.isEmpty)
  | .ty _ => none
  | d => (lstOf M d).map fun ds => !ds.isEmpty
theorem reps_isEmpty {K : PySem.W.Frag} {H : Hp} {r : List Addr} {ds : List D} {vs : List V} (h : Reps K H r ds vs) : vs.isEmpty = ds.isEmpty := by
  have := h.length
  cases ds <;> cases vs <;> first | rfl | simp at this
theorem truD_rep {K : PySem.W.Frag} {H : Hp} {r : List Addr} {M : Mem} {d : D} {v : V} {b : Bool} (S : Sim K H r M) (h : Rep K H r d v) (e : truD M d = some b) : TruV K v H b := by
  have lst : ∀ {es : List D}, lstOf M d = some es → b = !es.isEmpty → TruV K v H b := by
    intro es e1 e2
    obtain ⟨a, vs, rfl, h1, h2⟩ := lstOf_rep S h e1
    exact .inl ⟨vs, h1, by rw [e2, reps_isEmpty h2]⟩
  cases d with
  | non => cases h; cases e; rfl
  | bl c => cases h; cases e; rfl
  | int i => cases h; cases e; rfl
  | str y =>
    cases h
    obtain ⟨c, rfl⟩ := of_ite (show (if y.length ≤ sizeLine then some ((y.length : Int) != 0) else none) = some b from e)
    exact ⟨c, rfl⟩
  | tup ds =>
    cases e
    obtain ⟨a, vs, rfl, h1, h2⟩ := h
    exact .inr (.inl ⟨vs, h1, by rw [reps_isEmpty h2]⟩)
  | lst es => exact lst rfl (Option.some.inj e).symm
  | scr es => exact lst rfl (Option.some.inj e).symm
  | ref n =>
    obtain ⟨es, e1, e2⟩ := Option.map_eq_some_iff.mp (show (lstOf M (.ref n)).map (fun es => !es.isEmpty) = some b from e)
    exact lst e1 e2.symm
  | ty n => cases e
def asTru (d : D) : Mem → Res Bool := fun M => match truD M d with
  | some b => .ok b M
  | none => .bad

/-! ### semantic pieces -/
abbrev Fe := Env → Mem → Res D
abbrev Fb := Env → Mem → Res Bool
abbrev Fl := Env → Mem → Res (List D)
def eVar (i : Nat) : Fe := fun δ => match δ[i]? with
  | some (some d) => ret d
  | _ => stuck
def eCst (d : D) : Fe := fun _ => ret d
def eOp (g : Mem → D → D → Option D) (a b : Fe) : Fe := fun δ => bnd (a δ) fun x => bnd (b δ) fun y => fun M => opt (g M x y) M
def eCall (g : Mem → List D → Option D) (a : Fl) : Fe := fun δ => bnd (a δ) fun xs => fun M => opt (g M xs) M
def eChain (g g' : Mem → D → D → Option D) (a b c : Fe) : Fe := fun δ => bnd (a δ) fun x => bnd (b δ) fun y => fun M => match g M x y with
  | some (.bl true) => bnd (c δ) (fun z M => opt (g' M y z) M) M
  | some (.bl false) => .ok (.bl false) M
  | _ => .bad
def bTru (a : Fe) : Fb := fun δ => bnd (a δ) asTru
def bNot (a : Fb) : Fb := fun δ => bnd (a δ) fun c => ret (!c)
def bAnd (a b : Fb) : Fb := fun δ => bnd (a δ) fun c => if c = true then b δ else ret false
def bOr (a b : Fb) : Fb := fun δ => bnd (a δ) fun c => if c = true then ret true else b δ
def eOr (a b : Fe) : Fe := fun δ => bnd (a δ) fun x => bnd (asTru x) fun c => if c = true then ret x else b δ
def eAnd (a b : Fe) : Fe := fun δ => bnd (a δ) fun x => bnd (asTru x) fun c => if c = true then b δ else ret x
def eNot (a : Fe) : Fe := fun δ => bnd (a δ) fun x => bnd (asTru x) fun c => ret (.bl (!c))
def eIf (c : Fb) (a b : Fe) : Fe := fun δ => bnd (c δ) fun k => if k = true then a δ else b δ
def lNil : Fl := fun _ => ret []
def lCons (a : Fe) (b : Fl) : Fl := fun δ => bnd (a δ) fun x => bnd (b δ) fun xs => ret (x :: xs)
def eTup (a : Fl) : Fe := fun δ => bnd (a δ) fun xs => if xs.length ≤ sizeLine then ret (.tup xs) else stuck
def eLst (a : Fl) : Fe := fun δ => bnd (a δ) fun xs => if xs.length ≤ sizeLine then ret (.lst xs) else stuck
/-- a list that is changed later -/
def eCell (a : Fl) : Fe := fun δ => bnd (a δ) fun xs => if xs.length ≤ sizeLine then (fun M => .ok (.ref M.length) (M ++ [.lst xs])) else stuck

section
variable {X : Cx} {Z : ZS} {a b c : Expr} {fa fb fc : Fe} {es : List Expr} {fl : Fl} {pos : Pos}
theorem bind_ok {α β : Type} {m : Mem → Res α} {k : α → Mem → Res β} {M M1 : Mem} {x : α} (e : m M = .ok x M1) : bnd m k M = k x M1 := by
  unfold bnd
  rw [e]
theorem Aft.ret {Z : ZK} {K : PySem.W.Frag} {H : Hp} {r : List Addr} {M : Mem} {d : D} {Q : VK} {v : V} (S : Sim K H r M) (q : Rep K H r d v) (h : Aft K Z H r M (.ok d M) Q) : Q v H := h v H r Ext.refl S q
theorem r_var {i : Nat} {x : Str} (hN : X.N[i]? = some x) (hv : Vis X.env.scope x) (hd : (x == ("__debug__" : Str)) = false) (hcd : (x == ("__classdict__" : Str)) = false) : PE X (.Name x pos) (tM X.K Z (eVar i)) :=
  PE.cons (pe_var hN hv hd hcd) fun σ H Q ⟨δ, r, M, E, S, h⟩ => by
    unfold eVar at h
    cases e : δ[i]? with
    | none => rw [e] at h; exact h.elim
    | some o =>
      cases o with
      | none => rw [e] at h; exact h.elim
      | some d =>
        rw [e] at h
        obtain ⟨v, e1, q⟩ := E.2 i d e
        exact ⟨v, e1, Aft.ret S q h⟩
theorem r_int {i : Int} {j} : PE X (.Constant (.int i) j pos) (tM X.K Z (eCst (.int i))) := PE.cons pe_int fun σ H Q ⟨δ, r, M, E, S, h⟩ => Aft.ret (d := .int i) S rfl h
theorem r_bl {i : Bool} {j} : PE X (.Constant (.bool i) j pos) (tM X.K Z (eCst (.bl i))) := PE.cons pe_bl fun σ H Q ⟨δ, r, M, E, S, h⟩ => Aft.ret (d := .bl i) S rfl h
theorem r_non {j} : PE X (.Constant .none j pos) (tM X.K Z (eCst .non)) := PE.cons pe_non fun σ H Q ⟨δ, r, M, E, S, h⟩ => Aft.ret (d := .non) S rfl h
theorem r_str {i : Str} {j} : PE X (.Constant (.str i) j pos) (tM X.K Z (eCst (.str i))) := PE.cons pe_str fun σ H Q ⟨δ, r, M, E, S, h⟩ => Aft.ret (d := .str i) S rfl h
/-- what the module's name stands for -/
theorem r_glo {x : Str} {u : Value} {v : V} {d : D} (hg : Gl X x) (hm : X.mg x = some u) (hr : RelV v u) (q : ∀ H r, Rep X.K H r d v) (hd : (x == ("__debug__" : Str)) = false) : PE X (.Name x pos) (tM X.K Z (eCst d)) :=
  PE.cons (pe_glob hg hm hr hd) fun σ H Q ⟨δ, r, M, E, S, h⟩ => Aft.ret S (q H r) h
theorem r_ty {x : Str} {n : String} (hg : Gl X x) (hm : X.mg x = none) (hv : bootBuiltins x = some (.type n)) (hn : x ≠ "__name__") (hd : (x == ("__debug__" : Str)) = false) : PE X (.Name x pos) (tM X.K Z (eCst (.ty n))) :=
  PE.cons (pe_bltn (v := .ty n) hg hm hv rfl hn hd) fun σ H Q ⟨δ, r, M, E, S, h⟩ => Aft.ret (d := .ty n) S rfl h
/-- two parts, then an operation by values -/
theorem two {f : Value → Value → Sem Value} {g : Mem → D → D → Option D} (ho : Op2 X f g) (ha : PE X a (tM X.K Z fa)) (hb : PE X b (tM X.K Z fb)) {pins : List (Addr × Obj)} {s : Shared} {σ : St} {H : Hp} {Q : VK} (I : Inv X pins σ H s) (h : tM X.K Z (eOp g fa fb) σ H Q) :
    wpAny (model X.prog X.w) X.A (eval a X.env) (fun v s₁ => wpAny (model X.prog X.w) X.A (eval b X.env) (fun u s₂ => wpAny (model X.prog X.w) X.A (f v u) (EP X pins σ Q) X.xe s₂) X.xe s₁) X.xe s := by
  obtain ⟨δ, r, M, E, S, h⟩ := h
  refine thn (ha.run pins s σ H _ I ⟨δ, r, M, E, S, Aft.bind S h⟩) fun v s1 ⟨x, H1, I1, rx, d1, M1, r1, e1, X1, S1, q1, h1⟩ => ?_
  refine thn (hb.run pins s1 σ H1 _ I1 ⟨δ, r1, M1, E.ext S X1, S1, Aft.bind S1 h1⟩) fun u s2 ⟨y, H2, I2, ry, d2, M2, r2, e2, X2, S2, q2, h2⟩ => ?_
  obtain ⟨d, e3, w⟩ := Aft.opt h2
  exact ho pins s2 σ H2 r2 M2 x y v u d1 d2 d Q I2 rx ry S2 (q1.ext S1 X2) q2 e3 w
theorem r_bin {op : Operator} {g : Mem → D → D → Option D} (ho : Op2 X (binaryOp op) g) (ha : PE X a (tM X.K Z fa)) (hb : PE X b (tM X.K Z fb)) : PE X (.BinOp a op b pos) (tM X.K Z (eOp g fa fb)) :=
  ⟨fun pins s σ H Q I h => wpAny_BinOp (two ho ha hb I h)⟩
theorem r_cmp {op : CmpOp} {g : Mem → D → D → Option D} (ho : Op2 X (compareOp op) g) (ha : PE X a (tM X.K Z fa)) (hb : PE X b (tM X.K Z fb)) (hm : behindInMarks op b = false) : PE X (.Compare a [op] [b] pos) (tM X.K Z (eOp g fa fb)) :=
  ⟨fun pins s σ H Q I h => wpAny_Compare1 (two ho ha hb I h) hm⟩
theorem r_ix {g : Mem → D → D → Option D} (ho : IxS X g) (ha : PE X a (tM X.K Z fa)) (hb : PE X b (tM X.K Z fb)) (hs : PlainIx b) : PE X (.Subscript a b pos) (tM X.K Z (eOp g fa fb)) := by
  refine ⟨fun pins s σ H Q I h => Subscript_ ?_⟩
  obtain ⟨δ, r, M, E, S, h⟩ := h
  refine thn (ha.run pins s σ H _ I ⟨δ, r, M, E, S, Aft.bind S h⟩) fun v s1 ⟨x, H1, I1, rx, d1, M1, r1, e1, X1, S1, q1, h1⟩ => ?_
  refine thn (hb.run pins s1 σ H1 _ I1 ⟨δ, r1, M1, E.ext S X1, S1, Aft.bind S1 h1⟩) fun u s2 ⟨y, H2, I2, ry, d2, M2, r2, e2, X2, S2, q2, h2⟩ => ?_
  obtain ⟨d, e3, w⟩ := Aft.opt h2
  exact ho a b pins s2 σ H2 r2 M2 x y v u d1 d2 d Q I2 rx ry S2 (q1.ext S1 X2) q2 e3 w (hs _ _)
/-- the truth of a value, any expression of which that is asked -/
theorem tru_run {pins : List (Addr × Obj)} {s : Shared} {σ : St} {H : Hp} {r : List Addr} {M : Mem} {d : D} {v : V} {u : Value} {b : Bool} {Q : Bool → Shared → Prop} (I : Inv X pins σ H s) (S : Sim X.K H r M) (ru : RelV v u) (q : Rep X.K H r d v) (e : truD M d = some b)
    (h : ∀ s', Inv X pins σ H s' → Q b s') : wpAny (model X.prog X.w) X.A (truthy u) Q X.xe s :=
  thn (tru_ok pins s σ H v u (fun c H2 => c = b ∧ H2 = H) I ru ⟨b, truD_rep S q e, rfl, rfl⟩) fun c s' ⟨H2, I2, e1, e2⟩ => by
    subst e1 e2
    exact h s' I2
theorem of_asTru {Z : ZK} {d : D} {M : Mem} {K : PySem.W.Frag} {H : Hp} {r : List Addr} {k : Bool → Mem → Res D} {Q : VK} (h : Aft K Z H r M (bnd (asTru d) k M) Q) : ∃ b, truD M d = some b ∧ Aft K Z H r M (k b M) Q := by
  unfold bnd asTru at h
  cases e : truD M d with
  | none => rw [e] at h; exact h.elim
  | some b => rw [e] at h; exact ⟨b, rfl, h⟩
theorem of_asTruB {Z : ZK} {d : D} {M : Mem} {K : PySem.W.Frag} {H : Hp} {r : List Addr} {Q : Bool → Hp → Prop} (h : AftB K Z H r M (asTru d M) Q) : ∃ b, truD M d = some b ∧ AftB K Z H r M (.ok b M) Q := by
  unfold asTru at h
  cases e : truD M d with
  | none => rw [e] at h; exact h.elim
  | some b => rw [e] at h; exact ⟨b, rfl, h⟩
theorem t_tru (ha : PE X a (tM X.K Z fa)) (he : ∀ whole, isTrue a X.env whole = (do let v ← whole; standAt a.pos; holding [v] (truthy v))) : PT X a (tB X.K Z (bTru fa)) := by
  refine ⟨fun pins s σ H Q I ⟨δ, r, M, E, S, h⟩ => ?_⟩
  refine isTrue_plain (thn (ha.run pins s σ H _ I ⟨δ, r, M, E, S, AftB.bind S h⟩) fun v s1 ⟨x, H1, I1, rx, d1, M1, r1, e1, X1, S1, q1, h1⟩ => ?_) (he _)
  obtain ⟨b, e2, h2⟩ := of_asTruB h1
  exact tru_run I1 S1 rx q1 e2 fun s' I' => ⟨H1, I', h2 H1 r1 Ext.refl S1⟩
theorem t_cmp {op : CmpOp} {g : Mem → D → D → Option D} (ho : Op2 X (compareOp op) g) (ha : PE X a (tM X.K Z fa)) (hb : PE X b (tM X.K Z fb)) (hm : behindInMarks op b = false) : PT X (.Compare a [op] [b] pos) (tB X.K Z (bTru (eOp g fa fb))) := by
  refine ⟨fun pins s σ H Q I ⟨δ, r, M, E, S, h⟩ => ?_⟩
  have h' : tM X.K Z (eOp g fa fb) σ H (fun v H1 => ∃ d1 M1 r1, eOp g fa fb δ M = .ok d1 M1 ∧ Ext H r M H1 r1 M1 ∧ Sim X.K H1 r1 M1 ∧ Rep X.K H1 r1 d1 v ∧ AftB X.K (Z σ) H1 r1 M1 (asTru d1 M1) Q) := ⟨δ, r, M, E, S, AftB.bind S h⟩
  refine wpAny_isTrue_Compare1 (thn (two ho ha hb I h') fun v s1 h1 => thn h1 fun u s2 h2 => thn h2 fun c s3 ⟨x, H1, I1, rx, d1, M1, r1, e1, X1, S1, q1, h3⟩ => ?_) hm
  obtain ⟨b, e2, h2⟩ := of_asTruB h3
  exact tru_run I1 S1 rx q1 e2 fun s' I' => ⟨H1, I', h2 H1 r1 Ext.refl S1⟩
/-- a test's answer is wanted as the readings of the layer do -/
theorem AftB.tt {Z : ZK} {K : PySem.W.Frag} {H : Hp} {r : List Addr} {M : Mem} {m : Mem → Res Bool} {k : Bool → Mem → Res Bool} {Q : Bool → Hp → Prop} {σ : St} {t : TT} {f : Fb} {δ : Env} (E : EnvRep K H r σ δ) (S : Sim K H r M) (ht : ∀ Q', (∃ δ r M, EnvRep K H r σ δ ∧ Sim K H r M ∧ AftB K Z H r M (f δ M) Q') → t σ H Q')
    (h : AftB K Z H r M (bnd (f δ) k M) Q) : t σ H (fun c H1 => ∃ M1 r1, Ext H r M H1 r1 M1 ∧ Sim K H1 r1 M1 ∧ EnvRep K H1 r1 σ δ ∧ AftB K Z H1 r1 M1 (k c M1) Q) := by
  refine ht _ ⟨δ, r, M, E, S, ?_⟩
  have z := AftB.bindB S h
  cases q : f δ M with
  | ok c M1 => rw [q] at z; exact fun H' r' x s => let ⟨M2, r2, e1, e2, e3, e4⟩ := z H' r' x s; ⟨M2, r2, e2, e3, E.ext S e2, e4⟩
  | err e M1 => rw [q] at z; exact z
  | bad => rw [q] at z; exact z
variable {ga gb : Fb} {rest : List Expr}
theorem t_not (ha : PT X a (tB X.K Z ga)) : PT X (.UnaryOp .Not a pos) (tB X.K Z (bNot ga)) :=
  PT.cons (pt_not ha) fun σ H Q ⟨δ, r, M, E, S, h⟩ => by
    refine ⟨δ, r, M, E, S, ?_⟩
    have z := AftB.bindB S h
    cases q : ga δ M with
    | ok c M1 => rw [q] at z; exact fun H' r' x s => let ⟨M2, r2, e1, e2, e3, e4⟩ := z H' r' x s; e4 H' r2 Ext.refl e3
    | err e M1 => rw [q] at z; exact z
    | bad => rw [q] at z; exact z
theorem w_and1 (ha : PT X a (tB X.K Z ga)) : PW X (.BoolOp .And [a] pos) (tB X.K Z ga) := pw_and1 ha
theorem w_or1 (ha : PT X a (tB X.K Z ga)) : PW X (.BoolOp .Or [a] pos) (tB X.K Z ga) := pw_or1 ha
theorem w_and (ha : PT X a (tB X.K Z ga)) (hb : PW X (.BoolOp .And (b :: rest) pos) (tB X.K Z gb)) : PW X (.BoolOp .And (a :: b :: rest) pos) (tB X.K Z (bAnd ga gb)) :=
  PW.cons (pw_and ha hb) fun σ H Q ⟨δ, r, M, E, S, h⟩ => by
    refine ⟨δ, r, M, E, S, ?_⟩
    have z := AftB.bindB S h
    cases q : ga δ M with
    | ok c M1 =>
      rw [q] at z
      refine fun H' r' x s => ?_
      obtain ⟨M2, r2, e1, e2, e3, e4⟩ := z H' r' x s
      cases c with
      | true => exact ⟨δ, r2, M2, E.ext S e2, e3, e4⟩
      | false => exact e4 H' r2 Ext.refl e3
    | err e M1 => rw [q] at z; exact z
    | bad => rw [q] at z; exact z
theorem w_or (ha : PT X a (tB X.K Z ga)) (hb : PW X (.BoolOp .Or (b :: rest) pos) (tB X.K Z gb)) : PW X (.BoolOp .Or (a :: b :: rest) pos) (tB X.K Z (bOr ga gb)) :=
  PW.cons (pw_or ha hb) fun σ H Q ⟨δ, r, M, E, S, h⟩ => by
    refine ⟨δ, r, M, E, S, ?_⟩
    have z := AftB.bindB S h
    cases q : ga δ M with
    | ok c M1 =>
      rw [q] at z
      refine fun H' r' x s => ?_
      obtain ⟨M2, r2, e1, e2, e3, e4⟩ := z H' r' x s
      cases c with
      | false => exact ⟨δ, r2, M2, E.ext S e2, e3, e4⟩
      | true => exact e4 H' r2 Ext.refl e3
    | err e M1 => rw [q] at z; exact z
    | bad => rw [q] at z; exact z
theorem r_if (hc : PT X c (tB X.K Z ga)) (ha : PE X a (tM X.K Z fa)) (hb : PE X b (tM X.K Z fb)) : PE X (.IfExp c a b pos) (tM X.K Z (eIf ga fa fb)) :=
  PE.cons (pe_ifExp hc ha hb) fun σ H Q ⟨δ, r, M, E, S, h⟩ => by
    refine ⟨δ, r, M, E, S, ?_⟩
    have z := Aft.bindB S h
    cases q : ga δ M with
    | ok c M1 =>
      rw [q] at z
      refine fun H' r' x s => ?_
      obtain ⟨M2, r2, e1, e2, e3, e4⟩ := z H' r' x s
      cases c with
      | false => exact ⟨δ, r2, M2, E.ext S e2, e3, e4⟩
      | true => exact ⟨δ, r2, M2, E.ext S e2, e3, e4⟩
    | err e M1 => rw [q] at z; exact z
    | bad => rw [q] at z; exact z
theorem r_one {op} (ha : PE X a (tM X.K Z fa)) : PE X (.BoolOp op [a] pos) (tM X.K Z fa) := pe_one ha
theorem r_or (ha : PE X a (tM X.K Z fa)) (hb : PE X (.BoolOp .Or (b :: rest) pos) (tM X.K Z fb)) : PE X (.BoolOp .Or (a :: b :: rest) pos) (tM X.K Z (eOr fa fb)) :=
  PE.cons (pe_orT ha hb) fun σ H Q ⟨δ, r, M, E, S, h⟩ => by
    refine ⟨δ, r, M, E, S, ?_⟩
    have z := Aft.bind S h
    cases q : fa δ M with
    | ok d M1 =>
      rw [q] at z
      refine fun v H' r' x s qv => ?_
      obtain ⟨d1, M2, r2, e1, e2, e3, e4, e5⟩ := z v H' r' x s qv
      obtain ⟨k, e6, e7⟩ := of_asTru e5
      refine ⟨k, truD_rep e3 e4 e6, ?_⟩
      cases k with
      | true => exact e7 v H' r2 Ext.refl e3 e4
      | false => exact ⟨δ, r2, M2, E.ext S e2, e3, e7⟩
    | err e M1 => rw [q] at z; exact z
    | bad => rw [q] at z; exact z
theorem r_and (ha : PE X a (tM X.K Z fa)) (hb : PE X (.BoolOp .And (b :: rest) pos) (tM X.K Z fb)) : PE X (.BoolOp .And (a :: b :: rest) pos) (tM X.K Z (eAnd fa fb)) :=
  PE.cons (pe_andT ha hb) fun σ H Q ⟨δ, r, M, E, S, h⟩ => by
    refine ⟨δ, r, M, E, S, ?_⟩
    have z := Aft.bind S h
    cases q : fa δ M with
    | ok d M1 =>
      rw [q] at z
      refine fun v H' r' x s qv => ?_
      obtain ⟨d1, M2, r2, e1, e2, e3, e4, e5⟩ := z v H' r' x s qv
      obtain ⟨k, e6, e7⟩ := of_asTru e5
      refine ⟨k, truD_rep e3 e4 e6, ?_⟩
      cases k with
      | false => exact e7 v H' r2 Ext.refl e3 e4
      | true => exact ⟨δ, r2, M2, E.ext S e2, e3, e7⟩
    | err e M1 => rw [q] at z; exact z
    | bad => rw [q] at z; exact z
theorem r_not (ha : PE X a (tM X.K Z fa)) : PE X (.UnaryOp .Not a pos) (tM X.K Z (eNot fa)) :=
  PE.cons (pe_notT ha) fun σ H Q ⟨δ, r, M, E, S, h⟩ => by
    refine ⟨δ, r, M, E, S, ?_⟩
    have z := Aft.bind S h
    cases q : fa δ M with
    | ok d M1 =>
      rw [q] at z
      refine fun v H' r' x s qv => ?_
      obtain ⟨d1, M2, r2, e1, e2, e3, e4, e5⟩ := z v H' r' x s qv
      obtain ⟨k, e6, e7⟩ := of_asTru e5
      exact ⟨k, truD_rep e3 e4 e6, e7 _ H' r2 Ext.refl e3 rfl⟩
    | err e M1 => rw [q] at z; exact z
    | bad => rw [q] at z; exact z
end
end Wn
end

section
set_option Elab.async false
set_option linter.all false
set_option maxRecDepth 100000
set_option maxHeartbeats 4000000
namespace Wn
open PySem PySem.Spec PyProof.Rows L2

/-- what every context gives -/
structure Gd (X : Cx) : Prop where
  calm : X.calm = true
  un : X.A.units + 66 < cLine
  gua : X.A.guards = some []

section
variable {K : PySem.W.Frag} {Z : ZK} {H H1 H2 : Hp} {r r1 r2 : List Addr} {M M1 M2 : Mem} {Q : VK}
theorem AftL.ret {ds : List D} {vs : List V} {Q : List V → Hp → Prop} (S : Sim K H r M) (q : Reps K H r ds vs) (h : AftL K Z H r M (.ok ds M) Q) : Q vs H := h vs H r Ext.refl S q
/-- what is written at an address that is no cell's and was nothing at the start -/
theorem Ext.own {p : Addr} {o : HO} (e : Ext H r M H1 r1 M1) (hp : H p = none) : Ext H r M (upd H1 p o) r1 M1 :=
  ⟨e.pre, fun b u q n => (by rw [upd_ne (ne_of_none q hp)]; exact e.keep b u q n), e.fresh, e.dead⟩
/-- what may be written over -/
def MuH (H : Hp) (p : Addr) : Prop := (∃ xs, H p = some (.lst xs)) ∨ (∃ xs, H p = some (.dK xs)) ∨ H p = none
theorem stay_ownM {p : Addr} {o : HO} (hp : MuH H p) : Stay H r (upd H p o) r := by
  refine ⟨fun b u e => ?_, fun b u x e => ?_, fun _ _ h => h⟩
  · have hb : b ≠ p := fun z => by
      subst z
      rcases hp with ⟨xs, q⟩ | ⟨xs, q⟩ | q
      · rw [q] at e; cases e
      · rw [q] at e; cases e
      · rw [q] at e; cases e
    rw [upd_ne hb]; exact e
  · have hb : b ≠ p := fun z => by
      subst z
      rcases hp with ⟨xs, q⟩ | ⟨xs, q⟩ | q
      · rw [q] at e; cases e
      · rw [q] at e; cases e
      · rw [q] at e; cases e
    rw [upd_ne hb]; exact e
theorem stay_own {p : Addr} {o : HO} (hp : (∃ xs, H p = some (.lst xs)) ∨ H p = none) : Stay H r (upd H p o) r := stay_ownM (hp.elim .inl fun h => .inr (.inr h))
theorem CellRep.stay' {a : Addr} {c : Cell} (e : Stay H r H1 r1) (h : CellRep K H r a c) (k : H1 a = H a) : CellRep K H1 r1 a c := by
  cases c with
  | lst ds => obtain ⟨vs, e1, h1⟩ := h; exact ⟨vs, k.trans e1, h1.stay e⟩
  | dct kvs => obtain ⟨vs, e1, h0, h1⟩ := h; exact ⟨vs, k.trans e1, h0, h1.stay e⟩
  | dead => obtain ⟨o, e1⟩ := h; exact ⟨o, k.trans e1⟩
theorem Sim.own {p : Addr} {o : HO} (S : Sim K H r M) (hp : (∃ xs, H p = some (.lst xs)) ∨ H p = none) (hr : ∀ n : Nat, r[n]? ≠ some p) : Sim K (upd H p o) r M :=
  ⟨S.len, S.inj, fun n a c h1 h2 => (S.cell n a c h1 h2).stay' (stay_own hp) (upd_ne fun z => hr n (by rw [← z]; exact h1))⟩
/-- a new cell -/
theorem Aft.celG {p : Addr} {nc : Cell} {no : HO} (S : Sim K H r M) (hp : H p = none) (q : ∀ H' r', Stay H r H' r' → H' p = some no → CellRep K H' r' p nc) (h : Aft K Z H r M (.ok (.ref M.length) (M ++ [nc])) Q) : Q (.ref p) (upd H p no) := by
  have hr : ∀ n : Nat, r[n]? ≠ some p := fun n e => by
    obtain ⟨c, _, h3⟩ := S.here e
    obtain ⟨o, h4⟩ := h3.there
    rw [hp] at h4; cases h4
  have hs : Stay H r (upd H p no) (r ++ [p]) := by
    have := stay_own (H := H) (r := r) (o := no) (.inr hp)
    exact ⟨this.tup, this.frz, fun n a e => by rw [List.getElem?_append_left (List.getElem?_eq_some_iff.mp e).1]; exact e⟩
  refine h _ _ (r ++ [p]) ⟨⟨[p], rfl⟩, fun b u q n => (by rw [upd_ne (ne_of_none q hp)]; exact q), fun n b hn e => ?_, fun n e => ?_⟩ ⟨by simp [S.len], fun i j a h1 h2 => ?_, fun n a c h1 h2 => ?_⟩ ⟨p, rfl, ?_⟩
  · have hl := (List.getElem?_eq_some_iff.mp e).1
    rw [List.length_append, List.length_singleton] at hl
    have hn' : n = r.length := by omega
    subst hn'
    rw [List.getElem?_append_right (Nat.le_refl _)] at e
    simp at e
    rw [← e]; exact hp
  · rw [List.getElem?_append_left (List.getElem?_eq_some_iff.mp e).1]; exact e
  · have key : ∀ {i : Nat} {a : Addr}, (r ++ [p])[i]? = some a → (r[i]? = some a) ∨ (i = r.length ∧ a = p) := fun {i a} e => by
      by_cases hi : i < r.length
      · rw [List.getElem?_append_left hi] at e; exact .inl e
      · have hl := (List.getElem?_eq_some_iff.mp e).1
        rw [List.length_append, List.length_singleton] at hl
        have : i = r.length := by omega
        subst this
        rw [List.getElem?_append_right (Nat.le_refl _)] at e
        simp at e
        exact .inr ⟨rfl, e.symm⟩
    rcases key h1 with k1 | ⟨k1, k2⟩ <;> rcases key h2 with k3 | ⟨k3, k4⟩
    · exact S.inj i j a k1 k3
    · subst k4; exact absurd k1 (hr i)
    · subst k2; exact absurd k3 (hr j)
    · omega
  · by_cases hn : n < r.length
    · rw [List.getElem?_append_left hn] at h1
      rw [List.getElem?_append_left (by rw [← S.len]; exact hn)] at h2
      exact (S.cell n a c h1 h2).stay' hs (upd_ne fun z => hr n (by rw [← z]; exact h1))
    · have hl := (List.getElem?_eq_some_iff.mp h1).1
      rw [List.length_append, List.length_singleton] at hl
      have hn' : n = r.length := by omega
      subst hn'
      rw [List.getElem?_append_right (Nat.le_refl _)] at h1
      rw [List.getElem?_append_right (by rw [S.len]; exact Nat.le_refl _), S.len] at h2
      simp at h1 h2
      subst h1 h2
      exact q _ _ hs upd_same
  · rw [← S.len, List.getElem?_append_right (Nat.le_refl _)]; simp
theorem Aft.cel {p : Addr} {ds : List D} {vs : List V} (S : Sim K H r M) (hp : H p = none) (q : Reps K H r ds vs) (h : Aft K Z H r M (.ok (.ref M.length) (M ++ [.lst ds])) Q) : Q (.ref p) (upd H p (.lst vs)) :=
  Aft.celG (nc := .lst ds) (no := .lst vs) S hp (fun H' r' st e => ⟨vs, e, q.stay st⟩) h
end

/-! ### argument lists, displays -/
section
variable {X : Cx} {Z : ZS} {e : Expr} {es : List Expr} {fa : Fe} {fl : Fl} {pos : Pos}
theorem l_nil : PA X [] (tL X.K Z lNil) := PA.cons pa_nil fun σ H Q ⟨δ, r, M, E, S, h⟩ => AftL.ret (ds := []) S rfl h
theorem l_cons (ha : PE X e (tM X.K Z fa)) (hr : PA X es (tL X.K Z fl)) (hs : starEach (e :: es) X.env = (false, eval e X.env) :: starEach es X.env) : PA X (e :: es) (tL X.K Z (lCons fa fl)) :=
  PA.cons (pa_cons ha hr hs) fun σ H Q ⟨δ, r, M, E, S, h⟩ => ⟨δ, r, M, E, S, by
    have z := AftL.bind S h
    cases q : fa δ M with
    | ok d M1 =>
      rw [q] at z
      refine fun v H' r' x s qv => ?_
      obtain ⟨d1, M2, r2, e1, e2, e3, e4, e5⟩ := z v H' r' x s qv
      refine ⟨δ, r2, M2, E.ext S e2, e3, ?_⟩
      have z2 := AftL.bindL e3 e5
      cases q2 : fl δ M2 with
      | ok ds M3 =>
        rw [q2] at z2
        refine fun vs H'' r'' x2 s2 qv2 => ?_
        obtain ⟨ds1, M4, r4, f1, f2, f3, f4, f5⟩ := z2 vs H'' r'' x2 s2 qv2
        exact AftL.ret (ds := d1 :: ds1) f3 ⟨v, vs, rfl, e4.ext e3 f2, f4⟩ f5
      | err e M3 => rw [q2] at z2; exact z2
      | bad => rw [q2] at z2; exact z2
    | err e M1 => rw [q] at z; exact z
    | bad => rw [q] at z; exact z⟩
theorem of_ite' {Z : ZK} {α : Type} {c : Prop} [Decidable c] {K : PySem.W.Frag} {H : Hp} {r : List Addr} {M : Mem} {m : Mem → Res D} {Q : VK} (h : Aft K Z H r M ((if c then m else stuck) M) Q) : c ∧ Aft K Z H r M (m M) Q := by
  by_cases hc : c
  · rw [if_pos hc] at h; exact ⟨hc, h⟩
  · rw [if_neg hc] at h; exact h.elim
theorem dis {k : List D → Mem → Res D} {tt : TA → TE} (hl : PE X e (tt (tL X.K Z fl)))
    (ht : ∀ σ H Q, (∃ δ r M, EnvRep X.K H r σ δ ∧ Sim X.K H r M ∧ AftL X.K (Z σ) H r M (fl δ M) (fun vs H1 => ∃ d1 M1 r1, fl δ M = .ok d1 M1 ∧ Ext H r M H1 r1 M1 ∧ Sim X.K H1 r1 M1 ∧ Reps X.K H1 r1 d1 vs ∧ Aft X.K (Z σ) H1 r1 M1 (k d1 M1) Q)) → tt (tL X.K Z fl) σ H Q) :
    PE X e (tM X.K Z fun δ => bnd (fl δ) k) := PE.cons hl fun σ H Q ⟨δ, r, M, E, S, h⟩ => ht σ H Q ⟨δ, r, M, E, S, Aft.bindL S h⟩
theorem AftL.imp {Z : ZK} {K : PySem.W.Frag} {H : Hp} {r : List Addr} {M : Mem} {m : Res (List D)} {Q Q' : List V → Hp → Prop} (h : AftL K Z H r M m Q) (k : ∀ v H1, Q v H1 → Q' v H1) : AftL K Z H r M m Q' := by
  cases m with
  | ok d M1 => exact fun v H' r' x s q => k _ _ (h v H' r' x s q)
  | err e M1 => exact h
  | bad => exact h
theorem Aft.imp {Z : ZK} {K : PySem.W.Frag} {H : Hp} {r : List Addr} {M : Mem} {m : Res D} {Q Q' : VK} (h : Aft K Z H r M m Q) (k : ∀ v H1, Q v H1 → Q' v H1) : Aft K Z H r M m Q' := by
  cases m with
  | ok d M1 => exact fun v H' r' x s q => k _ _ (h v H' r' x s q)
  | err e M1 => exact h
  | bad => exact h
theorem AftB.imp {Z : ZK} {K : PySem.W.Frag} {H : Hp} {r : List Addr} {M : Mem} {m : Res Bool} {Q Q' : Bool → Hp → Prop} (h : AftB K Z H r M m Q) (k : ∀ v H1, Q v H1 → Q' v H1) : AftB K Z H r M m Q' := by
  cases m with
  | ok d M1 => exact fun H' r' x s => k _ _ (h H' r' x s)
  | err e M1 => exact h
  | bad => exact h
theorem r_tup {x1} (hl : PA X es (tL X.K Z fl)) : PE X (.Tuple es x1 pos) (tM X.K Z (eTup fl)) :=
  dis (pe_tup hl) fun σ H Q ⟨δ, r, M, E, S, h⟩ => ⟨δ, r, M, E, S, h.imp fun vs H1 ⟨d1, M1, r1, e1, e2, S1, q1, w⟩ => by
    obtain ⟨hz, w⟩ := of_ite' (α := D) w
    exact ⟨by rw [← q1.length]; exact hz, fun p hp => Aft.tup S1 hp q1 w⟩⟩
theorem r_lst (hl : PA X es (tL X.K Z fl)) : PE X (.List es pos) (tM X.K Z (eLst fl)) := by
  refine ⟨fun pins s σ H Q I ⟨δ, r, M, E, S, h⟩ => thn ((pe_lst hl).run pins s σ H (QFz Q) I ⟨δ, r, M, E, S, ?_⟩) fun u s' q => EP.freeze q⟩
  refine (Aft.bindL S h).imp fun vs H1 ⟨d1, M1, r1, e1, e2, S1, q1, w⟩ => ?_
  obtain ⟨hz, w⟩ := of_ite' (α := D) w
  exact ⟨by rw [← q1.length]; exact hz, fun p hp => ⟨p, vs, rfl, upd_same, fun o => by rw [upd_upd]; exact Aft.fzl S1 hp q1 w⟩⟩
theorem r_cel (hl : PA X es (tL X.K Z fl)) : PE X (.List es pos) (tM X.K Z (eCell fl)) :=
  dis (tt := tLst) (pe_lst hl) fun σ H Q ⟨δ, r, M, E, S, h⟩ => ⟨δ, r, M, E, S, h.imp fun vs H1 ⟨d1, M1, r1, e1, e2, S1, q1, w⟩ => by
    obtain ⟨hz, w⟩ := of_ite' (α := D) w
    exact ⟨by rw [← q1.length]; exact hz, fun p hp => Aft.cel S1 hp q1 w⟩⟩

/-! ### built-in functions -/
theorem AftL.call {Z : ZK} {g : Mem → List D → Option D} {K : PySem.W.Frag} {H : Hp} {r : List Addr} {M : Mem} {m : Mem → Res (List D)} {Q : VK} (S : Sim K H r M) (h : Aft K Z H r M (bnd m (fun xs M => opt (g M xs) M) M) Q) :
    AftL K Z H r M (m M) (fun vs H1 => ∃ ds d M1 r1, Sim K H1 r1 M1 ∧ Reps K H1 r1 ds vs ∧ g M1 ds = some d ∧ Wnt K H1 r1 M1 d Q) :=
  (Aft.bindL S h).imp fun vs H1 ⟨d1, M1, r1, e1, e2, S1, q1, w⟩ => let ⟨d, e3, w3⟩ := Aft.opt w; ⟨d1, d, M1, r1, S1, q1, e3, w3⟩
theorem r_callB {x : Str} {id : String} {p : Pos} {g : Mem → List D → Option D} (hc : CallS X (.builtin id) g) (hg : Gl X x) (hm : X.mg x = none) (hv : bootBuiltins x = some (.builtin id)) (ha : PA X (e :: es) (tL X.K Z fl)) (hn : x ≠ "__name__") (hdb : (x == ("__debug__" : Str)) = false)
    (he : starEach (e :: es) X.env = (false, eval e X.env) :: starEach es X.env) (hpl : (backTo pos (starEach es X.env)).any (·.1) = false) : PE X (.Call (.Name x p) (e :: es) [] pos) (tM X.K Z (eCall g fl)) := by
  refine ⟨fun pins s σ H Q I ⟨δ, r, M, E, S, h⟩ => ?_⟩
  refine wpAny_Call_Name_kw (ld_blt I hg hm hv ?_ hn hdb)
  exact PyProof.Rows.callWith_builtin1 (thn (ha.run pos pins s σ H _ I ⟨δ, r, M, E, S, AftL.call S h⟩) fun us s1 ⟨vs, H1, I1, r1, ds, d, M1, rr, S1, q1, e1, w⟩ => hc pins s1 σ H1 rr M1 vs us ds d Q I1 r1 S1 q1 e1 w) he hpl
theorem r_callT {x : Str} {T : String} {p : Pos} {g : Mem → List D → Option D} (hc : CallS X (.type T) g) (hg : Gl X x) (hm : X.mg x = none) (hv : bootBuiltins x = some (.type T)) (ha : PA X (e :: es) (tL X.K Z fl)) (hn : x ≠ "__name__") (hdb : (x == ("__debug__" : Str)) = false)
    (he : starEach (e :: es) X.env = (false, eval e X.env) :: starEach es X.env) (hpl : (backTo pos (starEach es X.env)).any (·.1) = false) : PE X (.Call (.Name x p) (e :: es) [] pos) (tM X.K Z (eCall g fl)) := by
  refine ⟨fun pins s σ H Q I ⟨δ, r, M, E, S, h⟩ => ?_⟩
  refine wpAny_Call_Name_kw (ld_blt I hg hm hv ?_ hn hdb)
  exact PyProof.Rows.callWith_type1 (thn (ha.run pos pins s σ H _ I ⟨δ, r, M, E, S, AftL.call S h⟩) fun us s1 ⟨vs, H1, I1, r1, ds, d, M1, rr, S1, q1, e1, w⟩ => hc pins s1 σ H1 rr M1 vs us ds d Q I1 r1 S1 q1 e1 w) he hpl
end

/-! ### methods of texts -/
/-- a method of a built-in type: the receiver's D, the arguments -/
def MtS1 (X : Cx) (T id : String) (g : Mem → D → List D → Option D) : Prop :=
  ∀ (pins : List (Addr × Obj)) (s : Shared) (σ : St) (H : Hp) (r : List Addr) (M : Mem) (x : V) (xs : List V) (v : Value) (us : List Value) (dx : D) (ds : List D) (d : D) (Q : VK), Inv X pins σ H s → RelV x v → Vals xs us → Sim X.K H r M → Rep X.K H r dx x → Reps X.K H r ds xs → g M dx ds = some d →
    Wnt X.K H r M d Q → wpAny (model X.prog X.w) X.A (call (.builtin id) (v :: us)) (EP X pins σ Q) X.xe s
def isS : D → Bool
  | .str _ => true
  | _ => false
/-- o.m(..) of a text -/
def eMt (g : Mem → D → List D → Option D) (a : Fe) (l : Fl) : Fe := fun δ => bnd (a δ) fun x => if isS x = true then bnd (l δ) (fun xs M => opt (g M x xs) M) else stuck
section
variable {X : Cx} {Z : ZS} {o e : Expr} {es : List Expr} {fa : Fe} {fl : Fl} {apos cpos : Pos} {id : String} {name : Str} {g : Mem → D → List D → Option D}
theorem tyV_str {K : PySem.W.Frag} {H : Hp} {r : List Addr} {d : D} {v : V} (h : isS d = true) (q : Rep K H r d v) : tyV K "str" v H := by
  cases d with
  | str x => cases q; exact rfl
  | _ => cases h
theorem r_mts (pa : PlainAttrs "str") (slot : Slot "str" name id) (hty : typeOf (.builtin id) = pure (.type "method_descriptor")) (hm : MtS1 X "str" id g) (ho : PE X o (tM X.K Z fa)) (ha : PA X (e :: es) (tL X.K Z fl))
    (hbase : attributeBase o name X.env (eval o X.env) = eval o X.env)
    (hfew : ((backTo cpos (starEach (e :: es) X.env)).all (fun x => !x.1) && (backToKw cpos (keywordEach [] X.env)).all (fun x => x.1.isSome)
      && decide ((e :: es).length + ([] : List Keyword).length + (if ([] : List Keyword).isEmpty then 0 else 1) < 30)) = true)
    (hline : (apos.endLine == cpos.line) = true) (hs : starEach (e :: es) X.env = (false, eval e X.env) :: starEach es X.env) (hplain : (backTo cpos (starEach es X.env)).any (·.1) = false) :
    PE X (.Call (.Attribute o name apos) (e :: es) [] cpos) (tM X.K Z (eMt g fa fl)) := by
  refine ⟨fun pins s σ H Q I ⟨δ, r, M, E, S, h⟩ => ?_⟩
  refine wpAny_Call_method_late hbase hfew hline rfl (thn (ho.run pins s σ H _ I ⟨δ, r, M, E, S, Aft.bind S h⟩) fun v s1 ⟨x, H1, I1, r1, d1, M1, rr, e1, X1, S1, q1, w⟩ => ?_)
  obtain ⟨hS, w⟩ := of_ite' (α := D) w
  obtain ⟨h1, h2⟩ := tyV_is I1 r1 (tyV_str hS q1)
  refine ⟨"str", id, pa, slot, hty, h1, h2, ?_⟩
  have hA := ha.run cpos pins s1 σ H1 _ I1 ⟨δ, rr, M1, E.ext S X1, S1, Aft.bindL S1 w⟩
  rw [hs] at hA ⊢
  refine Calls.callWith_builtin (by show (false || (backTo cpos (starEach es X.env)).any (·.1)) = false; rw [hplain] <;> rfl) (Calls.evalArgs_plain ?_)
  refine thn hA fun us s2 ⟨vs, H2, I2, r2, ds, M2, rr2, e2, X2, S2, q2, w2⟩ => ?_
  obtain ⟨d, e3, w3⟩ := Aft.opt w2
  exact hm pins s2 σ H2 rr2 M2 x vs v us d1 ds d Q I2 r1 r2 S2 (q1.ext S1 X2) q2 e3 w3
theorem r_mts0 (pa : PlainAttrs "str") (slot : Slot "str" name id) (hty : typeOf (.builtin id) = pure (.type "method_descriptor")) (hm : MtS1 X "str" id g) (ho : PE X o (tM X.K Z fa))
    (hbase : attributeBase o name X.env (eval o X.env) = eval o X.env) (hline : (apos.endLine == cpos.line) = true) : PE X (.Call (.Attribute o name apos) [] [] cpos) (tM X.K Z (eMt g fa lNil)) := by
  refine ⟨fun pins s σ H Q I ⟨δ, r, M, E, S, h⟩ => ?_⟩
  refine wpAny_Call_method0_late hbase hline (thn (ho.run pins s σ H _ I ⟨δ, r, M, E, S, Aft.bind S h⟩) fun v s1 ⟨x, H1, I1, r1, d1, M1, rr, e1, X1, S1, q1, w⟩ => ?_)
  obtain ⟨hS, w⟩ := of_ite' (α := D) w
  obtain ⟨h1, h2⟩ := tyV_is I1 r1 (tyV_str hS q1)
  obtain ⟨d, e3, w3⟩ := Aft.opt (show Aft X.K (Z σ) H1 rr M1 (opt (g M1 d1 []) M1) Q from w)
  exact ⟨"str", id, pa, slot, hty, h1, h2, Calls.callWith_builtin rfl (PySem.evalArgs_none (hm pins s1 σ H1 rr M1 x [] v [] d1 [] d Q I1 r1 .nil S1 q1 rfl e3 w3))⟩
end
end Wn
end

section
set_option Elab.async false
set_option linter.all false
set_option maxRecDepth 100000
set_option maxHeartbeats 4000000
namespace Wn
open PySem PySem.Spec PyProof.Rows L2

/-! ### enumerate of a text -/
/-- its signs, each in a new pair with its place -/
def Iek (x : Str) : It := ⟨fun i _ => i < x.cps.size, fun i H v H' => ∃ T c, v = .ref T ∧ H T = none ∧ H' = upd H T (.tup [.int (i : Nat), .str ⟨#[c]⟩]) ∧ x.cps[i]? = some c, fun i _ => x.cps.size ≤ i⟩
theorem draw_str {P : Program} {w : World} {A : Around} (hh : A.handled = none) (it : Addr) (x : Str) (t : Tok) (ty : String) (hty : ty = "str_ascii_iterator" ∨ ty = "str_iterator") :
    Draws P w A it [it] x.cps.size (fun i v => ∃ c u, x.cps[i]? = some c ∧ v = .str ⟨#[c]⟩ u) (fun i h => h.IsStrIter it ty x t i) := by
  rcases hty with e | e
  · rw [e]; exact Draws.strAscii hh it x t
  · rw [e]; exact Draws.strWide hh it x t
theorem turn_enumS {P : Program} {w : World} {K : PySem.W.Frag} {elts : List Expr} {kk : Nat} {tpos : Pos} (x : Str) (t : Tok) (ty : String) (hty : ty = "str_ascii_iterator" ∨ ty = "str_iterator") (e it : Addr) :
    Turn P w K (.Tuple elts kk tpos) (Iek x) [e, it] e (fun i h => (∃ old, IsEnum h e it ((i : Nat) : Int) old) ∧ h.IsStrIter it ty x t i ∧ e ≠ it) where
  mem := List.mem_cons_self ..
  obj := fun i h st b hb => by
    obtain ⟨⟨old, he⟩, ⟨o, ho, _, hd⟩, _⟩ := st
    rcases List.mem_cons.mp hb with z | z
    · subst z; exact ⟨_, he, fun v q => nomatch q⟩
    · exact ⟨o, by rw [List.mem_singleton.mp z]; exact ho, fun v q => by rw [hd] at q; cases q⟩
  keep := fun i h h' st k => by
    obtain ⟨⟨old, he⟩, ⟨o, ho, rr⟩, hne⟩ := st
    exact ⟨⟨old, k e (List.mem_cons_self ..) _ he⟩, ⟨o, k it (List.mem_cons_of_mem _ (List.mem_singleton_self _)) o ho, rr⟩, hne⟩
  item := by
    intro X hP hw hK hc i pins s σ H E I hf st hg
    subst hP hw hK
    obtain ⟨⟨old, he⟩, hit, hne⟩ := st
    have hel : e < s.heap.objs.size := Heap.lt_size he
    have hil : it < s.heap.objs.size := by obtain ⟨_, q, _⟩ := hit; exact Heap.lt_size q
    have dr := draw_str (P := X.prog) (w := X.w) (A := X.A.in1) (I.ok.hd hc) it x t ty hty
    refine wpAny_pyNext_enum_itemD dr he hit hg hne (fun z => hne (List.mem_singleton.mp z)) fun v h' tk hv ho hit' hT hsz hk => ?_
    obtain ⟨c, u, hcx, rfl⟩ := hv
    refine ⟨_, rfl, wpAny_letOwnedTupleGo_enum (s := { s with heap := h', toks := tk + 1 }) ho fun h2 he' sb => ?_⟩
    have hT2 : h2.get? s.heap.objs.size = some { cls := .type "tuple", data := .seq #[.int i tk, .str ⟨#[c]⟩ u] } := (sb.2 _ (Nat.ne_of_gt hel)).trans hT
    have new : ObjOk X.prog X.w (upd H s.heap.objs.size (.tup [.int (i : Nat), .str ⟨#[c]⟩])) h2 s.heap.objs.size (.tup [.int (i : Nat), .str ⟨#[c]⟩]) :=
      ⟨by show 2 ≤ sizeLine; decide, [.int i tk, .str ⟨#[c]⟩ u], .cons ⟨_, rfl⟩ (.cons ⟨_, rfl⟩ .nil), _, hT2, rfl, _, rfl⟩
    have I1 : Inv X pins σ (upd H s.heap.objs.size (.tup [.int (i : Nat), .str ⟨#[c]⟩])) { s with heap := h2, toks := tk + 1 } :=
      I.turnedNew (ch := [e, it]) (fun b ob hb q => (sb.2 b fun z => hb (by rw [z]; exact List.mem_cons_self ..)).trans (hk b ob (fun z => hb (by rw [z]; exact List.mem_cons_self ..)) (fun z => hb (by rw [z]; exact List.mem_cons_of_mem _ (List.mem_singleton_self _))) q)) hf (Nat.le_refl _) new
    obtain ⟨oi, f1, f2⟩ := hit'
    have ie : ((i : Nat) : Int) + 1 = ((i + 1 : Nat) : Int) := by omega
    refine ⟨.ref s.heap.objs.size, _, I1, rfl, ⟨_, c, rfl, I.hok.fresh (Nat.le_refl _), rfl, hcx⟩, ⟨⟨_, by rw [← ie]; exact he'⟩, ⟨oi, (sb.2 it (Ne.symm hne)).trans f1, f2⟩, hne⟩, fun b hb => ?_⟩
    have hb' : b < s.heap.objs.size := by
      rcases List.mem_cons.mp hb with z | z
      · rw [z]; exact hel
      · rw [List.mem_singleton.mp z]; exact hil
    rw [upd_ne (Nat.ne_of_lt hb')]
    exact (hf b hb).1
  done := by
    intro X hP hw hK hc i pins s σ H E I hf st hg
    subst hP hw hK
    obtain ⟨⟨old, he⟩, hit, hne⟩ := st
    obtain ⟨f0, f1, f2, f3, f4, f5⟩ := hf it (List.mem_cons_of_mem _ (List.mem_singleton_self _))
    have hx : x.cps[i]? = none := Array.getElem?_eq_none hg
    unfold pyNext
    have dn : ∀ (Q : Value → Shared → Prop) (E : Value → Shared → Prop), (∀ h' x, Heap.ExtBut it s.heap h' → (∃ o, h'.get? x = some o ∧ o.cls = .type "StopIteration") → E (.ref x) { s with heap := h' }) → wpAny (model X.prog X.w) X.A.in1 (Builtin.SmallTypes.nextOf (.ref it)) Q E s := fun Q E k => by
      rcases hty with z | z
      · rw [z] at hit
        exact wpAny_nextOf_ascii_end (I.ok.hd hc) hit hx fun h' x a b => k h' x a b
      · rw [z] at hit
        exact wpAny_nextOf_wide_end (I.ok.hd hc) hit hx fun h' x a b => k h' x a b
    have hT : s.TypeIs (.ref e) "enumerate" := ⟨_, he, rfl⟩
    refine wpAny_bind (wpAny_attempt (wpAny_callSpecial?_slot (name := Str.ofString "__next__") hT F.slot_enumerate_next
      (wpAny_call_entry F.slot_enumerate_next hT F.entry_enumerate_next ?_ (F.args_enumerate_next_1 _))))
    show wpAny _ _ (field (.ref e) 2 >>= _) _ _ _
    refine wpAny_bind (wpAny_field he rfl (x := .ref it) rfl ?_)
    refine wpAny_bind (dn _ _ fun h' y he' hy => ?_)
    obtain ⟨o, ho, hcl⟩ := hy
    refine wpAny_bind (wpAny_isInstance (T := "StopIteration") (b := true) ⟨o, ho, hcl⟩ isSubtype_stop ?_)
    exact wpAny_pure ⟨rfl, I.turned (t' := s.toks) (fun b o hb q => he' b o hb q) f0 f1 f3 f4 f5⟩
  self := fun A i s Q E st h => wpAny_pyIter_enum st.1.choose_spec h
theorem pi_enumK {X : Cx} {pins : List (Addr × Obj)} {σ : St} {H : Hp} {s : Shared} {R : It → Hp → Prop} {elts : List Expr} {kk : Nat} {tpos : Pos} {x : Str} {t : Tok} (I : Inv X pins σ H s) (q : R (Iek x) H) :
    wpAny (model X.prog X.w) X.A (call (.type "enumerate") [.str x t]) (fun v s1 => wpAny (model X.prog X.w) X.A (pyIter v) (PIE X pins σ (.Tuple elts kk tpos) R) X.xe s1) X.xe s := by
  refine call_enumerate_str fun h' he hit hsz hk => wpAny_pyIter_enum he ?_
  have I2 : Inv X pins σ H { s with heap := h' } := I.kept (t' := s.toks) hk
  have hty : strIterType x = "str_ascii_iterator" ∨ strIterType x = "str_iterator" := by
    unfold strIterType
    cases x.cps.all (· < 128)
    · exact .inr rfl
    · exact .inl rfl
  refine ⟨s.heap.objs.size + 1, [s.heap.objs.size + 1, s.heap.objs.size], _, _, H, rfl, I2, turn_enumS x t _ hty (s.heap.objs.size + 1) s.heap.objs.size, ⟨⟨.none, he⟩, hit, Nat.succ_ne_self _⟩, fun b hb => ?_, q⟩
  have hle : s.heap.objs.size ≤ b := by
    rcases List.mem_cons.mp hb with z | z
    · rw [z]; exact Nat.le_add_right _ _
    · rw [List.mem_singleton.mp z]; exact Nat.le_refl _
  exact I.fpOk hle (I.hok.fresh hle)

/-! ### what is walked, as data -/
/-- J walks the data ds, whatever happens to cells -/
def IterD (K : PySem.W.Frag) (J : It) (H : Hp) (r : List Addr) (M : Mem) (ds : List D) : Prop :=
  ∃ (G : Hp → Prop) (Y : Nat → Hp → V → Hp → Prop), Walk J ds.length G Y ∧ ∀ H1 r1 M1, Ext H r M H1 r1 M1 → Sim K H1 r1 M1 → G H1 ∧ ∀ i x H2, i < ds.length → Y i H1 x H2 → ∃ d, ds[i]? = some d ∧ Ext H1 r1 M1 H2 r1 M1 ∧ Sim K H2 r1 M1 ∧ Rep K H2 r1 d x
def AftI (K : PySem.W.Frag) (Z : ZK) (H : Hp) (r : List Addr) (M : Mem) (res : Res (List D)) (R : It → Hp → Prop) : Prop := match res with
  | .ok ds M' => ∀ J H' r', Ext H r M H' r' M' → Sim K H' r' M' → IterD K J H' r' M' ds → R J H'
  | .err e M' => ∀ H' r', Ext H r M H' r' M' → Sim K H' r' M' → Z e H' r' M'
  | .bad => False
def tI (K : PySem.W.Frag) (Z : ZS) (f : Env → Mem → Res (List D)) : TI := fun σ H R => ∃ δ r M, EnvRep K H r σ δ ∧ Sim K H r M ∧ AftI K (Z σ) H r M (f δ M) R
theorem PI.cons {X : Cx} {tg e : Expr} {t t' : TI} (h : PI X tg e t) (k : ∀ σ H R, t' σ H R → t σ H R) : PI X tg e t' := ⟨fun pins s σ H R I q => h.run pins s σ H R I (k σ H R q)⟩
section
variable {K : PySem.W.Frag} {Z : ZK} {H H1 : Hp} {r r1 : List Addr} {M M1 : Mem}
theorem AftI.bind {m : Mem → Res D} {k : D → Mem → Res (List D)} {R : It → Hp → Prop} (S : Sim K H r M) (h : AftI K Z H r M (bnd m k M) R) :
    Aft K Z H r M (m M) (fun v H1 => ∃ d1 M1 r1, m M = .ok d1 M1 ∧ Ext H r M H1 r1 M1 ∧ Sim K H1 r1 M1 ∧ Rep K H1 r1 d1 v ∧ AftI K Z H1 r1 M1 (k d1 M1) R) := by
  unfold bnd at h
  cases e : m M with
  | ok d M' =>
    rw [e] at h
    refine fun v H' r' x s q => ⟨d, M', r', rfl, x, s, q, ?_⟩
    replace h : AftI K Z H r M (k d M') R := h
    cases f : k d M' with
    | ok ds M2 => rw [f] at h; exact fun J H2 r2 x2 s2 i2 => h J H2 r2 (x.trans S s x2) s2 i2
    | err e M2 => rw [f] at h; exact fun H2 r2 x2 s2 => h H2 r2 (x.trans S s x2) s2
    | bad => rw [f] at h; exact h
  | err d M' => rw [e] at h; exact h
  | bad => rw [e] at h; exact h
theorem AftI.bindL {m : Mem → Res (List D)} {k : List D → Mem → Res (List D)} {R : It → Hp → Prop} (S : Sim K H r M) (h : AftI K Z H r M (bnd m k M) R) :
    AftL K Z H r M (m M) (fun v H1 => ∃ d1 M1 r1, m M = .ok d1 M1 ∧ Ext H r M H1 r1 M1 ∧ Sim K H1 r1 M1 ∧ Reps K H1 r1 d1 v ∧ AftI K Z H1 r1 M1 (k d1 M1) R) := by
  unfold bnd at h
  cases e : m M with
  | ok d M' =>
    rw [e] at h
    refine fun v H' r' x s q => ⟨d, M', r', rfl, x, s, q, ?_⟩
    replace h : AftI K Z H r M (k d M') R := h
    cases f : k d M' with
    | ok ds M2 => rw [f] at h; exact fun J H2 r2 x2 s2 i2 => h J H2 r2 (x.trans S s x2) s2 i2
    | err e M2 => rw [f] at h; exact fun H2 r2 x2 s2 => h H2 r2 (x.trans S s x2) s2
    | bad => rw [f] at h; exact h
  | err d M' => rw [e] at h; exact h
  | bad => rw [e] at h; exact h
/-- what may be walked as a list: frozen ones, the script -/
def itL : D → Mem → Res (List D)
  | .lst ds, M => .ok ds M
  | .scr ds, M => .ok ds M
  | _, _ => .bad
def itT : D → Mem → Res (List D)
  | .tup ds, M => .ok ds M
  | _, _ => .bad
def itS : D → Mem → Res (List D)
  | .str x, M => .ok (sgn x) M
  | _, _ => .bad
theorem sgn_length (x : Str) : (sgn x).length = x.cps.size := by simp [sgn]
theorem iterD_list {a : Addr} {vs : List V} {ds : List D} (S : Sim K H r M) (hq : ∀ H1 r1 M1, Ext H r M H1 r1 M1 → SqL K H1 a vs) (q : Reps K H r ds vs) : IterD K (Itl K a) H r M ds := by
  refine ⟨fun H => SqL K H a vs, YAt vs, by rw [q.length]; exact walk_list, fun H1 r1 M1 x S1 => ⟨hq H1 r1 M1 x, fun i v H2 hi y => ?_⟩⟩
  obtain ⟨e, hv⟩ := y
  subst e
  obtain ⟨v', e2, q2⟩ := (q.ext S x).get (d := ds[i]) (List.getElem?_eq_getElem hi)
  rw [hv] at e2
  cases e2
  exact ⟨ds[i], List.getElem?_eq_getElem hi, Ext.refl, S1, q2⟩
theorem iterD_tup {a : Addr} {vs : List V} {ds : List D} (S : Sim K H r M) (hq : SqT K H a vs) (q : Reps K H r ds vs) : IterD K (Itt K a) H r M ds := by
  refine ⟨fun H => SqT K H a vs, YAt vs, by rw [q.length]; exact walk_tup, fun H1 r1 M1 x S1 => ⟨(x.stay S).sqt hq, fun i v H2 hi y => ?_⟩⟩
  obtain ⟨e, hv⟩ := y
  subst e
  obtain ⟨v', e2, q2⟩ := (q.ext S x).get (d := ds[i]) (List.getElem?_eq_getElem hi)
  rw [hv] at e2
  cases e2
  exact ⟨ds[i], List.getElem?_eq_getElem hi, Ext.refl, S1, q2⟩
theorem sgn_get {x : Str} {i : Nat} {c : Nat} (h : x.cps[i]? = some c) : (sgn x)[i]? = some (.str ⟨#[c]⟩) := by
  unfold sgn
  rw [List.getElem?_map, Array.getElem?_toList, h]; rfl
theorem iterD_str {x : Str} (S : Sim K H r M) : IterD K (Its x) H r M (sgn x) := by
  refine ⟨fun _ => True, _, by rw [sgn_length]; exact walk_str, fun H1 r1 M1 e S1 => ⟨trivial, fun i v H2 hi y => ?_⟩⟩
  obtain ⟨e2, c, hc, rfl⟩ := y
  subst e2
  exact ⟨.str ⟨#[c]⟩, sgn_get hc, Ext.refl, S1, rfl⟩
def rng (lo : Int) (n : Nat) : List D := (List.range n).map fun i => .int (lo + (i : Nat))
theorem iterD_range {lo : Int} {n : Nat} (S : Sim K H r M) : IterD K (Itr lo n) H r M (rng lo n) := by
  refine ⟨fun _ => True, _, by unfold rng; rw [List.length_map, List.length_range]; exact walk_range, fun H1 r1 M1 e S1 => ⟨trivial, fun i v H2 hi y => ?_⟩⟩
  obtain ⟨e2, rfl⟩ := y
  subst e2
  have hi' : i < n := by simpa [rng] using hi
  exact ⟨.int (lo + i), by simp [rng, hi'], Ext.refl, S1, rfl⟩
/-- pairs that are made one behind another -/
def pairs : List D → List D → List D
  | a :: as, b :: bs => .tup [a, b] :: pairs as bs
  | _, _ => []
theorem pairs_length : ∀ (a b : List D), (pairs a b).length = min a.length b.length
  | [], b => by simp [pairs]
  | _ :: _, [] => by simp [pairs]
  | _ :: as, _ :: bs => by simp [pairs, pairs_length as bs]
theorem pairs_get : ∀ {a b : List D} {i : Nat} {x y : D}, a[i]? = some x → b[i]? = some y → (pairs a b)[i]? = some (.tup [x, y])
  | [], _, _, _, _, h, _ => by simp at h
  | _ :: _, [], _, _, _, _, h => by simp at h
  | _ :: as, _ :: bs, 0, x, y, h, h' => by simp at h h'; subst h h'; rfl
  | _ :: as, _ :: bs, i + 1, x, y, h, h' => by simp [pairs]; exact pairs_get (by simpa using h) (by simpa using h')
/-- a new pair at each turn -/
theorem iterD_pair {J : It} {n : Nat} {G : Hp → Prop} {xs ys : Nat → Option V} {as bs : List D} (W : Walk J n G (YPair xs ys)) (hn : n = min as.length bs.length) (S : Sim K H r M) (hG : ∀ H1 r1 M1, Ext H r M H1 r1 M1 → Sim K H1 r1 M1 → G H1)
    (hx : ∀ H1 r1 M1 i v a, Ext H r M H1 r1 M1 → xs i = some v → as[i]? = some a → Rep K H1 r1 a v) (hy : ∀ H1 r1 M1 i v a, Ext H r M H1 r1 M1 → ys i = some v → bs[i]? = some a → Rep K H1 r1 a v) : IterD K J H r M (pairs as bs) := by
  refine ⟨G, _, by rw [pairs_length, ← hn]; exact W, fun H1 r1 M1 e S1 => ⟨hG _ _ _ e S1, fun i v H2 hi y => ?_⟩⟩
  rw [pairs_length] at hi
  obtain ⟨T, x, y, rfl, hT, rfl, e1, e2⟩ := y
  have h1 : as[i]? = some as[i] := List.getElem?_eq_getElem (by omega)
  have h2 : bs[i]? = some bs[i] := List.getElem?_eq_getElem (by omega)
  refine ⟨.tup [as[i], bs[i]], pairs_get h1 h2, ext_new S1 hT, sim_new S1 hT, T, [x, y], rfl, .of upd_same, ?_⟩
  have st : Stay H1 r1 (upd H1 T (.tup [x, y])) r1 := stay_new hT
  exact ⟨x, [y], rfl, (hx _ _ _ i x _ e e1 h1).stay st, y, [], rfl, (hy _ _ _ i y _ e e2 h2).stay st, rfl⟩
def nums (n : Nat) : List D := (List.range n).map fun i => .int ((i : Nat) : Int)
theorem nums_length (n : Nat) : (nums n).length = n := by simp [nums]
theorem iterD_enumS {x : Str} (S : Sim K H r M) : IterD K (Iek x) H r M (pairs (nums (sgn x).length) (sgn x)) := by
  have W : Walk (Iek x) x.cps.size (fun _ => True) (YPair (fun i => some (.int (i : Nat))) (fun i => (x.cps[i]?).map fun c => .str ⟨#[c]⟩)) :=
    ⟨fun _ _ hi _ => hi, fun _ _ => Nat.le_refl _, fun i H v H' _ _ y => by
      obtain ⟨T, c, h1, h2, h3, h4⟩ := y
      exact ⟨T, .int (i : Nat), .str ⟨#[c]⟩, h1, h2, h3, rfl, by simp [h4]⟩⟩
  refine iterD_pair W (by rw [nums_length, sgn_length]; simp) S (fun _ _ _ _ _ => trivial) (fun H1 r1 M1 i v a _ e1 e2 => ?_) fun H1 r1 M1 i v a _ e1 e2 => ?_
  · cases e1
    by_cases hi : i < (sgn x).length
    · simp [nums, hi] at e2
      subst e2
      exact rfl
    · simp [nums, hi] at e2
  · cases q : x.cps[i]? with
    | none => rw [q] at e1; cases e1
    | some c =>
      rw [q] at e1
      cases e1
      rw [sgn_get q] at e2
      cases e2
      exact rfl
theorem iterD_enumL {a : Addr} {vs : List V} {ds : List D} (S : Sim K H r M) (hq : ∀ H1 r1 M1, Ext H r M H1 r1 M1 → SqL K H1 a vs) (q : Reps K H r ds vs) : IterD K (Ite K a) H r M (pairs (nums ds.length) ds) := by
  refine iterD_pair walk_enum (by rw [nums_length, q.length]; simp) S (fun _ _ _ e _ => hq _ _ _ e) (fun H1 r1 M1 i v a _ e1 e2 => ?_) fun H1 r1 M1 i v a e e1 e2 => ?_
  · cases e1
    by_cases hi : i < ds.length
    · simp [nums, hi] at e2
      subst e2
      exact rfl
    · simp [nums, hi] at e2
  · obtain ⟨v', e3, q3⟩ := (q.ext S e).get e2
    rw [e1] at e3
    cases e3
    exact q3
theorem walk_zipT {a b : Addr} {xs ys : List V} {n : Nat} (hn : n = min xs.length ys.length) : Walk (RZ.ItzT K a b) n (fun H => SqT K H a xs ∧ SqT K H b ys) (YPair (fun i => xs[i]?) (fun i => ys[i]?)) := by
  subst hn
  refine ⟨fun i _ hi q => ⟨xs, ys, xs[i]'(by omega), ys[i]'(by omega), q.1, q.2, List.getElem?_eq_getElem (by omega), List.getElem?_eq_getElem (by omega)⟩, fun _ q => ⟨xs, ys, q.1, q.2, by omega⟩, fun i H v H' _ q y => ?_⟩
  obtain ⟨T, x, z, h1, h2, h3, h4, h5⟩ := y
  exact ⟨T, x, z, h1, h2, h3, h4 xs q.1, h5 ys q.2⟩
theorem iterD_zipT {a b : Addr} {xs ys : List V} {as bs : List D} (S : Sim K H r M) (h1 : SqT K H a xs) (h2 : SqT K H b ys) (q1 : Reps K H r as xs) (q2 : Reps K H r bs ys) : IterD K (RZ.ItzT K a b) H r M (pairs as bs) :=
  iterD_pair (walk_zipT rfl) (by rw [q1.length, q2.length]) S (fun _ _ _ e _ => ⟨(e.stay S).sqt h1, (e.stay S).sqt h2⟩)
    (fun H1 r1 M1 i v a e e1 e2 => let ⟨v', e3, q3⟩ := (q1.ext S e).get e2; by rw [e1] at e3; cases e3; exact q3) fun H1 r1 M1 i v a e e1 e2 => let ⟨v', e3, q3⟩ := (q2.ext S e).get e2; by rw [e1] at e3; cases e3; exact q3
theorem iterD_zipL {a b : Addr} {xs ys : List V} {as bs : List D} (S : Sim K H r M) (h1 : ∀ H1 r1 M1, Ext H r M H1 r1 M1 → SqL K H1 a xs) (h2 : ∀ H1 r1 M1, Ext H r M H1 r1 M1 → SqL K H1 b ys) (q1 : Reps K H r as xs) (q2 : Reps K H r bs ys) : IterD K (Itz K a b) H r M (pairs as bs) :=
  iterD_pair (walk_zip rfl) (by rw [q1.length, q2.length]) S (fun _ _ _ e _ => ⟨h1 _ _ _ e, h2 _ _ _ e⟩)
    (fun H1 r1 M1 i v a e e1 e2 => let ⟨v', e3, q3⟩ := (q1.ext S e).get e2; by rw [e1] at e3; cases e3; exact q3) fun H1 r1 M1 i v a e e1 e2 => let ⟨v', e3, q3⟩ := (q2.ext S e).get e2; by rw [e1] at e3; cases e3; exact q3
/-- what may be walked as a list lies still -/
theorem itL_rep {d : D} {ds : List D} {v : V} (S : Sim K H r M) (h : Rep K H r d v) (e : itL d M = .ok ds M1) : M1 = M ∧ ∃ a vs, v = .ref a ∧ (∀ H1 r1 M1, Ext H r M H1 r1 M1 → SqL K H1 a vs) ∧ Reps K H r ds vs := by
  cases d with
  | lst es =>
    cases e
    obtain ⟨a, vs, rfl, h1, h2⟩ := h
    exact ⟨rfl, a, vs, rfl, fun _ _ _ x => ((x.stay S).fzl h1).sql, h2⟩
  | scr es =>
    cases e
    obtain ⟨a, vs, rfl, h1, h2⟩ := h
    exact ⟨rfl, a, vs, rfl, fun _ _ _ x => ((x.stay S).scl h1).sql, h2⟩
  | _ => cases e
end

/-! ### rules of iterables -/
def iSeq (k : D → Mem → Res (List D)) (a : Fe) : Env → Mem → Res (List D) := fun δ => bnd (a δ) k
def fRng : List D → Mem → Res (List D)
  | [.int j], M => if j.natAbs < 2 ^ 62 then .ok (rng 0 j.toNat) M else .bad
  | [.int i, .int j], M => if i.natAbs < 2 ^ 62 ∧ j.natAbs < 2 ^ 62 then .ok (rng i (j - i).toNat) M else .bad
  | _, _ => .bad
def fEnu : List D → Mem → Res (List D)
  | [.str x], M => .ok (pairs (nums (sgn x).length) (sgn x)) M
  | [d], M => bnd (itL d) (fun ds => ret (pairs (nums ds.length) ds)) M
  | _, _ => .bad
def fZip : List D → Mem → Res (List D)
  | [.tup a, .tup b], M => .ok (pairs a b) M
  | [x, y], M => bnd (itL x) (fun a => bnd (itL y) (fun b => ret (pairs a b))) M
  | _, _ => .bad
def iArg (k : List D → Mem → Res (List D)) (l : Fl) : Env → Mem → Res (List D) := fun δ => bnd (l δ) k
section
variable {X : Cx} {Z : ZS} {tg e a b : Expr} {fa : Fe} {fl : Fl} {p pos : Pos}
theorem i_list (he : PE X e (tM X.K Z fa)) : PI X tg e (tI X.K Z (iSeq itL fa)) :=
  PI.cons (pi_list he) fun σ H R ⟨δ, r, M, E, S, h⟩ => ⟨δ, r, M, E, S, (AftI.bind S h).imp fun v H1 ⟨d1, M1, r1, e1, x1, S1, q1, w⟩ => by
    cases f : itL d1 M1 with
    | bad => rw [f] at w; exact w.elim
    | err e M2 => cases d1 <;> cases f
    | ok ds M2 =>
      obtain ⟨rfl, a, vs, rfl, h2, q2⟩ := itL_rep S1 q1 f
      rw [f] at w
      exact ⟨a, rfl, ⟨vs, h2 _ _ _ Ext.refl⟩, w _ H1 r1 Ext.refl S1 (iterD_list S1 h2 q2)⟩⟩
theorem i_tup (he : PE X e (tM X.K Z fa)) : PI X tg e (tI X.K Z (iSeq itT fa)) :=
  PI.cons (pi_tup he) fun σ H R ⟨δ, r, M, E, S, h⟩ => ⟨δ, r, M, E, S, (AftI.bind S h).imp fun v H1 ⟨d1, M1, r1, e1, x1, S1, q1, w⟩ => by
    cases d1 with
    | tup ds =>
      obtain ⟨a, vs, rfl, h2, q2⟩ := q1
      exact ⟨a, rfl, ⟨vs, h2⟩, w _ H1 r1 Ext.refl S1 (iterD_tup S1 h2 q2)⟩
    | _ => exact False.elim w⟩
theorem i_str (he : PE X e (tM X.K Z fa)) : PI X tg e (tI X.K Z (iSeq itS fa)) :=
  PI.cons (pi_str he) fun σ H R ⟨δ, r, M, E, S, h⟩ => ⟨δ, r, M, E, S, (AftI.bind S h).imp fun v H1 ⟨d1, M1, r1, e1, x1, S1, q1, w⟩ => by
    cases d1 with
    | str x => cases q1; exact ⟨x, rfl, w _ H1 r1 Ext.refl S1 (iterD_str S1)⟩
    | _ => exact False.elim w⟩
theorem reps_int1 {K : PySem.W.Frag} {H : Hp} {r : List Addr} {vs : List V} {ds : List D} (q : Reps K H r ds vs) (h : ds.length = 1) : ∃ d v, ds = [d] ∧ vs = [v] ∧ Rep K H r d v := by
  cases ds with
  | nil => cases h
  | cons d ds =>
    cases ds with
    | cons _ _ => simp at h
    | nil =>
      obtain ⟨v, ws, rfl, h1, h2⟩ := q
      cases h2
      exact ⟨d, v, rfl, rfl, h1⟩
theorem reps_2 {K : PySem.W.Frag} {H : Hp} {r : List Addr} {vs : List V} {ds : List D} (q : Reps K H r ds vs) (h : ds.length = 2) : ∃ d e v w, ds = [d, e] ∧ vs = [v, w] ∧ Rep K H r d v ∧ Rep K H r e w := by
  match ds, h with
  | [d, e], _ =>
    obtain ⟨v, ws, rfl, h1, v2, ws2, rfl, h2, h3⟩ := q
    cases h3
    exact ⟨d, e, v, v2, rfl, rfl, h1, h2⟩
/-- range of one part -/
def fRng1 : List D → Mem → Res (List D) := fun l M => if l.length = 1 then fRng l M else .bad
def fRng2 : List D → Mem → Res (List D) := fun l M => if l.length = 2 then fRng l M else .bad
theorem i_range1 (hg : Gl X "range") (hm : X.mg "range" = none) (ha : PA X [a] (tL X.K Z fl)) (hs : starEach [a] X.env = [(false, eval a X.env)]) : PI X tg (.Call (.Name "range" p) [a] [] pos) (tI X.K Z (iArg fRng1 fl)) :=
  PI.cons (pi_range1 hg hm ha hs) fun σ H R ⟨δ, r, M, E, S, h⟩ => ⟨δ, r, M, E, S, (AftI.bindL S h).imp fun v H1 ⟨d1, M1, r1, e1, x1, S1, q1, w⟩ => by
    by_cases hl : d1.length = 1
    · obtain ⟨d, v, rfl, rfl, q2⟩ := reps_int1 q1 hl
      replace w : AftI X.K (Z σ) H1 r1 M1 (fRng [d] M1) R := by simpa [fRng1] using w
      cases d with
      | int j =>
        cases q2
        replace w : AftI X.K (Z σ) H1 r1 M1 (if j.natAbs < 2 ^ 62 then .ok (rng 0 j.toNat) M1 else .bad) R := w
        by_cases hj : j.natAbs < 2 ^ 62
        · rw [if_pos hj] at w
          exact ⟨j, rfl, by omega, by omega, w _ H1 r1 Ext.refl S1 (iterD_range S1)⟩
        · rw [if_neg hj] at w; exact False.elim w
      | _ => exact False.elim w
    · unfold fRng1 at w
      rw [if_neg hl] at w; exact False.elim w⟩
theorem i_range2 (hg : Gl X "range") (hm : X.mg "range" = none) (ha : PA X [a, b] (tL X.K Z fl)) (hs : starEach [a, b] X.env = [(false, eval a X.env), (false, eval b X.env)]) (hs2 : starEach [b] X.env = [(false, eval b X.env)]) : PI X tg (.Call (.Name "range" p) [a, b] [] pos) (tI X.K Z (iArg fRng2 fl)) :=
  PI.cons (pi_range2 hg hm ha hs hs2) fun σ H R ⟨δ, r, M, E, S, h⟩ => ⟨δ, r, M, E, S, (AftI.bindL S h).imp fun v H1 ⟨d1, M1, r1, e1, x1, S1, q1, w⟩ => by
    by_cases hl : d1.length = 2
    · obtain ⟨d, d', v, v', rfl, rfl, q2, q3⟩ := reps_2 q1 hl
      replace w : AftI X.K (Z σ) H1 r1 M1 (fRng [d, d'] M1) R := by simpa [fRng2] using w
      cases d with
      | int i =>
        cases d' with
        | int j =>
          cases q2
          cases q3
          replace w : AftI X.K (Z σ) H1 r1 M1 (if i.natAbs < 2 ^ 62 ∧ j.natAbs < 2 ^ 62 then .ok (rng i (j - i).toNat) M1 else .bad) R := w
          by_cases hj : i.natAbs < 2 ^ 62 ∧ j.natAbs < 2 ^ 62
          · rw [if_pos hj] at w
            exact ⟨i, j, rfl, ⟨by omega, by omega, by omega, by omega⟩, w _ H1 r1 Ext.refl S1 (iterD_range S1)⟩
          · rw [if_neg hj] at w; exact False.elim w
        | _ => exact False.elim w
      | _ => cases d' <;> exact False.elim w
    · unfold fRng2 at w
      rw [if_neg hl] at w; exact False.elim w⟩
/-- range with a step -/
def rngC (lo c : Int) (n : Nat) : List D := (List.range n).map fun k => .int (lo + (k : Nat) * c)
def fRng3 : List D → Mem → Res (List D)
  | [.int i, .int j, .int c], M => if c ≠ 0 ∧ c.natAbs < 1073741824 ∧ Builtin.Range.small i j c = true ∧ 0 ≤ Builtin.Range.rangeSize i j c then .ok (rngC i c (Builtin.Range.rangeSize i j c).toNat) M else .bad
  | _, _ => .bad
theorem iterD_rangeC {K : PySem.W.Frag} {H : Hp} {r : List Addr} {M : Mem} {lo c : Int} {n : Nat} (S : Sim K H r M) : IterD K (Itc lo c n) H r M (rngC lo c n) := by
  refine ⟨fun _ => True, _, by unfold rngC; rw [List.length_map, List.length_range]; exact walk_rangeC, fun H1 r1 M1 e S1 => ⟨trivial, fun i v H2 hi y => ?_⟩⟩
  obtain ⟨e2, rfl⟩ := y
  subst e2
  have hi' : i < n := by simpa [rngC] using hi
  exact ⟨.int (lo + (i : Nat) * c), by simp [rngC, hi'], Ext.refl, S1, rfl⟩
theorem reps_c3 {K : PySem.W.Frag} {H : Hp} {r : List Addr} {vs : List V} {i j c : Int} (q : Reps K H r [.int i, .int j, .int c] vs) : vs = [.int i, .int j, .int c] := by
  obtain ⟨_, _, rfl, rfl, _, _, rfl, rfl, _, _, rfl, rfl, h⟩ := q
  cases h
  rfl
theorem i_range3 {c : Expr} (hg : Gl X "range") (hm : X.mg "range" = none) (ha : PA X [a, b, c] (tL X.K Z fl)) (hs : starEach [a, b, c] X.env = (false, eval a X.env) :: starEach [b, c] X.env) (hpl : (backTo pos (starEach [b, c] X.env)).any (·.1) = false) : PI X tg (.Call (.Name "range" p) [a, b, c] [] pos) (tI X.K Z (iArg fRng3 fl)) :=
  PI.cons (pi_range3 hg hm ha hs hpl) fun σ H R ⟨δ, r, M, E, S, h⟩ => ⟨δ, r, M, E, S, (AftI.bindL S h).imp fun v H1 ⟨d1, M1, r1, e1, x1, S1, q1, w⟩ => by
    unfold fRng3 at w
    split at w
    · rename_i i j c
      cases reps_c3 q1
      by_cases hc : c ≠ 0 ∧ c.natAbs < 1073741824 ∧ Builtin.Range.small i j c = true ∧ 0 ≤ Builtin.Range.rangeSize i j c
      · rw [if_pos hc] at w
        exact ⟨i, j, c, _, rfl, ⟨hc.1, hc.2.1, hc.2.2.1, (Int.toNat_of_nonneg hc.2.2.2).symm⟩, w _ H1 r1 Ext.refl S1 (iterD_rangeC S1)⟩
      · rw [if_neg hc] at w; exact False.elim w
    · exact False.elim w⟩
variable {elts : List Expr} {kk : Nat} {tpos : Pos}
/-- enumerate of a text, of a list -/
def fEnu1 : List D → Mem → Res (List D) := fun l M => if l.length = 1 then fEnu l M else .bad
theorem i_enum (hg : Gl X "enumerate") (hm : X.mg "enumerate" = none) (ha : PA X [a] (tL X.K Z fl)) (hs : starEach [a] X.env = [(false, eval a X.env)]) : PI X (.Tuple elts kk tpos) (.Call (.Name "enumerate" p) [a] [] pos) (tI X.K Z (iArg fEnu1 fl)) := by
  refine ⟨fun pins s σ H R I ⟨δ, r, M, E, S, h⟩ => ?_⟩
  refine Call_ (ld_blt I hg hm boot_enumerate (PyProof.Rows.callWith_type1 (thn (ha.run pos pins s σ H _ I ⟨δ, r, M, E, S, AftI.bindL S h⟩) fun us s1 ⟨vs, H1, I1, rr, d1, M1, r1, e1, x1, S1, q1, w⟩ => ?_) hs rfl))
  by_cases hl : d1.length = 1
  · obtain ⟨d, v, rfl, rfl, q2⟩ := reps_int1 q1 hl
    obtain ⟨u, rfl, ru⟩ := Vals.one rr
    replace w : AftI X.K (Z σ) H1 r1 M1 (fEnu [d] M1) R := by simpa [fEnu1] using w
    have lst : ∀ ds, itL d M1 = .ok ds M1 → AftI X.K (Z σ) H1 r1 M1 (.ok (pairs (nums ds.length) ds) M1) R → wpAny (model X.prog X.w) X.A (call (.type "enumerate") [u]) (fun v s1 => wpAny (model X.prog X.w) X.A (pyIter v) (PIE X pins σ (.Tuple elts kk tpos) R) X.xe s1) X.xe s1 := fun ds f w => by
      obtain ⟨_, a, vs, rfl, h2, q3⟩ := itL_rep S1 q2 f
      cases ru
      obtain ⟨its, rv, p', hz⟩ := I1.list (h2 _ _ _ Ext.refl)
      refine call_enumerate_list p'.isList fun h' he hit hsz hk => wpAny_pyIter_enum he ?_
      have I2 : Inv X pins σ H1 { s1 with heap := h' } := I1.kept (t' := s1.toks) hk
      refine ⟨s1.heap.objs.size + 1, [s1.heap.objs.size + 1, s1.heap.objs.size], _, _, H1, rfl, I2, turn_enum a (s1.heap.objs.size + 1) s1.heap.objs.size, ⟨⟨.none, he⟩, hit, Nat.succ_ne_self _⟩, fun b hb => ?_, w _ H1 r1 Ext.refl S1 (iterD_enumL S1 h2 q3)⟩
      have hle : s1.heap.objs.size ≤ b := by
        rcases List.mem_cons.mp hb with z | z
        · rw [z]; exact Nat.le_add_right _ _
        · rw [List.mem_singleton.mp z]; exact Nat.le_refl _
      exact I1.fpOk hle (I1.hok.fresh hle)
    cases d with
    | str x =>
      cases q2
      obtain ⟨t, rfl⟩ := ru
      exact pi_enumK I1 (w _ H1 r1 Ext.refl S1 (iterD_enumS S1))
    | lst ds => exact lst ds rfl w
    | scr ds => exact lst ds rfl w
    | _ => exact False.elim w
  · unfold fEnu1 at w
    rw [if_neg hl] at w; exact False.elim w
def fZip2 : List D → Mem → Res (List D) := fun l M => if l.length = 2 then fZip l M else .bad
theorem itL_keep {d : D} {M M1 : Mem} {ds : List D} (e : itL d M = .ok ds M1) : M1 = M ∧ ∀ M', itL d M' = .ok ds M' := by
  cases d <;> cases e <;> exact ⟨rfl, fun _ => rfl⟩
theorem i_zip (hg : Gl X "zip") (hm : X.mg "zip" = none) (ha : PA X [a, b] (tL X.K Z fl)) (hs : starEach [a, b] X.env = (false, eval a X.env) :: starEach [b] X.env) (hpl : (backTo pos (starEach [b] X.env)).any (·.1) = false) :
    PI X (.Tuple elts kk tpos) (.Call (.Name "zip" p) [a, b] [] pos) (tI X.K Z (iArg fZip2 fl)) :=
  PI.cons (RZ.pi_zipA hg hm ha hs hpl) fun σ H R ⟨δ, r, M, E, S, h⟩ => ⟨δ, r, M, E, S, (AftI.bindL S h).imp fun v H1 ⟨d1, M1, r1, e1, x1, S1, q1, w⟩ => by
    by_cases hl : d1.length = 2
    · obtain ⟨d, d', v, v', rfl, rfl, q2, q3⟩ := reps_2 q1 hl
      replace w : AftI X.K (Z σ) H1 r1 M1 (fZip [d, d'] M1) R := by simpa [fZip2] using w
      have lst : ∀ w : AftI X.K (Z σ) H1 r1 M1 (bnd (itL d) (fun a => bnd (itL d') (fun b => ret (pairs a b))) M1) R, ∃ a b xs ys, [v, v'] = [V.ref a, V.ref b] ∧ SqL X.K H1 a xs ∧ SqL X.K H1 b ys ∧ R (Itz X.K a b) H1 := fun w => by
        unfold bnd at w
        cases f : itL d M1 with
        | bad => rw [f] at w; exact w.elim
        | err e M2 => cases d <;> cases f
        | ok ds M2 =>
          obtain ⟨rfl, a, vs, rfl, h2, q4⟩ := itL_rep S1 q2 f
          rw [f] at w
          cases f' : itL d' M2 with
          | bad => simp only [f'] at w; exact w.elim
          | err e M2 => cases d' <;> cases f'
          | ok ds' M3 =>
            obtain ⟨rfl, a', vs', rfl, h2', q4'⟩ := itL_rep S1 q3 f'
            simp only [f'] at w
            exact ⟨a, a', vs, vs', rfl, h2 _ _ _ Ext.refl, h2' _ _ _ Ext.refl, w _ H1 r1 Ext.refl S1 (iterD_zipL S1 h2 h2' q4 q4')⟩
      have go : ∀ w : AftI X.K (Z σ) H1 r1 M1 (bnd (itL d) (fun a => bnd (itL d') (fun b => ret (pairs a b))) M1) R, ∃ a b xs ys, [v, v'] = [V.ref a, V.ref b] ∧ ((SqL X.K H1 a xs ∧ SqL X.K H1 b ys ∧ R (Itz X.K a b) H1) ∨ (SqT X.K H1 a xs ∧ SqT X.K H1 b ys ∧ R (RZ.ItzT X.K a b) H1)) := fun w => by
        obtain ⟨a, b, xs, ys, z1, z2, z3, z4⟩ := lst w
        exact ⟨a, b, xs, ys, z1, .inl ⟨z2, z3, z4⟩⟩
      cases d with
      | tup ds =>
        cases d' with
        | tup ds' =>
          obtain ⟨a, vs, rfl, h2, q4⟩ := q2
          obtain ⟨a', vs', rfl, h2', q4'⟩ := q3
          exact ⟨a, a', vs, vs', rfl, .inr ⟨h2, h2', w _ H1 r1 Ext.refl S1 (iterD_zipT S1 h2 h2' q4 q4')⟩⟩
        | _ => exact go w
      | _ => exact go (by cases d' <;> exact w)
    · unfold fZip2 at w
      rw [if_neg hl] at w; exact False.elim w⟩
end
end Wn
end

section
set_option Elab.async false
set_option linter.all false
set_option maxRecDepth 100000
set_option maxHeartbeats 4000000
namespace Wn
open PySem PySem.Spec PyProof.Rows L2

/-! ### a list taken apart -/
section
variable {prog : Program} {w : World} {A : Around} {E : Value → Shared → Prop} {s : Shared}
theorem draw_lst {it l : Addr} {items : Array Value} (hne : l ≠ it) : ∀ (n i : Nat) (s : Shared) (Q : List Value → Shared → Prop), s.heap.IsListIter it l i → s.heap.IsList l items → i + n ≤ items.size →
    (∀ h', h'.IsListIter it l (i + n) → Heap.SameBut it s.heap h' → Q ((items.toList.drop i).take n) { s with heap := h' }) → wpAny (model prog w) A (draw (.ref it) n) Q E s
  | 0, i, s, Q, hit, _, _, hQ => by
    show wpAny _ _ (pure []) Q E s
    refine wpAny_pure ?_
    have z := hQ s.heap hit (Heap.SameBut.refl ..)
    rw [List.take_zero] at z
    exact z
  | n + 1, i, s, Q, hit, hl, hle, hQ => by
    have hlt : i < items.size := by omega
    have hx : items[i]? = some items[i] := by rw [Array.getElem?_eq_getElem hlt]
    show wpAny _ _ (pyNext (.ref it) >>= _) Q E s
    refine wpAny_bind (wpAny_pyNext_list_item hit hl hx fun h1 it1 sb1 => ?_)
    refine wpAny_bind (wpAny_holding (draw_lst hne n (i + 1) _ _ it1 (hl.extBut sb1.extBut hne) (by omega) fun h2 it2 sb2 => wpAny_pure ?_))
    have e : i + 1 + n = i + (n + 1) := by omega
    rw [e] at it2
    have z := hQ h2 it2 (sb1.trans sb2)
    have hd : items.toList.drop i = items[i] :: items.toList.drop (i + 1) := by rw [List.drop_eq_getElem_cons (by simpa using hlt), Array.getElem_toList]
    rw [hd, List.take_succ_cons] at z
    exact z
theorem unpackL {l : Addr} {items : Array Value} {targets : List (Bool × (Value → Sem Unit))} {Q : Unit → Shared → Prop} (hh : A.handled = none) (hl : s.heap.IsList l items)
    (hn : targets.length = items.size) (hstar : targets.findIdx? (·.1) = none)
    (h : ∀ h', Heap.ExtBut s.heap.objs.size s.heap h' → wpAny (model prog w) A (assignInOrder (targets.map (·.2)) items.toList) Q E { s with heap := h' }) :
    wpAny (model prog w) A (unpack (.ref l) targets) Q E s := by
  have hne : l ≠ s.heap.objs.size := by obtain ⟨o, ho, _⟩ := hl; exact Nat.ne_of_lt (Heap.lt_size ho)
  unfold unpack
  rw [hn, hstar]
  refine wpAny_bind (wpAny_holding ?_)
  unfold unpackItems notIterableAtAll
  refine wpAny_bind (wpAny_bind (wpAny_specialOf hl.typeIs slot_list_iter.lookup (wpAny_pure ?_)))
  rw [if_neg (by simp)]
  refine wpAny_bind (wpAny_holding (wpAny_pyIter_list hl ?_))
  refine wpAny_bind (wpAny_holding (draw_lst hne items.size 0 _ _ ⟨_, Heap.get?_push_size _ rfl, rfl, rfl⟩ (hl.push _) (by omega) fun h1 it1 sb1 => ?_))
  have hall : (items.toList.drop 0).take items.size = items.toList := by
    rw [List.drop_zero]; exact List.take_of_length_le (by simp)
  rw [hall, if_neg (by simp)]
  have hl1 : h1.IsList l items := (hl.push _).extBut sb1.extBut hne
  refine wpAny_bind (wpAny_holding (wpAny_pyNext_list_end hh it1 hl1 (by simp) fun h2 e2 => ?_))
  rw [if_neg (by simp)]
  exact wpAny_pure (h h2 fun b o hb e => e2 b o hb (sb1.extBut b o hb (Heap.get?_push_of_some _ e)))
end

/-! ### targets -/
mutual
inductive Tg where
  | nm (i : Nat) | tp (l : TgL)
inductive TgL where
  | nil | cons (t : Tg) (l : TgL)
end
mutual
def Tg.sl : Tg → List Nat
  | .nm i => [i]
  | .tp l => l.sl
def TgL.sl : TgL → List Nat
  | .nil => []
  | .cons t l => t.sl ++ l.sl
end
mutual
/-- a value given to a target -/
def Tg.put (M : Mem) : Tg → D → Env → Option Env
  | .nm i, d, δ => some (δ.set i (some d))
  | .tp l, .tup ds, δ => l.puts M ds δ
  | .tp l, d, δ => match lstX M d with
    | some ds => l.puts M ds δ
    | none => none
def TgL.puts (M : Mem) : TgL → List D → Env → Option Env
  | .nil, [], δ => some δ
  | .cons t l, d :: ds, δ => match t.put M d δ with
    | some δ1 => l.puts M ds δ1
    | none => none
  | _, _, _ => none
end
/-- the slots outside are the same -/
structure Agr (vs : List Nat) (σ σ' : St) : Prop where
  len : σ'.length = σ.length
  same : ∀ i, i ∉ vs → σ'[i]? = σ[i]?
theorem Agr.refl {vs : List Nat} {σ : St} : Agr vs σ σ := ⟨rfl, fun _ _ => rfl⟩
theorem Agr.trans {vs ws : List Nat} {σ σ1 σ2 : St} (a : Agr vs σ σ1) (b : Agr ws σ1 σ2) : Agr (vs ++ ws) σ σ2 :=
  ⟨b.len.trans a.len, fun i h => (b.same i fun z => h (List.mem_append_right _ z)).trans (a.same i fun z => h (List.mem_append_left _ z))⟩
theorem wipe_get {σ : St} {i : Nat} : ∀ {vs : List Nat}, (wipe σ vs)[i]? = if i ∈ vs then (σ[i]?).map fun _ => none else σ[i]?
  | [] => by simp [wipe]
  | v :: vs => by
    unfold wipe
    rw [List.getElem?_set, wipe_get (vs := vs), wipe_length]
    by_cases hv : v = i
    · subst hv
      by_cases hl : v < σ.length
      · simp [hl]
      · simp [hl]
    · have hv' : ¬ i = v := fun z => hv z.symm
      simp [hv, hv']
theorem Agr.wipe {vs ws : List Nat} {σ σ' : St} (a : Agr vs σ σ') (h : ∀ i ∈ vs, i ∈ ws) : L2.wipe σ' ws = L2.wipe σ ws := by
  refine List.ext_getElem? fun i => ?_
  rw [wipe_get, wipe_get]
  by_cases hi : i ∈ ws
  · rw [if_pos hi, if_pos hi]
    by_cases hl : i < σ.length
    · rw [List.getElem?_eq_getElem hl, List.getElem?_eq_getElem (by rw [a.len]; exact hl)]; rfl
    · have hl2 := a.len
      rw [List.getElem?_eq_none (l := σ) (by omega), List.getElem?_eq_none (l := σ') (by omega)]
  · rw [if_neg hi, if_neg hi]
    exact a.same i fun z => hi (h i z)
/-- what a target wants -/
def tG (K : PySem.W.Frag) (t : Tg) : TG := fun v σ H Q => ∃ δ r M d, EnvRep K H r σ δ ∧ Sim K H r M ∧ Rep K H r d v ∧ ∃ δ', t.put M d δ = some δ' ∧ ∀ σ', EnvRep K H r σ' δ' → Agr t.sl σ σ' → Q σ' H
def tGs (K : PySem.W.Frag) (t : TgL) : TGs := fun v σ H Q => ∃ δ r M d, EnvRep K H r σ δ ∧ Sim K H r M ∧ Reps K H r d v ∧ ∃ δ', t.puts M d δ = some δ' ∧ ∀ σ', EnvRep K H r σ' δ' → Agr t.sl σ σ' → Q σ' H
theorem PG.cons {X : Cx} {e : Expr} {t t' : TG} (h : PG X e t) (k : ∀ v σ H Q, t' v σ H Q → t v σ H Q) : PG X e t' := ⟨fun pins s σ H v u Q I r q => h.run pins s σ H v u Q I r (k v σ H Q q)⟩
theorem PGs.cons {X : Cx} {e : List Expr} {t t' : TGs} (h : PGs X e t) (k : ∀ v σ H Q, t' v σ H Q → t v σ H Q) : PGs X e t' := ⟨fun pins s σ H v u Q I r q => h.run pins s σ H v u Q I r (k v σ H Q q)⟩
section
variable {X : Cx} {e : Expr} {es : List Expr} {pos : Pos}
theorem g_name {i : Nat} {x : Str} (hN : X.N.Nodup) (hi : X.N[i]? = some x) (hx : Loc X.env.scope x) (hf : X.fn x = true ∨ X.env.scope.names.lookup x = some .local) : PG X (.Name x pos) (tG X.K (.nm i)) :=
  PG.cons (pg_name hN hi hx hf) fun v σ H Q ⟨δ, r, M, d, E, S, q, δ', e, h⟩ => by
    cases e
    exact h _ (E.set q) ⟨by simp, fun j hj => by rw [List.getElem?_set_ne]; exact fun z => hj (by simp [Tg.sl, z])⟩
theorem g_nil : PGs X [] (tGs X.K .nil) := PGs.cons pgs_nil fun v σ H Q ⟨δ, r, M, d, E, S, q, δ', e, h⟩ => by
  cases d with
  | nil => cases q; cases e; exact ⟨rfl, h σ E Agr.refl⟩
  | cons _ _ => cases e
theorem g_cons {t : Tg} {l : TgL} (h1 : PG X e (tG X.K t)) (h2 : PGs X es (tGs X.K l)) (hs : (assignEach (e :: es) X.env).map (·.2) = assign e X.env :: (assignEach es X.env).map (·.2)) : PGs X (e :: es) (tGs X.K (.cons t l)) :=
  PGs.cons (pgs_cons h1 h2 hs) fun v σ H Q ⟨δ, r, M, d, E, S, q, δ', e, h⟩ => by
    cases d with
    | nil => cases e
    | cons d ds =>
      obtain ⟨v, ws, rfl, q1, q2⟩ := q
      replace e : (match t.put M d δ with | some δ1 => l.puts M ds δ1 | none => none) = some δ' := e
      cases e1 : t.put M d δ with
      | none => rw [e1] at e; cases e
      | some δ1 =>
        rw [e1] at e
        exact ⟨v, ws, rfl, δ, r, M, d, E, S, q1, δ1, e1, fun σ1 E1 a1 => ⟨δ1, r, M, ds, E1, S, q2, δ', e, fun σ2 E2 a2 => h σ2 E2 (a1.trans a2)⟩⟩
theorem puts_len {M : Mem} : ∀ {l : TgL} {ds : List D} {δ δ' : Env} {es : List Expr} {env : PySem.Env}, l.puts M ds δ = some δ' → ds.length = l.sl.length ∨ True := fun _ => .inr trivial
def TgL.len : TgL → Nat
  | .nil => 0
  | .cons _ l => l.len + 1
theorem TgL.puts_len {M : Mem} : ∀ {l : TgL} {ds : List D} {δ δ' : Env}, l.puts M ds δ = some δ' → ds.length = l.len
  | .nil, [], _, _, _ => rfl
  | .nil, _ :: _, _, _, e => by cases e
  | .cons _ _, [], _, _, e => by cases e
  | .cons t l, d :: ds, δ, δ', e => by
    replace e : (match t.put M d δ with | some δ1 => l.puts M ds δ1 | none => none) = some δ' := e
    cases e1 : t.put M d δ with
    | none => rw [e1] at e; cases e
    | some δ1 => rw [e1] at e; simp [TgL.len, TgL.puts_len e]
theorem g_tup {l : TgL} {k : Nat} (hc : X.calm = true) (h : PGs X es (tGs X.K l)) (hn : (assignEach es X.env).length = l.len) (hst : (assignEach es X.env).findIdx? (·.1) = none) : PG X (.Tuple es k pos) (tG X.K (.tp l)) := by
  refine ⟨fun pins s σ H v u Q I rv ⟨δ, r, M, d, E, S, q, δ', e, hw⟩ => ?_⟩
  have lst : ∀ ds, lstX M d = some ds → l.puts M ds δ = some δ' → wpAny (model X.prog X.w) X.A (assign (.Tuple es k pos) X.env u) (fun _ s' => ∃ σ' H', Inv X pins σ' H' s' ∧ Q σ' H') X.xe s := fun ds e1 e2 => by
    obtain ⟨a, vs, rfl, h1, h2⟩ := lstX_rep S q e1
    cases rv
    obtain ⟨z, its, n, r1, hl, ea⟩ := XL.at I h1
    have hlen := TgL.puts_len e2
    have h2l := h2.length
    rw [assign_Tuple]
    refine wpAny_bind (wpAny_standAt (unpackL (items := its.toArray) (I.ok.hd hc) ⟨_, ea, rfl, n, rfl⟩ (by rw [hn]; simp; omega) hst fun h' hx => ?_))
    have I1 : Inv X pins σ H { s with heap := h' } := I.kept (t' := s.toks) fun b o e => hx b o (Nat.ne_of_lt (Heap.lt_size e)) e
    exact h.run pins _ σ H vs _ Q I1 (by simpa using r1) ⟨δ, r, M, ds, E, S, h2, δ', e2, hw⟩
  cases d with
  | tup ds =>
    obtain ⟨a, vs, rfl, h1, h2⟩ := q
    have hlen := TgL.puts_len (show l.puts M ds δ = some δ' from e)
    exact (pg_tup hc h hn hst).run pins s σ H (.ref a) u Q I rv ⟨a, vs, rfl, h1, by rw [← h2.length]; exact hlen, δ, r, M, ds, E, S, h2, δ', e, hw⟩
  | lst ds => exact lst ds rfl e
  | ref n =>
    replace e : (match lstX M (.ref n) with | some ds => l.puts M ds δ | none => none) = some δ' := e
    cases e1 : lstX M (.ref n) with
    | none => rw [e1] at e; cases e
    | some ds => rw [e1] at e; exact lst ds e1 e
  | _ => cases e
end

/-! ### comprehensions -/
def wipeE (δ : Env) : List Nat → Env
  | [] => δ
  | v :: vs => (wipeE δ vs).set v none
theorem EnvRep.wipe {K : PySem.W.Frag} {H : Hp} {r : List Addr} {σ : St} {δ : Env} (E : EnvRep K H r σ δ) : ∀ vs : List Nat, EnvRep K H r (L2.wipe σ vs) (wipeE δ vs)
  | [] => E
  | v :: vs => (EnvRep.wipe E vs).unset
/-- what a comprehension walks: the turns -/
def lcGo (t : Tg) (c : Fb) (e : Fe) (δ : Env) : List D → Mem → Res (List D)
  | [], M => .ok [] M
  | d :: ds, M => match t.put M d δ with
    | none => .bad
    | some δ1 => match c δ1 M with
      | .ok true M1 => match e δ1 M1 with
        | .ok x M2 => match lcGo t c e δ ds M2 with
          | .ok xs M3 => .ok (x :: xs) M3
          | o => o
        | _ => .bad
      | .ok false M1 => lcGo t c e δ ds M1
      | _ => .bad
/-- [e for t in it if c] as a list that is never written -/
def lcRun (it : Env → Mem → Res (List D)) (t : Tg) (vs : List Nat) (c : Fb) (e : Fe) : Env → Mem → Res (List D) := fun δ => bnd (it δ) fun ds => if ds.length ≤ sizeLine then lcGo t c e (wipeE δ vs) ds else stuck
def eLc (it : Env → Mem → Res (List D)) (t : Tg) (vs : List Nat) (c : Fb) (e : Fe) : Fe := fun δ => bnd (lcRun it t vs c e δ) fun xs => ret (.lst xs)
def eLcC (it : Env → Mem → Res (List D)) (t : Tg) (vs : List Nat) (c : Fb) (e : Fe) : Fe := fun δ => bnd (lcRun it t vs c e δ) fun xs M => .ok (.ref M.length) (M ++ [.lst xs])
def bYes : Fb := fun _ => ret true
/-- a result with the items ahead of it -/
def pre (acc : List D) : Res (List D) → Res (List D)
  | .ok xs M => .ok (acc ++ xs) M
  | o => o
theorem pre_nil (m : Res (List D)) : pre [] m = m := by cases m <;> rfl
theorem pre_pre (a b : List D) (m : Res (List D)) : pre a (pre b m) = pre (a ++ b) m := by cases m <;> simp [pre]
theorem lcGo_cons (t : Tg) (c : Fb) (e : Fe) (δ : Env) (d : D) (ds : List D) (M : Mem) : lcGo t c e δ (d :: ds) M = (match t.put M d δ with
    | none => .bad
    | some δ1 => match c δ1 M with
      | .ok true M1 => match e δ1 M1 with
        | .ok x M2 => match lcGo t c e δ ds M2 with
          | .ok xs M3 => .ok (x :: xs) M3
          | o => o
        | _ => .bad
      | .ok false M1 => lcGo t c e δ ds M1
      | _ => .bad) := rfl
section
variable {K : PySem.W.Frag} {Z : ZK} {H H1 : Hp} {r r1 : List Addr} {M M1 : Mem}
theorem lcGo_noerr {t : Tg} {c : Fb} {e : Fe} {δ : Env} : ∀ {ds : List D} {M : Mem} {x : D} {M' : Mem}, lcGo t c e δ ds M ≠ .err x M'
  | [], _, _, _ => fun h => by cases h
  | d :: ds, M, x, M' => fun h => by
    unfold lcGo at h
    cases e1 : t.put M d δ with
    | none => rw [e1] at h; cases h
    | some δ1 =>
      rw [e1] at h
      cases e2 : c δ1 M with
      | ok b M1 =>
        simp only [e2] at h
        cases b with
        | true =>
          simp only at h
          cases e3 : e δ1 M1 with
          | ok y M2 =>
            simp only [e3] at h
            cases e4 : lcGo t c e δ ds M2 with
            | ok xs M3 => simp only [e4] at h; cases h
            | err z M3 => exact lcGo_noerr e4
            | bad => simp only [e4] at h; cases h
          | err y M2 => simp only [e3] at h; cases h
          | bad => simp only [e3] at h; cases h
        | false => exact lcGo_noerr h
      | err b M1 => simp only [e2] at h; cases h
      | bad => simp only [e2] at h; cases h
/-- the turns of a comprehension in the layer -/
theorem lc_turns {J : It} {t : Tg} {c : Fb} {e : Fe} {δ : Env} {σ : St} {vs : List Nat} {ds : List D} {tt : TT} {te : TE} {Da : Addr} {Qd : Hp → Prop} (E : EnvRep K H r σ δ) (S : Sim K H r M) (hJ : IterD K J H r M ds) (hz : ds.length ≤ sizeLine) (hD : H Da = none) (hv : ∀ i ∈ t.sl, i ∈ vs)
    (ht : ∀ σ H Q, Wn.tB K (fun _ _ _ _ _ => False) c σ H Q → tt σ H Q) (he : ∀ σ H Q, tM K (fun _ _ _ _ _ => False) e σ H Q → te σ H Q)
    (hnb : lcGo t c e (wipeE δ vs) ds M ≠ .bad)
    (hd : ∀ xs M' H' r' acc, lcGo t c e (wipeE δ vs) ds M = .ok xs M' → Ext H r M H' r' M' → Sim K H' r' M' → (∀ n : Nat, r'[n]? ≠ some Da) → H' Da = some (.lst acc) → Reps K H' r' xs acc → Qd H') :
    ∃ W : Nat → Nat → Hp → Prop, (∃ m, W 0 m (upd H Da (.lst []))) ∧ ∀ i m H, W i m H →
      (J.stop i H ∧ Qd H) ∨ (J.go i H ∧ ∃ Nx : Hp → Prop, (∀ H', Nx H' → ∃ m', m' < m ∧ W (i + 1) m' H') ∧ ∀ x H', J.yld i H x H' → tG K t x (L2.wipe σ vs) H' fun σ2 H2 => L2.wipe σ2 vs = L2.wipe σ vs ∧ tt σ2 H2 fun b H3 =>
        if b = true then te σ2 H3 fun y H4 => ∃ acc, H4 Da = some (.lst acc) ∧ acc.length < sizeLine ∧ Nx (upd H4 Da (.lst (acc ++ [y]))) else Nx H3) := by
  obtain ⟨G, Y, W, hY⟩ := hJ
  have E' := E.wipe vs
  have hrD : ∀ n : Nat, r[n]? ≠ some Da := fun n e => by
    obtain ⟨c, _, h3⟩ := S.here e
    obtain ⟨o, h4⟩ := h3.there
    rw [hD] at h4; cases h4
  have hww : L2.wipe (L2.wipe σ vs) vs = L2.wipe σ vs := by
    refine List.ext_getElem? fun i => ?_
    rw [wipe_get, wipe_get]
    by_cases hi : i ∈ vs
    · simp only [if_pos hi]
      cases σ[i]? <;> rfl
    · simp only [if_neg hi]
  refine lc_it W (fun i H' => ∃ r' M' accD acc, Ext H r M H' r' M' ∧ Sim K H' r' M' ∧ (∀ n : Nat, r'[n]? ≠ some Da) ∧ H' Da = some (.lst acc) ∧ Reps K H' r' accD acc ∧ acc.length ≤ i ∧ lcGo t c e (wipeE δ vs) ds M = pre accD (lcGo t c e (wipeE δ vs) (ds.drop i) M'))
    ⟨r, M, [], [], ext_new S hD, sim_new S hD, hrD, upd_same, rfl, Nat.le_refl _, by rw [pre_nil]; rfl⟩ (fun i H' hi ⟨r', M', accD, acc, x, s, _⟩ => (hY H' r' M' x s).1) (fun i x H1 H2 hi ⟨r1, M1, accD, acc, X1, S1, hr1, hD1, q1, hl1, e1⟩ y => ?_) fun H' ⟨r', M', accD, acc, X1, S1, hr1, hD1, q1, hl1, e1⟩ => ?_
  · obtain ⟨d, hdi, X2, S2, q2⟩ := (hY H1 r1 M1 X1 S1).2 i x H2 hi y
    have hdr : ds.drop i = d :: ds.drop (i + 1) := by
      obtain ⟨hi', e'⟩ := List.getElem?_eq_some_iff.mp hdi
      rw [List.drop_eq_getElem_cons hi', e']
    rw [hdr] at e1
    have X12 := X1.trans S S1 X2
    have EE : EnvRep K H2 r1 (L2.wipe σ vs) (wipeE δ vs) := E'.ext S X12
    have hD2 : H2 Da = some (.lst acc) := X2.keep Da _ hD1 fun n hn => absurd hn (hr1 n)
    have hfin : ∀ {m : Res (List D)}, lcGo t c e (wipeE δ vs) ds M = pre accD m → m ≠ .bad := fun {m} e2 z => hnb (by rw [e2, z]; rfl)
    rw [lcGo_cons] at e1
    cases f1 : t.put M1 d (wipeE δ vs) with
    | none => simp only [f1] at e1; exact absurd rfl (hfin e1)
    | some δ1 =>
      simp only [f1] at e1
      refine ⟨wipeE δ vs, r1, M1, d, EE, S2, q2, δ1, f1, fun σ2 E2 a2 => ⟨(a2.wipe hv).trans hww, ht _ _ _ ⟨δ1, r1, M1, E2, S2, ?_⟩⟩⟩
      cases f2 : c δ1 M1 with
      | bad => simp only [f2] at e1; exact absurd rfl (hfin e1)
      | err z M3 => simp only [f2] at e1; exact absurd rfl (hfin e1)
      | ok b M3 =>
        simp only [f2] at e1
        refine fun H3 r3 X3 S3 => ?_
        have X13 := X12.trans S S2 X3
        have hD3 : H3 Da = some (.lst acc) := X3.keep Da _ hD2 fun n hn => absurd hn (hr1 n)
        have hr3 : ∀ n : Nat, r3[n]? ≠ some Da := fun n z => by
          by_cases hn : n < r1.length
          · obtain ⟨tt, rfl⟩ := X3.pre
            rw [List.getElem?_append_left hn] at z
            exact hr1 n z
          · rw [X3.fresh n Da (Nat.le_of_not_lt hn) z] at hD2; cases hD2
        cases b with
        | false =>
          dsimp only
          rw [if_neg (by simp)]
          exact ⟨r3, M3, accD, acc, X13, S3, hr3, hD3, (q1.ext S1 X2).ext S2 X3, by omega, e1⟩
        | true =>
          dsimp only
          rw [if_pos rfl]
          simp only at e1
          refine he _ _ _ ⟨δ1, r3, M3, E2.ext S2 X3, S3, ?_⟩
          cases f3 : e δ1 M3 with
          | bad => simp only [f3] at e1; exact absurd rfl (hfin e1)
          | err z M4 => simp only [f3] at e1; exact absurd rfl (hfin e1)
          | ok dy M4 =>
            simp only [f3] at e1
            refine fun y H4 r4 X4 S4 q4 => ?_
            have X14 := X13.trans S S3 X4
            have hD4 : H4 Da = some (.lst acc) := X4.keep Da _ hD3 fun n hn => absurd hn (hr3 n)
            have hr4 : ∀ n : Nat, r4[n]? ≠ some Da := fun n z => by
              by_cases hn : n < r3.length
              · obtain ⟨tt, rfl⟩ := X4.pre
                rw [List.getElem?_append_left hn] at z
                exact hr3 n z
              · rw [X4.fresh n Da (Nat.le_of_not_lt hn) z] at hD3; cases hD3
            have st : Stay H4 r4 (upd H4 Da (.lst (acc ++ [y]))) r4 := stay_own (.inl ⟨acc, hD4⟩)
            refine ⟨acc, hD4, by omega, r4, M4, accD ++ [dy], acc ++ [y], X14.own hD, S4.own (.inl ⟨acc, hD4⟩) hr4, hr4, upd_same, ((((q1.ext S1 X2).ext S2 X3).ext S3 X4).append (Reps.one q4)).stay st, by simp; omega, ?_⟩
            rw [e1, ← pre_pre]
            cases lcGo t c e (wipeE δ vs) (List.drop (i + 1) ds) M4 <;> rfl
  · rw [List.drop_eq_nil_of_le (Nat.le_refl _)] at e1
    have e2 : lcGo t c e (wipeE δ vs) ds M = .ok accD M' := by rw [e1]; simp [lcGo, pre]
    exact hd accD M' H' r' acc e2 X1 S1 hr1 hD1 q1
end
/-- the comprehension's reading from the mirror's -/
theorem lc_read {K : PySem.W.Frag} {Z : ZS} {it : Env → Mem → Res (List D)} {t : Tg} {vs : List Nat} {c : Fb} {e : Fe} {tt : TT} {te : TE} {σ : St} {H : Hp} {Q : VK} {k : List D → Mem → Res D} (hv : ∀ i ∈ t.sl, i ∈ vs)
    (ht : ∀ σ H Q, Wn.tB K (fun _ _ _ _ _ => False) c σ H Q → tt σ H Q) (he : ∀ σ H Q, tM K (fun _ _ _ _ _ => False) e σ H Q → te σ H Q) {Q' : VK}
    (hq : ∀ H1 r1 M1 xs M2 H2 r2 Da acc, Sim K H1 r1 M1 → Ext H1 r1 M1 H2 r2 M2 → Sim K H2 r2 M2 → (∀ n : Nat, r2[n]? ≠ some Da) → H1 Da = none → H2 Da = some (.lst acc) → Reps K H2 r2 xs acc → Aft K (Z σ) H1 r1 M1 (k xs M2) Q' → Q (.ref Da) H2)
    (h : tM K Z (fun δ => bnd (lcRun it t vs c e δ) k) σ H Q') : tLc (tI K Z it) (tG K t) tt te vs σ H Q := by
  obtain ⟨δ, r, M, E, S, h⟩ := h
  refine ⟨δ, r, M, E, S, ?_⟩
  have h : Aft K (Z σ) H r M (bnd (bnd (it δ) fun ds => if ds.length ≤ sizeLine then lcGo t c e (wipeE δ vs) ds else stuck) k M) Q' := h
  unfold bnd at h
  cases f : it δ M with
  | bad => rw [f] at h; exact h.elim
  | err x M1 => rw [f] at h; exact fun H' r' x s => h H' r' x s
  | ok ds M1 =>
    rw [f] at h
    refine fun J H1 r1 X1 S1 hJ Da hDa => ?_
    by_cases hz : ds.length ≤ sizeLine
    · simp only [if_pos hz] at h
      refine lc_turns (Qd := fun H' => Q (.ref Da) H') (E.ext S X1) S1 hJ hz hDa hv ht he (fun z => by rw [z] at h; exact h.elim) fun xs M' H' r' acc e1 X2 S2 hr hD q => ?_
      rw [e1] at h
      refine hq H1 r1 M1 xs M' H' r' Da acc S1 X2 S2 hr hDa hD q ?_
      replace h : Aft K (Z σ) H r M (k xs M') Q' := h
      exact Aft.step S S1 X1 h
    · simp only [if_neg hz] at h; exact h.elim
/-- an abstract list that is no cell becomes one -/
theorem Aft.cel2 {K : PySem.W.Frag} {Z : ZK} {H1 H2 : Hp} {r1 r2 : List Addr} {M1 M2 : Mem} {xs : List D} {acc : List V} {Da : Addr} {Q : VK} (S1 : Sim K H1 r1 M1) (X : Ext H1 r1 M1 H2 r2 M2) (S2 : Sim K H2 r2 M2) (hr : ∀ n : Nat, r2[n]? ≠ some Da) (h1 : H1 Da = none) (h2 : H2 Da = some (.lst acc)) (q : Reps K H2 r2 xs acc)
    (h : Aft K Z H1 r1 M1 (.ok (.ref M2.length) (M2 ++ [.lst xs])) Q) : Q (.ref Da) H2 := by
  have key : ∀ {i : Nat} {a : Addr}, (r2 ++ [Da])[i]? = some a → (r2[i]? = some a) ∨ (i = r2.length ∧ a = Da) := fun {i a} e => by
    by_cases hi : i < r2.length
    · rw [List.getElem?_append_left hi] at e; exact .inl e
    · have hl := (List.getElem?_eq_some_iff.mp e).1
      rw [List.length_append, List.length_singleton] at hl
      have : i = r2.length := by omega
      subst this
      rw [List.getElem?_append_right (Nat.le_refl _)] at e
      simp at e
      exact .inr ⟨rfl, e.symm⟩
  have hs : Stay H2 r2 H2 (r2 ++ [Da]) := ⟨fun _ _ e => e, fun _ _ _ e => e, fun n a e => by rw [List.getElem?_append_left (List.getElem?_eq_some_iff.mp e).1]; exact e⟩
  refine h (.ref Da) H2 (r2 ++ [Da]) ⟨?_, X.keep, fun n b hn e => ?_, fun n e => ?_⟩ ⟨by simp [S2.len], fun i j a e1 e2 => ?_, fun n a c e1 e2 => ?_⟩ ⟨Da, rfl, by rw [← S2.len, List.getElem?_append_right (Nat.le_refl _)]; simp⟩
  · obtain ⟨t, rfl⟩ := X.pre
    exact ⟨t ++ [Da], by simp⟩
  · rcases key e with k | ⟨_, k⟩
    · exact X.fresh n b hn k
    · rw [k]; exact h1
  · have z := X.dead n e
    rw [List.getElem?_append_left (List.getElem?_eq_some_iff.mp z).1]
    exact z
  · rcases key e1 with k1 | ⟨k1, k2⟩ <;> rcases key e2 with k3 | ⟨k3, k4⟩
    · exact S2.inj i j a k1 k3
    · subst k4; exact absurd k1 (hr i)
    · subst k2; exact absurd k3 (hr j)
    · omega
  · rcases key e1 with k | ⟨k1, k2⟩
    · have hl := (List.getElem?_eq_some_iff.mp k).1
      rw [List.getElem?_append_left (by rw [← S2.len]; exact hl)] at e2
      exact (S2.cell n a c k e2).stay' hs rfl
    · subst k1 k2
      rw [List.getElem?_append_right (by rw [S2.len]; exact Nat.le_refl _), S2.len] at e2
      simp at e2
      subst e2
      exact ⟨acc, h2, q.stay hs⟩
section
variable {X : Cx} {Z : ZS} {elt tg iter : Expr} {ifs : List Expr} {scope : Scope} {own : List (Str × Nat)} {pos : Pos} {it : Env → Mem → Res (List D)} {t : Tg} {c : Fb} {e : Fe}
/-- the parts of a comprehension -/
structure LcOk (X : Cx) (Z : ZS) (elt tg iter : Expr) (ifs : List Expr) (scope : Scope) (own : List (Str × Nat)) (it : Env → Mem → Res (List D)) (t : Tg) (c : Fb) (e : Fe) : Prop where
  calm : X.calm = true
  nd : X.N.Nodup
  it : PI X tg iter (tI X.K Z it)
  blk : BlkOk X.N X.env.scope scope own
  tg : ∀ (s : Shared) (H : Hp) (C : Addr) (cl : List (Str × Addr)) (fp : List Addr), PG (X.blk s H scope (compEnvC scope cl C X.env) fp) tg (tG X.K t)
  ifs : ∀ (s : Shared) (H : Hp) (C : Addr) (cl : List (Str × Addr)) (fp : List Addr), PTs (X.blk s H scope (compEnvC scope cl C X.env) fp) ifs (Wn.tB X.K (fun _ _ _ _ _ => False) c)
  elt : ∀ (s : Shared) (H : Hp) (C : Addr) (cl : List (Str × Addr)) (fp : List Addr), PE (X.blk s H scope (compEnvC scope cl C X.env) fp) elt (tM X.K (fun _ _ _ _ _ => False) e)
  fs : ∀ x, foldedSetIterable iter X.env x = pure x
  sl : ∀ i ∈ t.sl, i ∈ own.map (·.2)
theorem r_lc (L : LcOk X Z elt tg iter ifs scope own it t c e) : PE X (.ListComp elt [⟨tg, iter, ifs, 0⟩] scope pos) (tM X.K Z (eLc it t (own.map (·.2)) c e)) := by
  refine ⟨fun pins s σ H Q I h => thn ((pe_lc L.calm L.nd L.it L.blk L.tg L.ifs L.elt L.fs).run pins s σ H (QFz Q) I (lc_read (Q' := Q) L.sl (fun _ _ _ z => z) (fun _ _ _ z => z) (fun H1 r1 M1 xs M2 H2 r2 Da acc S1 X1 S2 hr h1 h2 q w => ?_) h)) fun u s' q => EP.freeze q⟩
  refine ⟨Da, acc, rfl, h2, fun o => ?_⟩
  have st : Stay H2 r2 (upd H2 Da (.frz o (.lst acc))) r2 := stay_own (.inl ⟨acc, h2⟩)
  exact w _ _ r2 (X1.own h1) (S2.own (.inl ⟨acc, h2⟩) hr) ⟨Da, acc, rfl, ⟨o, upd_same⟩, q.stay st⟩
theorem r_lcc (L : LcOk X Z elt tg iter ifs scope own it t c e) : PE X (.ListComp elt [⟨tg, iter, ifs, 0⟩] scope pos) (tM X.K Z (eLcC it t (own.map (·.2)) c e)) :=
  PE.cons (pe_lc L.calm L.nd L.it L.blk L.tg L.ifs L.elt L.fs) fun σ H Q h => lc_read (Q' := Q) L.sl (fun _ _ _ z => z) (fun _ _ _ z => z) (fun H1 r1 M1 xs M2 H2 r2 Da acc S1 X1 S2 hr h1 h2 q w => Aft.cel2 S1 X1 S2 hr h1 h2 q w) h
end
end Wn
end

section
set_option Elab.async false
set_option linter.all false
set_option maxRecDepth 100000
set_option maxHeartbeats 4000000
namespace Wn
open PySem PySem.Spec PyProof.Rows L2

/-- how a statement ends -/
inductive SR where
  | nx (δ : Env) (M : Mem) | rt (d : D) (M : Mem) | bk (δ : Env) (M : Mem) | ct (δ : Env) (M : Mem) | er (e : D) (δ : Env) (M : Mem) | bad
abbrev Fs := Env → Mem → SR
def AftS (K : PySem.W.Frag) (Z : ZS) (H : Hp) (r : List Addr) (M : Mem) (res : SR) (E : Ends) : Prop := match res with
  | .nx δ' M' => ∀ σ' H' r', Ext H r M H' r' M' → Sim K H' r' M' → EnvRep K H' r' σ' δ' → E.nx σ' H'
  | .bk δ' M' => ∀ σ' H' r', Ext H r M H' r' M' → Sim K H' r' M' → EnvRep K H' r' σ' δ' → E.bk σ' H'
  | .ct δ' M' => ∀ σ' H' r', Ext H r M H' r' M' → Sim K H' r' M' → EnvRep K H' r' σ' δ' → E.ct σ' H'
  | .rt d M' => ∀ v H' r', Ext H r M H' r' M' → Sim K H' r' M' → Rep K H' r' d v → E.rt v H'
  | .er e δ' M' => ∀ σ' H' r', Ext H r M H' r' M' → Sim K H' r' M' → EnvRep K H' r' σ' δ' → Z σ' e H' r' M'
  | .bad => False
def tS (K : PySem.W.Frag) (Z : ZS) (f : Fs) : TS := fun E σ H => ∃ δ r M, EnvRep K H r σ δ ∧ Sim K H r M ∧ AftS K Z H r M (f δ M) E
theorem PS.cons {X : Cx} {e : Stmt} {t t' : TS} (h : PS X e t) (k : ∀ E σ H, t' E σ H → t E σ H) : PS X e t' := ⟨fun pins s σ H E I q => h.run pins s σ H E I (k E σ H q)⟩
theorem PSs.cons {X : Cx} {e : List Stmt} {t t' : TS} (h : PSs X e t) (k : ∀ E σ H, t' E σ H → t E σ H) : PSs X e t' := ⟨fun pins s σ H E I q => h.run pins s σ H E I (k E σ H q)⟩
/-! ### semantic pieces -/
def bndS {α : Type} (δ : Env) (m : Mem → Res α) (k : α → Mem → SR) : Mem → SR := fun M => match m M with
  | .ok a M1 => k a M1
  | .err e M1 => .er e δ M1
  | .bad => .bad
def sPass : Fs := fun δ M => .nx δ M
def sBrk : Fs := fun δ M => .bk δ M
def sCnt : Fs := fun δ M => .ct δ M
def sRet (e : Fe) : Fs := fun δ => bndS δ (e δ) fun d M => .rt d M
def sRetN : Fs := fun _ M => .rt .non M
def sEx (e : Fe) : Fs := fun δ => bndS δ (e δ) fun _ M => .nx δ M
def sAsg (t : Tg) (e : Fe) : Fs := fun δ => bndS δ (e δ) fun d M => match t.put M d δ with
  | some δ' => .nx δ' M
  | none => .bad
def sIf (c : Fb) (a b : Fs) : Fs := fun δ => bndS δ (c δ) fun k => if k = true then a δ else b δ
def sSeq (a b : Fs) : Fs := fun δ M => match a δ M with
  | .nx δ' M' => b δ' M'
  | o => o
/-- a cell that is never written any more -/
def sFrz (i : Nat) : Fs := fun δ M => match δ[i]? with
  | some (some (.ref n)) => match M[n]? with
    | some (.lst ds) => .nx (δ.set i (some (.lst ds))) (M.set n .dead)
    | _ => .bad
  | _ => .bad
def forGo (t : Tg) (b : Fs) : List D → Fs
  | [], δ, M => .nx δ M
  | d :: ds, δ, M => match t.put M d δ with
    | none => .bad
    | some δ1 => match b δ1 M with
      | .nx δ2 M2 => forGo t b ds δ2 M2
      | .ct δ2 M2 => forGo t b ds δ2 M2
      | .bk δ2 M2 => .nx δ2 M2
      | o => o
def sFor (it : Env → Mem → Res (List D)) (t : Tg) (b : Fs) : Fs := fun δ => bndS δ (it δ) fun ds M => forGo t b ds δ M
def whlGo (c : Fb) (b : Fs) : Nat → Fs
  | 0, _, _ => .bad
  | n + 1, δ, M => match c δ M with
    | .ok true M1 => match b δ M1 with
      | .nx δ2 M2 => whlGo c b n δ2 M2
      | .ct δ2 M2 => whlGo c b n δ2 M2
      | .bk δ2 M2 => .nx δ2 M2
      | o => o
    | .ok false M1 => .nx δ M1
    | .err e M1 => .er e δ M1
    | .bad => .bad
def sPar (is : List Nat) (l : Fl) : Fs := fun δ => bndS δ (l δ) fun ds M => if ds.length = is.length then .nx ((is.zip ds).foldl (fun δ p => δ.set p.1 (some p.2)) δ) M else .bad
def setD (o i v : D) : Mem → Option Mem := fun M => match o, i with
  | .ref n, .int k => match M[n]? with
    | some (.lst ds) => (ixN ds.length k).map fun j => M.set n (.lst (ds.set j v))
    | _ => none
  | _, _ => none
def sSet (o i e : Fe) : Fs := fun δ => bndS δ (e δ) fun d => bndS δ (o δ) fun x => bndS δ (i δ) fun y => fun M => match setD x y d M with
  | some M' => .nx δ M'
  | none => .bad
/-! ### how it goes on -/
section
variable {K : PySem.W.Frag} {Z : ZS} {H H1 : Hp} {r r1 : List Addr} {M M1 : Mem} {E : Ends}
theorem AftS.step {res : SR} (S : Sim K H r M) (S1 : Sim K H1 r1 M1) (e : Ext H r M H1 r1 M1) (h : AftS K Z H r M res E) : AftS K Z H1 r1 M1 res E := by
  cases res with
  | nx δ M' => exact fun σ' H' r' x s q => h σ' H' r' (e.trans S S1 x) s q
  | bk δ M' => exact fun σ' H' r' x s q => h σ' H' r' (e.trans S S1 x) s q
  | ct δ M' => exact fun σ' H' r' x s q => h σ' H' r' (e.trans S S1 x) s q
  | rt d M' => exact fun v H' r' x s q => h v H' r' (e.trans S S1 x) s q
  | er d δ M' => exact fun σ' H' r' x s q => h σ' H' r' (e.trans S S1 x) s q
  | bad => exact h
theorem AftS.bind {σ : St} {δ : Env} {m : Mem → Res D} {k : D → Mem → SR} (S : Sim K H r M) (h : AftS K Z H r M (bndS δ m k M) E) (EE : EnvRep K H r σ δ) :
    Aft K (Z σ) H r M (m M) (fun v H1 => ∃ d1 M1 r1, m M = .ok d1 M1 ∧ Ext H r M H1 r1 M1 ∧ Sim K H1 r1 M1 ∧ Rep K H1 r1 d1 v ∧ AftS K Z H1 r1 M1 (k d1 M1) E) := by
  unfold bndS at h
  cases e : m M with
  | ok d M' => rw [e] at h; exact fun v H' r' x s q => ⟨d, M', r', rfl, x, s, q, AftS.step S s x h⟩
  | err d M' => rw [e] at h; exact fun H' r' x s => h σ H' r' x s (EE.ext S x)
  | bad => rw [e] at h; exact h
theorem AftS.bindL {σ : St} {δ : Env} {m : Mem → Res (List D)} {k : List D → Mem → SR} (S : Sim K H r M) (h : AftS K Z H r M (bndS δ m k M) E) (EE : EnvRep K H r σ δ) :
    AftL K (Z σ) H r M (m M) (fun v H1 => ∃ d1 M1 r1, m M = .ok d1 M1 ∧ Ext H r M H1 r1 M1 ∧ Sim K H1 r1 M1 ∧ Reps K H1 r1 d1 v ∧ AftS K Z H1 r1 M1 (k d1 M1) E) := by
  unfold bndS at h
  cases e : m M with
  | ok d M' => rw [e] at h; exact fun v H' r' x s q => ⟨d, M', r', rfl, x, s, q, AftS.step S s x h⟩
  | err d M' => rw [e] at h; exact fun H' r' x s => h σ H' r' x s (EE.ext S x)
  | bad => rw [e] at h; exact h
theorem AftS.bindB {σ : St} {δ : Env} {m : Mem → Res Bool} {k : Bool → Mem → SR} (S : Sim K H r M) (h : AftS K Z H r M (bndS δ m k M) E) (EE : EnvRep K H r σ δ) :
    AftB K (Z σ) H r M (m M) (fun v H1 => ∃ M1 r1, m M = .ok v M1 ∧ Ext H r M H1 r1 M1 ∧ Sim K H1 r1 M1 ∧ AftS K Z H1 r1 M1 (k v M1) E) := by
  unfold bndS at h
  cases e : m M with
  | ok d M' => rw [e] at h; exact fun H' r' x s => ⟨M', r', rfl, x, s, AftS.step S s x h⟩
  | err d M' => rw [e] at h; exact fun H' r' x s => h σ H' r' x s (EE.ext S x)
  | bad => rw [e] at h; exact h
theorem AftS.imp {res : SR} {E' : Ends} (h : AftS K Z H r M res E) (h1 : ∀ σ H, E.nx σ H → E'.nx σ H) (h2 : ∀ σ H, E.bk σ H → E'.bk σ H) (h3 : ∀ σ H, E.ct σ H → E'.ct σ H) (h4 : ∀ σ H, E.rt σ H → E'.rt σ H) : AftS K Z H r M res E' := by
  cases res with
  | nx δ M' => exact fun σ' H' r' x s q => h1 _ _ (h σ' H' r' x s q)
  | bk δ M' => exact fun σ' H' r' x s q => h2 _ _ (h σ' H' r' x s q)
  | ct δ M' => exact fun σ' H' r' x s q => h3 _ _ (h σ' H' r' x s q)
  | rt d M' => exact fun v H' r' x s q => h4 _ _ (h v H' r' x s q)
  | er d δ M' => exact h
  | bad => exact h
end
section
variable {X : Cx} {Z : ZS} {e : Expr} {st : Stmt} {rest body : List Stmt} {pos : Pos} {fe : Fe} {fa fb : Fs} {fc : Fb} {fl : Fl}
theorem s_pass : PS X (.Pass pos) (tS X.K Z sPass) := PS.cons ps_pass fun E σ H ⟨δ, r, M, e, S, h⟩ => h σ H r Ext.refl S e
theorem s_brk : PS X (.Break pos) (tS X.K Z sBrk) := PS.cons ps_break fun E σ H ⟨δ, r, M, e, S, h⟩ => h σ H r Ext.refl S e
theorem s_cnt : PS X (.Continue pos) (tS X.K Z sCnt) := PS.cons ps_continue fun E σ H ⟨δ, r, M, e, S, h⟩ => h σ H r Ext.refl S e
theorem s_doc {x j pos'} : PS X (.Expr (.Constant (.str x) j pos) pos') (tS X.K Z sPass) := PS.cons ps_doc fun E σ H ⟨δ, r, M, e, S, h⟩ => h σ H r Ext.refl S e
theorem s_ret (he : PE X e (tM X.K Z fe)) : PS X (.Return (some e) pos) (tS X.K Z (sRet fe)) :=
  PS.cons (ps_ret he) fun E σ H ⟨δ, r, M, e, S, h⟩ => ⟨δ, r, M, e, S, (AftS.bind S h e).imp fun v H1 ⟨d1, M1, r1, e1, x1, S1, q1, w⟩ => w v H1 r1 Ext.refl S1 q1⟩
theorem s_retN : PS X (.Return none pos) (tS X.K Z sRetN) := PS.cons ps_retN fun E σ H ⟨δ, r, M, e, S, h⟩ => h .non H r Ext.refl S rfl
theorem s_ex (he : PE X e (tM X.K Z fe)) (hs : swapsWith e none pos.line X.env = pure false) : PS X (.Expr e pos) (tS X.K Z (sEx fe)) :=
  PS.cons (ps_expr he hs) fun E σ H ⟨δ, r, M, e, S, h⟩ => ⟨δ, r, M, e, S, (AftS.bind S h e).imp fun v H1 ⟨d1, M1, r1, e1, x1, S1, q1, w⟩ => w σ H1 r1 Ext.refl S1 (e.ext S x1)⟩
theorem s_asg {tg : Expr} {t : Tg} (he : PE X e (tM X.K Z fe)) (hg : PG X tg (tG X.K t)) (hs : swapsWithSole [tg] e pos.line X.env = pure false) (hw : swappedStores [tg] e X.env = pure none)
    (h1 : (assignEach [tg] X.env).map (·.2) = [assign tg X.env]) : PS X (.Assign [tg] e pos) (tS X.K Z (sAsg t fe)) :=
  PS.cons (ps_asg he hg hs hw h1) fun E σ H ⟨δ, r, M, e, S, h⟩ => ⟨δ, r, M, e, S, (AftS.bind S h e).imp fun v H1 ⟨d1, M1, r1, e1, x1, S1, q1, w⟩ => by
    cases f : t.put M1 d1 δ with
    | none => rw [f] at w; exact w.elim
    | some δ' =>
      rw [f] at w
      exact ⟨δ, r1, M1, d1, e.ext S x1, S1, q1, δ', f, fun σ' E' _ => w σ' H1 r1 Ext.refl S1 E'⟩⟩
theorem s_if {c : Expr} {a b : List Stmt} (hc : PT X c (Wn.tB X.K Z fc)) (ha : PSs X a (tS X.K Z fa)) (hb : PSs X b (tS X.K Z fb)) : PS X (.If c a b pos) (tS X.K Z (sIf fc fa fb)) :=
  PS.cons (ps_if hc ha hb) fun E σ H ⟨δ, r, M, e, S, h⟩ => ⟨δ, r, M, e, S, (AftS.bindB S h e).imp fun k H1 ⟨M1, r1, e1, x1, S1, w⟩ => by
    cases k with
    | true => exact ⟨δ, r1, M1, e.ext S x1, S1, w⟩
    | false => exact ⟨δ, r1, M1, e.ext S x1, S1, w⟩⟩
theorem ss_nil : PSs X [] (tS X.K Z sPass) := PSs.cons pss_nil fun E σ H ⟨δ, r, M, e, S, h⟩ => h σ H r Ext.refl S e
theorem ss_cons (h1 : PS X st (tS X.K Z fa)) (h2 : PSs X rest (tS X.K Z fb)) : PSs X (st :: rest) (tS X.K Z (sSeq fa fb)) :=
  PSs.cons (pss_cons h1 h2) fun E σ H ⟨δ, r, M, e, S, h⟩ => ⟨δ, r, M, e, S, by
    replace h : AftS X.K Z H r M (match fa δ M with | .nx δ' M' => fb δ' M' | o => o) E := h
    cases q : fa δ M with
    | nx δ' M' => rw [q] at h; exact fun σ' H' r' x s e' => ⟨δ', r', M', e', s, AftS.step S s x h⟩
    | bk δ M' => rw [q] at h; exact h
    | ct δ M' => rw [q] at h; exact h
    | rt d M' => rw [q] at h; exact h
    | er d δ' M' => rw [q] at h; exact h
    | bad => rw [q] at h; exact h⟩
/-- the freezing of a cell as a step of its own -/
theorem freezeGo {pins : List (Addr × Obj)} {s : Shared} {σ : St} {H : Hp} {r : List Addr} {M : Mem} {δ : Env} {i n : Nat} {ds : List D} (I : Inv X pins σ H s) (EE : EnvRep X.K H r σ δ) (S : Sim X.K H r M) (h1 : δ[i]? = some (some (.ref n))) (h2 : M[n]? = some (.lst ds)) :
    ∃ H', Inv X pins σ H' s ∧ Ext H r M H' r (M.set n .dead) ∧ Sim X.K H' r (M.set n .dead) ∧ EnvRep X.K H' r σ (δ.set i (some (.lst ds))) := by
  obtain ⟨v, ev, a, rfl, ra⟩ := EE.2 i _ h1
  obtain ⟨vs, ha, q⟩ := S.cell n a _ ra h2
  obtain ⟨o, I'⟩ := inv_freeze I ha
  have hM : n < M.length := (List.getElem?_eq_some_iff.mp h2).1
  have st : Stay H r (upd H a (.frz o (.lst vs))) r := stay_own (.inl ⟨vs, ha⟩)
  have hx : Ext H r M (upd H a (.frz o (.lst vs))) r (M.set n .dead) := by
    refine ⟨⟨[], by simp⟩, fun b u e hn => ?_, fun m b hm e => ?_, fun m e => ?_⟩
    · have hb : b ≠ a := fun z => by
        subst z
        exact hn n ra ⟨_, h2, fun z => by cases z⟩
      rw [upd_ne hb]; exact e
    · rw [List.getElem?_eq_none (by omega)] at e; cases e
    · by_cases hmn : n = m
      · subst hmn; rw [List.getElem?_set_self hM]
      · rw [List.getElem?_set_ne hmn]; exact e
  have hS : Sim X.K (upd H a (.frz o (.lst vs))) r (M.set n .dead) := by
    refine ⟨by rw [List.length_set]; exact S.len, S.inj, fun m b c hm hc => ?_⟩
    by_cases hmn : n = m
    · subst hmn
      rw [List.getElem?_set_self hM] at hc
      cases hc
      rw [ra] at hm
      cases hm
      exact ⟨_, upd_same⟩
    · rw [List.getElem?_set_ne hmn] at hc
      have hb : b ≠ a := fun z => by
        subst z
        exact hmn (S.inj n m b ra hm)
      exact (S.cell m b c hm hc).stay' st (upd_ne hb)
  refine ⟨_, I', hx, hS, ?_⟩
  refine ⟨by rw [EE.1]; simp, fun j d hj => ?_⟩
  by_cases hij : i = j
  · subst hij
    have hl : i < δ.length := (List.getElem?_eq_some_iff.mp h1).1
    rw [List.getElem?_set_self hl] at hj
    cases hj
    exact ⟨_, ev, a, vs, rfl, ⟨o, upd_same⟩, q.stay st⟩
  · rw [List.getElem?_set_ne hij] at hj
    obtain ⟨w, e1, e2⟩ := EE.2 j d hj
    exact ⟨w, e1, e2.stay st⟩
theorem ss_frz {i : Nat} (h2 : PSs X rest (tS X.K Z fb)) : PSs X rest (tS X.K Z (sSeq (sFrz i) fb)) := by
  refine ⟨fun pins s σ H E I ⟨δ, r, M, e, S, h⟩ => ?_⟩
  replace h : AftS X.K Z H r M (match sFrz i δ M with | .nx δ' M' => fb δ' M' | o => o) E := h
  unfold sFrz at h
  cases q1 : δ[i]? with
  | none => simp only [q1] at h; exact h.elim
  | some o =>
    cases o with
    | none => simp only [q1] at h; exact h.elim
    | some d =>
      cases d with
      | ref n =>
        simp only [q1] at h
        cases q2 : M[n]? with
        | none => simp only [q2] at h; exact h.elim
        | some c =>
          cases c with
          | dead => simp only [q2] at h; exact h.elim
          | dct _ => simp only [q2] at h; exact h.elim
          | lst ds =>
            simp only [q2] at h
            obtain ⟨H', I', x', S', E'⟩ := freezeGo I e S q1 q2
            exact h2.run pins s σ H' E I' ⟨_, r, _, E', S', AftS.step S S' x' h⟩
      | _ => simp only [q1] at h; exact h.elim
/-- for -/
theorem forGo_cons (t : Tg) (b : Fs) (d : D) (ds : List D) (δ : Env) (M : Mem) : forGo t b (d :: ds) δ M = (match t.put M d δ with
    | none => .bad
    | some δ1 => match b δ1 M with
      | .nx δ2 M2 => forGo t b ds δ2 M2
      | .ct δ2 M2 => forGo t b ds δ2 M2
      | .bk δ2 M2 => .nx δ2 M2
      | o => o) := rfl
theorem s_for {tg iter : Expr} {it : Env → Mem → Res (List D)} {t : Tg} (hp : PassesOwn (model X.prog X.w) X.A X.env X.xe) (hc : X.calm = true) (hi : PI X tg iter (tI X.K Z it)) (hg : PG X tg (tG X.K t)) (hb : PSs X body (tS X.K Z fb))
    (hs : ∀ x, foldedSetIterable iter X.env x = pure x) : PS X (.For tg iter body [] pos) (tS X.K Z (sFor it t fb)) :=
  PS.cons (ps_for hp hc hi hg hb hs) fun E σ H ⟨δ, r, M, e, S, h⟩ => ⟨δ, r, M, e, S, by
    replace h : AftS X.K Z H r M (bndS δ (it δ) (fun ds M => forGo t fb ds δ M) M) E := h
    unfold bndS at h
    cases f : it δ M with
    | bad => rw [f] at h; exact h.elim
    | err x M1 => rw [f] at h; exact fun H' r' x s => h σ H' r' x s (e.ext S x)
    | ok ds M1 =>
      rw [f] at h
      refine fun J H1 r1 X1 S1 hJ => ?_
      obtain ⟨G, Y, W, hY⟩ := hJ
      have h : AftS X.K Z H1 r1 M1 (forGo t fb ds δ M1) E := AftS.step S S1 X1 h
      refine for_it W (fun i σ' H' => ∃ δ' r' M', Ext H1 r1 M1 H' r' M' ∧ Sim X.K H' r' M' ∧ EnvRep X.K H' r' σ' δ' ∧ AftS X.K Z H' r' M' (forGo t fb (ds.drop i) δ' M') E)
        ⟨δ, r1, M1, Ext.refl, S1, e.ext S X1, h⟩ (fun i σ' H' hi ⟨δ', r', M', x, s, _⟩ => (hY H' r' M' x s).1) (fun i x σ' H' H2 hi ⟨δ', r', M', X2, S2, E2, h2⟩ y => ?_) fun σ' H' ⟨δ', r', M', X2, S2, E2, h2⟩ => ?_
      · obtain ⟨d, hdi, X3, S3, q3⟩ := (hY H' r' M' X2 S2).2 i x H2 hi y
        have hdr : ds.drop i = d :: ds.drop (i + 1) := by
          obtain ⟨hi', e'⟩ := List.getElem?_eq_some_iff.mp hdi
          rw [List.drop_eq_getElem_cons hi', e']
        rw [hdr, forGo_cons] at h2
        cases f1 : t.put M' d δ' with
        | none => rw [f1] at h2; exact h2.elim
        | some δ1 =>
          rw [f1] at h2
          refine ⟨δ', r', M', d, E2.ext S2 X3, S3, q3, δ1, f1, fun σ2 E3 _ => ⟨δ1, r', M', E3, S3, ?_⟩⟩
          simp only at h2
          cases f2 : fb δ1 M' with
          | nx δ2 M2 =>
            rw [f2] at h2
            exact fun σ3 H3 r3 X4 S4 E4 => ⟨δ2, r3, M2, X2.trans S1 S2 (X3.trans S2 S3 X4), S4, E4, AftS.step S2 S4 (X3.trans S2 S3 X4) h2⟩
          | ct δ2 M2 =>
            rw [f2] at h2
            exact fun σ3 H3 r3 X4 S4 E4 => ⟨δ2, r3, M2, X2.trans S1 S2 (X3.trans S2 S3 X4), S4, E4, AftS.step S2 S4 (X3.trans S2 S3 X4) h2⟩
          | bk δ2 M2 => rw [f2] at h2; exact fun σ3 H3 r3 X4 S4 E4 => h2 σ3 H3 r3 (X3.trans S2 S3 X4) S4 E4
          | rt v M2 => rw [f2] at h2; exact fun σ3 H3 r3 X4 S4 E4 => h2 σ3 H3 r3 (X3.trans S2 S3 X4) S4 E4
          | er v δ2 M2 => rw [f2] at h2; exact fun σ3 H3 r3 X4 S4 E4 => h2 σ3 H3 r3 (X3.trans S2 S3 X4) S4 E4
          | bad => rw [f2] at h2; exact h2
      · rw [List.drop_eq_nil_of_le (Nat.le_refl _)] at h2
        exact h2 σ' H' r' Ext.refl S2 E2⟩
theorem s_while {c : Expr} {n : Nat} (hp : PassesOwn (model X.prog X.w) X.A X.env X.xe) (hc : PT X c (Wn.tB X.K Z fc)) (hb : PSs X body (tS X.K Z fb)) : PS X (.While c body [] pos) (tS X.K Z (whlGo fc fb n)) :=
  PS.cons (ps_while hp hc hb) fun E σ H ⟨δ, r, M, e, S, h⟩ => by
    refine ⟨fun m σ' H' => ∃ δ' r' M', Sim X.K H' r' M' ∧ EnvRep X.K H' r' σ' δ' ∧ AftS X.K Z H' r' M' (whlGo fc fb m δ' M') E, ⟨n, δ, r, M, S, e, h⟩, fun m σ' H' ⟨δ', r', M', S1, E1, h1⟩ => ?_⟩
    cases m with
    | zero => exact h1.elim
    | succ m =>
      replace h1 : AftS X.K Z H' r' M' (match fc δ' M' with
        | .ok true M1 => (match fb δ' M1 with
          | .nx δ2 M2 => whlGo fc fb m δ2 M2
          | .ct δ2 M2 => whlGo fc fb m δ2 M2
          | .bk δ2 M2 => .nx δ2 M2
          | o => o)
        | .ok false M1 => .nx δ' M1
        | .err e M1 => .er e δ' M1
        | .bad => .bad) E := h1
      refine ⟨δ', r', M', E1, S1, ?_⟩
      cases f : fc δ' M' with
      | bad => rw [f] at h1; exact h1
      | err x M1 => rw [f] at h1; exact fun H2 r2 X2 S2 => h1 σ' H2 r2 X2 S2 (E1.ext S1 X2)
      | ok k M1 =>
        rw [f] at h1
        cases k with
        | false => exact fun H2 r2 X2 S2 => h1 σ' H2 r2 X2 S2 (E1.ext S1 X2)
        | true =>
          simp only at h1
          refine fun H2 r2 X2 S2 => ?_
          dsimp only
          rw [if_pos rfl]
          refine ⟨fun σ3 H3 => ∃ δ3 r3 M3, Sim X.K H3 r3 M3 ∧ EnvRep X.K H3 r3 σ3 δ3 ∧ AftS X.K Z H3 r3 M3 (whlGo fc fb m δ3 M3) E, fun σ3 H3 z => ⟨m, Nat.lt_succ_self m, z⟩, δ', r2, M1, E1.ext S1 X2, S2, ?_⟩
          cases f2 : fb δ' M1 with
          | nx δ2 M2 => rw [f2] at h1; exact fun σ3 H3 r3 X4 S4 E4 => ⟨δ2, r3, M2, S4, E4, AftS.step S1 S4 (X2.trans S1 S2 X4) h1⟩
          | ct δ2 M2 => rw [f2] at h1; exact fun σ3 H3 r3 X4 S4 E4 => ⟨δ2, r3, M2, S4, E4, AftS.step S1 S4 (X2.trans S1 S2 X4) h1⟩
          | bk δ2 M2 => rw [f2] at h1; exact fun σ3 H3 r3 X4 S4 E4 => h1 σ3 H3 r3 (X2.trans S1 S2 X4) S4 E4
          | rt v M2 => rw [f2] at h1; exact fun σ3 H3 r3 X4 S4 E4 => h1 σ3 H3 r3 (X2.trans S1 S2 X4) S4 E4
          | er v δ2 M2 => rw [f2] at h1; exact fun σ3 H3 r3 X4 S4 E4 => h1 σ3 H3 r3 (X2.trans S1 S2 X4) S4 E4
          | bad => rw [f2] at h1; exact h1
end
/-! ### cells written -/
section
variable {K : PySem.W.Frag} {Z : ZK} {H : Hp} {r : List Addr} {M : Mem}
/-- a cell gets new content -/
theorem ext_writeG {n : Nat} {a : Addr} {nc c0 : Cell} {no : HO} (S : Sim K H r M) (ra : r[n]? = some a) (h0 : M[n]? = some c0) (hd : c0 ≠ .dead) (hmu : MuH H a) (q : ∀ H' r', Stay H r H' r' → H' a = some no → CellRep K H' r' a nc) :
    Ext H r M (upd H a no) r (M.set n nc) ∧ Sim K (upd H a no) r (M.set n nc) := by
  have hM : n < M.length := (List.getElem?_eq_some_iff.mp h0).1
  have st : Stay H r (upd H a no) r := stay_ownM hmu
  refine ⟨⟨⟨[], by simp⟩, fun b u e hn => ?_, fun m b hm e => ?_, fun m e => ?_⟩, ⟨by rw [List.length_set]; exact S.len, S.inj, fun m b c hm hc => ?_⟩⟩
  · have hb : b ≠ a := fun z => by
      subst z
      exact hn n ra ⟨_, h0, hd⟩
    rw [upd_ne hb]; exact e
  · rw [List.getElem?_eq_none (by omega)] at e; cases e
  · by_cases hmn : n = m
    · subst hmn; rw [h0] at e; cases e; exact absurd rfl hd
    · rw [List.getElem?_set_ne hmn]; exact e
  · by_cases hmn : n = m
    · subst hmn
      rw [List.getElem?_set_self hM] at hc
      cases hc
      rw [ra] at hm
      cases hm
      exact q _ _ st upd_same
    · rw [List.getElem?_set_ne hmn] at hc
      have hb : b ≠ a := fun z => by
        subst z
        exact hmn (S.inj n m b ra hm)
      exact (S.cell m b c hm hc).stay' st (upd_ne hb)
theorem ext_write {n : Nat} {a : Addr} {ds : List D} {vs : List V} {ds0 : List D} (S : Sim K H r M) (ra : r[n]? = some a) (h0 : M[n]? = some (.lst ds0)) (q : Reps K H r ds vs) :
    Ext H r M (upd H a (.lst vs)) r (M.set n (.lst ds)) ∧ Sim K (upd H a (.lst vs)) r (M.set n (.lst ds)) := by
  obtain ⟨vs0, ha, _⟩ := S.cell n a _ ra h0
  exact ext_writeG S ra h0 (fun z => by cases z) (.inl ⟨vs0, ha⟩) fun H' r' st e => ⟨vs, e, q.stay st⟩
end
section
variable {X : Cx} {Z : ZS} {e o i : Expr} {pos tpos : Pos} {fe fo fi : Fe}
theorem setD_some {x y d : D} {M M' : Mem} (h : setD x y d M = some M') : ∃ n k ds j, x = .ref n ∧ y = .int k ∧ M[n]? = some (.lst ds) ∧ ixN ds.length k = some j ∧ M' = M.set n (.lst (ds.set j d)) := by
  unfold setD at h
  split at h
  · rename_i n k
    split at h
    · rename_i ds hM
      cases q : ixN ds.length k with
      | none => rw [q] at h; cases h
      | some j => rw [q] at h; cases h; exact ⟨n, k, ds, j, rfl, rfl, hM, q, rfl⟩
    · cases h
  · cases h
theorem s_set (he : PE X e (tM X.K Z fe)) (ho : PE X o (tM X.K Z fo)) (hi : PE X i (tM X.K Z fi)) (hs : swapsWithSole [.Subscript o i tpos] e pos.line X.env = pure false) (hw : swappedStores [.Subscript o i tpos] e X.env = pure none)
    (h1 : (assignEach [.Subscript o i tpos] X.env).map (·.2) = [assign (.Subscript o i tpos) X.env])
    (ha : ∀ v, assign (.Subscript o i tpos) X.env v = (do
      let ov ← holding [v] (eval o X.env)
      let iv ← holding [v, ov] (eval i X.env)
      standAt tpos
      holding [v, ov, iv] (setItem ov iv v)
      release [v, ov, iv] [])) : PS X (.Assign [.Subscript o i tpos] e pos) (tS X.K Z (sSet fo fi fe)) :=
  PS.cons (ps_asg he (pg_sub ho hi set_list ha) hs hw h1) fun E σ H ⟨δ, r, M, e, S, h⟩ => ⟨δ, r, M, e, S, (AftS.bind S h e).imp fun v H1 ⟨d1, M1, r1, e1, x1, S1, q1, w⟩ =>
    ⟨δ, r1, M1, e.ext S x1, S1, (AftS.bind S1 w (e.ext S x1)).imp fun vo H2 ⟨d2, M2, r2, e2, x2, S2, q2, w2⟩ =>
    ⟨δ, r2, M2, (e.ext S x1).ext S1 x2, S2, (AftS.bind S2 w2 ((e.ext S x1).ext S1 x2)).imp fun vi H3 ⟨d3, M3, r3, e3, x3, S3, q3, w3⟩ => by
      cases f : setD d2 d3 d1 M3 with
      | none => rw [f] at w3; exact w3.elim
      | some M4 =>
        rw [f] at w3
        obtain ⟨n, k, ds, j, rfl, rfl, hM, hj, rfl⟩ := setD_some f
        obtain ⟨a, rfl, ra⟩ := q2.ext S2 x3
        cases q3
        obtain ⟨vs, hH, qs⟩ := S3.cell n a _ ra hM
        have qn : Reps X.K H3 r3 (ds.set j d1) (vs.set j v) := qs.set j ((q1.ext S1 x2).ext S2 x3)
        obtain ⟨X4, S4⟩ := ext_write S3 ra hM qn
        exact ⟨a, vs, k, j, rfl, rfl, hH, by rw [← qs.length]; exact hj, w3 σ _ r3 X4 S4 ((((e.ext S x1).ext S1 x2).ext S2 x3).ext S3 X4)⟩⟩⟩⟩
/-! ### list.append on a cell -/
def eApp (a : Fe) (b : Fe) : Fe := fun δ => bnd (a δ) fun x => bnd (b δ) fun y M => match x with
  | .ref n => match M[n]? with
    | some (.lst ds) => if ds.length < sizeLine then .ok .non (M.set n (.lst (ds ++ [y]))) else .bad
    | _ => .bad
  | _ => .bad
end
end Wn
end

section
set_option Elab.async false
set_option linter.all false
set_option maxRecDepth 100000
set_option maxHeartbeats 4000000
namespace Wn
open PySem PySem.Spec PyProof.Rows L2

/-! ### methods of lists -/
def MtL (X : Cx) (id : String) (g : D → List D → Mem → Res D) : Prop :=
  ∀ (pins : List (Addr × Obj)) (s : Shared) (σ : St) (H : Hp) (r : List Addr) (M : Mem) (x : V) (xs : List V) (v : Value) (us : List Value) (dx : D) (ds : List D) (Q : VK), Inv X pins σ H s → RelV x v → Vals xs us → Sim X.K H r M → Rep X.K H r dx x → Reps X.K H r ds xs →
    Aft X.K (fun _ _ _ _ => False) H r M (g dx ds M) Q → wpAny (model X.prog X.w) X.A (call (.builtin id) (v :: us)) (EP X pins σ Q) X.xe s
def isL (M : Mem) (d : D) : Bool := (lstOf M d).isSome
/-- o.m(..) of a list; no exception -/
def noErr {α : Type} : Res α → Res α
  | .ok a M => .ok a M
  | _ => .bad
def eMl (g : D → List D → Mem → Res D) (a : Fe) (l : Fl) : Fe := fun δ => bnd (a δ) fun x M => if isL M x = true then bnd (l δ) (fun xs M => noErr (g x xs M)) M else .bad
section
variable {X : Cx} {Z : ZS} {o e : Expr} {es : List Expr} {fa : Fe} {fl : Fl} {apos cpos : Pos} {id : String} {name : Str} {g : D → List D → Mem → Res D}
theorem tyV_list {K : PySem.W.Frag} {H : Hp} {r : List Addr} {M : Mem} {d : D} {v : V} (S : Sim K H r M) (h : isL M d = true) (q : Rep K H r d v) : tyV K "list" v H := by
  obtain ⟨ds, e⟩ := Option.isSome_iff_exists.mp h
  obtain ⟨a, vs, rfl, h1, _⟩ := lstOf_rep S q e
  exact .inl ⟨rfl, vs, h1⟩
theorem Aft.noErr {Z : ZK} {K : PySem.W.Frag} {H : Hp} {r : List Addr} {M : Mem} {m : Res D} {Q : VK} (h : Aft K Z H r M (Wn.noErr m) Q) : Aft K (fun _ _ _ _ => False) H r M m Q := by
  cases m with
  | ok d M1 => exact h
  | err d M1 => exact h.elim
  | bad => exact h
theorem r_mtl (pa : PlainAttrs "list") (slot : Slot "list" name id) (hty : typeOf (.builtin id) = pure (.type "method_descriptor")) (hm : MtL X id g) (ho : PE X o (tM X.K Z fa)) (ha : PA X (e :: es) (tL X.K Z fl))
    (hbase : attributeBase o name X.env (eval o X.env) = eval o X.env)
    (hfew : ((backTo cpos (starEach (e :: es) X.env)).all (fun x => !x.1) && (backToKw cpos (keywordEach [] X.env)).all (fun x => x.1.isSome)
      && decide ((e :: es).length + ([] : List Keyword).length + (if ([] : List Keyword).isEmpty then 0 else 1) < 30)) = true)
    (hline : (apos.endLine == cpos.line) = true) (hs : starEach (e :: es) X.env = (false, eval e X.env) :: starEach es X.env) (hplain : (backTo cpos (starEach es X.env)).any (·.1) = false) :
    PE X (.Call (.Attribute o name apos) (e :: es) [] cpos) (tM X.K Z (eMl g fa fl)) := by
  refine ⟨fun pins s σ H Q I ⟨δ, r, M, E, S, h⟩ => ?_⟩
  refine wpAny_Call_method_late hbase hfew hline rfl (thn (ho.run pins s σ H _ I ⟨δ, r, M, E, S, Aft.bind S h⟩) fun v s1 ⟨x, H1, I1, r1, d1, M1, rr, e1, X1, S1, q1, w⟩ => ?_)
  by_cases hl : isL M1 d1 = true
  · simp only [hl, if_true] at w
    obtain ⟨h1, h2⟩ := tyV_is I1 r1 (tyV_list S1 hl q1)
    refine ⟨"list", id, pa, slot, hty, h1, h2, ?_⟩
    have hA := ha.run cpos pins s1 σ H1 _ I1 ⟨δ, rr, M1, E.ext S X1, S1, Aft.bindL S1 w⟩
    rw [hs] at hA ⊢
    refine Calls.callWith_builtin (by show (false || (backTo cpos (starEach es X.env)).any (·.1)) = false; rw [hplain] <;> rfl) (Calls.evalArgs_plain ?_)
    exact thn hA fun us s2 ⟨vs, H2, I2, r2, ds, M2, rr2, e2, X2, S2, q2, w2⟩ => hm pins s2 σ H2 rr2 M2 x vs v us d1 ds Q I2 r1 r2 S2 (q1.ext S1 X2) q2 w2.noErr
  · simp only [if_neg hl] at w; exact w.elim
def fAppend : D → List D → Mem → Res D := fun x xs M => match x, xs with
  | .ref n, [y] => (match M[n]? with
    | some (.lst ds) => if ds.length < sizeLine then .ok .non (M.set n (.lst (ds ++ [y]))) else .bad
    | _ => .bad)
  | _, _ => .bad
theorem m_append : MtL X "list.append" fAppend := by
  intro pins s σ H r M x xs v us dx ds Q I rx rs S qx qs h
  unfold fAppend at h
  split at h
  · rename_i n y
    split at h
    · rename_i es hM
      split at h
      · rename_i hz
        obtain ⟨a, rfl, ra⟩ := qx
        obtain ⟨vs, hH, qc⟩ := S.cell n a _ ra hM
        obtain ⟨w, ws, rfl, qy, hw⟩ := qs
        cases hw
        refine mt_append pins s σ H (.ref a) [w] v us Q I rx rs ⟨a, vs, w, rfl, rfl, hH, by rw [← qc.length]; exact hz, ?_⟩
        obtain ⟨X4, S4⟩ := ext_write S ra hM (qc.append (Reps.one qy))
        exact h .non _ r X4 S4 rfl
      · exact h.elim
    · exact h.elim
  · exact h.elim
end

/-! ### methods of texts -/
section
variable {X : Cx}
theorem MtS1.of {id : String} {g : Mem → D → List D → Option D} {rr : V → List V → Hp → VK → Prop} (h : MtR X id rr)
    (hr : ∀ (H : Hp) (r : List Addr) (M : Mem) (x : V) (xs : List V) (dx : D) (ds : List D) (d : D) (Q : VK), Sim X.K H r M → Rep X.K H r dx x → Reps X.K H r ds xs → g M dx ds = some d → Wnt X.K H r M d Q → rr x xs H Q) : MtS1 X "str" id g :=
  fun pins s σ H r M x xs v us dx ds d Q I rx rs S qx qs e w => h pins s σ H x xs v us Q I rx rs (hr H r M x xs dx ds d Q S qx qs e w)
theorem MtS1.ofF {id : String} {g : Mem → D → List D → Option D} {rr : V → List V → Hp → VK → Prop} (h : MtR X id rr)
    (hr : ∀ (H : Hp) (r : List Addr) (M : Mem) (x : V) (xs : List V) (dx : D) (ds : List D) (d : D) (Q : VK), Sim X.K H r M → Rep X.K H r dx x → Reps X.K H r ds xs → g M dx ds = some d → Wnt X.K H r M d Q → rr x xs H (QFz Q)) : MtS1 X "str" id g :=
  fun pins s σ H r M x xs v us dx ds d Q I rx rs S qx qs e w => thn (h pins s σ H x xs v us (QFz Q) I rx rs (hr H r M x xs dx ds d Q S qx qs e w)) fun u s' q => EP.freeze q
def gIndex : Mem → D → List D → Option D := fun _ x xs => match x, xs with
  | .str a, [.str b] => (match Builtin.Str.occurrences a b 0 a.length 1 with
    | i :: _ => some (.int (i : Nat))
    | [] => none)
  | _, _ => none
theorem m_index : MtS1 X "str" "str.index" gIndex := MtS1.of mt_sindex fun H r M x xs dx ds d Q S qx qs e w => by
  unfold gIndex at e
  split at e
  · rename_i a b
    split at e
    · rename_i i rest ho
      cases e
      cases qx
      obtain ⟨_, _, rfl, rfl, hw⟩ := qs
      cases hw
      exact ⟨a, b, i, rest, rfl, rfl, ho, w.here S (d := .int (i : Nat)) rfl⟩
    · cases e
  · cases e
def strsOf (ds : List D) : Option (List Str) := ds.mapM fun d => match d with
  | .str x => some x
  | _ => none
theorem strsOf_rep {K : PySem.W.Frag} {H : Hp} {r : List Addr} : ∀ {ds : List D} {vs : List V} {ys : List Str}, strsOf ds = some ys → Reps K H r ds vs → vs = ys.map V.str
  | [], _, _, e, q => by cases q; cases e; rfl
  | d :: ds, _, _, e, q => by
    obtain ⟨v, ws, rfl, q1, q2⟩ := q
    unfold strsOf at e
    rw [List.mapM_cons] at e
    cases d with
    | str x =>
      cases q3 : strsOf ds with
      | none =>
        unfold strsOf at q3
        rw [q3] at e
        cases e
      | some zs =>
        have q3' := q3
        unfold strsOf at q3
        rw [q3] at e
        cases e
        cases q1
        rw [strsOf_rep q3' q2]; rfl
    | _ => cases e
def seqJ (M : Mem) : D → Option (List D)
  | .tup ds => some ds
  | d => lstOf M d
def gJoin : Mem → D → List D → Option D := fun M x xs => match x, xs with
  | .str a, [l] => (match seqJ M l with
    | some ds => (match strsOf ds with
      | some ys => if (ys.map (·.length)).sum + ys.length * a.length ≤ 16777216 then some (.str (Txt.join a ys)) else none
      | none => none)
    | none => none)
  | _, _ => none
theorem m_join : MtS1 X "str" "str.join" gJoin := MtS1.of mt_join fun H r M x xs dx ds d Q S qx qs e w => by
  unfold gJoin at e
  split at e
  · rename_i a l
    split at e
    · rename_i es hs
      split at e
      · rename_i ys hy
        split at e
        · rename_i hz
          cases e
          cases qx
          obtain ⟨v, _, rfl, ql, hw⟩ := qs
          cases hw
          have key : ∃ p vs, v = .ref p ∧ (SqL X.K H p vs ∨ SqT X.K H p vs) ∧ Reps X.K H r es vs := by
            have go : ∀ l', Rep X.K H r l' v → lstOf M l' = some es → ∃ p vs, v = .ref p ∧ (SqL X.K H p vs ∨ SqT X.K H p vs) ∧ Reps X.K H r es vs := fun l' ql' hs' => by
              obtain ⟨p, vs, e1, h1, h2⟩ := lstOf_rep S ql' hs'
              exact ⟨p, vs, e1, .inl h1, h2⟩
            cases l with
            | tup es' =>
              cases hs
              obtain ⟨p, vs, e1, h1, h2⟩ := ql
              exact ⟨p, vs, e1, .inr h1, h2⟩
            | lst es' => exact go _ ql hs
            | scr es' => exact go _ ql hs
            | ref n => exact go _ ql hs
            | _ => cases hs
          obtain ⟨p, vs, rfl, h1, h2⟩ := key
          rw [strsOf_rep hy h2] at h1
          exact ⟨a, p, ys, rfl, rfl, h1, hz, w.here S (d := .str _) rfl⟩
        · cases e
      · cases e
    · cases e
  · cases e
end

/-! ### several names at once -/
section
variable {X : Cx} {Z : ZS} {fl : Fl} {pos : Pos}
theorem s_par2 {i j : Nat} {x y : Str} {a b : Expr} {px py pt : Pos} {kt k2 pt2} (hc : X.calm = true) (hN : X.N.Nodup) (hi : X.N[i]? = some x) (hj : X.N[j]? = some y) (hij : i ≠ j)
    (hx : X.env.scope.names.lookup x = some .local) (hy : X.env.scope.names.lookup y = some .local) (ha : PA X [a, b] (tL X.K Z fl))
    (hw : swappedStores [.Tuple [.Name x px, .Name y py] kt pt] (.Tuple [a, b] k2 pt2) X.env = pure (some [x, y]))
    (hs : swapsWithSole [.Tuple [.Name x px, .Name y py] kt pt] (.Tuple [a, b] k2 pt2) pos.line X.env = pure false) :
    PS X (.Assign [.Tuple [.Name x px, .Name y py] kt pt] (.Tuple [a, b] k2 pt2) pos) (tS X.K Z (sPar [i, j] fl)) :=
  PS.cons (ps_par hc hN hi hj hij hx hy ha hw hs) fun E σ H ⟨δ, r, M, e, S, h⟩ => ⟨δ, r, M, e, S, (AftS.bindL S h e).imp fun v H1 ⟨d1, M1, r1, e1, x1, S1, q1, w⟩ => by
    by_cases hl : d1.length = [i, j].length
    · rw [if_pos hl] at w
      obtain ⟨d, d', v, v', rfl, rfl, q2, q3⟩ := reps_2 q1 hl
      exact ⟨v, v', rfl, w _ H1 r1 Ext.refl S1 (((e.ext S x1).set q2).set q3)⟩
    · rw [if_neg hl] at w; exact w.elim⟩
theorem reps_3 {K : PySem.W.Frag} {H : Hp} {r : List Addr} {vs : List V} {ds : List D} (q : Reps K H r ds vs) (h : ds.length = 3) : ∃ d e f v w u, ds = [d, e, f] ∧ vs = [v, w, u] ∧ Rep K H r d v ∧ Rep K H r e w ∧ Rep K H r f u := by
  match ds, h with
  | [d, e, f], _ =>
    obtain ⟨v, _, rfl, h1, w, _, rfl, h2, u, _, rfl, h3, h4⟩ := q
    cases h4
    exact ⟨d, e, f, v, w, u, rfl, rfl, h1, h2, h3⟩
theorem vals_3 {v w u : V} {us : List Value} (h : Vals [v, w, u] us) : ∃ a b c, us = [a, b, c] ∧ RelV v a ∧ RelV w b ∧ RelV u c := by
  cases h with
  | cons p h =>
    cases h with
    | cons q h =>
      cases h with
      | cons t h =>
        cases h
        exact ⟨_, _, _, rfl, p, q, t⟩
/-- a, b, c = x, y, z with plain local names -/
theorem s_par3 {i j k : Nat} {x y z : Str} {a b c : Expr} {px py pz pt : Pos} {kt k2 pt2} (hc : X.calm = true) (hN : X.N.Nodup) (hi : X.N[i]? = some x) (hj : X.N[j]? = some y) (hk : X.N[k]? = some z) (hij : i ≠ j) (hik : i ≠ k) (hjk : j ≠ k)
    (hx : X.env.scope.names.lookup x = some .local) (hy : X.env.scope.names.lookup y = some .local) (hz : X.env.scope.names.lookup z = some .local) (ha : PA X [a, b, c] (tL X.K Z fl))
    (hw : swappedStores [.Tuple [.Name x px, .Name y py, .Name z pz] kt pt] (.Tuple [a, b, c] k2 pt2) X.env = pure (some [x, y, z]))
    (hs : swapsWithSole [.Tuple [.Name x px, .Name y py, .Name z pz] kt pt] (.Tuple [a, b, c] k2 pt2) pos.line X.env = pure false) :
    PS X (.Assign [.Tuple [.Name x px, .Name y py, .Name z pz] kt pt] (.Tuple [a, b, c] k2 pt2) pos) (tS X.K Z (sPar [i, j, k] fl)) := by
  refine ⟨fun pins s σ H E I ⟨δ, r, M, e, S, h⟩ => ?_⟩
  rw [exec_Assign_arm]
  refine wpAny_bind (wpAny_standAt ?_)
  rw [hs]
  refine wpAny_bind (wpAny_pure ?_)
  rw [if_neg Bool.false_ne_true]
  refine wpAny_bind (Tuple_ (thn (ha.run _ pins s σ H _ I ⟨δ, r, M, e, S, AftS.bindL S h e⟩) fun us s1 ⟨vs, H1, I1, rv, d1, M1, r1, e1, x1, S1, q1, w⟩ => ?_))
  by_cases hl : d1.length = [i, j, k].length
  · rw [if_pos hl] at w
    obtain ⟨d, d', d'', v1, v2, v3, rfl, rfl, qa, qb, qc⟩ := reps_3 q1 hl
    obtain ⟨u1, u2, u3, rfl, ra, rb, rc⟩ := vals_3 rv
    refine wpAny_newObj_type ?_ (by show 3 ≤ sizeLine; decide)
    have I2 : Inv X pins σ H1 { s1 with heap := s1.heap.push { cls := .type "tuple", data := .seq [u1, u2, u3].toArray } } := I1.kept (t' := s1.toks) fun b o q => Heap.get?_push_of_some _ q
    rw [hw]
    refine wpAny_bind (wpAny_pure ?_)
    show wpAny (model X.prog X.w) X.A (do rule "assign.swapped-stores"; let items ← unpackItems (.ref s1.heap.objs.size) 3 none; assignInOrder [fun v => bindName X.env z v, fun v => bindName X.env y v, fun v => bindName X.env x v] items.reverse; pure Flow.next) _ _ _
    refine wpAny_bind (wpAny_rule (wpAny_bind (unpackItems_tuple (items := #[u1, u2, u3]) (I.ok.hd hc) (IsTup.new s1.heap _) fun h' hx' => ?_)))
    have I3 := I2.kept (h' := h') (t' := s1.toks) fun b o q => hx' b o (Nat.ne_of_lt (Heap.lt_size q)) q
    show wpAny _ _ (assignInOrder [fun v => bindName X.env z v, fun v => bindName X.env y v, fun v => bindName X.env x v] [u3, u2, u1] >>= fun _ => pure Flow.next) _ _ _
    refine wpAny_bind (assignInOrder_cons (wpAny_bindName (store_ok I3 hN hk (.inl hz) rc (fun s2 I4 => ?_) (.inr hz))))
    refine assignInOrder_cons (wpAny_bindName (store_ok I4 hN hj (.inl hy) rb (fun s3 I5 => ?_) (.inr hy)))
    refine assignInOrder_cons (wpAny_bindName (store_ok I5 hN hi (.inl hx) ra (fun s4 I6 => assignInOrder_nil (wpAny_pure ?_)) (.inr hx)))
    refine ⟨_, H1, I6, w _ H1 r1 Ext.refl S1 ?_⟩
    show EnvRep X.K H1 r1 _ (((δ.set i (some d)).set j (some d')).set k (some d''))
    have z := ((((e.ext S x1).set (i := k) qc).set (i := j) qb).set (i := i) qa)
    rw [List.set_comm _ _ hjk, List.set_comm (l := δ) _ _ hik, List.set_comm (l := δ.set k (some d'')) _ _ hij]
    exact z
  · rw [if_neg hl] at w; exact w.elim
/-- name = [..]: the stores exchanged -/
theorem s_setLc {i : Nat} {y : Str} {py : Pos} {elt tg iter : Expr} {ifs : List Expr} {scope : Scope} {own : List (Str × Nat)} {spos : Pos} {it : Env → Mem → Res (List D)} {t : Tg} {c : Fb} {e : Fe} (L : LcOk X Z elt tg iter ifs scope own it t c e) (hy : X.N[i]? = some y) (hyl : X.env.scope.names.lookup y = some .local)
    (hsw : swapsWith (.ListComp elt [⟨tg, iter, ifs, 0⟩] scope pos) (some (.Name y py)) spos.line X.env = pure true) : PS X (.Assign [.Name y py] (.ListComp elt [⟨tg, iter, ifs, 0⟩] scope pos) spos) (tS X.K Z (sAsg (.nm i) (eLc it t (own.map (·.2)) c e))) := by
  refine ⟨fun pins s σ H E I ⟨δ, r, M, ee, S, h⟩ => ?_⟩
  have key := (ps_setLc L.calm L.nd hy hyl hsw L.it L.blk L.tg L.ifs L.elt L.fs).run pins s σ H { E with nx := fun σ' H' => ∃ a xs, H' a = some (.lst xs) ∧ ∀ o, E.nx σ' (upd H' a (.frz o (.lst xs))) } I ?_
  · refine thn key fun f s' q => ?_
    cases f with
    | next =>
      obtain ⟨σ', H', I', a, xs, ha, q⟩ := q
      obtain ⟨o, J⟩ := inv_freeze I' ha
      exact ⟨σ', _, J, q o⟩
    | brk => exact q
    | cont => exact q
    | ret u => exact q
  · refine lc_read (it := it) (t := t) (c := c) (e := e) (k := fun xs => ret (.lst xs)) (Z := Z) (Q' := fun v H1 => ∃ d1 M1 r1, eLc it t (own.map (·.2)) c e δ M = .ok d1 M1 ∧ Ext H r M H1 r1 M1 ∧ Sim X.K H1 r1 M1 ∧ Rep X.K H1 r1 d1 v ∧ AftS X.K Z H1 r1 M1 (.nx (δ.set i (some d1)) M1) E) L.sl (fun _ _ _ z => z) (fun _ _ _ z => z)
      (fun H1 r1 M1 xs M2 H2 r2 Da acc S1 X1 S2 hr h1 h2 q w => ?_) ⟨δ, r, M, ee, S, AftS.bind S h ee⟩
    refine ⟨Da, acc, h2, fun o => ?_⟩
    have st : Stay H2 r2 (upd H2 Da (.frz o (.lst acc))) r2 := stay_own (.inl ⟨acc, h2⟩)
    obtain ⟨d1, M3, r3, e1, x3, S3, q3, w3⟩ := w (.ref Da) _ r2 (X1.own h1) (S2.own (.inl ⟨acc, h2⟩) hr) ⟨Da, acc, rfl, ⟨o, upd_same⟩, q.stay st⟩
    exact w3 _ _ r3 Ext.refl S3 ((ee.ext S x3).set q3)
theorem s_setLcC {i : Nat} {y : Str} {py : Pos} {elt tg iter : Expr} {ifs : List Expr} {scope : Scope} {own : List (Str × Nat)} {spos : Pos} {it : Env → Mem → Res (List D)} {t : Tg} {c : Fb} {e : Fe} (L : LcOk X Z elt tg iter ifs scope own it t c e) (hy : X.N[i]? = some y) (hyl : X.env.scope.names.lookup y = some .local)
    (hsw : swapsWith (.ListComp elt [⟨tg, iter, ifs, 0⟩] scope pos) (some (.Name y py)) spos.line X.env = pure true) : PS X (.Assign [.Name y py] (.ListComp elt [⟨tg, iter, ifs, 0⟩] scope pos) spos) (tS X.K Z (sAsg (.nm i) (eLcC it t (own.map (·.2)) c e))) := by
  refine PS.cons (ps_setLc L.calm L.nd hy hyl hsw L.it L.blk L.tg L.ifs L.elt L.fs) fun E σ H ⟨δ, r, M, ee, S, h⟩ => ?_
  refine lc_read (it := it) (t := t) (c := c) (e := e) (k := fun (xs : List D) (M : Mem) => Res.ok (.ref M.length) (M ++ [Cell.lst xs])) (Z := Z) (Q' := fun v H1 => ∃ d1 M1 r1, eLcC it t (own.map (·.2)) c e δ M = .ok d1 M1 ∧ Ext H r M H1 r1 M1 ∧ Sim X.K H1 r1 M1 ∧ Rep X.K H1 r1 d1 v ∧ AftS X.K Z H1 r1 M1 (.nx (δ.set i (some d1)) M1) E) L.sl (fun _ _ _ z => z) (fun _ _ _ z => z)
      (fun H1 r1 M1 xs M2 H2 r2 Da acc S1 X1 S2 hr h1 h2 q w => ?_) ⟨δ, r, M, ee, S, AftS.bind S h ee⟩
  obtain ⟨d1, M3, r3, e1, x3, S3, q3, w3⟩ := Aft.cel2 S1 X1 S2 hr h1 h2 q w
  exact w3 _ _ r3 Ext.refl S3 ((ee.ext S x3).set q3)
end

/-! ### slices, comparisons in a row -/
section
variable {X : Cx} {Z : ZS} {a b c : Expr} {fa fb fc : Fe} {pos p2 : Pos}
def oNo : Env → Mem → Res (Option Int) := fun _ => ret none
def oAt (f : Fe) : Env → Mem → Res (Option Int) := fun δ => bnd (f δ) fun d M => match d with
  | .int i => .ok (some i) M
  | _ => .bad
def AftO (K : PySem.W.Frag) (Z : ZK) (H : Hp) (r : List Addr) (M : Mem) (res : Res (Option Int)) (Q : Option Int → Hp → Prop) : Prop := match res with
  | .ok d M' => ∀ H' r', Ext H r M H' r' M' → Sim K H' r' M' → Q d H'
  | .err e M' => ∀ H' r', Ext H r M H' r' M' → Sim K H' r' M' → Z e H' r' M'
  | .bad => False
def tO (K : PySem.W.Frag) (Z : ZS) (f : Env → Mem → Res (Option Int)) : TO := fun σ H Q => ∃ δ r M, EnvRep K H r σ δ ∧ Sim K H r M ∧ AftO K (Z σ) H r M (f δ M) Q
theorem PO.cons {e : Option Expr} {t t' : TO} (h : PO X e t) (k : ∀ σ H Q, t' σ H Q → t σ H Q) : PO X e t' := ⟨fun pins s σ H Q I q => h.run pins s σ H Q I (k σ H Q q)⟩
theorem o_none : PO X none (tO X.K Z oNo) := PO.cons po_none fun σ H Q ⟨δ, r, M, E, S, h⟩ => h H r Ext.refl S
theorem o_some (h : PE X a (tM X.K Z fa)) : PO X (some a) (tO X.K Z (oAt fa)) := PO.cons (po_some h) fun σ H Q ⟨δ, r, M, E, S, h⟩ => ⟨δ, r, M, E, S, by
  replace h : AftO X.K (Z σ) H r M (bnd (fa δ) (fun d M => match d with | .int i => .ok (some i) M | _ => .bad) M) Q := h
  unfold bnd at h
  cases q : fa δ M with
  | bad => rw [q] at h; exact h
  | err e M1 => rw [q] at h; exact h
  | ok d M1 =>
    rw [q] at h
    refine fun v H1 r1 X1 S1 q1 => ?_
    cases d with
    | int i => cases q1; exact ⟨i, rfl, h H1 r1 X1 S1⟩
    | _ => exact h.elim⟩
def eSl (g : Mem → D → Option Int → Option Int → Option D) (f : Fe) (lo hi : Env → Mem → Res (Option Int)) : Fe := fun δ => bnd (f δ) fun x => bnd (lo δ) fun l => bnd (hi δ) fun h M => opt (g M x l h) M
theorem AftO.bind {Z : ZK} {K : PySem.W.Frag} {H : Hp} {r : List Addr} {M : Mem} {m : Mem → Res (Option Int)} {k : Option Int → Mem → Res D} {Q : VK} (S : Sim K H r M) (h : Aft K Z H r M (bnd m k M) Q) :
    AftO K Z H r M (m M) (fun v H1 => ∃ M1 r1, m M = .ok v M1 ∧ Ext H r M H1 r1 M1 ∧ Sim K H1 r1 M1 ∧ Aft K Z H1 r1 M1 (k v M1) Q) := by
  unfold bnd at h
  cases e : m M with
  | ok d M' => rw [e] at h; exact fun H' r' x s => ⟨M', r', rfl, x, s, Aft.step S s x h⟩
  | err d M' => rw [e] at h; exact h
  | bad => rw [e] at h; exact h
end
end Wn
end

section
set_option Elab.async false
set_option linter.all false
set_option maxRecDepth 100000
set_option maxHeartbeats 4000000
namespace Wn
open PySem PySem.Spec PyProof.Rows L2

/-! ### dicts: cells -/
def keyD : D → Option Key
  | .int i => some (.inl i)
  | .str x => some (.inr x)
  | _ => none
def dKey : Key → D
  | .inl i => .int i
  | .inr x => .str x
def valD (kvs : List (Key × D)) (k : Key) : Option D := (kvs.find? fun kv => decide (kv.1 = k)).map (·.2)
def putD (kvs : List (Key × D)) (k : Key) (v : D) : List (Key × D) :=
  if (kvs.any fun kv => decide (kv.1 = k)) = true then kvs.map (fun kv => if kv.1 = k then (kv.1, v) else kv) else kvs ++ [(k, v)]
def dropD (kvs : List (Key × D)) (k : Key) : List (Key × D) := kvs.filter fun kv => decide (kv.1 ≠ k)
def mergeD (kvs more : List (Key × D)) : List (Key × D) := more.foldl (fun acc kv => putD acc kv.1 kv.2) kvs
section
variable {K : PySem.W.Frag} {H : Hp} {r : List Addr} {M : Mem}
theorem keyD_rep {d : D} {k : Key} {v : V} (h : Rep K H r d v) (e : keyD d = some k) : v = kV k := by
  cases d with
  | int i => cases e; exact h
  | str x => cases e; exact h
  | _ => cases e
/-- what a dict holds, in both readings -/
def DRep (K : PySem.W.Frag) (H : Hp) (r : List Addr) (kvs : List (Key × D)) (ps : List (Key × V)) : Prop := ps.map (·.1) = kvs.map (·.1) ∧ Reps K H r (kvs.map (·.2)) (ps.map (·.2))
theorem DRep.nil : DRep K H r [] [] := ⟨rfl, rfl⟩
theorem DRep.cons {k : Key} {d : D} {v : V} {kvs : List (Key × D)} {ps : List (Key × V)} (q : Rep K H r d v) (h : DRep K H r kvs ps) : DRep K H r ((k, d) :: kvs) ((k, v) :: ps) :=
  ⟨by simp [h.1], ⟨v, ps.map (·.2), rfl, q, h.2⟩⟩
theorem DRep.inv {kv : Key × D} {kvs : List (Key × D)} {qs : List (Key × V)} (h : DRep K H r (kv :: kvs) qs) : ∃ v ps, qs = (kv.1, v) :: ps ∧ Rep K H r kv.2 v ∧ DRep K H r kvs ps := by
  obtain ⟨h1, h2⟩ := h
  cases qs with
  | nil => cases h1
  | cons q qs =>
    obtain ⟨k, v⟩ := q
    rw [List.map_cons, List.map_cons] at h1
    injection h1 with e1 e2
    obtain ⟨w, ws, e3, e4, e5⟩ := h2
    rw [List.map_cons] at e3
    injection e3 with e6 e7
    subst e7
    exact ⟨v, qs, by rw [← e1], by rw [show v = w from e6]; exact e4, e2, e5⟩
theorem DRep.stay {H' : Hp} {r' : List Addr} {kvs : List (Key × D)} {ps : List (Key × V)} (e : Stay H r H' r') (h : DRep K H r kvs ps) : DRep K H' r' kvs ps := ⟨h.1, h.2.stay e⟩
theorem DRep.length {kvs : List (Key × D)} {ps : List (Key × V)} (h : DRep K H r kvs ps) : ps.length = kvs.length := by
  have := congrArg List.length h.1
  simpa using this
theorem DRep.val : ∀ {kvs : List (Key × D)} {ps : List (Key × V)} (k : Key), DRep K H r kvs ps → (valD kvs k = none ∧ valV ps k = none) ∨ ∃ d v, valD kvs k = some d ∧ valV ps k = some v ∧ Rep K H r d v
  | [], ps, k, h => by
    have : ps = [] := by have := h.length; exact List.length_eq_zero_iff.mp this
    subst this
    exact .inl ⟨rfl, rfl⟩
  | kv :: kvs, ps, k, h => by
    obtain ⟨v, qs, rfl, q, h'⟩ := h.inv
    by_cases e : kv.1 = k
    · refine .inr ⟨kv.2, v, ?_, valV_pos e, q⟩
      simp [valD, List.find?_cons, e]
    · have e1 : valD (kv :: kvs) k = valD kvs k := by simp [valD, List.find?_cons, e]
      rw [e1, valV_neg (by exact e)]
      exact DRep.val k h'
theorem DRep.any : ∀ {kvs : List (Key × D)} {ps : List (Key × V)} (k : Key), DRep K H r kvs ps → (ps.any fun kv => decide (kv.1 = k)) = kvs.any fun kv => decide (kv.1 = k) := fun {kvs ps} k h => by
  have e1 : (ps.any fun kv => decide (kv.1 = k)) = (ps.map (·.1)).any fun x => decide (x = k) := by rw [List.any_map]; rfl
  have e2 : (kvs.any fun kv => decide (kv.1 = k)) = (kvs.map (·.1)).any fun x => decide (x = k) := by rw [List.any_map]; rfl
  rw [e1, e2, h.1]
theorem DRep.repl {d : D} {v : V} (k : Key) (q : Rep K H r d v) : ∀ {kvs : List (Key × D)} {ps : List (Key × V)}, DRep K H r kvs ps → DRep K H r (kvs.map fun kv => if kv.1 = k then (kv.1, d) else kv) (ps.map fun kv => if kv.1 = k then (kv.1, v) else kv)
  | [], ps, h => by
    have : ps = [] := List.length_eq_zero_iff.mp h.length
    subst this
    exact .nil
  | kv :: kvs, ps, h => by
    obtain ⟨w, qs, rfl, q', h'⟩ := h.inv
    rw [List.map_cons, List.map_cons]
    by_cases e : kv.1 = k
    · rw [if_pos e, if_pos e]; exact .cons q (DRep.repl k q h')
    · rw [if_neg e, if_neg e]; exact .cons q' (DRep.repl k q h')
theorem DRep.snoc {d : D} {v : V} (k : Key) (q : Rep K H r d v) : ∀ {kvs : List (Key × D)} {ps : List (Key × V)}, DRep K H r kvs ps → DRep K H r (kvs ++ [(k, d)]) (ps ++ [(k, v)])
  | [], ps, h => by
    have : ps = [] := List.length_eq_zero_iff.mp h.length
    subst this
    exact .cons q .nil
  | kv :: kvs, ps, h => by
    obtain ⟨w, qs, rfl, q', h'⟩ := h.inv
    exact .cons q' (DRep.snoc k q h')
theorem DRep.put {kvs : List (Key × D)} {ps : List (Key × V)} {d : D} {v : V} (k : Key) (q : Rep K H r d v) (h : DRep K H r kvs ps) : DRep K H r (putD kvs k d) (putK ps k v) := by
  unfold putD putK
  rw [h.any k]
  split
  · exact h.repl k q
  · exact h.snoc k q
theorem DRep.drop (k : Key) : ∀ {kvs : List (Key × D)} {ps : List (Key × V)}, DRep K H r kvs ps → DRep K H r (dropD kvs k) (dropK ps k)
  | [], ps, h => by
    have : ps = [] := List.length_eq_zero_iff.mp h.length
    subst this
    exact .nil
  | kv :: kvs, ps, h => by
    obtain ⟨w, qs, rfl, q', h'⟩ := h.inv
    unfold dropD dropK
    rw [List.filter_cons, List.filter_cons]
    by_cases e : kv.1 = k
    · rw [if_neg (by simpa using e), if_neg (by simpa using e)]; exact DRep.drop k h'
    · rw [if_pos (by simpa using e), if_pos (by simpa using e)]; exact .cons q' (DRep.drop k h')
theorem DRep.merge : ∀ {more : List (Key × D)} {qs : List (Key × V)} {kvs : List (Key × D)} {ps : List (Key × V)}, DRep K H r more qs → DRep K H r kvs ps → DRep K H r (mergeD kvs more) (mergeK ps qs)
  | [], qs, kvs, ps, h, h' => by
    have : qs = [] := List.length_eq_zero_iff.mp h.length
    subst this
    exact h'
  | kv :: more, qs, kvs, ps, h, h' => by
    obtain ⟨v, qs', rfl, q, h2⟩ := h.inv
    exact DRep.merge (more := more) (qs := qs') (kvs := putD kvs kv.1 kv.2) (ps := putK ps kv.1 v) h2 (h'.put kv.1 q)
end
def dctOf (M : Mem) : D → Option (List (Key × D))
  | .ref n => match M[n]? with
    | some (.dct kvs) => some kvs
    | _ => none
  | _ => none
theorem dctOf_rep {K : PySem.W.Frag} {H : Hp} {r : List Addr} {M : Mem} {d : D} {kvs : List (Key × D)} {v : V} (S : Sim K H r M) (h : Rep K H r d v) (e : dctOf M d = some kvs) : ∃ n a ps, d = .ref n ∧ M[n]? = some (.dct kvs) ∧ v = .ref a ∧ r[n]? = some a ∧ H a = some (.dK ps) ∧ DRep K H r kvs ps := by
  cases d with
  | ref n =>
    obtain ⟨a, rfl, h1⟩ := h
    have e' : (match M[n]? with | some (.dct kvs) => some kvs | _ => none) = some kvs := e
    cases q : M[n]? with
    | none => rw [q] at e'; cases e'
    | some c =>
      rw [q] at e'
      cases c with
      | dct kvs' =>
        cases e'
        obtain ⟨ps, h2, h3⟩ := S.cell n a _ h1 q
        exact ⟨n, a, ps, rfl, q, rfl, h1, h2, h3⟩
      | _ => cases e'
  | _ => cases e
theorem dget_of {K : PySem.W.Frag} {H : Hp} {r : List Addr} {kvs : List (Key × D)} {ps : List (Key × V)} {a : Addr} {k : Key} (h : H a = some (.dK ps)) : DGet H a (kV k) (valV ps k) := DGet.k h
/-- a dict's cell is written -/
theorem ext_dct {K : PySem.W.Frag} {H : Hp} {r : List Addr} {M : Mem} {n : Nat} {a : Addr} {kvs kvs' : List (Key × D)} {ps ps' : List (Key × V)} (S : Sim K H r M) (ra : r[n]? = some a) (h0 : M[n]? = some (.dct kvs)) (ha : H a = some (.dK ps)) (q : DRep K H r kvs' ps') :
    Ext H r M (upd H a (.dK ps')) r (M.set n (.dct kvs')) ∧ Sim K (upd H a (.dK ps')) r (M.set n (.dct kvs')) :=
  ext_writeG S ra h0 (fun z => by cases z) (.inr (.inl ⟨ps, ha⟩)) fun H' r' st e => ⟨ps', e, (q.stay st).1, (q.stay st).2⟩
/-! ### operators on dicts -/
section
variable {X : Cx}
def gInD : Mem → D → D → Option D := fun M x y => match dctOf M y, keyD x with
  | some kvs, some k => some (.bl (valD kvs k).isSome)
  | _, _ => none
theorem o2_inD (hu : X.A.units + 1 < cLine) : Op2 X (compareOp .In) gInD := by
  intro pins s σ H r M x y v u dx dy d Q I rx ry S qx qy e w
  unfold gInD at e
  split at e
  · rename_i kvs k h1 h2
    cases e
    obtain ⟨n, a, ps, rfl, hM, rfl, ra, ha, hd⟩ := dctOf_rep S qy h1
    have := keyD_rep qx h2
    subst this
    cases ry
    refine d_in hu I (DGet.k ha) rx fun s' I' => ?_
    have e : (valV ps k).isSome = (valD kvs k).isSome := by
      rcases hd.val k with ⟨e1, e2⟩ | ⟨d', v', e1, e2, _⟩ <;> rw [e1, e2] <;> rfl
    rw [e]
    exact ⟨.bl _, H, I', rfl, w.here S rfl⟩
  · cases e
def gNotInD : Mem → D → D → Option D := fun M x y => match dctOf M y, keyD x with
  | some kvs, some k => some (.bl (!(valD kvs k).isSome))
  | _, _ => none
theorem o2_notInD (hu : X.A.units + 1 < cLine) : Op2 X (compareOp .NotIn) gNotInD := by
  intro pins s σ H r M x y v u dx dy d Q I rx ry S qx qy e w
  unfold gNotInD at e
  split at e
  · rename_i kvs k h1 h2
    cases e
    obtain ⟨n, a, ps, rfl, hM, rfl, ra, ha, hd⟩ := dctOf_rep S qy h1
    have := keyD_rep qx h2
    subst this
    cases ry
    refine d_notIn hu I (DGet.k ha) rx fun s' I' => ?_
    have e : (valV ps k).isSome = (valD kvs k).isSome := by
      rcases hd.val k with ⟨e1, e2⟩ | ⟨d', v', e1, e2, _⟩ <;> rw [e1, e2] <;> rfl
    rw [e]
    exact ⟨.bl _, H, I', rfl, w.here S rfl⟩
  · cases e
/-! ### methods of dicts -/
def isDct (M : Mem) (d : D) : Bool := (dctOf M d).isSome
def eMd (g : D → List D → Mem → Res D) (a : Fe) (l : Fl) : Fe := fun δ => bnd (a δ) fun x M => if isDct M x = true then bnd (l δ) (fun xs M => noErr (g x xs M)) M else .bad
theorem r_mtd {Z : ZS} {o e : Expr} {es : List Expr} {fa : Fe} {fl : Fl} {apos cpos : Pos} {id : String} {name : Str} {g : D → List D → Mem → Res D} (pa : PlainAttrs "dict") (slot : Slot "dict" name id) (hty : typeOf (.builtin id) = pure (.type "method_descriptor")) (hm : MtL X id g) (ho : PE X o (tM X.K Z fa)) (ha : PA X (e :: es) (tL X.K Z fl))
    (hbase : attributeBase o name X.env (eval o X.env) = eval o X.env)
    (hfew : ((backTo cpos (starEach (e :: es) X.env)).all (fun x => !x.1) && (backToKw cpos (keywordEach [] X.env)).all (fun x => x.1.isSome)
      && decide ((e :: es).length + ([] : List Keyword).length + (if ([] : List Keyword).isEmpty then 0 else 1) < 30)) = true)
    (hline : (apos.endLine == cpos.line) = true) (hs : starEach (e :: es) X.env = (false, eval e X.env) :: starEach es X.env) (hplain : (backTo cpos (starEach es X.env)).any (·.1) = false) :
    PE X (.Call (.Attribute o name apos) (e :: es) [] cpos) (tM X.K Z (eMd g fa fl)) := by
  refine ⟨fun pins s σ H Q I ⟨δ, r, M, E, S, h⟩ => ?_⟩
  refine wpAny_Call_method_late hbase hfew hline rfl (thn (ho.run pins s σ H _ I ⟨δ, r, M, E, S, Aft.bind S h⟩) fun v s1 ⟨x, H1, I1, r1, d1, M1, rr, e1, X1, S1, q1, w⟩ => ?_)
  by_cases hl : isDct M1 d1 = true
  · simp only [hl, if_true] at w
    obtain ⟨kvs, hk⟩ := Option.isSome_iff_exists.mp hl
    obtain ⟨n, a, ps, rfl, hM, rfl, ra, hh, hd⟩ := dctOf_rep S1 q1 hk
    have r1' := r1
    cases r1'
    obtain ⟨h1, h2, _⟩ := isD_at I1 (a := a) (.inl ⟨ps, .inl hh⟩)
    refine ⟨"dict", id, pa, slot, hty, h1, h2, ?_⟩
    have hA := ha.run cpos pins s1 σ H1 _ I1 ⟨δ, rr, M1, E.ext S X1, S1, Aft.bindL S1 w⟩
    rw [hs] at hA ⊢
    refine Calls.callWith_builtin (by show (false || (backTo cpos (starEach es X.env)).any (·.1)) = false; rw [hplain] <;> rfl) (Calls.evalArgs_plain ?_)
    exact thn hA fun us s2 ⟨vs, H2, I2, r2, ds, M2, rr2, e2, X2, S2, q2, w2⟩ => hm pins s2 σ H2 rr2 M2 (.ref a) vs (.ref a) us (.ref n) ds Q I2 rfl r2 S2 (q1.ext S1 X2) q2 w2.noErr
  · simp only [if_neg hl] at w; exact w.elim
def fGetD : D → List D → Mem → Res D := fun x xs M => match dctOf M x, xs with
  | some kvs, [k] => (match keyD k with
    | some k => .ok ((valD kvs k).getD .non) M
    | none => .bad)
  | some kvs, [k, d] => (match keyD k with
    | some k => .ok ((valD kvs k).getD d) M
    | none => .bad)
  | _, _ => .bad
theorem m_get (hu : X.A.units + 1 < cLine) : MtL X "dict.get" fGetD := by
  intro pins s σ H r M x xs v us dx ds Q I rx rs S qx qs h
  unfold fGetD at h
  split at h
  · rename_i kvs k h1
    split at h
    · rename_i k' h2
      obtain ⟨n, a, ps, rfl, hM, rfl, ra, ha, hd⟩ := dctOf_rep S qx h1
      obtain ⟨w, _, rfl, qy, hw⟩ := qs
      cases hw
      have := keyD_rep qy h2
      subst this
      obtain ⟨u, rfl, ru⟩ := Vals.one rs
      cases rx
      refine d_get1 hu I (DGet.k ha) ru fun w' s' I' rw' => ⟨_, H, I', rw', ?_⟩
      rcases hd.val k' with ⟨e1, e2⟩ | ⟨d', v', e1, e2, q⟩
      · rw [e1] at h
        rw [e2]
        exact h .non H r Ext.refl S rfl
      · rw [e1] at h
        rw [e2]
        exact h v' H r Ext.refl S q
    · exact h.elim
  · rename_i kvs k d h1
    split at h
    · rename_i k' h2
      obtain ⟨n, a, ps, rfl, hM, rfl, ra, ha, hd⟩ := dctOf_rep S qx h1
      obtain ⟨w, _, rfl, qy, w2, _, rfl, qd, hw⟩ := qs
      cases hw
      have := keyD_rep qy h2
      subst this
      obtain ⟨u, u2, rfl, ru, ru2⟩ := Vals.two rs
      cases rx
      refine d_get2 hu I (DGet.k ha) ru ru2 fun w' s' I' rw' => ⟨_, H, I', rw', ?_⟩
      rcases hd.val k' with ⟨e1, e2⟩ | ⟨d', v', e1, e2, q⟩
      · rw [e1] at h
        rw [e2]
        exact h w2 H r Ext.refl S qd
      · rw [e1] at h
        rw [e2]
        exact h v' H r Ext.refl S q
    · exact h.elim
  · exact h.elim
def fPopD : D → List D → Mem → Res D := fun x xs M => match x, xs with
  | .ref n, [k] => (match M[n]?, keyD k with
    | some (.dct kvs), some k => (match valD kvs k with
      | some d => .ok d (M.set n (.dct (dropD kvs k)))
      | none => .bad)
    | _, _ => .bad)
  | .ref n, [k, d0] => (match M[n]?, keyD k with
    | some (.dct kvs), some k => (match valD kvs k with
      | some d => .ok d (M.set n (.dct (dropD kvs k)))
      | none => .ok d0 M)
    | _, _ => .bad)
  | _, _ => .bad
theorem m_pop : MtL X "dict.pop" fPopD := by
  intro pins s σ H r M x xs v us dx ds Q I rx rs S qx qs h
  unfold fPopD at h
  split at h
  · rename_i n k
    split at h
    · rename_i kvs k' hM h2
      split at h
      · rename_i d hv
        obtain ⟨_, a, ps, e0, _, rfl, ra, ha, hd⟩ := dctOf_rep (kvs := kvs) S qx (by simp only [dctOf, hM])
        cases e0
        obtain ⟨w, _, rfl, qy, hw⟩ := qs
        cases hw
        have := keyD_rep qy h2
        subst this
        obtain ⟨u, rfl, ru⟩ := Vals.one rs
        cases rx
        rcases hd.val k' with ⟨e1, e2⟩ | ⟨d', v', e1, e2, q⟩
        · rw [e1] at hv; cases hv
        · rw [e1] at hv
          cases hv
          obtain ⟨X4, S4⟩ := ext_dct S ra hM ha (hd.drop k')
          refine d_pop I ha ru e2 (.inl rfl) fun w' s' I' rw' => ⟨v', _, I', rw', ?_⟩
          exact h v' _ r X4 S4 (q.ext S X4)
      · exact h.elim
    · exact h.elim
  · rename_i n k d0
    split at h
    · rename_i kvs k' hM h2
      obtain ⟨_, a, ps, e0, _, rfl, ra, ha, hd⟩ := dctOf_rep (kvs := kvs) S qx (by simp only [dctOf, hM])
      cases e0
      obtain ⟨w, _, rfl, qy, w2, _, rfl, qd, hw⟩ := qs
      cases hw
      have := keyD_rep qy h2
      subst this
      obtain ⟨u, u2, rfl, ru, ru2⟩ := Vals.two rs
      cases rx
      rcases hd.val k' with ⟨e1, e2⟩ | ⟨d', v', e1, e2, q⟩
      · rw [e1] at h
        refine d_popD I ha ru e2 fun s' I' => ⟨w2, H, I', ru2, ?_⟩
        exact h w2 H r Ext.refl S qd
      · rw [e1] at h
        obtain ⟨X4, S4⟩ := ext_dct S ra hM ha (hd.drop k')
        refine d_pop I ha ru e2 (.inr ⟨u2, rfl⟩) fun w' s' I' rw' => ⟨v', _, I', rw', ?_⟩
        exact h v' _ r X4 S4 (q.ext S X4)
    · exact h.elim
  · exact h.elim
/-! ### dict(pairs) -/
def pairD : D → Option (Key × D)
  | .tup [k, v] => (keyD k).map fun k => (k, v)
  | _ => none
def pairsD : List D → Option (List (Key × D))
  | [] => some []
  | d :: ds => match pairD d, pairsD ds with
    | some p, some ps => some (p :: ps)
    | _, _ => none
theorem pairsD_rep {K : PySem.W.Frag} {H : Hp} {r : List Addr} : ∀ {ds : List D} {vs : List V} {kvs : List (Key × D)}, Reps K H r ds vs → pairsD ds = some kvs → ∃ (ps : List Addr) (qs : List (Key × V)), vs = ps.map V.ref ∧ Paired (fun p kv => SqT K H p [kV kv.1, kv.2]) ps qs ∧ DRep K H r kvs qs
  | [], _, _, h, e => by cases h; cases e; exact ⟨[], [], rfl, .nil, .nil⟩
  | d :: ds, _, kvs, h, e => by
    obtain ⟨v, ws, rfl, h1, h2⟩ := h
    have e' : (match pairD d, pairsD ds with | some p, some ps => some (p :: ps) | _, _ => none) = some kvs := e
    cases q1 : pairD d with
    | none => rw [q1] at e'; cases e'
    | some p =>
      cases q2 : pairsD ds with
      | none => rw [q1, q2] at e'; cases e'
      | some kvs2 =>
        rw [q1, q2] at e'
        cases e'
        obtain ⟨ps, qs, rfl, f1, f2⟩ := pairsD_rep h2 q2
        unfold pairD at q1
        split at q1
        · rename_i k x
          obtain ⟨k', e1, rfl⟩ := Option.map_eq_some_iff.mp q1
          obtain ⟨a, us, rfl, g1, g2⟩ := h1
          obtain ⟨y, _, rfl, g3, z, _, rfl, g4, g5⟩ := g2
          cases g5
          have := keyD_rep g3 e1
          subst this
          exact ⟨a :: ps, (k', z) :: qs, rfl, .cons g1 f1, .cons g4 f2⟩
        · cases q1
/-- dict(a) -/
def gDcp : List D → Mem → Res D := fun ds M => match ds with
  | [d] => (match lstOf M d with
    | some es => (match pairsD es with
      | some kvs => .ok (.ref M.length) (M ++ [.dct (mergeD [] kvs)])
      | none => .bad)
    | none => .bad)
  | _ => .bad
def eDcp (a : Fe) : Fe := fun δ => bnd (lCons a lNil δ) gDcp
theorem r_dcp {Z : ZS} {a : Expr} {fa : Fe} {p pos : Pos} (hc : X.calm = true) (hg : Gl X "dict") (hm : X.mg "dict" = none) (ha : PE X a (tM X.K Z fa)) (hs : starEach [a] X.env = [(false, eval a X.env)]) : PE X (.Call (.Name "dict" p) [a] [] pos) (tM X.K Z (eDcp fa)) := by
  refine ⟨fun pins s σ H Q I ⟨δ, r, M, E, S, h⟩ => ?_⟩
  refine wpAny_Call_Name_kw (ld_blt I hg hm (show bootBuiltins "dict" = some (.type "dict") by kernel_rfl) ?_)
  have hp : PA X [a] (tL X.K Z (lCons fa lNil)) := l_cons ha l_nil hs
  refine PyProof.Rows.callWith_type1 (thn (hp.run pos pins s σ H _ I ⟨δ, r, M, E, S, Aft.bindL S h⟩) fun us s1 ⟨vs, H1, I1, rv, ds, M1, r1, e2, X1, S1, q1, w⟩ => ?_) hs rfl
  unfold gDcp at w
  split at w
  · rename_i d1
    split at w
    · rename_i es f
      split at w
      · rename_i kvs g
        obtain ⟨v, _, rfl, qv, hn⟩ := q1
        cases hn
        obtain ⟨b, vs, rfl, h1, h2⟩ := lstOf_rep S1 qv f
        obtain ⟨ps, qs, rfl, f1, f2⟩ := pairsD_rep h2 g
        refine call_dictP hc pins s1 σ H1 [V.ref b] us Q I1 rv ⟨b, ps, qs, rfl, h1, f1, fun p hp => ?_⟩
        exact Aft.celG (nc := .dct (mergeD [] kvs)) S1 hp (fun H' r' st e => ⟨mergeK [] qs, e, ((DRep.merge f2 .nil).stay st).1, ((DRep.merge f2 .nil).stay st).2⟩) w
      · exact w.elim
    · exact w.elim
  · exact w.elim
end
/-! ### list.extend -/
def fExtend : D → List D → Mem → Res D := fun x xs M => match x, xs with
  | .ref n, [.ref m] => (match M[n]?, M[m]? with
    | some (.lst ds), some (.lst es) => if ds.length + es.length ≤ sizeLine then .ok .non (M.set n (.lst (ds ++ es))) else .bad
    | _, _ => .bad)
  | _, _ => .bad
theorem m_extend {X : Cx} : MtL X "list.extend" fExtend := by
  intro pins s σ H r M x xs v us dx ds Q I rx rs S qx qs h
  unfold fExtend at h
  split at h
  · rename_i n m
    split at h
    · rename_i es fs hM hM2
      split at h
      · rename_i hz
        obtain ⟨a, rfl, ra⟩ := qx
        obtain ⟨vs, hH, qc⟩ := S.cell n a _ ra hM
        obtain ⟨w, _, rfl, ⟨b, rfl, rb⟩, hw⟩ := qs
        cases hw
        obtain ⟨ws, hH2, qc2⟩ := S.cell m b _ rb hM2
        refine mt_extend pins s σ H (.ref a) [.ref b] v us Q I rx rs ⟨a, b, vs, ws, rfl, rfl, hH, hH2, by rw [← qc.length, ← qc2.length]; exact hz, ?_⟩
        obtain ⟨X4, S4⟩ := ext_write S ra hM (qc.append qc2)
        exact h .non _ r X4 S4 rfl
      · exact h.elim
    · exact h.elim
  · exact h.elim
/-! ### d[k], d[k] = v -/
def gIxD : Mem → D → D → Option D := fun M x y => match dctOf M x, keyD y with
  | some kvs, some k => valD kvs k
  | _, _ => none
theorem ixsD {X : Cx} (hu : X.A.units + 1 < cLine) : IxS X gIxD := by
  intro value slice pins s σ H r M x y v u dx dy d Q I rx ry S qx qy e w hs
  unfold gIxD at e
  split at e
  · rename_i kvs k h1 h2
    obtain ⟨n, a, ps, rfl, hM, rfl, ra, ha, hd⟩ := dctOf_rep S qx h1
    have := keyD_rep qy h2
    subst this
    cases rx
    rcases hd.val k with ⟨e1, e2⟩ | ⟨d', v', e1, e2, q⟩
    · rw [e1] at e; cases e
    · rw [e1] at e
      cases e
      have g : DGet H a (kV k) (some v') := by rw [← e2]; exact DGet.k ha
      exact tail_any (dict_typeIs I g) PySem.F.slot_dict_getitem.lookup (d_getItem hu I g ry fun w' s3 I3 rw' => ⟨v', H, I3, rw', w.here S q⟩) hs
  · cases e
theorem IxS.or {X : Cx} {g g' : Mem → D → D → Option D} (h : IxS X g) (h' : IxS X g') : IxS X (fun M a b => (g M a b).or (g' M a b)) :=
  fun value slice pins s σ H r M x y v u dx dy d Q I rx ry S qx qy e w hs => by
    cases q : g M dx dy with
    | some d' =>
      have e' : (g M dx dy).or (g' M dx dy) = some d := e
      rw [q] at e'
      cases e'
      exact h value slice pins s σ H r M x y v u dx dy _ Q I rx ry S qx qy q w hs
    | none =>
      have e' : (g M dx dy).or (g' M dx dy) = some d := e
      rw [q] at e'
      exact h' value slice pins s σ H r M x y v u dx dy d Q I rx ry S qx qy e' w hs
def setK (o i v : D) : Mem → Option Mem := fun M => match o, keyD i with
  | .ref n, some k => match M[n]? with
    | some (.dct kvs) => if kvs.length < sizeLine then some (M.set n (.dct (putD kvs k v))) else none
    | _ => none
  | _, _ => none
theorem setK_some {x y d : D} {M M' : Mem} (h : setK x y d M = some M') : ∃ n k kvs, x = .ref n ∧ keyD y = some k ∧ M[n]? = some (.dct kvs) ∧ kvs.length < sizeLine ∧ M' = M.set n (.dct (putD kvs k d)) := by
  unfold setK at h
  split at h
  · rename_i n k hk
    split at h
    · rename_i kvs hM
      split at h
      · rename_i hz
        cases h
        exact ⟨n, k, kvs, rfl, hk, hM, hz, rfl⟩
      · cases h
    · cases h
  · cases h
def setA (o i v : D) : Mem → Option Mem := fun M => (setD o i v M).or (setK o i v M)
def sSetA (o i e : Fe) : Fs := fun δ => bndS δ (e δ) fun d => bndS δ (o δ) fun x => bndS δ (i δ) fun y => fun M => match setA x y d M with
  | some M' => .nx δ M'
  | none => .bad
/-- a store by values, to a list or to a dict -/
def rSetA : TSet := fun o i v H Q => rSetL o i v H Q ∨ ∃ a H', o = .ref a ∧ DPut H a i v H' ∧ Q H'
theorem set_any {X : Cx} (hu : X.A.units + 1 < cLine) : PSet X rSetA := by
  intro pins s σ H o i v ov iv u Q I ro ri rv h
  rcases h with h | ⟨a, H', rfl, g, q⟩
  · exact set_list pins s σ H o i v ov iv u Q I ro ri rv h
  · cases ro
    exact d_setItem hu I g ri rv fun s' I' => ⟨H', I', q⟩
section
variable {X : Cx} {Z : ZS} {e o i : Expr} {pos tpos : Pos} {fe fo fi : Fe}
theorem s_setA (hu : X.A.units + 1 < cLine) (he : PE X e (tM X.K Z fe)) (ho : PE X o (tM X.K Z fo)) (hi : PE X i (tM X.K Z fi)) (hs : swapsWithSole [.Subscript o i tpos] e pos.line X.env = pure false) (hw : swappedStores [.Subscript o i tpos] e X.env = pure none)
    (h1 : (assignEach [.Subscript o i tpos] X.env).map (·.2) = [assign (.Subscript o i tpos) X.env])
    (ha : ∀ v, assign (.Subscript o i tpos) X.env v = (do
      let ov ← holding [v] (eval o X.env)
      let iv ← holding [v, ov] (eval i X.env)
      standAt tpos
      holding [v, ov, iv] (setItem ov iv v)
      release [v, ov, iv] [])) : PS X (.Assign [.Subscript o i tpos] e pos) (tS X.K Z (sSetA fo fi fe)) :=
  PS.cons (ps_asg he (pg_sub ho hi (set_any hu) ha) hs hw h1) fun E σ H ⟨δ, r, M, e, S, h⟩ => ⟨δ, r, M, e, S, (AftS.bind S h e).imp fun v H1 ⟨d1, M1, r1, e1, x1, S1, q1, w⟩ =>
    ⟨δ, r1, M1, e.ext S x1, S1, (AftS.bind S1 w (e.ext S x1)).imp fun vo H2 ⟨d2, M2, r2, e2, x2, S2, q2, w2⟩ =>
    ⟨δ, r2, M2, (e.ext S x1).ext S1 x2, S2, (AftS.bind S2 w2 ((e.ext S x1).ext S1 x2)).imp fun vi H3 ⟨d3, M3, r3, e3, x3, S3, q3, w3⟩ => by
      cases f : setD d2 d3 d1 M3 with
      | some M4 =>
        have f' : setA d2 d3 d1 M3 = some M4 := by unfold setA; rw [f]; rfl
        simp only [f'] at w3
        obtain ⟨n, k, ds, j, rfl, rfl, hM, hj, rfl⟩ := setD_some f
        obtain ⟨a, rfl, ra⟩ := q2.ext S2 x3
        cases q3
        obtain ⟨vs, hH, qs⟩ := S3.cell n a _ ra hM
        have qn : Reps X.K H3 r3 (ds.set j d1) (vs.set j v) := qs.set j ((q1.ext S1 x2).ext S2 x3)
        obtain ⟨X4, S4⟩ := ext_write S3 ra hM qn
        exact .inl ⟨a, vs, k, j, rfl, rfl, hH, by rw [← qs.length]; exact hj, w3 σ _ r3 X4 S4 ((((e.ext S x1).ext S1 x2).ext S2 x3).ext S3 X4)⟩
      | none =>
        cases g : setK d2 d3 d1 M3 with
        | none =>
          have f' : setA d2 d3 d1 M3 = none := by unfold setA; rw [f, g]; rfl
          simp only [f'] at w3
          exact w3.elim
        | some M4 =>
          have f' : setA d2 d3 d1 M3 = some M4 := by unfold setA; rw [f, g]; rfl
          simp only [f'] at w3
          obtain ⟨n, k, kvs, rfl, hk, hM, hz, rfl⟩ := setK_some g
          obtain ⟨_, a, ps, e0, _, rfl, ra, hH, hd⟩ := dctOf_rep (kvs := kvs) S3 (q2.ext S2 x3) (by simp only [dctOf, hM])
          cases e0
          have := keyD_rep q3 hk
          subst this
          obtain ⟨X4, S4⟩ := ext_dct S3 ra hM hH (hd.put k ((q1.ext S1 x2).ext S2 x3))
          exact .inr ⟨a, _, rfl, DPut.k hH (by rw [hd.length]; exact hz), w3 σ _ r3 X4 S4 ((((e.ext S x1).ext S1 x2).ext S2 x3).ext S3 X4)⟩⟩⟩⟩
end
end Wn
end

section
set_option Elab.async false
set_option linter.all false
set_option maxRecDepth 100000
set_option maxHeartbeats 400000
namespace Wn
open PySem PySem.Spec PyProof.Rows L2
section
variable {X : Cx} {Z : ZS} {a b c : Expr} {fa fb fc : Fe} {pos p2 : Pos} {lo hi : Option Expr} {fl fh : Env → Mem → Res (Option Int)}
theorem r_sl {g : Mem → D → Option Int → Option Int → Option D} (hr : SlS X g) (he : PE X a (tM X.K Z fa)) (hl : PO X lo (tO X.K Z fl)) (hu : PO X hi (tO X.K Z fh)) : PE X (.Subscript a (.Slice lo hi none p2) pos) (tM X.K Z (eSl g fa fl fh)) := by
  refine ⟨fun pins s σ H Q I ⟨δ, r, M, E, S, h⟩ => ?_⟩
  refine Subscript_ (thn (he.run pins s σ H _ I ⟨δ, r, M, E, S, Aft.bind S h⟩) fun v s1 ⟨x, H1, I1, rx, d1, M1, r1, e1, X1, S1, q1, w1⟩ => ?_)
  refine wpAny_Slice (thn (hl.run pins s1 σ H1 _ I1 ⟨δ, r1, M1, E.ext S X1, S1, AftO.bind S1 w1⟩) fun vl s2 ⟨l, H2, I2, pl, M2, r2, e2, X2, S2, w2⟩ =>
    thn (hu.run pins s2 σ H2 _ I2 ⟨δ, r2, M2, (E.ext S X1).ext S1 X2, S2, AftO.bind S2 w2⟩) fun vu s3 ⟨u, H3, I3, pu, M3, r3, e3, X3, S3, w3⟩ => ?_)
  rw [evalPart_none]
  refine wpAny_pure ?_
  obtain ⟨d, e4, w4⟩ := Aft.opt w3
  have I4 : Inv X pins σ H3 { s3 with heap := s3.heap.push { cls := .type "slice", data := .fields #[vl, vu, .none] } } := I3.kept (t' := s3.toks) fun b ob q => Heap.get?_push_of_some _ q
  have qx := (q1.ext S1 X2).ext S2 X3
  obtain ⟨T, id, hT, ht, hg⟩ := hr pins { s3 with heap := s3.heap.push { cls := .type "slice", data := .fields #[vl, vu, .none] } } σ H3 r3 M3 x v vl vu l u s3.heap.objs.size d1 d Q I4 rx (Heap.IsSliceOf.new ..) pl pu S3 qx e4 w4
  exact tail_any (ops := [.ref s3.heap.objs.size, v]) ht hT hg (by with_unfolding_all rfl)
/-- what the first comparison leaves to the second -/
theorem chain_go {Z : ZK} {K : PySem.W.Frag} {H : Hp} {r : List Addr} {M : Mem} {δ : Env} {g g' : Mem → D → D → Option D} {Q : VK} (E : EnvRep K H r σ δ) (S : Sim K H r M) (h : Aft K Z H r M (eChain g g' fa fb fc δ M) Q) :
    Aft K Z H r M (fa δ M) (fun x H1 => ∃ dx M1 r1, Ext H r M H1 r1 M1 ∧ Sim K H1 r1 M1 ∧ Rep K H1 r1 dx x ∧ Aft K Z H1 r1 M1 (fb δ M1) (fun y H2 => ∃ dy M2 r2, Ext H1 r1 M1 H2 r2 M2 ∧ Sim K H2 r2 M2 ∧ Rep K H2 r2 dy y ∧ ∃ k, g M2 dx dy = some (.bl k) ∧
      if k = true then Aft K Z H2 r2 M2 (fc δ M2) (fun z H3 => ∃ dz M3 r3 d, Ext H2 r2 M2 H3 r3 M3 ∧ Sim K H3 r3 M3 ∧ Rep K H3 r3 dz z ∧ g' M3 dy dz = some d ∧ Wnt K H3 r3 M3 d Q) else Wnt K H2 r2 M2 (.bl false) Q)) := by
  refine (Aft.bind S h).imp fun x H1 ⟨dx, M1, r1, e1, X1, S1, q1, w1⟩ => ⟨dx, M1, r1, X1, S1, q1, (Aft.bind S1 w1).imp fun y H2 ⟨dy, M2, r2, e2, X2, S2, q2, w2⟩ => ⟨dy, M2, r2, X2, S2, q2, ?_⟩⟩
  cases f : g M2 dx dy with
  | none => simp only [f] at w2; exact w2.elim
  | some d =>
    simp only [f] at w2
    cases d with
    | bl k =>
      refine ⟨k, rfl, ?_⟩
      cases k with
      | false => exact w2
      | true =>
        refine (Aft.bind S2 w2).imp fun z H3 ⟨dz, M3, r3, e3, X3, S3, q3, w3⟩ => ?_
        obtain ⟨d, e4, w4⟩ := Aft.opt w3
        exact ⟨dz, M3, r3, d, X3, S3, q3, e4, w4⟩
    | _ => exact w2.elim
theorem r_chain {op op' : CmpOp} {g g' : Mem → D → D → Option D} (ho : Op2 X (compareOp op) g) (ho' : Op2 X (compareOp op') g') (ha : PE X a (tM X.K Z fa)) (hb : PE X b (tM X.K Z fb)) (hc : PE X c (tM X.K Z fc)) (hm : lastMarks [op, op'] [b, c] = false) :
    PE X (.Compare a [op, op'] [b, c] pos) (tM X.K Z (eChain g g' fa fb fc)) := by
  refine ⟨fun pins s σ H Q I ⟨δ, r, M, E, S, h⟩ => ?_⟩
  refine Compare_chain (thn (ha.run pins s σ H _ I ⟨δ, r, M, E, S, chain_go E S h⟩) fun v s1 ⟨x, H1, I1, rx, dx, M1, r1, X1, S1, q1, w1⟩ =>
    chain_link (thn (hb.run pins s1 σ H1 _ I1 ⟨δ, r1, M1, E.ext S X1, S1, w1⟩) fun u s2 ⟨y, H2, I2, ry, dy, M2, r2, X2, S2, q2, k, e2, w2⟩ =>
    thn (ho pins s2 σ H2 r2 M2 x y v u dx dy (.bl k) (fun z H3 => z = .bl k ∧ ∃ r3, Ext H2 r2 M2 H3 r3 M2 ∧ Sim X.K H3 r3 M2) I2 rx ry S2 (q1.ext S1 X2) q2 e2 fun z H3 r3 X3 S3 q3 => ⟨q3, r3, X3, S3⟩) fun d s3 ⟨z, H3, I3, r3, ez, rr3, X3, S3⟩ => ?_)) hm
  subst ez
  cases r3
  refine wpAny_truthy_bool ?_
  cases k with
  | false => exact ite_ff ⟨.bl false, H3, I3, rfl, w2 (.bl false) H3 rr3 X3 S3 rfl⟩
  | true =>
    refine ite_tt (chain_last (thn (hc.run pins s3 σ H3 _ I3 ⟨δ, rr3, M2, ((E.ext S X1).ext S1 X2).ext S2 X3, S3, Aft.step S2 S3 X3 w2⟩) fun w' s4 ⟨z', H4, I4, r4, dz, M4, rr4, d, X4, S4, q4, e4, w4⟩ => ?_))
    exact ho' pins s4 σ H4 rr4 M4 y z' u w' dy dz d Q I4 ry r4 S4 (q2.ext S2 X4) q4 e4 w4
theorem t_chain {op op' : CmpOp} {g g' : Mem → D → D → Option D} (ho : Op2 X (compareOp op) g) (ho' : Op2 X (compareOp op') g') (ha : PE X a (tM X.K Z fa)) (hb : PE X b (tM X.K Z fb)) (hc : PE X c (tM X.K Z fc)) (hm : lastMarks [op, op'] [b, c] = false) :
    PT X (.Compare a [op, op'] [b, c] pos) (Wn.tB X.K Z (bTru (eChain g g' fa fb fc))) := by
  refine ⟨fun pins s σ H Q I ⟨δ, r, M, E, S, h0⟩ => ?_⟩
  have h : Aft X.K (Z σ) H r M (eChain g g' fa fb fc δ M) (fun v H1 => ∃ d1 M1 r1, eChain g g' fa fb fc δ M = .ok d1 M1 ∧ Ext H r M H1 r1 M1 ∧ Sim X.K H1 r1 M1 ∧ Rep X.K H1 r1 d1 v ∧ AftB X.K (Z σ) H1 r1 M1 (asTru d1 M1) Q) := AftB.bind S h0
  have fin : ∀ {v : V} {H1 : Hp} {s1 : Shared} {u : Value}, Inv X pins σ H1 s1 → RelV v u → (∃ d1 M1 r1, eChain g g' fa fb fc δ M = .ok d1 M1 ∧ Ext H r M H1 r1 M1 ∧ Sim X.K H1 r1 M1 ∧ Rep X.K H1 r1 d1 v ∧ AftB X.K (Z σ) H1 r1 M1 (asTru d1 M1) Q) → wpAny (model X.prog X.w) X.A (truthy u) (TP X pins σ Q) X.xe s1 := fun I1 rx ⟨d1, M1, r1, e1, X1, S1, q1, h3⟩ => by
    obtain ⟨b, e2, h2⟩ := of_asTruB h3
    exact tru_run I1 S1 rx q1 e2 fun s' I' => ⟨_, I', h2 _ r1 Ext.refl S1⟩
  refine isTrue_chain (thn (ha.run pins s σ H _ I ⟨δ, r, M, E, S, chain_go E S h⟩) fun v s1 ⟨x, H1, I1, rx, dx, M1, r1, X1, S1, q1, w1⟩ =>
    test_link (thn (hb.run pins s1 σ H1 _ I1 ⟨δ, r1, M1, E.ext S X1, S1, w1⟩) fun u s2 ⟨y, H2, I2, ry, dy, M2, r2, X2, S2, q2, k, e2, w2⟩ =>
    thn (ho pins s2 σ H2 r2 M2 x y v u dx dy (.bl k) (fun z H3 => z = .bl k ∧ ∃ r3, Ext H2 r2 M2 H3 r3 M2 ∧ Sim X.K H3 r3 M2) I2 rx ry S2 (q1.ext S1 X2) q2 e2 fun z H3 r3 X3 S3 q3 => ⟨q3, r3, X3, S3⟩) fun d s3 ⟨z, H3, I3, r3, ez, rr3, X3, S3⟩ => ?_)) hm
  subst ez
  cases r3
  refine wpAny_truthy_bool ?_
  cases k with
  | false =>
    obtain ⟨d1, M5, r5, e5, X5, S5, q5, h5⟩ := w2 (.bl false) H3 rr3 X3 S3 rfl
    obtain ⟨b, e6, h6⟩ := of_asTruB h5
    cases d1 with
    | bl b' =>
      cases q5
      cases e6
      exact ite_ff ⟨H3, I3, h6 _ r5 Ext.refl S5⟩
    | _ => first | (obtain ⟨_, _, z, _⟩ := q5; cases z; done) | (obtain ⟨_, z, _⟩ := q5; cases z; done) | (cases q5; done)
  | true =>
    refine ite_tt (test_last (thn (hc.run pins s3 σ H3 _ I3 ⟨δ, rr3, M2, ((E.ext S X1).ext S1 X2).ext S2 X3, S3, Aft.step S2 S3 X3 w2⟩) fun w' s4 ⟨z', H4, I4, r4, dz, M4, rr4, d, X4, S4, q4, e4, w4⟩ => ?_))
    exact thn (ho' pins s4 σ H4 rr4 M4 y z' u w' dy dz d _ I4 ry r4 S4 (q2.ext S2 X4) q4 e4 w4) fun d' s5 ⟨z2, H5, I5, r5, h5⟩ => fin I5 r5 h5
end
end Wn
end

section
set_option Elab.async false
set_option linter.all false
set_option maxRecDepth 100000
set_option maxHeartbeats 400000
namespace Wn
open PySem PySem.Spec PyProof.Rows L2

/-! ### forms of expressions, looked at by computing -/
def nStar : Expr → Bool
  | .Starred _ _ => false
  | _ => true
theorem star_of {e : Expr} {es : List Expr} {env : PySem.Env} (h : nStar e = true) : starEach (e :: es) env = (false, eval e env) :: starEach es env := by
  cases e <;> first | rfl | cases h
def noStars : List Expr → Bool
  | [] => true
  | e :: es => nStar e && noStars es
theorem back_plain {pos : Pos} {env : PySem.Env} : ∀ {es : List Expr}, noStars es = true → (backTo pos (starEach es env)).any (·.1) = false
  | [], _ => rfl
  | e :: es, h => by
    obtain ⟨h1, h2⟩ := Bool.and_eq_true_iff.mp h
    rw [star_of h1]
    show (false || (backTo pos (starEach es env)).any (·.1)) = false
    rw [back_plain h2]; rfl
theorem back_all {pos : Pos} {env : PySem.Env} : ∀ {es : List Expr}, noStars es = true → (backTo pos (starEach es env)).all (fun x => !x.1) = true
  | [], _ => rfl
  | e :: es, h => by
    obtain ⟨h1, h2⟩ := Bool.and_eq_true_iff.mp h
    rw [star_of h1]
    show (true && (backTo pos (starEach es env)).all (fun x => !x.1)) = true
    rw [back_all h2]; rfl
theorem few_of {pos : Pos} {env : PySem.Env} {e : Expr} {es : List Expr} (h : noStars (e :: es) = true) (hl : es.length < 29) :
    ((backTo pos (starEach (e :: es) env)).all (fun x => !x.1) && (backToKw pos (keywordEach [] env)).all (fun x => x.1.isSome)
      && decide ((e :: es).length + ([] : List Keyword).length + (if ([] : List Keyword).isEmpty then 0 else 1) < 30)) = true := by
  rw [back_all h]
  show (true && true && decide (es.length + 1 + 0 + 0 < 30)) = true
  rw [decide_eq_true (by omega)]; rfl
def okBase : Expr → Bool
  | .Call (.Name _ _) [] [] _ => false
  | _ => true
theorem base_of {o : Expr} {attr : Str} {env : PySem.Env} {whole : Sem Value} (h : okBase o = true) : attributeBase o attr env whole = whole := by
  unfold attributeBase
  split
  · cases h
  · rfl
def okIx : Expr → Bool
  | .Slice _ _ _ _ => false
  | _ => true
theorem ix_of {b : Expr} (h : okIx b = true) : PlainIx b := fun o i => by
  cases b <;> first | rfl | cases h
def okFs : Expr → Bool
  | .Set _ _ _ => false
  | _ => true
theorem fs_of {e : Expr} {env : PySem.Env} (h : okFs e = true) : ∀ x, foldedSetIterable e env x = pure x := fun x => by
  cases e <;> first | rfl | cases h
def okSw : Expr → Bool
  | .ListComp _ _ _ _ => false
  | .SetComp _ _ _ _ => false
  | .DictComp _ _ _ _ _ => false
  | _ => true
theorem sw_of {e : Expr} {t : Option Expr} {l : Nat} {env : PySem.Env} (h : okSw e = true) : swapsWith e t l env = pure false := by
  cases e <;> first | rfl | cases h
theorem sws_of {e t : Expr} {l : Nat} {env : PySem.Env} (h : okSw e = true) : swapsWithSole [t] e l env = pure false := sw_of h
def okTu : Expr → Bool
  | .Tuple _ _ _ => false
  | .List _ _ => false
  | _ => true
theorem st_of {e t : Expr} {env : PySem.Env} (h : okTu t = true) : swappedStores [t] e env = pure none := by
  cases t <;> first | rfl | cases h
def okTv : Expr → Bool
  | .Tuple _ _ _ => false
  | _ => true
theorem st_of' {e t : Expr} {env : PySem.Env} (h : okTv e = true) : swappedStores [t] e env = pure none := by
  cases t <;> cases e <;> first | rfl | cases h
theorem st_fold {ts vs : List Expr} {k k' : Nat} {p p' : Pos} {env : PySem.Env} (h : vs.all (foldedForSure 8) = true) : swappedStores [.Tuple ts k p] (.Tuple vs k' p') env = pure none := by
  unfold swappedStores
  simp only [h, if_true]
  repeat' split
  all_goals rfl
theorem sws_tup {e : Expr} {ts : List Expr} {k l : Nat} {p : Pos} {env : PySem.Env} : swapsWithSole [.Tuple ts k p] e l env = pure false := by
  cases e <;> rfl
def nSet : Expr → Bool
  | .Set _ _ _ => false
  | _ => true
theorem bi_of {op : CmpOp} {e : Expr} (h : nSet e = true) : behindInMarks op e = false := by
  cases e <;> first | rfl | cases h
theorem lm_of {op op' : CmpOp} {b c : Expr} (h : nSet c = true) : lastMarks [op, op'] [b, c] = false := by
  show behindInMarks op' c = false
  exact bi_of h
def okTe : Expr → Bool
  | .UnaryOp .Not _ _ => false
  | .BoolOp _ _ _ => false
  | .IfExp _ _ _ _ => false
  | .Compare _ _ _ _ => false
  | _ => true
theorem te_of {a : Expr} {env : PySem.Env} (h : okTe a = true) : ∀ whole, isTrue a env whole = (do let v ← whole; standAt a.pos; holding [v] (truthy v)) := fun whole => by
  cases a with
  | UnaryOp op _ _ => cases op <;> first | rfl | cases h
  | _ => first | rfl | cases h
def nStarT : Expr → Bool := nStar
theorem ae_of {e : Expr} {es : List Expr} {env : PySem.Env} (h : nStar e = true) : (assignEach (e :: es) env).map (·.2) = assign e env :: (assignEach es env).map (·.2) := by
  cases e <;> first | rfl | cases h
theorem ae_len {env : PySem.Env} : ∀ {es : List Expr}, noStars es = true → (assignEach es env).length = es.length ∧ (assignEach es env).findIdx? (·.1) = none
  | [], _ => ⟨rfl, rfl⟩
  | e :: es, h => by
    obtain ⟨h1, h2⟩ := Bool.and_eq_true_iff.mp h
    obtain ⟨a, b⟩ := ae_len (env := env) h2
    have key : assignEach (e :: es) env = (false, assign e env) :: assignEach es env := by cases e <;> first | rfl | cases h1
    rw [key]
    exact ⟨by simp [a], by rw [List.findIdx?_cons]; simp [b]⟩
theorem as_sub {o i : Expr} {pos : Pos} {env : PySem.Env} (h : okIx i = true) : ∀ v, assign (.Subscript o i pos) env v = (do
      let ov ← holding [v] (eval o env)
      let iv ← holding [v, ov] (eval i env)
      standAt pos
      holding [v, ov, iv] (setItem ov iv v)
      release [v, ov, iv] []) := fun v => by
  cases i <;> first | rfl | cases h
theorem any_star : ∀ {es : List Expr}, noStars es = true → (es.any fun | .Starred .. => true | _ => false) = false
  | [], _ => rfl
  | e :: es, h => by
    obtain ⟨h1, h2⟩ := Bool.and_eq_true_iff.mp h
    rw [List.any_cons, any_star h2]
    cases e <;> first | rfl | cases h1
/-- the names of a parallel assignment -/
theorem sp2 {x y : Str} {a b : Expr} {px py pt : Pos} {kt k2 : Nat} {pt2 : Pos} {env : PySem.Env} (hb : env.blockKind = .function) (hx : env.kindOf x = some .local) (hy : env.kindOf y = some .local) (hl : (px.line == py.line) = true) (hxy : x ≠ y)
    (hs : noStars [a, b] = true) (h1 : [a, b].all (foldedForSure 8) = false) (h2 : [a, b].all (constantsAlone 8) = false) : swappedStores [.Tuple [.Name x px, .Name y py] kt pt] (.Tuple [a, b] k2 pt2) env = pure (some [x, y]) := by
  have hl' : (py.line == px.line) = true := by
    rw [beq_iff_eq] at hl ⊢
    exact hl.symm
  have st := any_star hs
  have nd : ([x, y] : List Str).eraseDups.length = 2 := by
    have : (y == x) = false := by simp; exact fun z => hxy z.symm
    simp [List.eraseDups_cons, this]
  unfold swappedStores
  simp only [hb, h1, h2, Expr.pos, List.head?_cons, Option.map_some, Option.getD_some, List.filterMap_cons, List.filterMap_nil, hx, hy, hl', beq_self_eq_true, Bool.and_self, if_true, List.length_cons, List.length_nil, nd]
  rw [if_neg (by decide)]
  exact (if_neg fun q => Bool.noConfusion ((show _ = false from st).symm.trans q)).trans rfl
theorem sp3 {x y z : Str} {a b c : Expr} {px py pz pt : Pos} {kt k2 : Nat} {pt2 : Pos} {env : PySem.Env} (hb : env.blockKind = .function) (hx : env.kindOf x = some .local) (hy : env.kindOf y = some .local) (hz : env.kindOf z = some .local) (hl : (px.line == py.line) = true) (hm : (px.line == pz.line) = true) (hxy : x ≠ y) (hxz : x ≠ z) (hyz : y ≠ z)
    (hs : noStars [a, b, c] = true) (h1 : [a, b, c].all (foldedForSure 8) = false) (h2 : [a, b, c].all (constantsAlone 8) = false) : swappedStores [.Tuple [.Name x px, .Name y py, .Name z pz] kt pt] (.Tuple [a, b, c] k2 pt2) env = pure (some [x, y, z]) := by
  have hl' : (py.line == px.line) = true := by
    rw [beq_iff_eq] at hl ⊢
    exact hl.symm
  have hm' : (pz.line == px.line) = true := by
    rw [beq_iff_eq] at hm ⊢
    exact hm.symm
  have st := any_star hs
  have nd : ([x, y, z] : List Str).eraseDups.length = 3 := by
    have e1 : (y == x) = false := by simp; exact fun z => hxy z.symm
    have e2 : (z == x) = false := by simp; exact fun w => hxz w.symm
    have e3 : (z == y) = false := by simp; exact fun w => hyz w.symm
    simp [List.eraseDups_cons, e1, e2, e3]
  unfold swappedStores
  simp only [hb, h1, h2, Expr.pos, List.head?_cons, Option.map_some, Option.getD_some, List.filterMap_cons, List.filterMap_nil, hx, hy, hz, hl', hm', beq_self_eq_true, Bool.and_self, if_true, List.length_cons, List.length_nil, nd]
  rw [if_neg (by decide)]
  exact (if_neg fun q => Bool.noConfusion ((show _ = false from st).symm.trans q)).trans rfl
end Wn
end

section
set_option Elab.async false
set_option linter.all false
set_option maxRecDepth 100000
set_option maxHeartbeats 400000
namespace Wn
open PySem PySem.Spec PyProof.Rows L2

/-- what an exception looks like -/
abbrev ER := D → Hp → List Addr → Value → Option Addr → Prop
abbrev Fun := List D → Mem → Res D
/-- what a callee wants of its exceptions -/
def ZC (er : ER) (E : XK) : ZK := fun e H r M => ∀ cls d, er e H r cls d → E cls d H
/-- what a caller gives as wish -/
def EZ (er : ER) (K : PySem.W.Frag) (Z : ZK) : XK := fun cls d H => ∃ e r M, er e H r cls d ∧ Sim K H r M ∧ Z e H r M
def WZ (er : ER) (K : PySem.W.Frag) (Z : ZS) : WX := fun cls d σ H => ∃ e r M, er e H r cls d ∧ Sim K H r M ∧ Z σ e H r M
/-- a def's promise -/
structure FnG (er : ER) (P : Program) (w : World) (K : PySem.W.Frag) (mg : Str → Option Value) (base : Heap) (k : Nat) (f : Addr) (fd : FuncData) (ps : List Str) (F : Fun) : Prop where
  run : ∀ (A : Around) (outer : List PySem.Env) (s : Shared) (H : Hp) (args : Args) (us : List Value) (vs : List V) (ds : List D) (r : List Addr) (M : Mem) (Q : VK) (E : XK), Room k A → A.guards = some [] → Env0 P w K mg base A outer s H → BindsTo s fd args (ps.zip us) →
    Vals vs us → Reps K H r ds vs → Sim K H r M → ds.length = ps.length → Aft K (ZC er E) H r M (F ds M) Q → codeAny (model P w) A (.call (.ref f) args) (CR (L2.CX P w) outer P w H s Q E) s
theorem FnG.mono {er : ER} {P : Program} {w : World} {K : PySem.W.Frag} {mg : Str → Option Value} {base : Heap} {j k : Nat} {f : Addr} {fd : FuncData} {ps : List Str} {F : Fun} (G : FnG er P w K mg base j f fd ps F) (h : j ≤ k) : FnG er P w K mg base k f fd ps F :=
  ⟨fun A outer s H args us vs ds r M Q E hr => G.run A outer s H args us vs ds r M Q E (hr.mono h)⟩
def fnDo (n : Nat) (l : Fl) (F : Fun) : Fe := fun δ => bnd (l δ) fun ds M => if ds.length = n then F ds M else .bad
section
variable {X : Cx} {Z : ZS} {er : ER} {k : Nat} {f : Addr} {fd : FuncData} {ps : List Str} {F : Fun} {x : Str} {e : Expr} {es : List Expr} {fl : Fl} {p pos : Pos}
theorem Aft.want {K : PySem.W.Frag} {H : Hp} {r : List Addr} {M : Mem} {m : Res D} {Q : VK} {Z Z' : ZK} (h : Aft K Z H r M m Q) (k : ∀ e H' r' M', Sim K H' r' M' → Z e H' r' M' → Z' e H' r' M') : Aft K Z' H r M m Q := by
  cases m with
  | ok d M1 => exact h
  | err e M1 => exact fun H' r' x s => k _ _ _ _ s (h H' r' x s)
  | bad => exact h
/-- the callee runs -/
theorem run_g {pins : List (Addr × Obj)} {σ : St} {H : Hp} {s : Shared} {r : List Addr} {M : Mem} {Q : VK} {us : List Value} {vs : List V} {ds : List D} {args : Args} (G : FnG er X.prog X.w X.K X.mg X.base k f fd ps F) (hr : Room k X.A) (hg : X.A.guards = some []) (tk : Takes X (WZ er X.K Z))
    (I : Inv X pins σ H s) (S : Sim X.K H r M) (hb : BindsTo s fd args (ps.zip us)) (rv : Vals vs us) (q : Reps X.K H r ds vs) (hl : ds.length = ps.length) (h : Aft X.K (Z σ) H r M (F ds M) Q) : wpAny (model X.prog X.w) X.A (call (.ref f) args.pos args.kw) (EP X pins σ Q) X.xe s := by
  have h' := h.want (Z' := ZC er (EZ er X.K (Z σ))) fun e H' r' M' s z => fun cls d hE => ⟨e, r', M', hE, s, z⟩
  refine wpAny_call (codeAny_mono (G.run X.A X.stack s H args us vs ds r M Q (EZ er X.K (Z σ)) hr hg I.env0 hb rv q S hl h') fun rr s' hq => ?_)
  cases rr with
  | error e => exact tk e s' (XE.of_call I (fun cls d H' z => z) hq)
  | ok fl =>
    cases fl with
    | ret u => exact I.after hq
    | next => exact hq.elim
    | brk => exact hq.elim
    | cont => exact hq.elim
/-- a def that may be called by that name -/
structure Cal (er : ER) (X : Cx) (x : Str) (ps : List Str) (F : Fun) : Prop where
  ex : ∃ k f fd, X.mg x = some (.ref f) ∧ PySem.W.keepIn X.K (.ref f) = true ∧ Room k X.A ∧ FnG er X.prog X.w X.K X.mg X.base k f fd ps F ∧
    (∀ s us, us.length = ps.length → BindsTo s fd ⟨us, []⟩ (ps.zip us)) ∧ ∀ s us, us.length = ps.length → BindsTo s fd ⟨[], ps.zip us⟩ (ps.zip us)
theorem fn_ite {K : PySem.W.Frag} {H : Hp} {r : List Addr} {M : Mem} {n : Nat} {ds : List D} {F : Fun} {Q : VK} {Z : ZK} (h : Aft K Z H r M (if ds.length = n then F ds M else .bad) Q) : ds.length = n ∧ Aft K Z H r M (F ds M) Q := by
  by_cases hc : ds.length = n
  · rw [if_pos hc] at h; exact ⟨hc, h⟩
  · rw [if_neg hc] at h; exact h.elim
theorem r_fn (c : Cal er X x ps F) (hga : X.A.guards = some []) (tk : Takes X (WZ er X.K Z)) (hg : Gl X x) (ha : PA X (e :: es) (tL X.K Z fl)) (hdb : (x == ("__debug__" : Str)) = false)
    (he : starEach (e :: es) X.env = (false, eval e X.env) :: starEach es X.env) (hpl : (backTo pos (starEach es X.env)).any (·.1) = false) : PE X (.Call (.Name x p) (e :: es) [] pos) (tM X.K Z (fnDo ps.length fl F)) := by
  obtain ⟨k, f, fd, hm, hk, hr, G, hb, _⟩ := c.ex
  refine ⟨fun pins s σ H Q I ⟨δ, r, M, E, S, h⟩ => ?_⟩
  refine wpAny_Call_Name_kw (ld_glob I hg hm ?_ hdb)
  refine PySem.W.callWith_K (h₀ := X.base) I.ok.mod.kin hk (thn (ha.run pos pins s σ H _ I ⟨δ, r, M, E, S, Aft.bindL S h⟩) fun us s1 ⟨vs, H1, I1, rv, ds, M1, r1, e1, X1, S1, q1, w⟩ => ⟨I1.kIn, ?_⟩) he hpl
  obtain ⟨hl, w⟩ := fn_ite w
  exact run_g (args := ⟨us, []⟩) G hr hga tk I1 S1 (hb s1 us (by rw [← rv.length, ← q1.length]; exact hl)) rv q1 hl w
theorem r_fn0 (c : Cal er X x ps F) (hga : X.A.guards = some []) (tk : Takes X (WZ er X.K Z)) (hg : Gl X x) (hdb : (x == ("__debug__" : Str)) = false) : PE X (.Call (.Name x p) [] [] pos) (tM X.K Z (fnDo ps.length lNil F)) := by
  obtain ⟨k, f, fd, hm, hk, hr, G, hb, _⟩ := c.ex
  refine ⟨fun pins s σ H Q I ⟨δ, r, M, E, S, h⟩ => ?_⟩
  obtain ⟨hl, w⟩ := fn_ite (ds := []) h
  refine wpAny_Call_Name_kw (ld_glob I hg hm ?_ hdb)
  exact PySem.W.callWith_K0 I.kIn hk (run_g (args := ⟨[], []⟩) (us := []) (ds := []) G hr hga tk I S (hb s [] hl) .nil rfl hl w)
/-- the keywords' values -/
structure PKD (X : Cx) (Z : ZS) (kws : List Keyword) (fl : Fl) : Prop where
  pk : PK X kws (tL X.K Z fl)
theorem k_nil : PK X [] (tL X.K Z lNil) := ⟨fun pos pins s σ H Q I ⟨δ, r, M, E, S, h⟩ => pk_nil.run pos pins s σ H Q I (AftL.ret (ds := []) S rfl h)⟩
theorem k_cons {nm : Option Str} {kpos : Pos} {kws : List Keyword} {fa : Fe} (ha : PE X e (tM X.K Z fa)) (hr : PK X kws (tL X.K Z fl)) : PK X (⟨nm, e, kpos⟩ :: kws) (tL X.K Z (lCons fa fl)) :=
  ⟨fun pos pins s σ H Q I ⟨δ, r, M, E, S, h⟩ => (pk_cons ha hr).run pos pins s σ H Q I ⟨δ, r, M, E, S, by
    have z := AftL.bind S h
    cases q : fa δ M with
    | ok d M1 =>
      rw [q] at z
      refine fun v H' r' x s qv => ?_
      obtain ⟨d1, M2, r2, e1, e2, e3, e4, e5⟩ := z v H' r' x s qv
      refine ⟨δ, r2, M2, E.ext S e2, e3, ?_⟩
      exact (AftL.bindL e3 e5).imp fun vs H'' ⟨ds1, M4, r4, f1, f2, f3, f4, f5⟩ => AftL.ret (ds := d1 :: ds1) f3 ⟨v, vs, rfl, e4.ext e3 f2, f4⟩ f5
    | err e M1 => rw [q] at z; exact z
    | bad => rw [q] at z; exact z⟩⟩
def kwOk : List Keyword → List Str → Bool
  | [], [] => true
  | ⟨some n, _, _⟩ :: ks, p :: ps => n == p && kwOk ks ps
  | _, _ => false
theorem kw_ok {env : PySem.Env} {pos : Pos} : ∀ {kws : List Keyword} {ps : List Str}, kwOk kws ps = true → (backToKw pos (keywordEach kws env)).all (·.1.isSome) = true ∧ (backToKw pos (keywordEach kws env)).filterMap (·.1) = ps ∧ (backToKw pos (keywordEach kws env)).any (·.1.isNone) = false
  | [], [], _ => ⟨rfl, rfl, rfl⟩
  | [], _ :: _, h => by cases h
  | ⟨some n, v, kp⟩ :: ks, p :: ps, h => by
    obtain ⟨h1, h2⟩ := Bool.and_eq_true_iff.mp (show (n == p && kwOk ks ps) = true from h)
    obtain ⟨a, b, c⟩ := kw_ok (env := env) (pos := pos) h2
    have e : n = p := eq_of_beq h1
    subst e
    refine ⟨?_, ?_, ?_⟩
    · show (true && (backToKw pos (keywordEach ks env)).all (·.1.isSome)) = true
      rw [a]; rfl
    · show n :: (backToKw pos (keywordEach ks env)).filterMap (·.1) = n :: ps
      rw [b]
    · show (false || (backToKw pos (keywordEach ks env)).any (·.1.isNone)) = false
      rw [c]; rfl
  | ⟨some n, v, kp⟩ :: ks, [], h => by cases h
  | ⟨none, v, kp⟩ :: ks, _, h => by cases h
theorem r_fnk {kws : List Keyword} (c : Cal er X x ps F) (hga : X.A.guards = some []) (tk : Takes X (WZ er X.K Z)) (hg : Gl X x) (ha : PK X kws (tL X.K Z fl)) (hdb : (x == ("__debug__" : Str)) = false) (hk : kwOk kws ps = true) :
    PE X (.Call (.Name x p) [] kws pos) (tM X.K Z (fnDo ps.length fl F)) := by
  obtain ⟨k, f, fd, hm, hkp, hr, G, _, hb⟩ := c.ex
  obtain ⟨k1, k2, k3⟩ := kw_ok (env := X.env) (pos := pos) hk
  refine ⟨fun pins s σ H Q I ⟨δ, r, M, E, S, h⟩ => ?_⟩
  refine wpAny_Call_Name_kw (ld_glob I hg hm ?_ hdb)
  refine PySem.W.callWith_KW0 (h₀ := X.base) I.ok.mod.kin hkp k1 (thn (ha.run pos pins s σ H _ I ⟨δ, r, M, E, S, Aft.bindL S h⟩) fun us s1 ⟨vs, H1, I1, rv, ds, M1, r1, e1, X1, S1, q1, w⟩ => ⟨I1.kIn, ?_⟩) (by show (false || _) = false; rw [k3]; rfl)
  rw [k2]
  obtain ⟨hl, w⟩ := fn_ite w
  exact run_g (args := ⟨[], ps.zip us⟩) G hr hga tk I1 S1 (hb s1 us (by rw [← rv.length, ← q1.length]; exact hl)) rv q1 hl w
end

/-! ### a def's body keeps its promise -/
mutual
/-- no cell from n on -/
def clo (n : Nat) : D → Bool
  | .ref m => decide (m < n)
  | .tup ds => clos n ds
  | .lst ds => clos n ds
  | .scr ds => clos n ds
  | _ => true
def clos (n : Nat) : List D → Bool
  | [] => true
  | d :: ds => clo n d && clos n ds
end
def cloC (n : Nat) : Cell → Prop
  | .lst ds => clos n ds = true
  | .dct kvs => clos n (kvs.map (·.2)) = true
  | .dead => True
open Classical in
/-- cells made within and told nowhere are dropped -/
noncomputable def trim (M : Mem) : Res D → Res D
  | .ok d M' => if clo M.length d = true ∧ ∀ (i : Nat) (c : Cell), i < M.length → M'[i]? = some c → M[i]? = some c ∨ cloC M.length c then .ok d (M'.take M.length) else .ok d M'
  | o => o
theorem trim_same {M : Mem} {d : D} {J : Mem} (h : clo M.length d = true) : trim M (.ok d (M ++ J)) = .ok d M := by
  simp only [trim]
  rw [if_pos ⟨h, fun i c hi e => .inl (by rw [List.getElem?_append_left hi] at e; exact e)⟩, List.take_left]
theorem trim_set {M : Mem} {d : D} {J : Mem} {k : Nat} {c : Cell} (h : clo M.length d = true) (hc : cloC M.length c) : trim M (.ok d (M.set k c ++ J)) = .ok d (M.set k c) := by
  have hl : (M.set k c).length = M.length := List.length_set
  have key : ∀ (i : Nat) (c' : Cell), i < M.length → (M.set k c ++ J)[i]? = some c' → M[i]? = some c' ∨ cloC M.length c' := fun i c' hi e => by
    rw [List.getElem?_append_left (by rw [hl]; exact hi)] at e
    by_cases hk : k = i
    · subst hk
      rw [List.getElem?_set_self hi] at e
      cases e
      exact .inr hc
    · rw [List.getElem?_set_ne hk] at e
      exact .inl e
  have ht : (M.set k c ++ J).take M.length = M.set k c := by rw [← hl, List.take_left]
  simp only [trim]
  rw [if_pos ⟨h, key⟩, ht]
section
variable {K : PySem.W.Frag} {Z : ZK} {H H' : Hp} {r r' : List Addr} {M M' : Mem}
mutual
theorem Rep.cut {n : Nat} : ∀ {d : D} {v : V}, clo n d = true → Rep K H r d v → Rep K H (r.take n) d v
  | .non, _, _, q => q
  | .bl _, _, _, q => q
  | .int _, _, _, q => q
  | .str _, _, _, q => q
  | .ty _, _, _, q => q
  | .tup ds, _, h, ⟨a, vs, e, h1, h2⟩ => ⟨a, vs, e, h1, Reps.cut' h h2⟩
  | .lst ds, _, h, ⟨a, vs, e, h1, h2⟩ => ⟨a, vs, e, h1, Reps.cut' h h2⟩
  | .scr ds, _, h, ⟨a, vs, e, h1, h2⟩ => ⟨a, vs, e, h1, Reps.cut' h h2⟩
  | .ref m, _, h, ⟨a, e, h1⟩ => ⟨a, e, by rw [List.getElem?_take_of_lt (of_decide_eq_true h)]; exact h1⟩
theorem Reps.cut' {n : Nat} : ∀ {ds : List D} {vs : List V}, clos n ds = true → Reps K H r ds vs → Reps K H (r.take n) ds vs
  | [], _, _, q => q
  | d :: ds, _, h, ⟨v, ws, e, h1, h2⟩ => ⟨v, ws, e, Rep.cut (Bool.and_eq_true_iff.mp h).1 h1, Reps.cut' (Bool.and_eq_true_iff.mp h).2 h2⟩
end
mutual
theorem clo_of : ∀ {d : D} {v : V}, Rep K H r d v → clo r.length d = true
  | .non, _, _ => rfl
  | .bl _, _, _ => rfl
  | .int _, _, _ => rfl
  | .str _, _, _ => rfl
  | .ty _, _, _ => rfl
  | .tup ds, _, ⟨a, vs, _, _, h2⟩ => clos_of h2
  | .lst ds, _, ⟨a, vs, _, _, h2⟩ => clos_of h2
  | .scr ds, _, ⟨a, vs, _, _, h2⟩ => clos_of h2
  | .ref m, _, ⟨a, _, h1⟩ => decide_eq_true (List.getElem?_eq_some_iff.mp h1).1
theorem clos_of : ∀ {ds : List D} {vs : List V}, Reps K H r ds vs → clos r.length ds = true
  | [], _, _ => rfl
  | d :: ds, _, ⟨v, ws, _, h1, h2⟩ => by
    show (clo r.length d && clos r.length ds) = true
    rw [clo_of h1, clos_of h2]; rfl
end
theorem Aft.trim {m : Res D} {Q : VK} (S : Sim K H r M) (h : Aft K Z H r M (Wn.trim M m) Q) : Aft K Z H r M m Q := by
  cases m with
  | err e M' => exact h
  | bad => exact h
  | ok d M' =>
    simp only [Wn.trim] at h
    by_cases hc : clo M.length d = true ∧ ∀ (i : Nat) (c : Cell), i < M.length → M'[i]? = some c → M[i]? = some c ∨ cloC M.length c
    · rw [if_pos hc] at h
      obtain ⟨h1, h2⟩ := hc
      refine fun v H' r' x s q => h v H' (r'.take M.length) ?_ ?_ (q.cut h1)
      · obtain ⟨t, rfl⟩ := x.pre
        have hr : (r ++ t).take M.length = r := by rw [← S.len, List.take_left]
        rw [hr]
        refine ⟨⟨[], by simp⟩, x.keep, fun n b hn e => ?_, fun n e => ?_⟩
        · rw [List.getElem?_eq_none (by omega)] at e; cases e
        · rw [List.getElem?_take_of_lt (List.getElem?_eq_some_iff.mp e).1]; exact x.dead n e
      · refine ⟨by simp [s.len], fun i j a e1 e2 => ?_, fun n a c e1 e2 => ?_⟩
        · have g : ∀ {i : Nat}, (r'.take M.length)[i]? = some a → r'[i]? = some a := fun {i} e => by
            have hi := (List.getElem?_eq_some_iff.mp e).1
            rw [List.length_take] at hi
            rw [List.getElem?_take_of_lt (by omega)] at e
            exact e
          exact s.inj i j a (g e1) (g e2)
        · have hi := (List.getElem?_eq_some_iff.mp e1).1
          rw [List.length_take] at hi
          rw [List.getElem?_take_of_lt (by omega)] at e1 e2
          have hc2 := h2 n c (by omega) e2
          have z := s.cell n a c e1 e2
          cases c with
          | dead => exact z
          | lst ds =>
            obtain ⟨vs, z1, z2⟩ := z
            have hcl : clos M.length ds = true := by
              rcases hc2 with hc2 | hc2
              · obtain ⟨b, _, w1⟩ := S.addr hc2
                obtain ⟨ws, _, w3⟩ := w1
                rw [← S.len]
                exact clos_of w3
              · exact hc2
            exact ⟨vs, z1, z2.cut' hcl⟩
          | dct kvs =>
            obtain ⟨vs, z1, z0, z2⟩ := z
            have hcl : clos M.length (kvs.map (·.2)) = true := by
              rcases hc2 with hc2 | hc2
              · obtain ⟨b, _, w1⟩ := S.addr hc2
                obtain ⟨ws, _, _, w3⟩ := w1
                rw [← S.len]
                exact clos_of w3
              · exact hc2
            exact ⟨vs, z1, z0, z2.cut' hcl⟩
    · rw [if_neg hc] at h; exact h
end
def startE (n : Nat) (ds : List D) : Env := ds.map some ++ List.replicate (n - ds.length) none
def fin : SR → Res D
  | .nx _ M => .ok .non M
  | .rt d M => .ok d M
  | .er e _ M => .err e M
  | _ => .bad
/-- what a body makes of arguments; tr: whether cells made within are dropped -/
noncomputable def fnOf (tr : Bool) (n : Nat) (f : Fs) : Fun := fun ds M => if tr = true then trim M (fin (f (startE n ds) M)) else fin (f (startE n ds) M)
theorem reps_all {K : PySem.W.Frag} {H : Hp} {r : List Addr} {ds : List D} {vs : List V} (q : Reps K H r ds vs) {n : Nat} {N : List Str} (hn : n = N.length) : EnvRep K H r (L2.start N vs) (startE n ds) := by
  subst hn
  have hl := q.length
  refine ⟨by simp [L2.start, startE, hl], fun i d e => ?_⟩
  unfold startE at e
  unfold L2.start
  by_cases hi : i < ds.length
  · rw [List.getElem?_append_left (by simpa using hi), List.getElem?_map] at e
    rw [List.getElem?_append_left (by simpa using (by omega : i < vs.length)), List.getElem?_map]
    cases q2 : ds[i]? with
    | none => rw [q2] at e; cases e
    | some d' =>
      rw [q2] at e
      cases e
      obtain ⟨v, e1, e2⟩ := q.get q2
      exact ⟨v, by rw [e1]; rfl, e2⟩
  · rw [List.getElem?_append_right (by simpa using hi)] at e
    rw [List.getElem?_replicate] at e
    split at e <;> cases e
section
variable {er : ER} {P : Program} {w : World} {K : PySem.W.Frag} {mg : Str → Option Value} {base : Heap} {k : Nat} {f : Addr} {name qual : Str} {params : Arguments} {body : List Stmt} {scope : Scope} {dV kV doc pm cdv ct oc : Value} {an od : Option Addr}
  {osl : Array (Option Value)} {N ps : List Str}
theorem fng_of {tr : Bool} {g : Fs} (lk : K.lookup f = some ⟨oc, od, .func (PySem.W.fnOf name qual params body scope dV kV doc pm an cdv ct), osl⟩) (hcd : PySem.W.codeIn K cdv qual = true) (S : FnScope N ps scope)
    (hbody : ∀ (A : Around) (outer : List PySem.Env) (s : Shared) (H : Hp) (E : XK), Room k (A.deeper (envOfC qual scope s.heap.objs.size f cdv)) → A.guards = some [] →
      PSs (cxOf (L2.CX P w) P w K mg base N qual scope f cdv A outer s H E) body (tS K (fun _ => ZC er E) g)) :
    FnG er P w K mg base (k + 1) f (PySem.W.fnOf name qual params body scope dV kV doc pm an cdv ct) ps (fnOf tr N.length g) := by
  refine ⟨fun A outer s H args us vs ds r M Q E hr hga e0 hb rv q Sm hl h => ?_⟩
  have h' : Aft K (ZC er E) H r M (fin (g (startE N.length ds) M)) Q := by
    unfold fnOf at h
    cases tr with
    | true => exact Aft.trim Sm h
    | false => exact h
  refine StX.run_bnd (G := fun ws H2 => ws = vs ∧ H2 = H) lk hcd S hr e0 (fun A' Ex Q' z => hb _ _ _ _ (z s H vs us e0 Un.refl rfl (fun _ _ z => z) rv (by rw [← q.length]; exact hl) ⟨rfl, rfl⟩)) fun s2 H2 ws ⟨e1, e2⟩ hr' => ?_
  subst e1 e2
  refine ⟨_, hbody A outer s2 H2 E hr' hga, startE N.length ds, r, M, reps_all q rfl, Sm, ?_⟩
  cases e3 : g (startE N.length ds) M with
  | nx δ M' => rw [e3] at h'; exact fun σ' H' r' x s _ => h' .non H' r' x s rfl
  | rt d M' => rw [e3] at h'; exact h'
  | er e δ M' => rw [e3] at h'; exact fun σ' H' r' x s _ => h' H' r' x s
  | bk δ M' => rw [e3] at h'; exact h'.elim
  | ct δ M' => rw [e3] at h'; exact h'.elim
  | bad => rw [e3] at h'; exact h'.elim
end
end Wn
end

section
set_option Elab.async false
set_option linter.all false
set_option maxRecDepth 100000
set_option maxHeartbeats 400000
namespace Wn
open PySem PySem.Spec PyProof.Rows L2

/-! ### the words of the own syntax -/
structure BOp where
  op : Operator
  g : Mem → D → D → Option D
  ok : ∀ X : Cx, Gd X → Op2 X (binaryOp op) g
structure COp where
  op : CmpOp
  g : Mem → D → D → Option D
  ok : ∀ X : Cx, Gd X → Op2 X (compareOp op) g
structure Tn where
  name : Str
  n : String
  hv : bootBuiltins name = some (.type n)
  nn : name ≠ "__name__"
  nd : (name == ("__debug__" : Str)) = false
/-- a built-in function, a built-in type -/
structure Bf where
  name : Str
  id : String
  g : Mem → List D → Option D
  ok : ∀ X : Cx, Gd X → CallS X (.builtin id) g
  hv : bootBuiltins name = some (.builtin id)
  nn : name ≠ "__name__"
  nd : (name == ("__debug__" : Str)) = false
structure Bt where
  name : Str
  id : String
  g : Mem → List D → Option D
  ok : ∀ X : Cx, Gd X → CallS X (.type id) g
  hv : bootBuiltins name = some (.type id)
  nn : name ≠ "__name__"
  nd : (name == ("__debug__" : Str)) = false
structure Ms where
  name : Str
  id : String
  g : Mem → D → List D → Option D
  ok : ∀ X : Cx, Gd X → MtS1 X "str" id g
  slot : Slot "str" name id
  ty : typeOf (.builtin id) = pure (.type "method_descriptor")
structure Ml where
  name : Str
  id : String
  g : D → List D → Mem → Res D
  ok : ∀ X : Cx, Gd X → MtL X id g
  slot : Slot "list" name id
  ty : typeOf (.builtin id) = pure (.type "method_descriptor")
structure Md where
  name : Str
  id : String
  g : D → List D → Mem → Res D
  ok : ∀ X : Cx, Gd X → MtL X id g
  slot : Slot "dict" name id
  ty : typeOf (.builtin id) = pure (.type "method_descriptor")
inductive ItK where
  | lst | tup | str | rng1 | rng2 | rng3 | enu | zip
mutual
inductive E where
  | var (i : Nat) | cst (d : D) | glo (x : Str) (d : D) | tyn (t : Tn)
  | op (o : BOp) (a b : E) | cmp (o : COp) (a b : E) | chn (o o' : COp) (a b c : E) | neg (a : E)
  | not (a : E) | and (a b : E) | or (a b : E) | ife (c : B) (a b : E)
  | ix (a b : E) | sl0 (a : E) | sl1 (a lo : E) | sl2 (a hi : E) | sl3 (a lo hi : E)
  | tup (l : EL) | lst (l : EL) | cel (l : EL)
  | bf (f : Bf) (l : EL) | bt (f : Bt) (l : EL) | ms (m : Ms) (a : E) (l : EL) | ml (m : Ml) (a : E) (l : EL)
  | fn (i n : Nat) (l : EL) | fk (i n : Nat) (l : EL)
  | lc (cel : Bool) (k : ItK) (ia : EL) (t : Tg) (vs : List Nat) (c : B) (e : E)
  | lr1 (a : E) | lr2 (a b : E) | lcl (a : E)
  | dcp (a : E) | md (m : Md) (a : E) (l : EL)
inductive B where
  | yes | tru (e : E) | not (a : B) | and (a b : B) | or (a b : B)
inductive EL where
  | nil | cons (a : E) (l : EL) | star (a : E) (l : EL)
end
/-- items of a starred part -/
def itAny : D → Mem → Res (List D)
  | .tup ds, M => .ok ds M
  | d, M => match lstOf M d with
    | some ds => .ok ds M
    | none => .bad
def lStar (a : Fe) (b : Fl) : Fl := fun δ => bnd (a δ) fun x => bnd (itAny x) fun xs => bnd (b δ) fun ys => ret (xs ++ ys)
def gNeg : D → Mem → Res D
  | .int i, M => .ok (.int (-i)) M
  | _, _ => .bad
def eNeg (a : Fe) : Fe := fun δ => bnd (a δ) gNeg
def denI (k : ItK) (l : Fl) : Env → Mem → Res (List D) := match k with
  | .lst => fun δ => bnd (l δ) fun ds M => match ds with | [d] => itL d M | _ => .bad
  | .tup => fun δ => bnd (l δ) fun ds M => match ds with | [d] => itT d M | _ => .bad
  | .str => fun δ => bnd (l δ) fun ds M => match ds with | [d] => itS d M | _ => .bad
  | .rng1 => iArg fRng1 l
  | .rng2 => iArg fRng2 l
  | .rng3 => iArg fRng3 l
  | .enu => iArg fEnu1 l
  | .zip => iArg fZip2 l
/-- list(range(..)) -/
def gLr : D → D → Mem → Res D
  | .int i, .int j, M => if i.natAbs < 2 ^ 62 ∧ j.natAbs < 2 ^ 62 ∧ (j - i).toNat ≤ 2 ^ 24 then .ok (.lst (rng i (j - i).toNat)) M else .bad
  | _, _, _ => .bad
def eLr1 (a : Fe) : Fe := fun δ => bnd (a δ) fun d => gLr (.int 0) d
def eLr2 (a b : Fe) : Fe := fun δ => bnd (a δ) fun d => bnd (b δ) fun e => gLr d e
/-- list(..) that is changed later -/
def gLcl : List D → Mem → Res D := fun ds M => match ds with
  | [d] => (match fList M d with
    | some (.lst es) => .ok (.ref M.length) (M ++ [.lst es])
    | _ => .bad)
  | _ => .bad
def eLcl (a : Fe) : Fe := fun δ => bnd (lCons a lNil δ) gLcl
mutual
def den (us : List Fun) : E → Fe
  | .var i => eVar i
  | .cst d => eCst d
  | .glo _ d => eCst d
  | .tyn t => eCst (.ty t.n)
  | .op o a b => eOp o.g (den us a) (den us b)
  | .cmp o a b => eOp o.g (den us a) (den us b)
  | .chn o o' a b c => eChain o.g o'.g (den us a) (den us b) (den us c)
  | .neg a => eNeg (den us a)
  | .not a => eNot (den us a)
  | .and a b => eAnd (den us a) (den us b)
  | .or a b => eOr (den us a) (den us b)
  | .ife c a b => eIf (denB us c) (den us a) (den us b)
  | .ix a b => eOp (fun M a b => (gIx M a b).or (gIxD M a b)) (den us a) (den us b)
  | .sl0 a => eSl gSl (den us a) oNo oNo
  | .sl1 a lo => eSl gSl (den us a) (oAt (den us lo)) oNo
  | .sl2 a hi => eSl gSl (den us a) oNo (oAt (den us hi))
  | .sl3 a lo hi => eSl gSl (den us a) (oAt (den us lo)) (oAt (den us hi))
  | .tup l => eTup (denL us l)
  | .lst l => eLst (denL us l)
  | .cel l => eCell (denL us l)
  | .bf f l => eCall f.g (denL us l)
  | .bt f l => eCall f.g (denL us l)
  | .ms m a l => eMt m.g (den us a) (denL us l)
  | .ml m a l => eMl m.g (den us a) (denL us l)
  | .fn i n l => fnDo n (denL us l) (us.getD i fun _ _ => .bad)
  | .fk i n l => fnDo n (denL us l) (us.getD i fun _ _ => .bad)
  | .lc true k ia t vs c e => eLcC (denI k (denL us ia)) t vs (denB us c) (den us e)
  | .lc false k ia t vs c e => eLc (denI k (denL us ia)) t vs (denB us c) (den us e)
  | .lr1 a => eLr1 (den us a)
  | .lr2 a b => eLr2 (den us a) (den us b)
  | .lcl a => eLcl (den us a)
  | .dcp a => eDcp (den us a)
  | .md m a l => eMd m.g (den us a) (denL us l)
def denB (us : List Fun) : B → Fb
  | .yes => bYes
  | .tru e => bTru (den us e)
  | .not a => bNot (denB us a)
  | .and a b => bAnd (denB us a) (denB us b)
  | .or a b => bOr (denB us a) (denB us b)
def denL (us : List Fun) : EL → Fl
  | .nil => lNil
  | .cons a l => lCons (den us a) (denL us l)
  | .star a l => lStar (den us a) (denL us l)
end

/-! ### statements -/
mutual
inductive S where
  | asg (t : Tg) (e : E) | par (is : List Nat) (l : EL) | set (o i e : E) | ex (e : E) | doc
  | ife (c : B) (a b : SL) | whl (n : Nat) (c : B) (b : SL) | for (k : ItK) (ia : EL) (t : Tg) (b : SL)
  | ret (e : E) | retn | brk | cnt | pas | frz (i : Nat) | nev
inductive SL where
  | nil | cons (s : S) (l : SL)
end
mutual
def denS (us : List Fun) : S → Fs
  | .asg t e => sAsg t (den us e)
  | .par is l => sPar is (denL us l)
  | .set o i e => sSetA (den us o) (den us i) (den us e)
  | .ex e => sEx (den us e)
  | .doc => sPass
  | .ife c a b => sIf (denB us c) (denSL us a) (denSL us b)
  | .whl n c b => whlGo (denB us c) (denSL us b) n
  | .for k ia t b => sFor (denI k (denL us ia)) t (denSL us b)
  | .ret e => sRet (den us e)
  | .retn => sRetN
  | .brk => sBrk
  | .cnt => sCnt
  | .pas => sPass
  | .frz i => sFrz i
  | .nev => fun _ _ => .bad
def denSL (us : List Fun) : SL → Fs
  | .nil => sPass
  | .cons s l => sSeq (denS us s) (denSL us l)
end
end Wn
end

section
set_option Elab.async false
set_option linter.all false
set_option maxRecDepth 100000
set_option maxHeartbeats 400000
namespace Wn
open PySem PySem.Spec PyProof.Rows L2

/-! ### the program's text against the own syntax: a computation -/
mutual
def eqD : D → D → Bool
  | .non, .non => true
  | .bl a, .bl b => a == b
  | .int a, .int b => a == b
  | .str a, .str b => a == b
  | .tup a, .tup b => eqDs a b
  | .ty a, .ty b => a == b
  | _, _ => false
def eqDs : List D → List D → Bool
  | [], [] => true
  | a :: as, b :: bs => eqD a b && eqDs as bs
  | _, _ => false
end
mutual
theorem eqD_eq : ∀ {a b : D}, eqD a b = true → a = b
  | .non, .non, _ => rfl
  | .bl a, .bl b, h => by rw [eq_of_beq (show (a == b) = true from h)]
  | .int a, .int b, h => by rw [eq_of_beq (show (a == b) = true from h)]
  | .str a, .str b, h => by rw [eq_of_beq (show (a == b) = true from h)]
  | .ty a, .ty b, h => by rw [eq_of_beq (show (a == b) = true from h)]
  | .tup a, .tup b, h => by rw [eqDs_eq (show eqDs a b = true from h)]
  | .non, .bl _, h | .non, .int _, h | .non, .str _, h | .non, .tup _, h | .non, .lst _, h | .non, .scr _, h | .non, .ref _, h | .non, .ty _, h => by cases h
  | .bl _, .non, h | .bl _, .int _, h | .bl _, .str _, h | .bl _, .tup _, h | .bl _, .lst _, h | .bl _, .scr _, h | .bl _, .ref _, h | .bl _, .ty _, h => by cases h
  | .int _, .non, h | .int _, .bl _, h | .int _, .str _, h | .int _, .tup _, h | .int _, .lst _, h | .int _, .scr _, h | .int _, .ref _, h | .int _, .ty _, h => by cases h
  | .str _, .non, h | .str _, .bl _, h | .str _, .int _, h | .str _, .tup _, h | .str _, .lst _, h | .str _, .scr _, h | .str _, .ref _, h | .str _, .ty _, h => by cases h
  | .tup _, .non, h | .tup _, .bl _, h | .tup _, .int _, h | .tup _, .str _, h | .tup _, .lst _, h | .tup _, .scr _, h | .tup _, .ref _, h | .tup _, .ty _, h => by cases h
  | .ty _, .non, h | .ty _, .bl _, h | .ty _, .int _, h | .ty _, .str _, h | .ty _, .lst _, h | .ty _, .scr _, h | .ty _, .ref _, h | .ty _, .tup _, h => by cases h
  | .lst _, _, h | .scr _, _, h | .ref _, _, h => by cases h
theorem eqDs_eq : ∀ {a b : List D}, eqDs a b = true → a = b
  | [], [], _ => rfl
  | a :: as, b :: bs, h => by
    obtain ⟨h1, h2⟩ := Bool.and_eq_true_iff.mp (show (eqD a b && eqDs as bs) = true from h)
    rw [eqD_eq h1, eqDs_eq h2]
  | [], _ :: _, h => by cases h
  | _ :: _, [], h => by cases h
end
/-- what is known of a def: its slots, the defs that it calls, the module's constants, the built-in names that the module leaves -/
structure Ct where
  N : List Str
  calls : List (Str × List Str)
  cons : List (Str × D)
  blts : List Str
/-- a block's names: as it sees them; as it keeps its own -/
structure Sc where
  sc : Scope
  ow : Scope
def isK (o : Option NameKind) (k : NameKind) : Bool := match o, k with
  | some .local, .local => true
  | some .cell, .cell => true
  | some .free, .free => true
  | some .globalImplicit, .globalImplicit => true
  | _, _ => false
theorem isK_eq {o : Option NameKind} {k : NameKind} (h : isK o k = true) : o = some k := by
  unfold isK at h
  split at h <;> first | rfl | cases h
def visC (sc : Scope) (x : Str) : Bool := isK (sc.names.lookup x) .local || isK (sc.names.lookup x) .cell || isK (sc.names.lookup x) .free
theorem vis_of {sc : Scope} {x : Str} (h : visC sc x = true) : Vis sc x := by
  unfold visC at h
  simp only [Bool.or_eq_true] at h
  rcases h with (h | h) | h
  · exact .inl (isK_eq h)
  · exact .inr (.inl (isK_eq h))
  · exact .inr (.inr (isK_eq h))
def locC (sc : Scope) (x : Str) : Bool := isK (sc.names.lookup x) .local || isK (sc.names.lookup x) .cell
def gloC (sc : Scope) (x : Str) : Bool := isK (sc.names.lookup x) .globalImplicit && !(x == ("__debug__" : Str))
def cstC : D → Const → Bool
  | .non, .none => true
  | .bl b, .bool c => b == c
  | .int i, .int j => i == j
  | .str x, .str y => x == y
  | _, _ => false
def atC (N : List Str) (i : Nat) (x : Str) : Bool := match N[i]? with
  | some y => y == x
  | none => false
theorem at_of {N : List Str} {i : Nat} {x : Str} (h : atC N i x = true) : N[i]? = some x := by
  unfold atC at h
  split at h
  · rename_i y e
    rw [e, eq_of_beq h]
  · cases h
mutual
def cvT (C : Ct) (sc : Sc) : Tg → Expr → Bool
  | .nm i, .Name x _ => atC C.N i x && locC sc.ow x
  | .tp l, .Tuple es _ _ => noStars es && cvTs C sc l es
  | _, _ => false
def cvTs (C : Ct) (sc : Sc) : TgL → List Expr → Bool
  | .nil, [] => true
  | .cons t l, e :: es => cvT C sc t e && cvTs C sc l es
  | _, _ => false
end
def isTu : Expr → Bool
  | .Tuple _ _ _ => true
  | _ => false
def bltC (C : Ct) (sc : Sc) (x : Str) : Bool := C.blts.contains x && gloC sc.sc x
def callC (C : Ct) (i n : Nat) (x : Str) : Bool := match C.calls[i]? with
  | some (y, ps) => y == x && ps.length == n
  | none => false
def isCmp : Expr → Bool
  | .Compare _ _ _ _ => true
  | _ => false
def ownC (C : Ct) (vs : List Nat) : List (Str × Nat) := vs.map fun i => (C.N.getD i ⟨#[]⟩, i)
def ItK.nm : ItK → Str
  | .rng1 => "range"
  | .rng2 => "range"
  | .rng3 => "range"
  | .enu => "enumerate"
  | .zip => "zip"
  | _ => ""
def ItK.two : ItK → Bool
  | .enu => true
  | .zip => true
  | _ => false
def EL.len : EL → Nat
  | .nil => 0
  | .cons _ l => l.len + 1
  | .star _ l => l.len + 1
def ItK.num : ItK → Nat
  | .rng2 => 2
  | .rng3 => 3
  | .zip => 2
  | _ => 1
def ItK.plain : ItK → Bool
  | .lst => true
  | .tup => true
  | .str => true
  | _ => false
def args0 : Expr → List Expr
  | .Call _ es _ _ => es
  | _ => []
def isC (C : Ct) (sc : Sc) (k : ItK) : Expr → Bool
  | .Call (.Name x _) _ [] _ => x == k.nm && bltC C sc x
  | _ => false
def kwV : List Keyword → List Expr
  | [] => []
  | ⟨_, v, _⟩ :: ks => v :: kwV ks
def kwC (C : Ct) (i n : Nat) (x : Str) (ks : List Keyword) : Bool := match C.calls[i]? with
  | some (y, ps) => y == x && ps.length == n && kwOk ks ps
  | none => false
mutual
def cv (C : Ct) : E → Sc → Expr → Bool
  | .var i, sc, xx => match xx with
    | .Name x _ => atC C.N i x && visC sc.sc x && !(x == ("__debug__" : Str)) && !(x == ("__classdict__" : Str))
    | _ => false
  | .cst d, _sc, xx => match xx with
    | .Constant c _ _ => cstC d c
    | _ => false
  | .glo y d, sc, xx => match xx with
    | .Name x _ => y == x && gloC sc.sc x && C.cons.any fun p => p.1 == x && eqD p.2 d
    | _ => false
  | .tyn t, sc, xx => match xx with
    | .Name x _ => t.name == x && bltC C sc x
    | _ => false
  | .op o a b, sc, xx => match xx with
    | .BinOp l op r _ => decide (o.op = op) && cv C a sc l && cv C b sc r
    | _ => false
  | .cmp o a b, sc, xx => match xx with
    | .Compare l [op] [r] _ => decide (o.op = op) && nSet r && cv C a sc l && cv C b sc r
    | _ => false
  | .chn o o' a b c, sc, xx => match xx with
    | .Compare l [op, op'] [m, r] _ => decide (o.op = op) && decide (o'.op = op') && nSet r && cv C a sc l && cv C b sc m && cv C c sc r
    | _ => false
  | .neg a, sc, xx => match xx with
    | .UnaryOp .USub x _ => cv C a sc x
    | _ => false
  | .not a, sc, xx => match xx with
    | .UnaryOp .Not x _ => cv C a sc x
    | _ => false
  | .and a b, sc, xx => match xx with
    | .BoolOp .And (x :: y :: rest) p => cv C a sc x && (match rest with
        | [] => cv C b sc y
        | _ => cv C b sc (.BoolOp .And (y :: rest) p))
    | _ => false
  | .or a b, sc, xx => match xx with
    | .BoolOp .Or (x :: y :: rest) p => cv C a sc x && (match rest with
        | [] => cv C b sc y
        | _ => cv C b sc (.BoolOp .Or (y :: rest) p))
    | _ => false
  | .ife c a b, sc, xx => match xx with
    | .IfExp t x y _ => cvB C c sc t && cv C a sc x && cv C b sc y
    | _ => false
  | .ix a b, sc, xx => match xx with
    | .Subscript x y _ => okIx y && cv C a sc x && cv C b sc y
    | _ => false
  | .sl0 a, sc, xx => match xx with
    | .Subscript x (.Slice none none none _) _ => cv C a sc x
    | _ => false
  | .sl1 a lo, sc, xx => match xx with
    | .Subscript x (.Slice (some l) none none _) _ => cv C a sc x && cv C lo sc l
    | _ => false
  | .sl2 a hi, sc, xx => match xx with
    | .Subscript x (.Slice none (some h) none _) _ => cv C a sc x && cv C hi sc h
    | _ => false
  | .sl3 a lo hi, sc, xx => match xx with
    | .Subscript x (.Slice (some l) (some h) none _) _ => cv C a sc x && cv C lo sc l && cv C hi sc h
    | _ => false
  | .tup l, sc, xx => match xx with
    | .Tuple es _ _ => cvL C l sc es
    | _ => false
  | .lst l, sc, xx => match xx with
    | .List es _ => cvL C l sc es
    | _ => false
  | .cel l, sc, xx => match xx with
    | .List es _ => cvL C l sc es
    | _ => false
  | .bf f l, sc, xx => match xx with
    | .Call (.Name x _) (e :: es) [] _ => f.name == x && bltC C sc x && noStars (e :: es) && cvL C l sc (e :: es)
    | _ => false
  | .bt f l, sc, xx => match xx with
    | .Call (.Name x _) (e :: es) [] _ => f.name == x && bltC C sc x && noStars (e :: es) && cvL C l sc (e :: es)
    | _ => false
  | .ms m a l, sc, xx => match xx with
    | .Call (.Attribute o n ap) (e :: es) [] cp => m.name == n && okBase o && (ap.endLine == cp.line) && noStars (e :: es) && decide (es.length < 29) && cv C a sc o && cvL C l sc (e :: es)
    | _ => false
  | .ml m a l, sc, xx => match xx with
    | .Call (.Attribute o n ap) (e :: es) [] cp => m.name == n && okBase o && (ap.endLine == cp.line) && noStars (e :: es) && decide (es.length < 29) && cv C a sc o && cvL C l sc (e :: es)
    | _ => false
  | .fn i n l, sc, xx => match xx with
    | .Call (.Name x _) es [] _ => callC C i n x && gloC sc.sc x && noStars es && cvL C l sc es
    | _ => false
  | .fk i n l, sc, xx => match xx with
    | .Call (.Name x _) [] (k :: ks) _ => kwC C i n x (k :: ks) && gloC sc.sc x && noStars (kwV (k :: ks)) && cvL C l sc (kwV (k :: ks))
    | _ => false
  | .lc _ k ia t vs c e, sc, xx => match xx with
    | .ListComp elt [⟨tg, iter, ifs, a⟩] scope _ => decide (a = 0) && blkC C.N sc.sc scope (ownC C vs) && okFs iter && (if k.plain = true then cvL C ia sc [iter] && nStar iter else isC C sc k iter && noStars (args0 iter) && decide ((args0 iter).length = k.num) && cvL C ia sc (args0 iter) && (!k.two || isTu tg)) &&
          cvT C ⟨relS scope sc.sc, scope⟩ t tg && (t.sl.all fun i => vs.contains i) && cv C e ⟨relS scope sc.sc, scope⟩ elt && (match ifs with
            | [] => (match c with | .yes => true | _ => false)
            | [x] => cvB C c ⟨relS scope sc.sc, scope⟩ x
            | _ => false)
    | _ => false
  | .lcl a, sc, xx => match xx with
    | .Call (.Name x _) [e] [] _ => x == ("list" : Str) && bltC C sc x && nStar e && cv C a sc e
    | _ => false
  | .dcp a, sc, xx => match xx with
    | .Call (.Name x _) [e] [] _ => x == ("dict" : Str) && bltC C sc x && nStar e && cv C a sc e
    | _ => false
  | .md m a l, sc, xx => match xx with
    | .Call (.Attribute o n ap) (e :: es) [] cp => m.name == n && okBase o && (ap.endLine == cp.line) && noStars (e :: es) && decide (es.length < 29) && cv C a sc o && cvL C l sc (e :: es)
    | _ => false
  | .lr1 a, sc, xx => match xx with
    | .Call (.Name x _) [.Call (.Name y _) [e] [] _] [] _ => x == ("list" : Str) && bltC C sc x && y == ("range" : Str) && bltC C sc y && nStar e && cv C a sc e
    | _ => false
  | .lr2 a b, sc, xx => match xx with
    | .Call (.Name x _) [.Call (.Name y _) [e, e'] [] _] [] _ => x == ("list" : Str) && bltC C sc x && y == ("range" : Str) && bltC C sc y && nStar e && nStar e' && cv C a sc e && cv C b sc e'
    | _ => false
def cvB (C : Ct) : B → Sc → Expr → Bool
  | .yes, _, _ => false
  | .tru e, sc, x => cv C e sc x && (okTe x || isCmp x)
  | .not a, sc, xx => match xx with
    | .UnaryOp .Not x _ => cvB C a sc x
    | _ => false
  | .and a b, sc, xx => match xx with
    | .BoolOp .And (x :: y :: rest) p => cvB C a sc x && (match rest with
        | [] => cvB C b sc y
        | _ => cvB C b sc (.BoolOp .And (y :: rest) p))
    | _ => false
  | .or a b, sc, xx => match xx with
    | .BoolOp .Or (x :: y :: rest) p => cvB C a sc x && (match rest with
        | [] => cvB C b sc y
        | _ => cvB C b sc (.BoolOp .Or (y :: rest) p))
    | _ => false
def cvL (C : Ct) : EL → Sc → List Expr → Bool
  | .nil, _, xx => match xx with
    | [] => true
    | _ => false
  | .cons a l, sc, xx => match xx with
    | x :: xs => nStar x && cv C a sc x && cvL C l sc xs
    | _ => false
  | .star a l, sc, xx => match xx with
    | .Starred x _ :: xs => cv C a sc x && cvL C l sc xs
    | _ => false
end
/-! ### statements -/
def swC (sc : Scope) (y : Str) (py : Pos) (l : Pos) (scope : Scope) : Bool := (match sc.kind with | .function => true | _ => false) && isK (sc.names.lookup y) .local && (py.line == l.line) && !(scope.names.any fun p => p.1 == y && (p.2 == .local || p.2 == .cell))
def isLc : Expr → Bool
  | .ListComp _ _ _ _ => true
  | _ => false
/-- a tuple of constants to several names -/
def foldT : Expr → Expr → Bool
  | .Tuple _ _ _, .Tuple vs _ _ => vs.all (foldedForSure 8)
  | _, _ => false
/-- name = [..] with the stores exchanged -/
def lcN (sc : Sc) : Tg → Expr → Expr → Bool
  | .nm _, .Name y py, .ListComp _ _ scope lp => swC sc.sc y py lp scope
  | _, _, _ => false
def isFrz : S → Bool
  | .frz _ => true
  | _ => false
mutual
def cvS (C : Ct) : S → Sc → Stmt → Bool
  | .asg t e, sc, xx => match xx with
    | .Assign [tg] x p => cvT C sc t tg && cv C e sc x && nStar tg && ((okSw x || isTu tg) && (okTu tg || okTv x || foldT tg x) || lcN sc t tg x)
    | _ => false
  | .par is l, sc, xx => match is, xx with
    | [i, j], .Assign [.Tuple [.Name x px, .Name y py] _ _] (.Tuple [a, b] _ _) _ => atC C.N i x && atC C.N j y && decide (i ≠ j) && isK (sc.sc.names.lookup x) .local && isK (sc.sc.names.lookup y) .local && (px.line == py.line) && noStars [a, b] && !([a, b].all (foldedForSure 8)) && !([a, b].all (constantsAlone 8)) && !(x == y) && cvL C l sc [a, b]
    | [i, j, k], .Assign [.Tuple [.Name x px, .Name y py, .Name z pz] _ _] (.Tuple [a, b, c] _ _) _ => atC C.N i x && atC C.N j y && atC C.N k z && decide (i ≠ j) && decide (i ≠ k) && decide (j ≠ k) && isK (sc.sc.names.lookup x) .local && isK (sc.sc.names.lookup y) .local && isK (sc.sc.names.lookup z) .local && (px.line == py.line) && (px.line == pz.line) && noStars [a, b, c] && !([a, b, c].all (foldedForSure 8)) && !([a, b, c].all (constantsAlone 8)) && !(x == y) && !(x == z) && !(y == z) && cvL C l sc [a, b, c]
    | _, _ => false
  | .set o i e, sc, xx => match xx with
    | .Assign [.Subscript x y _] z p => okIx y && okSw z && cv C o sc x && cv C i sc y && cv C e sc z
    | _ => false
  | .ex e, sc, xx => match xx with
    | .Expr x _ => okSw x && cv C e sc x
    | _ => false
  | .doc, _sc, xx => match xx with
    | .Expr (.Constant (.str _) _ _) _ => true
    | _ => false
  | .ife c a b, sc, xx => match xx with
    | .If t x y _ => cvB C c sc t && cvSL C a sc x && cvSL C b sc y
    | _ => false
  | .whl _ c b, sc, xx => match xx with
    | .While t x [] _ => cvB C c sc t && cvSL C b sc x
    | _ => false
  | .for k ia t b, sc, xx => match xx with
    | .For tg iter body [] _ => okFs iter && (if k.plain = true then cvL C ia sc [iter] && nStar iter else isC C sc k iter && noStars (args0 iter) && decide ((args0 iter).length = k.num) && cvL C ia sc (args0 iter) && (!k.two || isTu tg)) && cvT C sc t tg && cvSL C b sc body
    | _ => false
  | .ret e, sc, xx => match xx with
    | .Return (some x) _ => cv C e sc x
    | _ => false
  | .retn, _sc, xx => match xx with
    | .Return none _ => true
    | _ => false
  | .brk, _sc, xx => match xx with
    | .Break _ => true
    | _ => false
  | .cnt, _sc, xx => match xx with
    | .Continue _ => true
    | _ => false
  | .pas, _sc, xx => match xx with
    | .Pass _ => true
    | _ => false
  | .frz _, _, _ => false
  | .nev, _, _ => true
def cvSL (C : Ct) : SL → Sc → List Stmt → Bool
  | .nil, _, xx => match xx with
    | [] => true
    | _ => false
  | .cons s l, sc, xx => if isFrz s = true then cvSL C l sc xx else match xx with
    | x :: xs => cvS C s sc x && cvSL C l sc xs
    | _ => false
end
end Wn
end

section
set_option Elab.async false
set_option linter.all false
set_option maxRecDepth 100000
set_option maxHeartbeats 400000
namespace Wn
open PySem PySem.Spec PyProof.Rows L2

/-! ### the remaining rules -/
section
variable {X : Cx} {Z : ZS} {e a b : Expr} {es : List Expr} {fa fb : Fe} {fl : Fl} {p p2 pos : Pos}
theorem r_neg (ha : PE X a (tM X.K Z fa)) : PE X (.UnaryOp .USub a pos) (tM X.K Z (eNeg fa)) :=
  PE.cons (pe_un un_neg ha) fun σ H Q ⟨δ, r, M, E, S, h⟩ => ⟨δ, r, M, E, S, (Aft.bind S h).imp fun v H1 ⟨d1, M1, r1, e1, x1, S1, q1, w⟩ => by
    cases d1 with
    | int i => cases q1; exact ⟨i, rfl, Aft.ret (d := .int (-i)) S1 rfl w⟩
    | _ => exact w.elim⟩
theorem itAny_rep {K : PySem.W.Frag} {H : Hp} {r : List Addr} {M M1 : Mem} {d : D} {ds : List D} {v : V} (S : Sim K H r M) (h : Rep K H r d v) (e : itAny d M = .ok ds M1) : M1 = M ∧ ∃ a vs, v = .ref a ∧ (SqT K H a vs ∨ SqL K H a vs) ∧ Reps K H r ds vs := by
  have lst : ∀ d, Rep K H r d v → (match lstOf M d with | some ds => Res.ok ds M | none => .bad) = .ok ds M1 → M1 = M ∧ ∃ a vs, v = .ref a ∧ (SqT K H a vs ∨ SqL K H a vs) ∧ Reps K H r ds vs := fun d h e => by
    cases f : lstOf M d with
    | none => rw [f] at e; cases e
    | some es =>
      rw [f] at e
      cases e
      obtain ⟨a, vs, e1, h1, h2⟩ := lstOf_rep S h f
      exact ⟨rfl, a, vs, e1, .inr h1, h2⟩
  cases d with
  | tup es => cases e; obtain ⟨a, vs, e1, h1, h2⟩ := h; exact ⟨rfl, a, vs, e1, .inl h1, h2⟩
  | _ => exact lst _ h e
theorem l_star (he : PE X e (tM X.K Z fa)) (hr : PA X es (tL X.K Z fl)) : PA X (.Starred e p :: es) (tL X.K Z (lStar fa fl)) :=
  PA.cons (StX.pa_star he hr rfl) fun σ H Q ⟨δ, r, M, E, S, h⟩ => ⟨δ, r, M, E, S, (AftL.bind S h).imp fun v H1 ⟨d1, M1, r1, e1, x1, S1, q1, w⟩ => by
    replace w : AftL X.K (Z σ) H1 r1 M1 (bnd (itAny d1) (fun xs => bnd (fl δ) fun ys => ret (xs ++ ys)) M1) Q := w
    unfold bnd at w
    cases f : itAny d1 M1 with
    | bad => simp only [f] at w; exact w.elim
    | err x M2 =>
      cases d1 with
      | tup _ => cases f
      | _ =>
        simp only [itAny] at f
        split at f <;> cases f
    | ok ds M2 =>
      obtain ⟨rfl, a, vs, rfl, h1, h2⟩ := itAny_rep S1 q1 f
      simp only [f] at w
      refine ⟨a, vs, rfl, h1, δ, r1, M2, E.ext S x1, S1, (AftL.bindL (k := fun ys => ret (ds ++ ys)) S1 w).imp fun ws H3 ⟨d3, M3, r3, e3, x3, S3, q3, w3⟩ => ?_⟩
      exact AftL.ret S3 ((h2.ext S1 x3).append q3) w3⟩
theorem reps_rg {K : PySem.W.Frag} {H : Hp} {r : List Addr} (i j : Int) : Reps K H r (rng i (j - i).toNat) (rgV i j) := by
  unfold rng rgV
  generalize List.range (j - i).toNat = l
  induction l with
  | nil => rfl
  | cons n l ih => exact ⟨_, _, rfl, rfl, ih⟩
theorem lr_fin {K : PySem.W.Frag} {Z : ZK} {H : Hp} {r : List Addr} {M : Mem} {i j : Int} {Q : VK} (S : Sim K H r M) (w : Aft K Z H r M (gLr (.int i) (.int j) M) Q) : RgOk i j ∧ ∀ q, H q = none → QFz Q (.ref q) (upd H q (.lst (rgV i j))) := by
  replace w : Aft K Z H r M (if i.natAbs < 2 ^ 62 ∧ j.natAbs < 2 ^ 62 ∧ (j - i).toNat ≤ 2 ^ 24 then .ok (.lst (rng i (j - i).toNat)) M else .bad) Q := w
  by_cases hc : i.natAbs < 2 ^ 62 ∧ j.natAbs < 2 ^ 62 ∧ (j - i).toNat ≤ 2 ^ 24
  · rw [if_pos hc] at w
    exact ⟨⟨by omega, by omega, by omega, by omega, hc.2.2⟩, fun q hq => ⟨q, _, rfl, upd_same, fun o => by rw [upd_upd]; exact Aft.fzl S hq (reps_rg i j) w⟩⟩
  · rw [if_neg hc] at w; exact w.elim
theorem gLr_int {d e : D} {M : Mem} {K : PySem.W.Frag} {Z : ZK} {H : Hp} {r : List Addr} {Q : VK} (w : Aft K Z H r M (gLr d e M) Q) : ∃ i j, d = .int i ∧ e = .int j := by
  unfold gLr at w
  split at w
  · exact ⟨_, _, rfl, rfl⟩
  · exact w.elim
variable {pc pr : Pos}
theorem r_lrg1 (hc : X.calm = true) (hg : Gl X "list") (hm : X.mg "list" = none) (hg2 : Gl X "range") (hm2 : X.mg "range" = none) (ha : PE X a (tM X.K Z fa)) (na : nStar a = true) : PE X (.Call (.Name "list" p) [.Call (.Name "range" p2) [a] [] pr] [] pc) (tM X.K Z (eLr1 fa)) := by
  refine ⟨fun pins s σ H Q I ⟨δ, r, M, E, S, h⟩ => thn ((pe_listRg hc hg hm (prg_1 hg2 hm2 ha (star_of na)) rfl).run pins s σ H (QFz Q) I ⟨δ, r, M, E, S, (Aft.bind S h).imp fun v H1 ⟨d1, M1, r1, e1, x1, S1, q1, w⟩ => ?_⟩) fun u s' q => EP.freeze q⟩
  obtain ⟨i, j, e2, e3⟩ := gLr_int w
  subst e3
  cases q1
  exact ⟨j, rfl, lr_fin S1 w⟩
theorem r_lrg2 (hc : X.calm = true) (hg : Gl X "list") (hm : X.mg "list" = none) (hg2 : Gl X "range") (hm2 : X.mg "range" = none) (ha : PE X a (tM X.K Z fa)) (hb : PE X b (tM X.K Z fb)) (na : nStar a = true) (nb : nStar b = true) : PE X (.Call (.Name "list" p) [.Call (.Name "range" p2) [a, b] [] pr] [] pc) (tM X.K Z (eLr2 fa fb)) := by
  refine ⟨fun pins s σ H Q I ⟨δ, r, M, E, S, h⟩ => thn ((pe_listRg hc hg hm (prg_2 hg2 hm2 ha hb (star_of na) (star_of nb) (back_plain (show (nStar b && true) = true by rw [nb]; rfl))) rfl).run pins s σ H (QFz Q) I ⟨δ, r, M, E, S, (Aft.bind S h).imp fun v H1 ⟨d1, M1, r1, e1, x1, S1, q1, w⟩ =>
    ⟨δ, r1, M1, E.ext S x1, S1, (Aft.bind S1 w).imp fun u H2 ⟨d2, M2, r2, e2, x2, S2, q2, w2⟩ => ?_⟩⟩) fun u s' q => EP.freeze q⟩
  obtain ⟨i, j, e3, e4⟩ := gLr_int w2
  subst e3 e4
  cases q1
  cases q2
  exact ⟨i, j, rfl, rfl, lr_fin S2 w2⟩
end

section
variable {X : Cx} {Z : ZS}
/-- list(x) makes a new list -/
theorem new_list (hc : X.calm = true) {pins : List (Addr × Obj)} {s : Shared} {σ : St} {H : Hp} {r : List Addr} {M : Mem} {x : D} {v : V} {u : Value} {es : List D} (I : Inv X pins σ H s) (rx : RelV v u) (S : Sim X.K H r M) (qv : Rep X.K H r x v) (e : fList M x = some (.lst es)) :
    wpAny (model X.prog X.w) X.A (call (.type "list") [u]) (EP X pins σ fun w H1 => ∃ p vs, w = .ref p ∧ H p = none ∧ H1 = upd H p (.lst vs) ∧ Reps X.K H r es vs) X.xe s := by
  have lst : ∀ {fs : List D}, lstOf M x = some fs → fs = es → wpAny (model X.prog X.w) X.A (call (.type "list") [u]) (EP X pins σ fun w H1 => ∃ p vs, w = .ref p ∧ H p = none ∧ H1 = upd H p (.lst vs) ∧ Reps X.K H r es vs) X.xe s := by
    intro fs e1 e2
    subst e2
    obtain ⟨a, vs, rfl, h1, h2⟩ := lstOf_rep S qv e1
    exact call_list_of pins s σ H _ [u] _ I (.cons rx .nil) ⟨a, vs, rfl, .inl h1, fun p hp => ⟨p, vs, rfl, hp, rfl, h2⟩⟩
  cases x with
  | tup fs =>
    cases e
    obtain ⟨a, vs, rfl, h1, h2⟩ := qv
    exact call_list_of pins s σ H _ [u] _ I (.cons rx .nil) ⟨a, vs, rfl, .inr h1, fun p hp => ⟨p, vs, rfl, hp, rfl, h2⟩⟩
  | str z =>
    cases qv
    obtain ⟨c, e2⟩ := of_ite (show (if z.length ≤ sizeLine then some (D.lst (sgn z)) else none) = some (.lst es) from e)
    cases e2
    obtain ⟨t, rfl⟩ := rx
    refine call_list_str (I.ok.hd hc) z t (fun h' tk acc' c' k hS hacc => ?_) c
    have hv := vals_signs z acc' hacc
    refine ⟨.ref s.heap.objs.size, _, I.laid (o := .lst (z.cps.toList.map fun c => V.str ⟨#[c]⟩)) (a := s.heap.objs.size) (t' := tk) k (Nat.le_refl _) ⟨by rw [List.length_map, Array.length_toList]; exact c, acc'.toList, c', hv, ?_⟩, rfl, _, _, rfl, I.fresh, rfl, ?_⟩
    · rw [hS]
    · have go : ∀ l : List Nat, Reps X.K H r (l.map fun c => D.str ⟨#[c]⟩) (l.map fun c => V.str ⟨#[c]⟩) := by
        intro l
        induction l with
        | nil => rfl
        | cons c l ih => exact ⟨_, _, rfl, rfl, ih⟩
      exact go _
  | lst fs => exact lst rfl (D.lst.inj (Option.some.inj e))
  | scr fs => exact lst rfl (D.lst.inj (Option.some.inj e))
  | ref n =>
    obtain ⟨fs, e1, e2⟩ := Option.map_eq_some_iff.mp (show (lstOf M (.ref n)).map D.lst = some (.lst es) from e)
    exact lst e1 (D.lst.inj e2)
  | _ => cases e
theorem r_lcl {a : Expr} {fa : Fe} {p pos : Pos} (hc : X.calm = true) (hg : Gl X "list") (hm : X.mg "list" = none) (ha : PE X a (tM X.K Z fa)) (na : nStar a = true) : PE X (.Call (.Name "list" p) [a] [] pos) (tM X.K Z (eLcl fa)) := by
  refine ⟨fun pins s σ H Q I ⟨δ, r, M, E, S, h⟩ => ?_⟩
  refine wpAny_Call_Name_kw (ld_blt I hg hm boot_list ?_)
  have hp : PA X [a] (tL X.K Z (lCons fa lNil)) := l_cons ha l_nil (star_of na)
  refine PyProof.Rows.callWith_type1 (thn (hp.run pos pins s σ H _ I ⟨δ, r, M, E, S, Aft.bindL S h⟩) fun us s1 ⟨vs, H1, I1, rv, ds, M1, r1, e2, X1, S1, q1, w⟩ => ?_) (star_of na) rfl
  unfold gLcl at w
  split at w
  · rename_i d1
    obtain ⟨v, _, rfl, qv, hn⟩ := q1
    cases hn
    obtain ⟨u, rfl, ru⟩ := Vals.one rv
    split at w
    · rename_i es f
      refine thn (new_list hc I1 ru S1 qv f) fun u' s2 ⟨x, H2, I2, rx, p', vs, e3, hp, e4, q2⟩ => ⟨x, H2, I2, rx, ?_⟩
      subst e3 e4
      exact Aft.cel S1 hp q2 w
    · exact w.elim
  · exact w.elim
end

/-! ### a context fits -/
/-- a constant of the module -/
def GloR (X : Cx) (x : Str) (d : D) : Prop := ∃ u v, X.mg x = some u ∧ RelV v u ∧ ∀ H r, Rep X.K H r d v
structure At (er : ER) (C : Ct) (us : List Fun) (sc : Sc) (X : Cx) (Z : ZS) : Prop where
  N : X.N = C.N
  nd : C.N.Nodup
  scp : X.env.scope = sc.sc
  gd : Gd X
  st : ∀ x, locC sc.ow x = true → Loc sc.sc x ∧ (X.fn x = true ∨ sc.sc.names.lookup x = some .local)
  con : ∀ p ∈ C.cons, GloR X p.1 p.2
  blt : ∀ x, C.blts.contains x = true → X.mg x = none
  cal : ∀ i x ps, C.calls[i]? = some (x, ps) → Cal er X x ps (us.getD i fun _ _ => .bad)
  tk : Takes X (WZ er X.K Z)
theorem loc_of {sc : Scope} {x : Str} (h : locC sc x = true) : Loc sc x := by
  unfold locC at h
  rw [Bool.or_eq_true] at h
  rcases h with h | h
  · exact .inl (isK_eq h)
  · exact .inr (isK_eq h)
theorem At.blk {er : ER} {C : Ct} {us : List Fun} {sc : Sc} {X : Cx} {Z : ZS} {scope : Scope} (a : At er C us sc X Z) (s : Shared) (H : Hp) (Ca : Addr) (cl : List (Str × Addr)) (fp : List Addr) :
    At er C us ⟨relS scope sc.sc, scope⟩ (X.blk s H scope (compEnvC scope cl Ca X.env) fp) (fun _ _ _ _ _ => False) := by
  refine ⟨a.N, a.nd, by show relS scope X.env.scope = _; rw [a.scp], ⟨a.gd.calm, a.gd.un, a.gd.gua⟩, fun x h => ?_, a.con, a.blt, fun i x ps h => ⟨(a.cal i x ps h).ex⟩, fun u s' ⟨_, _, _, _, _, _, _, _, _, _, _, _, _, _, _, _, w⟩ => ?_⟩
  · unfold locC at h
    rw [Bool.or_eq_true] at h
    rcases h with h | h
    · have z := lookup_relS_keep (sc := sc.sc) (k := .local) (by decide) (isK_eq h)
      exact ⟨.inl z, .inr z⟩
    · have z := lookup_relS_keep (sc := sc.sc) (k := .cell) (by decide) (isK_eq h)
      exact ⟨.inr z, .inl (by show (scope.names.lookup x == some NameKind.cell) = true; rw [isK_eq h]; rfl)⟩
  · obtain ⟨_, _, _, _, _, z⟩ := w
    exact z
section
variable {er : ER} {C : Ct} {us : List Fun} {sc : Sc} {X : Cx} {Z : ZS}
theorem At.gl (a : At er C us sc X Z) {x : Str} (h : gloC sc.sc x = true) : Gl X x ∧ (x == ("__debug__" : Str)) = false := by
  obtain ⟨h1, h2⟩ := Bool.and_eq_true_iff.mp h
  refine ⟨?_, by simpa using h2⟩
  show X.env.scope.names.lookup x = _
  rw [a.scp]
  exact isK_eq h1
theorem At.bl (a : At er C us sc X Z) {x : Str} (h : bltC C sc x = true) : Gl X x ∧ X.mg x = none := by
  obtain ⟨h1, h2⟩ := Bool.and_eq_true_iff.mp h
  exact ⟨(a.gl h2).1, a.blt x h1⟩
mutual
theorem sndT (a : At er C us sc X Z) : ∀ {t : Tg} {e : Expr}, cvT C sc t e = true → PG X e (tG X.K t)
  | .nm i, .Name x p, h => by
    obtain ⟨h1, h2⟩ := Bool.and_eq_true_iff.mp (show (atC C.N i x && locC sc.ow x) = true from h)
    obtain ⟨h3, h4⟩ := a.st x h2
    exact g_name (by rw [a.N]; exact a.nd) (by rw [a.N]; exact at_of h1) (by rw [a.scp]; exact h3) (by rw [a.scp]; exact h4)
  | .tp l, .Tuple es k p, h => by
    obtain ⟨h1, h2⟩ := Bool.and_eq_true_iff.mp (show (noStars es && cvTs C sc l es) = true from h)
    obtain ⟨h3, h4⟩ := ae_len (env := X.env) h1
    exact g_tup a.gd.calm (sndTs a h1 h2) (by rw [h3]; exact cvTs_len h2) h4
theorem sndTs (a : At er C us sc X Z) : ∀ {l : TgL} {es : List Expr}, noStars es = true → cvTs C sc l es = true → PGs X es (tGs X.K l)
  | .nil, [], _, _ => g_nil
  | .cons t l, e :: es, hn, h => by
    obtain ⟨h1, h2⟩ := Bool.and_eq_true_iff.mp (show (cvT C sc t e && cvTs C sc l es) = true from h)
    obtain ⟨n1, n2⟩ := Bool.and_eq_true_iff.mp hn
    exact g_cons (sndT a h1) (sndTs a n2 h2) (ae_of n1)
theorem cvTs_len : ∀ {l : TgL} {es : List Expr}, cvTs C sc l es = true → es.length = l.len
  | .nil, [], _ => rfl
  | .cons t l, e :: es, h => by
    obtain ⟨_, h2⟩ := Bool.and_eq_true_iff.mp (show (cvT C sc t e && cvTs C sc l es) = true from h)
    simp [TgL.len, cvTs_len h2]
end
end
end Wn
end

section
set_option Elab.async false
set_option linter.all false
set_option maxRecDepth 100000
set_option maxHeartbeats 800000
namespace Wn
open PySem PySem.Spec PyProof.Rows L2
section
variable {er : ER} {C : Ct} {us : List Fun}
theorem At.callee {sc : Sc} {X : Cx} {Z : ZS} (a : At er C us sc X Z) {i n : Nat} {x : Str} (h : callC C i n x = true) : ∃ ps, ps.length = n ∧ Cal er X x ps (us.getD i fun _ _ => .bad) := by
  unfold callC at h
  split at h
  · rename_i y ps e
    simp only [Bool.and_eq_true, beq_iff_eq] at h
    obtain ⟨rfl, h2⟩ := h
    exact ⟨ps, h2, a.cal i _ ps e⟩
  · cases h
theorem At.calleeK {sc : Sc} {X : Cx} {Z : ZS} (a : At er C us sc X Z) {i n : Nat} {x : Str} {ks : List Keyword} (h : kwC C i n x ks = true) : ∃ ps, ps.length = n ∧ kwOk ks ps = true ∧ Cal er X x ps (us.getD i fun _ _ => .bad) := by
  unfold kwC at h
  split at h
  · rename_i y ps e
    simp only [Bool.and_eq_true, beq_iff_eq] at h
    obtain ⟨⟨rfl, h2⟩, h3⟩ := h
    exact ⟨ps, h2, h3, a.cal i _ ps e⟩
  · cases h
theorem PE.eqv {X : Cx} {e : Expr} {Z : ZS} {f g : Fe} (h : PE X e (tM X.K Z f)) (k : ∀ δ M, g δ M = f δ M) : PE X e (tM X.K Z g) := by
  have : g = f := by funext δ M; exact k δ M
  rw [this]; exact h
theorem cst_r {X : Cx} {Z : ZS} {d : D} {c : Const} {k : Nat} {p : Pos} (h : cstC d c = true) : PE X (.Constant c k p) (tM X.K Z (eCst d)) := by
  unfold cstC at h
  split at h
  · exact r_non
  · rw [eq_of_beq h]; exact r_bl
  · rw [eq_of_beq h]; exact r_int
  · rw [eq_of_beq h]; exact r_str
  · cases h
/-- a thing that is walked as it stands: its items -/
theorem i_one {X : Cx} {Z : ZS} {tg e : Expr} {fa : Fe} {k : D → Mem → Res (List D)} (h : PI X tg e (tI X.K Z (iSeq k fa))) : PI X tg e (tI X.K Z (fun δ => bnd (lCons fa lNil δ) fun ds M => match ds with | [d] => k d M | _ => .bad)) := by
  have : (fun δ => bnd (lCons fa lNil δ) fun ds M => match ds with | [d] => k d M | _ => .bad) = iSeq k fa := by
    funext δ M
    unfold iSeq lCons lNil bnd ret
    cases fa δ M <;> rfl
  rw [this]; exact h
theorem len1 {es : List Expr} (h : es.length = 1) : ∃ x, es = [x] := by
  match es, h with
  | [x], _ => exact ⟨x, rfl⟩
theorem len2 {es : List Expr} (h : es.length = 2) : ∃ x y, es = [x, y] := by
  match es, h with
  | [x, y], _ => exact ⟨x, y, rfl⟩
theorem len3 {es : List Expr} (h : es.length = 3) : ∃ x y z, es = [x, y, z] := by
  match es, h with
  | [x, y, z], _ => exact ⟨x, y, z, rfl⟩
/-- what is walked, by its kind -/
theorem snd_iter {sc : Sc} {X : Cx} {Z : ZS} (a : At er C us sc X Z) {k : ItK} {ia : EL} {tg iter : Expr} (hk : k.plain = false) (h : isC C sc k iter = true) (hn : noStars (args0 iter) = true) (hl : (args0 iter).length = k.num) (hp : PA X (args0 iter) (tL X.K Z (denL us ia))) (ht : k.two = true → isTu tg = true) :
    PI X tg iter (tI X.K Z (denI k (denL us ia))) := by
  unfold isC at h
  split at h
  · rename_i x p es p2
    simp only [Bool.and_eq_true, beq_iff_eq] at h
    obtain ⟨rfl, h2⟩ := h
    obtain ⟨g1, g2⟩ := a.bl h2
    replace hn : noStars es = true := hn
    replace hl : es.length = k.num := hl
    replace hp : PA X es (tL X.K Z (denL us ia)) := hp
    cases k with
    | lst => cases hk
    | tup => cases hk
    | str => cases hk
    | rng1 =>
      obtain ⟨y, rfl⟩ := len1 hl
      exact i_range1 g1 g2 hp (star_of (Bool.and_eq_true_iff.mp hn).1)
    | rng2 =>
      obtain ⟨y, z, rfl⟩ := len2 hl
      obtain ⟨n1, n2⟩ := Bool.and_eq_true_iff.mp hn
      have e2 : starEach [z] X.env = [(false, eval z X.env)] := star_of (Bool.and_eq_true_iff.mp n2).1
      exact i_range2 g1 g2 hp (by rw [star_of n1, e2]) e2
    | rng3 =>
      obtain ⟨y, z, w, rfl⟩ := len3 hl
      obtain ⟨n1, n2⟩ := Bool.and_eq_true_iff.mp hn
      exact i_range3 g1 g2 hp (star_of n1) (back_plain n2)
    | enu =>
      obtain ⟨y, rfl⟩ := len1 hl
      have z := ht rfl
      cases tg with
      | Tuple es k p => exact i_enum g1 g2 hp (star_of (Bool.and_eq_true_iff.mp hn).1)
      | _ => cases z
    | zip =>
      obtain ⟨y, z, rfl⟩ := len2 hl
      obtain ⟨n1, n2⟩ := Bool.and_eq_true_iff.mp hn
      have z := ht rfl
      cases tg with
      | Tuple es k p => exact i_zip g1 g2 hp (star_of n1) (back_plain n2)
      | _ => cases z
  · cases h
theorem AftB.same {K : PySem.W.Frag} {H : Hp} {r : List Addr} {M : Mem} {m m' : Res Bool} {Q : Bool → Hp → Prop} {Z : ZK} (h : AftB K Z H r M m Q) (e : m = m') : AftB K Z H r M m' Q := e ▸ h
mutual
theorem sndE : ∀ (e : E) {sc : Sc} {X : Cx} {Z : ZS} {x : Expr}, At er C us sc X Z → cv C e sc x = true → PE X x (tM X.K Z (den us e))
  | .var i, sc, X, Z, x, a, h => by
    unfold cv at h
    split at h
    · rename_i y p
      simp only [Bool.and_eq_true, Bool.not_eq_true'] at h
      obtain ⟨⟨⟨h1, h2⟩, h3⟩, h4⟩ := h
      exact r_var (by rw [a.N]; exact at_of h1) (by rw [a.scp]; exact vis_of h2) h3 h4
    · cases h
  | .cst d, sc, X, Z, x, a, h => by
    unfold cv at h
    split at h
    · exact cst_r h
    · cases h
  | .glo y d, sc, X, Z, x, a, h => by
    unfold cv at h
    split at h
    · rename_i z p
      simp only [Bool.and_eq_true, beq_iff_eq, List.any_eq_true] at h
      obtain ⟨⟨rfl, h2⟩, ⟨q1, q2⟩, hm, e1, e2⟩ := h
      obtain ⟨g1, g2⟩ := a.gl h2
      have e1 : q1 = y := e1
      have e2 := eqD_eq e2
      have e2 : q2 = d := e2
      subst e1 e2
      obtain ⟨u, v, m1, m2, m3⟩ := a.con _ hm
      exact r_glo g1 m1 m2 m3 g2
    · cases h
  | .tyn t, sc, X, Z, x, a, h => by
    unfold cv at h
    split at h
    · rename_i z p
      simp only [Bool.and_eq_true, beq_iff_eq] at h
      obtain ⟨rfl, h2⟩ := h
      obtain ⟨g1, g2⟩ := a.bl h2
      exact r_ty g1 g2 t.hv t.nn t.nd
    · cases h
  | .op o u v, sc, X, Z, x, a, h => by
    unfold cv at h
    split at h
    · simp only [Bool.and_eq_true, decide_eq_true_eq] at h
      obtain ⟨⟨rfl, h1⟩, h2⟩ := h
      exact r_bin (o.ok X a.gd) (sndE u a h1) (sndE v a h2)
    · cases h
  | .cmp o u v, sc, X, Z, x, a, h => by
    unfold cv at h
    split at h
    · simp only [Bool.and_eq_true, decide_eq_true_eq] at h
      obtain ⟨⟨⟨rfl, h0⟩, h1⟩, h2⟩ := h
      exact r_cmp (o.ok X a.gd) (sndE u a h1) (sndE v a h2) (bi_of h0)
    · cases h
  | .chn o o' u v t, sc, X, Z, x, a, h => by
    unfold cv at h
    split at h
    · simp only [Bool.and_eq_true, decide_eq_true_eq] at h
      obtain ⟨⟨⟨⟨⟨rfl, rfl⟩, h0⟩, h1⟩, h2⟩, h3⟩ := h
      exact r_chain (o.ok X a.gd) (o'.ok X a.gd) (sndE u a h1) (sndE v a h2) (sndE t a h3) (lm_of h0)
    · cases h
  | .neg u, sc, X, Z, x, a, h => by
    unfold cv at h
    split at h
    · exact r_neg (sndE u a h)
    · cases h
  | .not u, sc, X, Z, x, a, h => by
    unfold cv at h
    split at h
    · exact r_not (sndE u a h)
    · cases h
  | .and u v, sc, X, Z, x, a, h => by
    unfold cv at h
    split at h
    · rw [Bool.and_eq_true] at h
      obtain ⟨h1, h2⟩ := h
      split at h2
      · exact r_and (sndE u a h1) (r_one (sndE v a h2))
      · exact r_and (sndE u a h1) (sndE v a h2)
    · cases h
  | .or u v, sc, X, Z, x, a, h => by
    unfold cv at h
    split at h
    · rw [Bool.and_eq_true] at h
      obtain ⟨h1, h2⟩ := h
      split at h2
      · exact r_or (sndE u a h1) (r_one (sndE v a h2))
      · exact r_or (sndE u a h1) (sndE v a h2)
    · cases h
  | .ife c u v, sc, X, Z, x, a, h => by
    unfold cv at h
    split at h
    · simp only [Bool.and_eq_true] at h
      obtain ⟨⟨h0, h1⟩, h2⟩ := h
      exact r_if (sndB c a h0) (sndE u a h1) (sndE v a h2)
    · cases h
  | .ix u v, sc, X, Z, x, a, h => by
    unfold cv at h
    split at h
    · simp only [Bool.and_eq_true] at h
      obtain ⟨⟨h0, h1⟩, h2⟩ := h
      exact r_ix (IxS.or ixs (ixsD (by have := a.gd.un; omega))) (sndE u a h1) (sndE v a h2) (ix_of h0)
    · cases h
  | .sl0 u, sc, X, Z, x, a, h => by
    unfold cv at h
    split at h
    · exact r_sl sls (sndE u a h) o_none o_none
    · cases h
  | .sl1 u v, sc, X, Z, x, a, h => by
    unfold cv at h
    split at h
    · simp only [Bool.and_eq_true] at h
      exact r_sl sls (sndE u a h.1) (o_some (sndE v a h.2)) o_none
    · cases h
  | .sl2 u v, sc, X, Z, x, a, h => by
    unfold cv at h
    split at h
    · simp only [Bool.and_eq_true] at h
      exact r_sl sls (sndE u a h.1) o_none (o_some (sndE v a h.2))
    · cases h
  | .sl3 u v w, sc, X, Z, x, a, h => by
    unfold cv at h
    split at h
    · simp only [Bool.and_eq_true] at h
      exact r_sl sls (sndE u a h.1.1) (o_some (sndE v a h.1.2)) (o_some (sndE w a h.2))
    · cases h
  | .tup l, sc, X, Z, x, a, h => by
    unfold cv at h
    split at h
    · exact r_tup (sndL l a h)
    · cases h
  | .lst l, sc, X, Z, x, a, h => by
    unfold cv at h
    split at h
    · exact r_lst (sndL l a h)
    · cases h
  | .cel l, sc, X, Z, x, a, h => by
    unfold cv at h
    split at h
    · exact r_cel (sndL l a h)
    · cases h
  | .bf f l, sc, X, Z, x, a, h => by
    unfold cv at h
    split at h
    · rename_i y p e es p2
      rw [Bool.and_eq_true, Bool.and_eq_true, Bool.and_eq_true, beq_iff_eq] at h
      obtain ⟨⟨⟨rfl, h2⟩, h3⟩, h4⟩ := h
      obtain ⟨g1, g2⟩ := a.bl h2
      obtain ⟨n1, n2⟩ := Bool.and_eq_true_iff.mp h3
      exact r_callB (f.ok X a.gd) g1 g2 f.hv (sndL l a h4) f.nn f.nd (star_of n1) (back_plain n2)
    · cases h
  | .bt f l, sc, X, Z, x, a, h => by
    unfold cv at h
    split at h
    · rename_i y p e es p2
      rw [Bool.and_eq_true, Bool.and_eq_true, Bool.and_eq_true, beq_iff_eq] at h
      obtain ⟨⟨⟨rfl, h2⟩, h3⟩, h4⟩ := h
      obtain ⟨g1, g2⟩ := a.bl h2
      obtain ⟨n1, n2⟩ := Bool.and_eq_true_iff.mp h3
      exact r_callT (f.ok X a.gd) g1 g2 f.hv (sndL l a h4) f.nn f.nd (star_of n1) (back_plain n2)
    · cases h
  | .ms m u l, sc, X, Z, x, a, h => by
    unfold cv at h
    split at h
    · rename_i o n ap e es cp
      rw [Bool.and_eq_true, Bool.and_eq_true, Bool.and_eq_true, Bool.and_eq_true, Bool.and_eq_true, Bool.and_eq_true, decide_eq_true_eq] at h
      obtain ⟨⟨⟨⟨⟨⟨h0, h1⟩, h2⟩, h3⟩, h4⟩, h5⟩, h6⟩ := h
      have h0 := eq_of_beq h0
      subst h0
      obtain ⟨n1, n2⟩ := Bool.and_eq_true_iff.mp h3
      exact r_mts F.plainAttrs_str m.slot m.ty (m.ok X a.gd) (sndE u a h5) (sndL l a h6) (base_of h1) (few_of h3 h4) h2 (star_of n1) (back_plain n2)
    · cases h
  | .ml m u l, sc, X, Z, x, a, h => by
    unfold cv at h
    split at h
    · rename_i o n ap e es cp
      rw [Bool.and_eq_true, Bool.and_eq_true, Bool.and_eq_true, Bool.and_eq_true, Bool.and_eq_true, Bool.and_eq_true, decide_eq_true_eq] at h
      obtain ⟨⟨⟨⟨⟨⟨h0, h1⟩, h2⟩, h3⟩, h4⟩, h5⟩, h6⟩ := h
      have h0 := eq_of_beq h0
      subst h0
      obtain ⟨n1, n2⟩ := Bool.and_eq_true_iff.mp h3
      exact r_mtl F.plainAttrs_list m.slot m.ty (m.ok X a.gd) (sndE u a h5) (sndL l a h6) (base_of h1) (few_of h3 h4) h2 (star_of n1) (back_plain n2)
    · cases h
  | .md m u l, sc, X, Z, x, a, h => by
    unfold cv at h
    split at h
    · rename_i o n ap e es cp
      rw [Bool.and_eq_true, Bool.and_eq_true, Bool.and_eq_true, Bool.and_eq_true, Bool.and_eq_true, Bool.and_eq_true, decide_eq_true_eq] at h
      obtain ⟨⟨⟨⟨⟨⟨h0, h1⟩, h2⟩, h3⟩, h4⟩, h5⟩, h6⟩ := h
      have h0 := eq_of_beq h0
      subst h0
      obtain ⟨n1, n2⟩ := Bool.and_eq_true_iff.mp h3
      exact r_mtd F.plainAttrs_dict m.slot m.ty (m.ok X a.gd) (sndE u a h5) (sndL l a h6) (base_of h1) (few_of h3 h4) h2 (star_of n1) (back_plain n2)
    · cases h
  | .fn i n l, sc, X, Z, x, a, h => by
    unfold cv at h
    split at h
    · rename_i y p es p2
      simp only [Bool.and_eq_true] at h
      obtain ⟨⟨⟨h1, h2⟩, h3⟩, h4⟩ := h
      obtain ⟨ps, rfl, c⟩ := a.callee h1
      obtain ⟨g1, g2⟩ := a.gl h2
      cases es with
      | nil =>
        cases l with
        | nil => exact r_fn0 c a.gd.gua a.tk g1 g2
        | cons _ _ => cases h4
        | star _ _ => cases h4
      | cons e es =>
        obtain ⟨n1, n2⟩ := Bool.and_eq_true_iff.mp h3
        exact r_fn c a.gd.gua a.tk g1 (sndL l a h4) g2 (star_of n1) (back_plain n2)
    · cases h
  | .fk i n l, sc, X, Z, x, a, h => by
    unfold cv at h
    split at h
    · rename_i y p k ks p2
      rw [Bool.and_eq_true, Bool.and_eq_true, Bool.and_eq_true] at h
      obtain ⟨⟨⟨h1, h2⟩, h3⟩, h4⟩ := h
      obtain ⟨ps, rfl, hk, c⟩ := a.calleeK h1
      obtain ⟨g1, g2⟩ := a.gl h2
      exact r_fnk c a.gd.gua a.tk g1 (sndK l a h3 h4) g2 hk
    · cases h
  | .lcl u, sc, X, Z, x, a, h => by
    unfold cv at h
    split at h
    · simp only [Bool.and_eq_true, beq_iff_eq] at h
      obtain ⟨⟨⟨rfl, h1⟩, h3⟩, h4⟩ := h
      exact r_lcl a.gd.calm (a.bl h1).1 (a.bl h1).2 (sndE u a h4) h3
    · cases h
  | .dcp u, sc, X, Z, x, a, h => by
    unfold cv at h
    split at h
    · simp only [Bool.and_eq_true, beq_iff_eq] at h
      obtain ⟨⟨⟨rfl, h1⟩, h3⟩, h4⟩ := h
      exact r_dcp a.gd.calm (a.bl h1).1 (a.bl h1).2 (sndE u a h4) (star_of h3)
    · cases h
  | .lr1 u, sc, X, Z, x, a, h => by
    unfold cv at h
    split at h
    · simp only [Bool.and_eq_true, beq_iff_eq] at h
      obtain ⟨⟨⟨⟨⟨rfl, h1⟩, rfl⟩, h2⟩, h3⟩, h4⟩ := h
      exact r_lrg1 a.gd.calm (a.bl h1).1 (a.bl h1).2 (a.bl h2).1 (a.bl h2).2 (sndE u a h4) h3
    · cases h
  | .lr2 u v, sc, X, Z, x, a, h => by
    unfold cv at h
    split at h
    · simp only [Bool.and_eq_true, beq_iff_eq] at h
      obtain ⟨⟨⟨⟨⟨⟨⟨rfl, h1⟩, rfl⟩, h2⟩, h3⟩, h4⟩, h5⟩, h6⟩ := h
      exact r_lrg2 a.gd.calm (a.bl h1).1 (a.bl h1).2 (a.bl h2).1 (a.bl h2).2 (sndE u a h5) (sndE v a h6) h3 h4
    · cases h
  | .lc b k ia t vs c e, sc, X, Z, x, a, h => by
    obtain ⟨elt, tg, iter, ifs, scope, lp, rfl, L⟩ := sndLc b k ia t vs c e a h
    have e1 : (ownC C vs).map (·.2) = vs := by unfold ownC; rw [List.map_map]; exact List.map_id _
    have z1 := r_lc (pos := lp) L
    have z2 := r_lcc (pos := lp) L
    rw [e1] at z1 z2
    cases b with
    | true => exact z2
    | false => exact z1
termination_by e => 2 * sizeOf e
theorem sndLc : ∀ (b : Bool) (k : ItK) (ia : EL) (t : Tg) (vs : List Nat) (c : B) (e : E) {sc : Sc} {X : Cx} {Z : ZS} {x : Expr}, At er C us sc X Z → cv C (.lc b k ia t vs c e) sc x = true →
    ∃ elt tg iter ifs scope lp, x = .ListComp elt [⟨tg, iter, ifs, 0⟩] scope lp ∧ LcOk X Z elt tg iter ifs scope (ownC C vs) (denI k (denL us ia)) t (denB us c) (den us e)
  | b, k, ia, t, vs, c, e, sc, X, Z, x, a, h => by
    unfold cv at h
    split at h
    · rename_i elt tg iter ifs ay scope lp
      rw [Bool.and_eq_true, Bool.and_eq_true, Bool.and_eq_true, Bool.and_eq_true, Bool.and_eq_true, Bool.and_eq_true, Bool.and_eq_true, decide_eq_true_eq] at h
      obtain ⟨⟨⟨⟨⟨⟨⟨rfl, h1⟩, h2⟩, h3⟩, h4⟩, h5⟩, h6⟩, h7⟩ := h
      refine ⟨elt, tg, iter, ifs, scope, lp, rfl, a.gd.calm, by rw [a.N]; exact a.nd, ?_, by rw [a.N, a.scp]; exact blkOk_by h1, fun s H Ca cl fp => sndT (a.blk s H Ca cl fp) h4, fun s H Ca cl fp => ?_, fun s H Ca cl fp => sndE e (a.blk s H Ca cl fp) h6, fs_of h2, fun i hi => ?_⟩
      · by_cases hk : k.plain = true
        · rw [if_pos hk, Bool.and_eq_true] at h3
          cases ia with
          | nil => cases h3.1
          | star _ _ => cases iter <;> first | (cases h3.1; done) | (cases h3.2; done)
          | cons u l =>
            replace h3 : (nStar iter && cv C u sc iter && cvL C l sc []) = true ∧ nStar iter = true := ⟨h3.1, h3.2⟩
            rw [Bool.and_eq_true, Bool.and_eq_true] at h3
            have hu := sndE u a h3.1.1.2
            cases l with
            | nil =>
              cases k with
              | lst => exact i_one (i_list hu)
              | tup => exact i_one (i_tup hu)
              | str => exact i_one (i_str hu)
              | _ => cases hk
            | cons _ _ => cases h3.1.2
            | star _ _ => cases h3.1.2
        · rw [if_neg hk, Bool.and_eq_true, Bool.and_eq_true, Bool.and_eq_true, Bool.and_eq_true, decide_eq_true_eq] at h3
          obtain ⟨⟨⟨⟨g1, g2⟩, g3⟩, g4⟩, g5⟩ := h3
          exact snd_iter a (by simpa using hk) g1 g2 g3 (sndL ia a g4) fun z => by rw [z] at g5; simpa using g5
      · split at h7
        · split at h7
          · exact ⟨fun pins s' σ H' Q I ⟨δ, r, M, E, S, w⟩ => pts_nil.run pins s' σ H' Q I (w _ r Ext.refl S)⟩
          · cases h7
        · exact pts_one (sndB c (a.blk s H Ca cl fp) h7)
        · cases h7
      · have z := List.all_eq_true.mp h5 i hi
        unfold ownC
        rw [List.map_map]
        have e1 : List.map ((fun x : Str × Nat => x.2) ∘ fun i => (C.N.getD i ⟨#[]⟩, i)) vs = vs := List.map_id _
        show i ∈ List.map ((fun x : Str × Nat => x.2) ∘ fun i => (C.N.getD i ⟨#[]⟩, i)) vs
        rw [e1]
        simpa using z
    · cases h
termination_by b k ia t vs c e => 2 * (sizeOf ia + sizeOf c + sizeOf e) + 1
theorem sndB : ∀ (b : B) {sc : Sc} {X : Cx} {Z : ZS} {x : Expr}, At er C us sc X Z → cvB C b sc x = true → PT X x (Wn.tB X.K Z (denB us b))
  | .yes, sc, X, Z, x, a, h => by cases h
  | .tru e, sc, X, Z, x, a, h => by
    replace h : (cv C e sc x && (okTe x || isCmp x)) = true := h
    rw [Bool.and_eq_true, Bool.or_eq_true] at h
    obtain ⟨h1, h2⟩ := h
    rcases h2 with h2 | h2
    · exact t_tru (sndE e a h1) (te_of h2)
    · cases e with
      | cmp o u v =>
        unfold cv at h1
        split at h1
        · simp only [Bool.and_eq_true, decide_eq_true_eq] at h1
          obtain ⟨⟨⟨rfl, g0⟩, g1⟩, g2⟩ := h1
          exact t_cmp (o.ok X a.gd) (sndE u a g1) (sndE v a g2) (bi_of g0)
        · cases h1
      | chn o o' u v t =>
        unfold cv at h1
        split at h1
        · simp only [Bool.and_eq_true, decide_eq_true_eq] at h1
          obtain ⟨⟨⟨⟨⟨rfl, rfl⟩, g0⟩, g1⟩, g2⟩, g3⟩ := h1
          exact t_chain (o.ok X a.gd) (o'.ok X a.gd) (sndE u a g1) (sndE v a g2) (sndE t a g3) (lm_of g0)
        · cases h1
      | _ =>
        unfold cv at h1
        split at h1 <;> first | (cases h2; done) | (cases h1; done)
  | .not u, sc, X, Z, x, a, h => by
    unfold cvB at h
    split at h
    · exact t_not (sndB u a h)
    · cases h
  | .and u v, sc, X, Z, x, a, h => by
    unfold cvB at h
    split at h
    · rw [Bool.and_eq_true] at h
      obtain ⟨h1, h2⟩ := h
      split at h2
      · exact (w_and (sndB u a h1) (w_and1 (sndB v a h2))).pt
      · exact (w_and (sndB u a h1) (sndW v a h2)).pt
    · cases h
  | .or u v, sc, X, Z, x, a, h => by
    unfold cvB at h
    split at h
    · rw [Bool.and_eq_true] at h
      obtain ⟨h1, h2⟩ := h
      split at h2
      · exact (w_or (sndB u a h1) (w_or1 (sndB v a h2))).pt
      · exact (w_or (sndB u a h1) (sndW v a h2)).pt
    · cases h
termination_by b => 2 * sizeOf b
theorem sndW : ∀ (b : B) {sc : Sc} {X : Cx} {Z : ZS} {op : BoolOp} {vs : List Expr} {p : Pos}, At er C us sc X Z → cvB C b sc (.BoolOp op vs p) = true → PW X (.BoolOp op vs p) (Wn.tB X.K Z (denB us b))
  | .yes, sc, X, Z, op, vs, p, a, h => by cases h
  | .tru e, sc, X, Z, op, vs, p, a, h => by
    replace h : (cv C e sc (.BoolOp op vs p) && (false || false)) = true := h
    simp at h
  | .not u, sc, X, Z, op, vs, p, a, h => by cases h
  | .and u v, sc, X, Z, op, vs, p, a, h => by
    unfold cvB at h
    split at h
    · rename_i x y rest p' heq
      cases heq
      rw [Bool.and_eq_true] at h
      obtain ⟨h1, h2⟩ := h
      split at h2
      · exact w_and (sndB u a h1) (w_and1 (sndB v a h2))
      · exact w_and (sndB u a h1) (sndW v a h2)
    · cases h
  | .or u v, sc, X, Z, op, vs, p, a, h => by
    unfold cvB at h
    split at h
    · rename_i x y rest p' heq
      cases heq
      rw [Bool.and_eq_true] at h
      obtain ⟨h1, h2⟩ := h
      split at h2
      · exact w_or (sndB u a h1) (w_or1 (sndB v a h2))
      · exact w_or (sndB u a h1) (sndW v a h2)
    · cases h
termination_by b => 2 * sizeOf b
theorem sndL : ∀ (l : EL) {sc : Sc} {X : Cx} {Z : ZS} {xs : List Expr}, At er C us sc X Z → cvL C l sc xs = true → PA X xs (tL X.K Z (denL us l))
  | .nil, sc, X, Z, xs, a, h => by
    unfold cvL at h
    split at h
    · exact l_nil
    · cases h
  | .cons u l, sc, X, Z, xs, a, h => by
    unfold cvL at h
    split at h
    · simp only [Bool.and_eq_true] at h
      exact l_cons (sndE u a h.1.2) (sndL l a h.2) (star_of h.1.1)
    · cases h
  | .star u l, sc, X, Z, xs, a, h => by
    unfold cvL at h
    split at h
    · simp only [Bool.and_eq_true] at h
      exact l_star (sndE u a h.1) (sndL l a h.2)
    · cases h
termination_by l => 2 * sizeOf l
theorem sndK : ∀ (l : EL) {sc : Sc} {X : Cx} {Z : ZS} {ks : List Keyword}, At er C us sc X Z → noStars (kwV ks) = true → cvL C l sc (kwV ks) = true → PK X ks (tL X.K Z (denL us l))
  | .nil, sc, X, Z, ks, a, hn, h => by
    cases ks with
    | nil => exact k_nil
    | cons k ks => obtain ⟨n, v, p⟩ := k; cases h
  | .cons u l, sc, X, Z, ks, a, hn, h => by
    cases ks with
    | nil => cases h
    | cons k ks =>
      obtain ⟨n, v, p⟩ := k
      replace h : (nStar v && cv C u sc v && cvL C l sc (kwV ks)) = true := h
      simp only [Bool.and_eq_true] at h
      exact k_cons (sndE u a h.1.2) (sndK l a (Bool.and_eq_true_iff.mp hn).2 h.2)
  | .star u l, sc, X, Z, ks, a, hn, h => by
    cases ks with
    | nil => cases h
    | cons k ks =>
      obtain ⟨n, v, p⟩ := k
      have n1 := (Bool.and_eq_true_iff.mp (show (nStar v && noStars (kwV ks)) = true from hn)).1
      cases v <;> first | (cases h; done) | (cases n1; done)
termination_by l => 2 * sizeOf l
end
end
end Wn
end

section
set_option Elab.async false
set_option linter.all false
set_option maxRecDepth 100000
set_option maxHeartbeats 800000
namespace Wn
open PySem PySem.Spec PyProof.Rows L2
section
variable {er : ER} {C : Ct} {us : List Fun}
theorem sw_yes {elt : Expr} {gs : List Comprehension} {scope : Scope} {pos py : Pos} {y : Str} {l : Nat} {env : PySem.Env} {sc : Scope} (he : env.scope = sc) (h : swC sc y py pos scope = true) : swapsWith (.ListComp elt gs scope pos) (some (.Name y py)) l env = pure true := by
  unfold swC at h
  simp only [Bool.and_eq_true, Bool.not_eq_true'] at h
  obtain ⟨⟨⟨h1, h2⟩, h3⟩, h4⟩ := h
  subst he
  refine sw_true ?_ (isK_eq h2) h3 h4
  split at h1
  · assumption
  · cases h1
/-- a def's body: what is given of the context beside -/
structure Bo (X : Cx) : Prop where
  own : PassesOwn (model X.prog X.w) X.A X.env X.xe
  kind : X.env.scope.kind = .function
mutual
theorem sndS : ∀ (s : S) {sc : Sc} {X : Cx} {Z : ZS} {x : Stmt}, At er C us sc X Z → Bo X → cvS C s sc x = true → PS X x (tS X.K Z (denS us s))
  | .asg t e, sc, X, Z, x, a, b, h => by
    unfold cvS at h
    split at h
    · rename_i tg y p
      rw [Bool.and_eq_true, Bool.and_eq_true, Bool.and_eq_true] at h
      obtain ⟨⟨⟨h1, h2⟩, h3⟩, h4⟩ := h
      by_cases h5 : ((okSw y || isTu tg) && (okTu tg || okTv y || foldT tg y)) = true
      · rw [Bool.and_eq_true] at h5
        obtain ⟨h6, h7⟩ := h5
        refine s_asg (sndE e a h2) (sndT a h1) ?_ ?_ (ae_of (es := []) h3)
        · rw [Bool.or_eq_true] at h6
          rcases h6 with h6 | h6
          · exact sws_of h6
          · cases tg with
            | Tuple es k p => exact sws_tup
            | _ => cases h6
        · rw [Bool.or_eq_true, Bool.or_eq_true] at h7
          rcases h7 with (h7 | h7) | h7
          · exact st_of h7
          · exact st_of' h7
          · unfold foldT at h7
            split at h7
            · exact st_fold h7
            · cases h7
      · rw [Bool.or_eq_true] at h4
        have h4 := h4.resolve_left h5
        unfold lcN at h4
        split at h4
        · rename_i i ny py elt gs scope lp hh0
          cases e with
          | lc bb k ia t vs c e =>
            obtain ⟨elt', tg', iter, ifs, scope', lp', he, L⟩ := sndLc bb k ia t vs c e a h2
            cases he
            replace h1 : (atC C.N i ny && locC sc.ow ny) = true := h1
            rw [Bool.and_eq_true] at h1
            have e1 : (ownC C vs).map (·.2) = vs := by unfold ownC; rw [List.map_map]; exact List.map_id _
            have hl : X.env.scope.names.lookup ny = some .local := by
              unfold swC at h4
              simp only [Bool.and_eq_true] at h4
              rw [a.scp]
              exact isK_eq h4.1.1.2
            have z1 := s_setLc (spos := p) L (by rw [a.N]; exact at_of h1.1) hl (sw_yes a.scp h4)
            have z2 := s_setLcC (spos := p) L (by rw [a.N]; exact at_of h1.1) hl (sw_yes a.scp h4)
            rw [e1] at z1 z2
            cases bb with
            | true => exact z2
            | false => exact z1
          | _ =>
            unfold cv at h2
            split at h2 <;> first | (cases h2; done) | (rename_i hh; cases hh; done)
        · cases h4
    · cases h
  | .par is l, sc, X, Z, x, a, b, h => by
    unfold cvS at h
    have hbk : X.env.blockKind = .function := by unfold Env.blockKind; rw [b.kind]; rfl
    have kof : ∀ {y : Str}, isK (sc.sc.names.lookup y) .local = true → X.env.scope.names.lookup y = some .local := fun {y} h => by rw [a.scp]; exact isK_eq h
    split at h
    · simp only [Bool.and_eq_true, Bool.not_eq_true', decide_eq_true_eq] at h
      obtain ⟨⟨⟨⟨⟨⟨⟨⟨⟨⟨h1, h2⟩, h3⟩, h4⟩, h5⟩, h6⟩, h7⟩, h8⟩, h9⟩, h10⟩, h11⟩ := h
      exact s_par2 a.gd.calm (by rw [a.N]; exact a.nd) (by rw [a.N]; exact at_of h1) (by rw [a.N]; exact at_of h2) h3 (kof h4) (kof h5) (sndL l a h11) (sp2 hbk (kof h4) (kof h5) h6 (by simpa using h10) h7 h8 h9) sws_tup
    · simp only [Bool.and_eq_true, Bool.not_eq_true', decide_eq_true_eq] at h
      obtain ⟨⟨⟨⟨⟨⟨⟨⟨⟨⟨⟨⟨⟨⟨⟨⟨⟨h1, h2⟩, h3⟩, i1⟩, i2⟩, i3⟩, h4⟩, h5⟩, h6⟩, l1⟩, l2⟩, h7⟩, h8⟩, h9⟩, n1⟩, n2⟩, n3⟩, h11⟩ := h
      exact s_par3 a.gd.calm (by rw [a.N]; exact a.nd) (by rw [a.N]; exact at_of h1) (by rw [a.N]; exact at_of h2) (by rw [a.N]; exact at_of h3) i1 i2 i3 (kof h4) (kof h5) (kof h6) (sndL l a h11)
        (sp3 hbk (kof h4) (kof h5) (kof h6) l1 l2 (by simpa using n1) (by simpa using n2) (by simpa using n3) h7 h8 h9) sws_tup
    · cases h
  | .set o i e, sc, X, Z, x, a, b, h => by
    unfold cvS at h
    split at h
    · simp only [Bool.and_eq_true] at h
      obtain ⟨⟨⟨⟨h1, h2⟩, h3⟩, h4⟩, h5⟩ := h
      exact s_setA (by have := a.gd.un; omega) (sndE e a h5) (sndE o a h3) (sndE i a h4) (sws_of h2) (st_of rfl) (ae_of (es := []) rfl) (as_sub h1)
    · cases h
  | .ex e, sc, X, Z, x, a, b, h => by
    unfold cvS at h
    split at h
    · simp only [Bool.and_eq_true] at h
      exact s_ex (sndE e a h.2) (sw_of h.1)
    · cases h
  | .doc, sc, X, Z, x, a, b, h => by
    unfold cvS at h
    split at h
    · exact s_doc
    · cases h
  | .ife c u v, sc, X, Z, x, a, b, h => by
    unfold cvS at h
    split at h
    · simp only [Bool.and_eq_true] at h
      exact s_if (sndB c a h.1.1) (sndSL u a b h.1.2) (sndSL v a b h.2)
    · cases h
  | .whl n c u, sc, X, Z, x, a, b, h => by
    unfold cvS at h
    split at h
    · simp only [Bool.and_eq_true] at h
      exact s_while b.own (sndB c a h.1) (sndSL u a b h.2)
    · cases h
  | .for k ia t u, sc, X, Z, x, a, b, h => by
    unfold cvS at h
    split at h
    · rename_i tg iter body p
      rw [Bool.and_eq_true, Bool.and_eq_true, Bool.and_eq_true] at h
      obtain ⟨⟨⟨h2, h3⟩, h4⟩, h5⟩ := h
      refine s_for b.own a.gd.calm ?_ (sndT a h4) (sndSL u a b h5) (fs_of h2)
      by_cases hk : k.plain = true
      · rw [if_pos hk, Bool.and_eq_true] at h3
        cases ia with
        | nil => cases h3.1
        | star _ _ => cases iter <;> first | (cases h3.1; done) | (cases h3.2; done)
        | cons w l =>
          replace h3 : (nStar iter && cv C w sc iter && cvL C l sc []) = true ∧ nStar iter = true := ⟨h3.1, h3.2⟩
          rw [Bool.and_eq_true, Bool.and_eq_true] at h3
          have hu := sndE w a h3.1.1.2
          cases l with
          | nil =>
            cases k with
            | lst => exact i_one (i_list hu)
            | tup => exact i_one (i_tup hu)
            | str => exact i_one (i_str hu)
            | _ => cases hk
          | cons _ _ => cases h3.1.2
          | star _ _ => cases h3.1.2
      · rw [if_neg hk, Bool.and_eq_true, Bool.and_eq_true, Bool.and_eq_true, Bool.and_eq_true, decide_eq_true_eq] at h3
        obtain ⟨⟨⟨⟨g1, g2⟩, g3⟩, g4⟩, g5⟩ := h3
        exact snd_iter a (by simpa using hk) g1 g2 g3 (sndL ia a g4) fun z => by rw [z] at g5; simpa using g5
    · cases h
  | .ret e, sc, X, Z, x, a, b, h => by
    unfold cvS at h
    split at h
    · exact s_ret (sndE e a h)
    · cases h
  | .retn, sc, X, Z, x, a, b, h => by
    unfold cvS at h
    split at h
    · exact s_retN
    · cases h
  | .brk, sc, X, Z, x, a, b, h => by
    unfold cvS at h
    split at h
    · exact s_brk
    · cases h
  | .cnt, sc, X, Z, x, a, b, h => by
    unfold cvS at h
    split at h
    · exact s_cnt
    · cases h
  | .pas, sc, X, Z, x, a, b, h => by
    unfold cvS at h
    split at h
    · exact s_pass
    · cases h
  | .frz i, sc, X, Z, x, a, b, h => by cases h
  | .nev, sc, X, Z, x, a, b, h => PS.cons ps_never fun E σ H ⟨δ, r, M, e, S, w⟩ => w.elim
termination_by s => sizeOf s
theorem sndSL : ∀ (l : SL) {sc : Sc} {X : Cx} {Z : ZS} {xs : List Stmt}, At er C us sc X Z → Bo X → cvSL C l sc xs = true → PSs X xs (tS X.K Z (denSL us l))
  | .nil, sc, X, Z, xs, a, b, h => by
    unfold cvSL at h
    split at h
    · exact ss_nil
    · cases h
  | .cons s l, sc, X, Z, xs, a, b, h => by
    unfold cvSL at h
    by_cases hf : isFrz s = true
    · rw [if_pos hf] at h
      cases s with
      | frz i => exact ss_frz (sndSL l a b h)
      | _ => cases hf
    · rw [if_neg hf] at h
      split at h
      · rw [Bool.and_eq_true] at h
        exact ss_cons (sndS s a b h.1) (sndSL l a b h.2)
      · cases h
termination_by l => sizeOf l
end
end

/-! ### the rule for a def -/
noncomputable def fnDef (us : List Fun) (tr : Bool) (n : Nat) (body : SL) : Fun := fnOf tr n (denSL us body)
/-- what stands in a def of a program: its parameters are plain ones -/
def pars (a : Arguments) : List Str := a.args.map (·.arg)
/-- a module's def known to the object -/
structure Def (K : PySem.W.Frag) (mg : Str → Option Value) (x : Str) (ps : List Str) (body : List Stmt) (scope : Scope) (f : Addr) (fd : FuncData) : Prop where
  g : mg x = some (.ref f)
  kp : PySem.W.keepIn K (.ref f) = true
  fn : ∃ (name qual : Str) (params : Arguments) (oc dV kV doc pm cdv ct : Value) (od an : Option Addr) (osl : Array (Option Value)), fd = PySem.W.fnOf name qual params body scope dV kV doc pm an cdv ct ∧ K.lookup f = some ⟨oc, od, .func fd, osl⟩ ∧ PySem.W.codeIn K cdv qual = true
  b1 : ∀ (s : Shared) (us : List Value), us.length = ps.length → BindsTo s fd ⟨us, []⟩ (ps.zip us)
  b2 : ∀ (s : Shared) (us : List Value), us.length = ps.length → BindsTo s fd ⟨[], ps.zip us⟩ (ps.zip us)
/-- a promise of a module's def, whatever is to be called at that depth -/
def Prm (er : ER) (P : Program) (w : World) (K : PySem.W.Frag) (mg : Str → Option Value) (base : Heap) (k : Nat) (x : Str) (ps : List Str) (F : Fun) : Prop :=
  ∃ f fd, mg x = some (.ref f) ∧ PySem.W.keepIn K (.ref f) = true ∧ FnG er P w K mg base k f fd ps F ∧ (∀ s us, us.length = ps.length → BindsTo s fd ⟨us, []⟩ (ps.zip us)) ∧ ∀ s us, us.length = ps.length → BindsTo s fd ⟨[], ps.zip us⟩ (ps.zip us)
theorem Prm.mono {er : ER} {P : Program} {w : World} {K : PySem.W.Frag} {mg : Str → Option Value} {base : Heap} {j k : Nat} {x : Str} {ps : List Str} {F : Fun} (p : Prm er P w K mg base j x ps F) (h : j ≤ k) : Prm er P w K mg base k x ps F :=
  let ⟨f, fd, a, b, c, d, e⟩ := p; ⟨f, fd, a, b, c.mono h, d, e⟩
def scopeC (N ps : List Str) (sc : Scope) : Bool := (match sc.kind with | .function => true | _ => false) && !sc.isCoroutine && !sc.isGenerator && decide N.Nodup && decide (N.take ps.length = ps) && (ps.all fun x => locC sc x) && (sc.names.all fun y => match y.2 with | .free => false | _ => true)
theorem scope_of {N ps : List Str} {sc : Scope} (h : scopeC N ps sc = true) : FnScope N ps sc := by
  unfold scopeC at h
  simp only [Bool.and_eq_true, Bool.not_eq_true', decide_eq_true_eq, List.all_eq_true] at h
  obtain ⟨⟨⟨⟨⟨⟨h1, h2⟩, h3⟩, h4⟩, h5⟩, h6⟩, h7⟩ := h
  refine ⟨?_, h2, h3, h4, h5, fun x hx => loc_of (h6 x hx), fun y hy z => ?_⟩
  · split at h1
    · assumption
    · cases h1
  · have q := h7 y hy
    rw [z] at q
    cases q
theorem def_ok {er : ER} {P : Program} {w : World} {K : PySem.W.Frag} {mg : Str → Option Value} {base : Heap} {k : Nat} {x : Str} {ps : List Str} {body : List Stmt} {scope : Scope} {f : Addr} {fd : FuncData} {C : Ct} {us : List Fun} {tr : Bool} {l : SL}
    (d : Def K mg x ps body scope f fd) (hs : scopeC C.N ps scope = true) (hcv : cvSL C l ⟨scope, scope⟩ body = true)
    (con : ∀ p ∈ C.cons, ∃ u v, mg p.1 = some u ∧ RelV v u ∧ ∀ H r, Rep K H r p.2 v) (blt : ∀ y, C.blts.contains y = true → mg y = none)
    (cal : ∀ i y qs, C.calls[i]? = some (y, qs) → Prm er P w K mg base k y qs (us.getD i fun _ _ => .bad)) : Prm er P w K mg base (k + 1) x ps (fnDef us tr C.N.length l) := by
  obtain ⟨name, qual, params, oc, dV, kV, doc, pm, cdv, ct, od, an, osl, e, lk, hcd⟩ := d.fn
  refine ⟨f, fd, d.g, d.kp, ?_, d.b1, d.b2⟩
  subst e
  have S := scope_of hs
  refine fng_of lk hcd S fun A outer s H E hr hga => ?_
  refine sndSL (er := er) l (sc := ⟨scope, scope⟩) (Z := fun _ => ZC er E) ⟨rfl, S.nd, rfl, ⟨rfl, ?_, hga⟩, fun y h => ⟨loc_of h, .inl rfl⟩, con, blt, fun i y qs e => ?_, ?_⟩ ⟨?_, S.kind⟩ hcv
  · have := hr.un
    show (A.deeper _).units + 66 < cLine
    omega
  · obtain ⟨g, gd, a1, a2, a3, a4, a5⟩ := cal i y qs e
    exact ⟨k, g, gd, a1, a2, hr, a3, a4, a5⟩
  · have tk := takes_of (X := cxOf (L2.CX P w) P w K mg base C.N qual scope f cdv A outer s H E) (E := E) rfl rfl rfl (E₁ := fun e' s'' => L2.CX P w outer H s E e' s'') rfl
    exact tk.imp fun c d σ H' ⟨e, r, M, h1, h2, h3⟩ => h3 c d h1
  · exact passes_of (X := cxOf (L2.CX P w) P w K mg base C.N qual scope f cdv A outer s H E) (K := fun e s'' => L2.CX P w outer H s E e s'') (E₁ := fun e' s'' => L2.CX P w outer H s E e' s'') rfl
end Wn
end

section
set_option Elab.async false
set_option linter.all false
set_option maxRecDepth 100000
set_option maxHeartbeats 800000
namespace Wn
open PySem PySem.Spec PyProof.Rows L2

/-! ### repr of lists and tuples -/
def isSeq : D → Bool
  | .tup _ => true
  | .lst _ => true
  | _ => false
def fRepr : Mem → D → Option D := fun _ x => if isSeq x = true then (match toPy x with
  | some p => if p.showable = true ∧ p.hasDict = false ∧ p.depth ≤ 60 ∧ p.shown.length ≤ sizeLine then some (.str p.shown) else none
  | none => none) else none
theorem c_repr {X : Cx} (g : Gd X) : CallS X (.builtin "repr") (g1 fRepr) := by
  intro pins s σ H r M xs us ds d Q I rx S qx e w
  unfold g1 at e
  split at e
  · rename_i y
    unfold fRepr at e
    split at e
    · rename_i hs
      split at e
      · rename_i p hp
        split at e
        · rename_i hc
          cases e
          obtain ⟨v, _, rfl, qy, hn⟩ := qx
          cases hn
          obtain ⟨u, rfl, ru⟩ := Vals.one rx
          obtain ⟨as, R⟩ := Dp.reads I p v u (dp_of qy hp) ru
          have hu := g.un
          have go : ∀ a, u = .ref a → wpAny (model X.prog X.w) X.A (call (.builtin "repr") [u]) (EP X pins σ Q) X.xe s := fun a ea => by
            subst ea
            exact repr_of_reads' R hc.1 (PyData.noDict_hsm hc.2.1) g.gua (by omega) (fun _ _ z => z) (fun h' t tk hk => ⟨.str p.shown, H, I.kept (t' := tk) hk, ⟨t, rfl⟩, w.here S (d := .str p.shown) rfl⟩) hc.2.2.2
          cases y with
          | tup es => obtain ⟨a, vs, rfl, _⟩ := qy; cases ru; exact go a rfl
          | lst es => obtain ⟨a, vs, rfl, _⟩ := qy; cases ru; exact go a rfl
          | _ => cases hs
        · cases e
      · cases e
    · cases e
  · cases e
/-! ### isinstance -/
def tyN : D → Option String
  | .non => some "NoneType"
  | .bl _ => some "bool"
  | .int _ => some "int"
  | .str _ => some "str"
  | .tup _ => some "tuple"
  | .lst _ => some "list"
  | .scr _ => some "list"
  | .ref _ => some "list"
  | .ty _ => none
def fIsi : Mem → D → D → Option D := fun M x y => match y with
  | .ty n => (match x with
    | .ref m => (match M[m]? with
      | some (.lst _) => (kitB "list" n).map .bl
      | _ => none)
    | x => (tyN x).bind fun t => (kitB t n).map .bl)
  | _ => none
theorem c_isi {X : Cx} : CallS X (.builtin "isinstance") (g2 fIsi) := CallS.of call_isi fun H r M xs ds d Q S qx e w => by
  unfold g2 at e
  split at e
  · rename_i x y
    obtain ⟨v, _, rfl, q1, v2, _, rfl, q2, hn⟩ := qx
    cases hn
    cases y with
    | ty n =>
      cases q2
      have fin : ∀ (t : String), TyX X.K H v (.type t) → (kitB t n).map D.bl = some d → rIsi X.K [v, .ty n] H Q := fun t ht e => by
        obtain ⟨b, e1, rfl⟩ := Option.map_eq_some_iff.mp e
        exact ⟨v, .ty n, .type t, .type n, b, rfl, .ty n, ht, kit_ty e1, w.here S (d := .bl b) rfl⟩
      cases x with
      | non => cases q1; exact fin "NoneType" (.base .non) e
      | bl b => cases q1; exact fin "bool" (.base (.bl b)) e
      | int i => cases q1; exact fin "int" (.base (.int i)) e
      | str z => cases q1; exact fin "str" (.base (.str z)) e
      | tup es =>
        obtain ⟨a, vs, rfl, h1, h2⟩ := q1
        refine fin "tuple" ?_ e
        rcases h1 with (h1 | ⟨o, h1⟩) | ⟨o, its, n, h1, h3, _⟩
        · exact .base (.tup h1)
        · exact .fTuple h1
        · exact .kTuple h1 h3
      | lst es =>
        obtain ⟨a, vs, rfl, ⟨o, h1⟩, h2⟩ := q1
        exact fin "list" (.base (.frz h1)) e
      | scr es =>
        obtain ⟨a, vs, rfl, h1, h2⟩ := q1
        refine fin "list" ?_ e
        rcases h1 with ⟨o, h1⟩ | ⟨o, its, n, h1, h3, _⟩
        · exact .base (.frz h1)
        · exact .kList h1 h3
      | ref m =>
        obtain ⟨a, rfl, ra⟩ := q1
        replace e : (match M[m]? with | some (.lst _) => (kitB "list" n).map D.bl | _ => none) = some d := e
        cases f : M[m]? with
        | none => rw [f] at e; cases e
        | some c =>
          cases c with
          | dead => rw [f] at e; cases e
          | dct _ => rw [f] at e; cases e
          | lst es =>
            rw [f] at e
            obtain ⟨vs, h1, _⟩ := S.cell m a _ ra f
            exact fin "list" (.base (.lst h1)) e
      | ty _ => cases e
    | _ => cases e
  · cases e

/-! ### the words -/
def oAdd : BOp := ⟨.Add, fun M a b => (gAdd M a b).or (gAddL M a b), fun X _ => Op2.or o2_add o2_addL⟩
def oSub : BOp := ⟨.Sub, gSub, fun X _ => o2_sub⟩
def oMul : BOp := ⟨.Mult, gMul, fun X _ => o2_mul⟩
def oMod : BOp := ⟨.Mod, gMod, fun X _ => o2_mod⟩
def oDiv : BOp := ⟨.FloorDiv, gDiv, fun X _ => o2_div⟩
def oPow : BOp := ⟨.Pow, gPow, fun X _ => o2_pow⟩
def cEq : COp := ⟨.Eq, gEq, fun X g => o2_eq (by have := g.un; omega)⟩
def cNe : COp := ⟨.NotEq, gNe, fun X g => o2_ne (by have := g.un; omega)⟩
def cLt : COp := ⟨.Lt, gLt, fun X _ => o2_lt⟩
def cLe : COp := ⟨.LtE, gLe, fun X _ => o2_le⟩
def cGt : COp := ⟨.Gt, gGt, fun X _ => o2_gt⟩
def cGe : COp := ⟨.GtE, gGe, fun X _ => o2_ge⟩
def cIn : COp := ⟨.In, fun M a b => (gIn M a b).or (gInD M a b), fun X g => Op2.or (o2_in (by have := g.un; omega)) (o2_inD (by have := g.un; omega))⟩
def cNi : COp := ⟨.NotIn, fun M a b => (gNotIn M a b).or (gNotInD M a b), fun X g => Op2.or (o2_notIn (by have := g.un; omega)) (o2_notInD (by have := g.un; omega))⟩
def cIs : COp := ⟨.Is, gIs, fun X _ => o2_is⟩
def cIn' : COp := ⟨.IsNot, gIsNot, fun X _ => o2_isNot⟩
def bLen : Bf := ⟨"len", "len", g1 fLen, fun X _ => c_len, by kernel_rfl, by decide, by decide⟩
def bAbs : Bf := ⟨"abs", "abs", g1 fAbs, fun X _ => c_abs, by kernel_rfl, by decide, by decide⟩
def bMax : Bf := ⟨"max", "max", g2 fMax2, fun X g => c_max2 g.calm, by kernel_rfl, by decide, by decide⟩
def bMin : Bf := ⟨"min", "min", g2 fMin2, fun X g => c_min2 g.calm, by kernel_rfl, by decide, by decide⟩
def bSum : Bf := ⟨"sum", "sum", g1 fSum, fun X g => c_sum g.calm, by kernel_rfl, by decide, by decide⟩
def bAll : Bf := ⟨"all", "all", g1 fAll, fun X g => c_all g.calm, by kernel_rfl, by decide, by decide⟩
def bAny : Bf := ⟨"any", "any", g1 fAny, fun X g => c_any g.calm, by kernel_rfl, by decide, by decide⟩
def bOrd : Bf := ⟨"ord", "ord", g1 fOrd, fun X _ => c_ord, by kernel_rfl, by decide, by decide⟩
def bRepr : Bf := ⟨"repr", "repr", g1 fRepr, fun X g => c_repr g, by kernel_rfl, by decide, by decide⟩
def bIsi : Bf := ⟨"isinstance", "isinstance", g2 fIsi, fun X _ => c_isi, by kernel_rfl, by decide, by decide⟩
def tInt : Bt := ⟨"int", "int", g1 fInt, fun X _ => c_int, by kernel_rfl, by decide, by decide⟩
def tTup : Bt := ⟨"tuple", "tuple", g1 fTuple, fun X _ => c_tuple, by kernel_rfl, by decide, by decide⟩
def tLst : Bt := ⟨"list", "list", g1 fList, fun X g => c_list g.calm, by kernel_rfl, by decide, by decide⟩
def nInt : Tn := ⟨"int", "int", by kernel_rfl, by decide, by decide⟩
def nStr : Tn := ⟨"str", "str", by kernel_rfl, by decide, by decide⟩
def nBool : Tn := ⟨"bool", "bool", by kernel_rfl, by decide, by decide⟩
def nTup : Tn := ⟨"tuple", "tuple", by kernel_rfl, by decide, by decide⟩
def nLst : Tn := ⟨"list", "list", by kernel_rfl, by decide, by decide⟩
def mIndex : Ms := ⟨"index", "str.index", gIndex, fun X _ => m_index, F.slot_str_index, by rfl⟩
def mJoin : Ms := ⟨"join", "str.join", gJoin, fun X _ => m_join, F.slot_str_join, by rfl⟩
def mAppend : Ml := ⟨"append", "list.append", fAppend, fun X _ => m_append, F.slot_list_append, by rfl⟩
def mExtend : Ml := ⟨"extend", "list.extend", fExtend, fun X _ => m_extend, F.slot_list_extend, by rfl⟩
def mGet : Md := ⟨"get", "dict.get", fGetD, fun X g => m_get (by have := g.un; omega), F.slot_dict_get, by rfl⟩
def mPopD : Md := ⟨"pop", "dict.pop", fPopD, fun X _ => m_pop, F.slot_dict_pop, by rfl⟩
end Wn
end

section
set_option Elab.async false
set_option linter.all false
set_option maxRecDepth 100000
set_option maxHeartbeats 800000
namespace Wn
open PySem PySem.Spec PyProof.Rows L2

/-! ### what is told of the module behind its top -/
mutual
/-- a module's constant -/
def repC (K : PySem.W.Frag) : D → Value → Bool
  | .non, .none => true
  | .bl b, .bool c => b == c
  | .int i, .int j _ => i == j
  | .str x, .str y _ => x == y
  | .tup ds, .ref a => (match K.lookup a with
    | some ⟨.type c, none, .seq its _, _⟩ => c == "tuple" && decide (its.size ≤ sizeLine) && repCs K ds its.toList
    | _ => false)
  | _, _ => false
def repCs (K : PySem.W.Frag) : List D → List Value → Bool
  | [], [] => true
  | d :: ds, u :: us => repC K d u && repCs K ds us
  | _, _ => false
end
mutual
theorem repC_ok {K : PySem.W.Frag} : ∀ {d : D} {u : Value}, repC K d u = true → ∃ v, RelV v u ∧ ∀ H r, Rep K H r d v
  | .non, u, h => by
    cases u with
    | none => exact ⟨.non, rfl, fun _ _ => rfl⟩
    | _ => cases h
  | .bl b, u, h => by
    cases u with
    | bool c => exact ⟨.bl c, rfl, fun _ _ => by rw [eq_of_beq (show (b == c) = true from h)]; exact rfl⟩
    | _ => cases h
  | .int i, u, h => by
    cases u with
    | int j t => exact ⟨.int j, ⟨t, rfl⟩, fun _ _ => by rw [eq_of_beq (show (i == j) = true from h)]; exact rfl⟩
    | _ => cases h
  | .str x, u, h => by
    cases u with
    | str y t => exact ⟨.str y, ⟨t, rfl⟩, fun _ _ => by rw [eq_of_beq (show (x == y) = true from h)]; exact rfl⟩
    | _ => cases h
  | .tup ds, u, h => by
    cases u with
    | ref a =>
      replace h : (match K.lookup a with
        | some ⟨.type c, none, .seq its _, _⟩ => c == "tuple" && decide (its.size ≤ sizeLine) && repCs K ds its.toList
        | _ => false) = true := h
      split at h
      · rename_i c its n sl e
        simp only [Bool.and_eq_true, beq_iff_eq, decide_eq_true_eq] at h
        obtain ⟨⟨rfl, h2⟩, h3⟩ := h
        obtain ⟨vs, rv, q⟩ := repCs_ok h3
        exact ⟨.ref a, rfl, fun H r => ⟨a, vs, rfl, .inr ⟨_, its, n, e, rfl, rfl, h2, rv⟩, q H r⟩⟩
      · cases h
    | _ => cases h
  | .lst _, u, h => by cases u <;> cases h
  | .scr _, u, h => by cases u <;> cases h
  | .ref _, u, h => by cases u <;> cases h
  | .ty _, u, h => by cases u <;> cases h
theorem repCs_ok {K : PySem.W.Frag} : ∀ {ds : List D} {us : List Value}, repCs K ds us = true → ∃ vs, Vals vs us ∧ ∀ H r, Reps K H r ds vs
  | [], [], _ => ⟨[], .nil, fun _ _ => rfl⟩
  | [], _ :: _, h => by cases h
  | _ :: _, [], h => by cases h
  | d :: ds, u :: us, h => by
    obtain ⟨h1, h2⟩ := Bool.and_eq_true_iff.mp (show (repC K d u && repCs K ds us) = true from h)
    obtain ⟨v, r, q⟩ := repC_ok h1
    obtain ⟨vs, rs, qs⟩ := repCs_ok h2
    exact ⟨v :: vs, .cons r rs, fun H rr => ⟨v, vs, rfl, q H rr, qs H rr⟩⟩
end
/-- the constants, the built-in names that are free, the defs' names -/
def exW (cons : List (Str × D)) (blts : List Str) (fns : List Str) (K : PySem.W.Frag) : Bool :=
  (cons.all fun p => match PySem.W.nsIn K mainGlobals p.1 with
    | some (some u) => repC K p.2 u
    | _ => false) && (blts.all fun x => He.eqO (PySem.W.nsIn K mainGlobals x) (some none)) && fns.all fun x => He.eqO (PySem.W.nsIn K mainGlobals x) (some (some (.ref (He.ga K x))))
abbrev AlW : Type := He.AlD × Bool
def obsW (n : Nat) (fn : List He.DefD) (ex : PySem.W.Frag → Bool) (g : Addr → Option Obj) : AlW := (He.obsD [] fn (He.frG g (He.asD g n)), ex (He.frG g (He.asD g n)))
def hookW (n : Nat) (fn : List He.DefD) (ex : PySem.W.Frag → Bool) : PySem.W.Hook where
  α := AlW
  obs := fun s => obsW n fn ex s.heap.get?
  val := fun _ => (He.valD fn, true)
  says := fun _ h => ∃ K : PySem.W.Frag, K.In h ∧ He.SaysD [] fn K ∧ ex K = true
  of := fun _ s e => ⟨_, He.frG_in, congrArg Prod.fst e, congrArg Prod.snd e⟩
  keeps := fun _ _ _ ⟨K, hK, c⟩ k => ⟨K, PySem.W.Frag.In.keeps hK k, c⟩
theorem obsW_eq {n : Nat} {fn : List He.DefD} {ex : PySem.W.Frag → Bool} {g : Addr → Option Obj} {s : Shared} (h : ∀ a, g a = s.heap.get? a) : obsW n fn ex g = (hookW n fn ex).obs s := by
  have e : g = s.heap.get? := funext h
  rw [e]; rfl
section
variable {K : PySem.W.Frag} {h : Heap} {mg : Str → Option Value} {cons : List (Str × D)} {blts fns : List Str}
theorem exW_con (KX : K.In h) (G : h.Ns mainGlobals mg) (e : exW cons blts fns K = true) : ∀ p ∈ cons, ∃ u v, mg p.1 = some u ∧ RelV v u ∧ ∀ H r, Rep K H r p.2 v := fun p hp => by
  have z := List.all_eq_true.mp (Bool.and_eq_true_iff.mp (Bool.and_eq_true_iff.mp e).1).1 p hp
  split at z
  · rename_i u q
    obtain ⟨v, r, w⟩ := repC_ok z
    exact ⟨u, v, PySem.W.mg_of KX G q, r, w⟩
  · cases z
theorem exW_blt (KX : K.In h) (G : h.Ns mainGlobals mg) (e : exW cons blts fns K = true) : ∀ x, blts.contains x = true → mg x = none := fun x hx => by
  have z := List.all_eq_true.mp (Bool.and_eq_true_iff.mp (Bool.and_eq_true_iff.mp e).1).2 x (by simpa using hx)
  exact PySem.W.mg_none_of KX G (He.eqO_ok z)
theorem exW_fn (KX : K.In h) (G : h.Ns mainGlobals mg) (e : exW cons blts fns K = true) {x : Str} (hx : fns.contains x = true) : mg x = some (.ref (He.ga K x)) := by
  have z := List.all_eq_true.mp (Bool.and_eq_true_iff.mp e).2 x (by simpa using hx)
  exact PySem.W.mg_of KX G (He.eqO_ok z)
end
/-! ### from a def's datum -/
theorem def_of {K : PySem.W.Frag} {mg : Str → Option Value} {x qual : Str} {params : Arguments} {body : List Stmt} {scope : Scope} {f : Addr} {fd : FuncData} {ps : List Str} (F : FunD K x qual params body scope [] [] f fd) (g : mg x = some (.ref f))
    (h1 : ∀ (kV doc pm : Value) (an : Option Addr) (cdv ct : Value) (us : List Value), us.length = ps.length → bindArgs (PySem.W.fnOf x qual params body scope .none kV doc pm an cdv ct) ⟨us, []⟩ = pure (ps.zip us))
    (h2 : ∀ (kV doc pm : Value) (an : Option Addr) (cdv ct : Value) (us : List Value), us.length = ps.length → bindArgs (PySem.W.fnOf x qual params body scope .none kV doc pm an cdv ct) ⟨[], ps.zip us⟩ = pure (ps.zip us)) : Def K mg x ps body scope f fd := by
  have kp := F.kp
  obtain ⟨oc, od, dV, kV, doc, pm, an, cdv, ct, osl, e, lk, hcd, hD, _⟩ := F.ex
  have eD : dV = .none := by
    rcases hD with ⟨_, z⟩ | ⟨z, _⟩
    · exact z
    · exact absurd rfl z
  subst eD
  refine ⟨g, kp, ⟨x, qual, params, oc, .none, kV, doc, pm, cdv, ct, od, an, osl, e, lk, hcd⟩, fun s us hl => ?_, fun s us hl => ?_⟩
  · rw [e]; exact .of_eq (h1 kV doc pm an cdv ct us hl)
  · rw [e]; exact .of_eq (h2 kV doc pm an cdv ct us hl)
/-- the defs that may be called -/
inductive Prms (er : ER) (P : Program) (w : World) (K : PySem.W.Frag) (mg : Str → Option Value) (base : Heap) (k : Nat) : List (Str × List Str) → List Fun → Prop
  | nil : Prms er P w K mg base k [] []
  | cons {j : Nat} {x : Str} {ps : List Str} {F : Fun} {cs : List (Str × List Str)} {us : List Fun} : Prm er P w K mg base j x ps F → j ≤ k → Prms er P w K mg base k cs us → Prms er P w K mg base k ((x, ps) :: cs) (F :: us)
theorem Prms.get {er : ER} {P : Program} {w : World} {K : PySem.W.Frag} {mg : Str → Option Value} {base : Heap} {k : Nat} : ∀ {cs : List (Str × List Str)} {us : List Fun}, Prms er P w K mg base k cs us → ∀ i y qs, cs[i]? = some (y, qs) → Prm er P w K mg base k y qs (us.getD i fun _ _ => .bad)
  | _, _, .nil, i, y, qs, h => by simp at h
  | _, _, .cons p hj t, 0, y, qs, h => by
    simp at h
    obtain ⟨rfl, rfl⟩ := h
    exact p.mono hj
  | _, _, .cons p hj t, i + 1, y, qs, h => by
    have z := t.get i y qs (by simpa using h)
    simpa using z
/-- a row's def from its datum -/
theorem row_def {er : ER} {P : Program} {w : World} {K : PySem.W.Frag} {mg : Str → Option Value} {base h : Heap} {cons : List (Str × D)} {blts fns : List Str} {fn : List He.DefD} {k i : Nat} {x : Str} {params : Arguments} {body : List Stmt} {scope : Scope} {ps N : List Str} {calls : List (Str × List Str)} {us : List Fun} {tr : Bool} {l : SL}
    (KX : K.In h) (G : h.Ns mainGlobals mg) (sd : He.SaysD [] fn K) (e : exW cons blts fns K = true) (hi : fn[i]? = some ⟨(x, none), x, x, params, body, scope, [], []⟩) (hx : fns.contains x = true)
    (h1 : ∀ (kV doc pm : Value) (an : Option Addr) (cdv ct : Value) (us : List Value), us.length = ps.length → bindArgs (PySem.W.fnOf x x params body scope .none kV doc pm an cdv ct) ⟨us, []⟩ = pure (ps.zip us))
    (h2 : ∀ (kV doc pm : Value) (an : Option Addr) (cdv ct : Value) (us : List Value), us.length = ps.length → bindArgs (PySem.W.fnOf x x params body scope .none kV doc pm an cdv ct) ⟨[], ps.zip us⟩ = pure (ps.zip us))
    (hs : scopeC N ps scope = true) (hcv : cvSL ⟨N, calls, cons, blts⟩ l ⟨scope, scope⟩ body = true) (cal : Prms er P w K mg base k calls us) : Prm er P w K mg base (k + 1) x ps (fnDef us tr N.length l) := by
  obtain ⟨fd, F⟩ := sd.def_ i hi
  exact def_ok (C := ⟨N, calls, cons, blts⟩) (def_of F (exW_fn KX G e hx) h1 h2) hs hcv (exW_con KX G e) (exW_blt KX G e) cal.get
/-! ### a law's end -/
theorem scL_of {K : PySem.W.Frag} {H : Hp} {a : Addr} {xs : List V} (o : Only H) (h : SqL K H a xs) : ScL K H a xs := by
  rcases h with (h | h) | h
  · rcases o a with z | ⟨ob, ys, z⟩
    · rw [z] at h; cases h
    · rw [z] at h; cases h
  · exact .inl h
  · exact .inr h
theorem reps_ints {K : PySem.W.Frag} {H : Hp} {r : List Addr} : ∀ ns : List Int, Reps K H r (ns.map D.int) (ns.map V.int)
  | [] => rfl
  | _ :: ns => ⟨_, _, rfl, rfl, reps_ints ns⟩
theorem cx_false {P : Program} {w : World} {H : Hp} {s s' : Shared} {e : Value} (c : L2.CX P w [] H s (fun _ _ _ => False) e s') : False := by
  obtain ⟨_, _, _, _, _, _, _, _, _, _, _, _, z⟩ := c
  exact z
theorem law_run {er : ER} {P : Program} {w : World} {K : PySem.W.Frag} {mg mb : Str → Option Value} {k : Nat} {x : Str} {F : Fun} {fa a : Addr} {s₁ : Shared} {us : List Value} {ns : List Int} {M' : Mem}
    (KX : K.In s₁.heap) (G1 : s₁.heap.Ns mainGlobals mg) (G2 : s₁.heap.Ns builtinsNs mb) (G3 : ∀ y : Str, y ≠ "__name__" → mb y = bootBuiltins y) (G4 : s₁.heap.NoLimit) (G5 : s₁.gens = #[]) (hfa : mg x = some (.ref fa))
    (ha : s₁.heap.get? a = some { cls := .type "list", data := .seq us.toArray }) (hi : IntsAre us ns) (hl : ns.length ≤ sizeLine) (hr : Room k callerA)
    (pF : ∀ base : Heap, K.In base → base.Ns mainGlobals mg → ∃ p, Prm er P w K mg base k x [p] F) (hlaw : F [.scr (ns.map D.int)] [] = .ok (.bl true) M') :
    codeAny (model P w) callerA (.call (.ref fa) ⟨[.ref a], []⟩) (fun r s' => r = .ok (.ret (.bool true)) ∧ OldK s₁.heap s'.heap ∧ s'.os = s₁.os ∧ AllBare s'.gens) s₁ := by
  have ri := vals_ints hi
  have li := hi.length
  have go : ∀ H : Hp, Only H → ScL K H a (ns.map V.int) → HOk P w H s₁.heap → (∀ b, H b ≠ none → b = a) → (H a ≠ none → K.lookup a = none) →
      codeAny (model P w) callerA (.call (.ref fa) ⟨[.ref a], []⟩) (fun r s' => r = .ok (.ret (.bool true)) ∧ OldK s₁.heap s'.heap ∧ s'.os = s₁.os ∧ AllBare s'.gens) s₁ := by
    intro H o1 o2 o3 o4 o5
    have dictFree : ∀ {b : Addr} {q : Obj} {es : Array DictEntry} {n : Nat}, s₁.heap.get? b = some q → q.data = .dict es n → H b = none := fun {b q es n} e1 e2 => Classical.byContradiction fun hb => by
      have eb : b = a := o4 b hb
      subst eb
      rw [ha] at e1
      cases e1
      exact Data.noConfusion e2
    have keepNs : ∀ {b : Addr} {m : Str → Option Value}, s₁.heap.Ns b m → (hidT s₁.heap H).Ns b m := fun {b m} ⟨q, es, n, e1, e2, e3⟩ => ⟨q, es, n, hidT_get e1 (dictFree e1 e2), e2, e3⟩
    have KB : K.In (hidT s₁.heap H) := fun b q e1 => hidT_get (KX b q e1) (Classical.byContradiction fun hb => by
      have eb : b = a := o4 b hb
      subst eb
      rw [o5 hb] at e1
      cases e1)
    have lim : (hidT s₁.heap H).NoLimit := by
      obtain ⟨mc, z1, z2⟩ := G4
      exact ⟨mc, keepNs z1, z2⟩
    have ev : Env0 P w K mg (hidT s₁.heap H) callerA [] s₁ H :=
      { frames := rfl, mod := { kin := KB, glob := keepNs G1, blt := ⟨mb, keepNs G2, G3⟩, nolimit := lim }, bs := fun b q e1 => of_hidT e1, bsz := Nat.le_of_eq (hidT_size _ _), funs := trivial, frf := fun b hb => (by cases hb), hok := o3, bare := .of_eq G5 }
    obtain ⟨p, f, fd, g1, _, FG, b1, _⟩ := pF _ KB (keepNs G1)
    rw [hfa] at g1
    cases g1
    have Sm : Sim K H [] [] := ⟨rfl, fun i j b e1 => by simp at e1, fun n b c e1 => by simp at e1⟩
    refine codeAny_mono (FG.run callerA [] s₁ H ⟨[.ref a], []⟩ [.ref a] [.ref a] [.scr (ns.map D.int)] [] [] (fun v _ => v = .bl true) (fun _ _ _ => False) hr rfl ev (b1 s₁ [.ref a] rfl) (.cons rfl .nil) ⟨_, _, rfl, ⟨a, _, rfl, o2, reps_ints ns⟩, rfl⟩ Sm rfl (by rw [hlaw]; exact fun v H' r' x s q => q)) fun rr s' hq => ?_
    match rr, hq with
    | .error e, hq => exact (cx_false hq).elim
    | .ok (.ret u), ⟨v, H', os, bare, un, hok', rv, qv⟩ =>
      subst qv
      cases (show u = Value.bool true from rv)
      refine ⟨rfl, OldK.of_keep fun b q e1 => ?_, os, bare⟩
      rcases o1 b with z | ⟨ob, ys, z⟩
      · exact un.keep b q e1 z (fun w => (by cases w)) (fun w => (by cases w))
      · have z3 := (hok' b _ (un.frzs b ob _ z)).1
        have z4 := (o3 b _ z).1
        rw [e1] at z4
        cases z4
        exact z3
    | .ok .next, hq => exact hq.elim
    | .ok .brk, hq => exact hq.elim
    | .ok .cont, hq => exact hq.elim
  cases hk : K.lookup a with
  | some q =>
    have e1 := KX a q hk
    rw [ha] at e1
    cases e1
    exact go (fun _ => none) (fun _ => .inl rfl) (.inr ⟨_, us.toArray, _, hk, rfl, rfl, rfl, by rw [List.size_toArray, li]; exact hl, by simpa using ri⟩) (fun b u z => by cases z) (fun b z => absurd rfl z) fun z => absurd rfl z
  | none =>
    have at_ : ∀ {b : Addr} {u : HO}, (if b = a then some (HO.frz { cls := .type "list", data := .seq us.toArray } (.lst (ns.map V.int))) else none) = some u → b = a ∧ u = HO.frz { cls := .type "list", data := .seq us.toArray } (.lst (ns.map V.int)) := fun {b u} z => by
      by_cases hb : b = a
      · rw [if_pos hb] at z
        cases z
        exact ⟨hb, rfl⟩
      · rw [if_neg hb] at z
        cases z
    refine go (fun b => if b = a then some (.frz { cls := .type "list", data := .seq us.toArray } (.lst (ns.map V.int))) else none) (fun b => ?_) (.inl ⟨_, if_pos rfl⟩) (fun b u z => ?_) (fun b z => ?_) fun _ => hk
    · by_cases hb : b = a
      · exact .inr ⟨_, _, if_pos hb⟩
      · exact .inl (if_neg hb)
    · obtain ⟨rfl, rfl⟩ := at_ z
      exact ⟨ha, by rw [List.length_map]; exact hl, us, _, ri, ha⟩
    · by_cases hb : b = a
      · exact hb
      · exact absurd (if_neg hb) z
theorem walk_law {er : ER} {l : PySem.W.OpenLaw} {n k : Nat} {q : Program} {loose : List Str} {XP : (Str → Option Value) → Heap → Prop} {YP : World → Heap → Prop} {d : DefRec} {F : Fun}
    (hn : l.most = some n) (hn2 : n ≤ sizeLine) (hdf : d.params.defaults = []) (hr : Room k callerA)
    (hF : ∀ (w : World) (mg : Str → Option Value) (h : Heap), YP w h → h.Ns mainGlobals mg → ∃ K : PySem.W.Frag, K.In h ∧ ∀ base : Heap, K.In base → base.Ns mainGlobals mg → ∃ p, Prm er l.prog w K mg base k d.name [p] F)
    (hlaw : ∀ ns : List Int, ns.length ≤ n → (∀ i ∈ ns, Builtin.Int.intBits i ≤ 1048576) → ∃ M', F [.scr (ns.map D.int)] [] = .ok (.bl true) M') :
    PySem.W.WalkO q loose XP YP l.row.toRowW d [] (fun f vs => PySem.call f vs) := by
  refine Att.attach_callB hn hdf fun w s₀ s₁ mg mb fa o pm cd doc a vs ns G Y ho hd hcd hmg hobj hints hlen hbits hg => ?_
  obtain ⟨K, KX, pF⟩ := hF w mg _ Y G.T.g
  obtain ⟨M', hM⟩ := hlaw ns hlen hbits
  exact law_run KX G.T.g G.T.b G.T.builtins G.T.nolimit hg hmg hobj hints (Nat.le_trans hlen hn2) hr pF hM
end Wn
end

section
set_option Elab.async false
set_option linter.all false
set_option maxRecDepth 100000
set_option maxHeartbeats 800000
namespace Wn
open PySem

/-! ### evaluation: single steps -/
theorem bnd_ok {α β : Type} {m : Mem → Res α} {k : α → Mem → Res β} {M M1 : Mem} {a : α} (h : m M = .ok a M1) : bnd m k M = k a M1 := by
  unfold bnd; rw [h]
theorem bndS_ok {α : Type} {δ : Env} {m : Mem → Res α} {k : α → Mem → SR} {M M1 : Mem} {a : α} (h : m M = .ok a M1) : bndS δ m k M = k a M1 := by
  unfold bndS; rw [h]
theorem seq_nx {a b : Fs} {δ δ1 : Env} {M M1 : Mem} (h : a δ M = .nx δ1 M1) : sSeq a b δ M = b δ1 M1 := by
  unfold sSeq; rw [h]
theorem seq_rt {a b : Fs} {δ : Env} {M M1 : Mem} {d : D} (h : a δ M = .rt d M1) : sSeq a b δ M = .rt d M1 := by
  unfold sSeq; rw [h]
/-- a comprehension whose element leaves the cells -/
theorem lc_map {i : Nat} {e : Fe} {δ : Env} {M : Mem} {g : D → D} : ∀ {ds : List D}, (∀ d ∈ ds, e (δ.set i (some d)) M = .ok (g d) M) → lcGo (.nm i) bYes e δ ds M = .ok (ds.map g) M
  | [], _ => rfl
  | d :: ds, h => by
    have h1 := h d (List.mem_cons_self ..)
    have h2 := lc_map fun x hx => h x (List.mem_cons_of_mem _ hx)
    rw [lcGo_cons]
    simp only [Tg.put, bYes, ret, h1, h2, List.map_cons]
theorem for_nx {t : Tg} {b : Fs} {d : D} {ds : List D} {δ δ1 δ2 : Env} {M M2 : Mem} (h1 : t.put M d δ = some δ1) (h2 : b δ1 M = .nx δ2 M2) : forGo t b (d :: ds) δ M = forGo t b ds δ2 M2 := by
  rw [forGo_cons, h1]
  simp only [h2]

/-! ### texts as lists of numbers -/
def st (l : List Nat) : Str := ⟨l.toArray⟩
theorem st_len (l : List Nat) : (st l).length = l.length := by simp [st, Str.length]
theorem st_tl (l : List Nat) : (st l).cps.toList = l := by simp [st]
theorem st_app (a b : List Nat) : st a ++ st b = st (a ++ b) := by
  show Str.append (st a) (st b) = _
  simp [Str.append, st]
theorem st_inj {a b : List Nat} : st a = st b ↔ a = b := ⟨fun h => by rw [← st_tl a, h, st_tl], fun h => by rw [h]⟩
theorem st_sgn (l : List Nat) : sgn (st l) = l.map fun c => D.str (st [c]) := by simp [sgn, st]
theorem st_cut (l : List Nat) (lo hi : Option Int) : L2.cutS (st l) lo hi = st (cutD l lo hi) := by
  unfold L2.cutS cutD
  rw [st_tl, st_len]; rfl
theorem gSl_st {M : Mem} {l : List Nat} {lo hi : Option Int} (h : l.length ≤ sizeLine) : gSl M (.str (st l)) lo hi = some (.str (st (cutD l lo hi))) := by
  show (if (st l).length ≤ sizeLine then some (D.str (L2.cutS (st l) lo hi)) else none) = _
  rw [st_len, if_pos h, st_cut]
theorem gAdd_st {M : Mem} {a b : List Nat} (h : a.length + b.length ≤ sizeLine) : gAdd M (.str (st a)) (.str (st b)) = some (.str (st (a ++ b))) := by
  show (if (st a).length + (st b).length ≤ sizeLine then some (D.str (st a ++ st b)) else none) = _
  rw [st_len, st_len, if_pos h, st_app]
theorem gIx_st {M : Mem} {l : List Nat} {i : Nat} {c : Nat} (h : l.length ≤ sizeLine) (e : l[i]? = some c) : gIx M (.str (st l)) (.int (i : Nat)) = some (.str (st [c])) := by
  have hi := (List.getElem?_eq_some_iff.mp e).1
  show (if (st l).length ≤ sizeLine then (L2.atI (st l).cps.toList ((i : Nat) : Int)).map fun c => D.str ⟨#[c]⟩ else none) = _
  rw [st_len, if_pos h, st_tl]
  unfold L2.atI L2.ixN
  rw [if_pos (by omega), if_pos (by omega)]
  show ((some i).bind fun j => l[j]?).map _ = _
  show (l[i]?).map _ = _
  rw [e]; rfl
theorem gEq_str {M : Mem} {a b : Str} (ha : PyData.strOk a = true) (hb : PyData.strOk b = true) : gEq M (.str a) (.str b) = some (.bl (a == b)) := by
  have s1 : SeqAt.shaped (.str a) = true := by unfold SeqAt.shaped; rw [Bool.and_eq_true]; exact ⟨ha, rfl⟩
  have s2 : SeqAt.shaped (.str b) = true := by unfold SeqAt.shaped; rw [Bool.and_eq_true]; exact ⟨hb, rfl⟩
  show (if SeqAt.shaped (.str a) = true ∧ SeqAt.shaped (.str b) = true then some (D.bl (PyData.eqv (.str a) (.str b))) else none) = _
  rw [if_pos ⟨s1, s2⟩]; rfl
theorem gNe_str {M : Mem} {a b : Str} (ha : PyData.strOk a = true) (hb : PyData.strOk b = true) : gNe M (.str a) (.str b) = some (.bl (!(a == b))) := by
  have s1 : SeqAt.shaped (.str a) = true := by unfold SeqAt.shaped; rw [Bool.and_eq_true]; exact ⟨ha, rfl⟩
  have s2 : SeqAt.shaped (.str b) = true := by unfold SeqAt.shaped; rw [Bool.and_eq_true]; exact ⟨hb, rfl⟩
  show (if SeqAt.shaped (.str a) = true ∧ SeqAt.shaped (.str b) = true then some (D.bl (!PyData.eqv (.str a) (.str b))) else none) = _
  rw [if_pos ⟨s1, s2⟩]; rfl
theorem st_beq (a b : List Nat) : (st a == st b) = decide (a = b) := by
  by_cases h : a = b
  · subst h; simp
  · have : st a ≠ st b := fun z => h (st_inj.mp z)
    simp [h, this]
theorem strsOf_st : ∀ ls : List (List Nat), strsOf (ls.map fun l => D.str (st l)) = some (ls.map st)
  | [] => rfl
  | l :: ls => by
    have ih := strsOf_st ls
    unfold strsOf at ih ⊢
    rw [List.map_cons, List.mapM_cons, ih]; rfl
theorem joinL_nil : ∀ ls : List (List Nat), TL.joinL [] ls = ls.flatten
  | [] => rfl
  | [p] => by simp [TL.joinL]
  | p :: q :: r => by
    have ih := joinL_nil (q :: r)
    show p ++ ([] ++ TL.joinL [] (q :: r)) = _
    rw [ih]; simp
theorem join_st (ls : List (List Nat)) : Txt.join (st []) (ls.map st) = st ls.flatten := by
  have h : (Txt.join (st []) (ls.map st)).cps.toList = ls.flatten := by
    rw [TL.join_eq]
    show TL.tl (Str.join (st []) (ls.map st)) = _
    rw [TL.tl_join]
    have e : (ls.map st).map TL.tl = ls := by
      rw [List.map_map]
      have : (TL.tl ∘ st) = id := by funext l; exact st_tl l
      rw [this, List.map_id]
    rw [e, show TL.tl (st []) = [] from rfl, joinL_nil]
  have : Txt.join (st []) (ls.map st) = ⟨(Txt.join (st []) (ls.map st)).cps.toList.toArray⟩ := by simp
  rw [this, h]; rfl
theorem gJoin_st {M : Mem} {ls : List (List Nat)} (h : (ls.map List.length).sum ≤ 16777216) : gJoin M (.str (st [])) [.lst (ls.map fun l => D.str (st l))] = some (.str (st ls.flatten)) := by
  have e : ((ls.map st).map (·.length)).sum + (ls.map st).length * (st []).length = (ls.map List.length).sum := by
    rw [List.map_map]
    have : ((fun x : Str => x.length) ∘ st) = List.length := by funext l; exact st_len l
    rw [this, st_len]; simp
  show (match seqJ M (.lst (ls.map fun l => D.str (st l))) with
    | some ds => (match strsOf ds with
      | some ys => if (List.map Str.length ys).sum + ys.length * (st []).length ≤ 16777216 then some (D.str (Txt.join (st []) ys)) else none
      | none => none)
    | none => none) = _
  simp only [seqJ, lstOf, strsOf_st]
  rw [if_pos (by rw [e]; exact h), join_st]
theorem mul_st (c : Nat) (n : Nat) : Txt.mul (st [c]) (n : Nat) = st (List.replicate n c) := by
  unfold Txt.mul
  match n with
  | 0 => rfl
  | 1 => rfl
  | n + 2 =>
    rw [if_neg (by omega), if_neg (by rw [st_len]; simp; omega)]
    have key : ∀ (m : Nat) (acc : List Nat), (List.replicate m (st [c]).cps).foldl (· ++ ·) acc.toArray = (acc ++ List.replicate m c).toArray := by
      intro m
      induction m with
      | zero => intro acc; simp
      | succ m ih =>
        intro acc
        rw [List.replicate_succ, List.foldl_cons]
        have : acc.toArray ++ (st [c]).cps = (acc ++ [c]).toArray := by simp [st]
        rw [this, ih]
        simp [List.replicate_succ]
    have := key ((n + 2 : Nat) : Int).toNat []
    simp only [Int.toNat_natCast] at this ⊢
    unfold st
    rw [show (#[] : Array Nat) = ([] : List Nat).toArray from rfl]
    simpa [st] using this
theorem gMul_st {M : Mem} {c n : Nat} (h : n ≤ 1048576) : gMul M (.str (st [c])) (.int (n : Nat)) = some (.str (st (List.replicate n c))) := by
  show (if (st [c]).length ≤ 16 ∧ ((n : Nat) : Int).natAbs ≤ 1048576 then some (D.str (Txt.mul (st [c]) (n : Nat))) else none) = _
  rw [if_pos ⟨by rw [st_len]; simp, by omega⟩, mul_st]

/-! ### cells of pages -/
def hexc (v : Nat) : Nat := if v < 10 then 48 + v else 87 + v
def CS : Str := "0123456789abcdef"
/-- a string of cells -/
def cs (vs : List Nat) : Str := st (vs.map hexc)
def Cells (vs : List Nat) : Prop := ∀ v ∈ vs, v < 16
theorem hexc_lt : ∀ v, v < 16 → hexc v < 0x110000 := by decide
theorem hexc_inj : ∀ v, v < 16 → ∀ w, w < 16 → hexc v = hexc w → v = w := by decide
theorem occ_cell : ∀ v, v < 16 → Builtin.Str.occurrences CS (st [hexc v]) 0 CS.length 1 = [v] := by decide +kernel
theorem idx_cell {v : Nat} {M : Mem} (h : v < 16) : gIndex M (.str CS) [.str (st [hexc v])] = some (.int (v : Nat)) := by
  show (match Builtin.Str.occurrences CS (st [hexc v]) 0 CS.length 1 with | i :: _ => some (D.int (i : Nat)) | [] => none) = _
  rw [occ_cell v h]
theorem cs_at {v : Nat} {M : Mem} (h : v < 16) : gIx M (.str CS) (.int (v : Nat)) = some (.str (st [hexc v])) := by
  have key : ∀ v, v < 16 → L2.atI CS.cps.toList ((v : Nat) : Int) = some (hexc v) := by decide +kernel
  show (if CS.length ≤ sizeLine then (L2.atI CS.cps.toList ((v : Nat) : Int)).map fun c => D.str ⟨#[c]⟩ else none) = _
  rw [if_pos (by decide), key v h]
  rfl
theorem cs_len (vs : List Nat) : (cs vs).length = vs.length := by rw [cs, st_len, List.length_map]
theorem cs_sgn (vs : List Nat) : sgn (cs vs) = vs.map fun v => D.str (st [hexc v]) := by rw [cs, st_sgn, List.map_map]; rfl
theorem cutD_map {α β : Type} (f : α → β) (l : List α) (lo hi : Option Int) : cutD (l.map f) lo hi = (cutD l lo hi).map f := by
  unfold cutD
  rw [List.length_map, List.map_take, List.map_drop]
theorem gSl_cs {M : Mem} {vs : List Nat} {lo hi : Option Int} (h : vs.length ≤ sizeLine) : gSl M (.str (cs vs)) lo hi = some (.str (cs (cutD vs lo hi))) := by
  unfold cs
  rw [gSl_st (by simpa using h), cutD_map]
theorem gAdd_cs {M : Mem} {a b : List Nat} (h : a.length + b.length ≤ sizeLine) : gAdd M (.str (cs a)) (.str (cs b)) = some (.str (cs (a ++ b))) := by
  unfold cs
  rw [gAdd_st (by simpa using h), List.map_append]
theorem cs_ok {vs : List Nat} (h : Cells vs) : PyData.strOk (cs vs) = true := by
  unfold PyData.strOk cs st
  simp only [Array.all_eq_true', List.mem_toArray, List.mem_map, decide_eq_true_eq]
  rintro x ⟨v, hv, rfl⟩
  exact hexc_lt v (h v hv)
theorem cs_inj : ∀ {a b : List Nat}, Cells a → Cells b → (cs a = cs b ↔ a = b) := fun {a b} ha hb => ⟨fun h => by
  have h : a.map hexc = b.map hexc := st_inj.mp h
  induction a generalizing b with
  | nil => cases b with
    | nil => rfl
    | cons _ _ => cases h
  | cons x xs ih => cases b with
    | nil => cases h
    | cons y ys =>
      rw [List.map_cons, List.map_cons] at h
      injection h with h1 h2
      rw [hexc_inj x (ha x (List.mem_cons_self ..)) y (hb y (List.mem_cons_self ..)) h1, ih (fun v hv => ha v (List.mem_cons_of_mem _ hv)) (fun v hv => hb v (List.mem_cons_of_mem _ hv)) (by rw [cs, cs, h2]) h2], fun h => by rw [h]⟩
theorem gEq_cs {M : Mem} {a b : List Nat} (ha : Cells a) (hb : Cells b) : gEq M (.str (cs a)) (.str (cs b)) = some (.bl (decide (a = b))) := by
  rw [gEq_str (cs_ok ha) (cs_ok hb)]
  by_cases h : a = b
  · subst h; simp
  · have : cs a ≠ cs b := fun z => h ((cs_inj ha hb).mp z)
    simp [h, this]
theorem gNe_cs {M : Mem} {a b : List Nat} (ha : Cells a) (hb : Cells b) : gNe M (.str (cs a)) (.str (cs b)) = some (.bl (!decide (a = b))) := by
  rw [gNe_str (cs_ok ha) (cs_ok hb)]
  by_cases h : a = b
  · subst h; simp
  · have : cs a ≠ cs b := fun z => h ((cs_inj ha hb).mp z)
    simp [h, this]
/-! ### slices, pairs -/
theorem cutD_hi {α : Type} (l : List α) (k : Nat) : cutD l none (some ((k : Nat) : Int)) = l.take k := by
  unfold cutD
  rw [HT.sIx_none, HT.sIx_nat, List.drop_zero, Nat.sub_zero]
  by_cases h : k ≤ l.length
  · rw [Nat.min_eq_left h]
  · rw [Nat.min_eq_right (by omega), List.take_of_length_le (Nat.le_refl _), List.take_of_length_le (by omega)]
theorem cutD_lo {α : Type} (l : List α) (k : Nat) : cutD l (some ((k : Nat) : Int)) none = l.drop k := by
  unfold cutD
  rw [HT.sIx_none, HT.sIx_nat]
  by_cases h : k ≤ l.length
  · rw [Nat.min_eq_left h, List.take_of_length_le (by rw [List.length_drop]; omega)]
  · rw [Nat.min_eq_right (by omega), List.drop_eq_nil_of_le (Nat.le_refl _), List.drop_eq_nil_of_le (by omega)]; simp
theorem cutD_both {α : Type} (l : List α) (a b : Nat) : cutD l (some ((a : Nat) : Int)) (some ((b : Nat) : Int)) = (l.drop a).take (b - a) := by
  unfold cutD
  rw [HT.sIx_nat, HT.sIx_nat]
  by_cases h : a ≤ l.length
  · rw [Nat.min_eq_left h]
    by_cases h2 : b ≤ l.length
    · rw [Nat.min_eq_left h2]
    · rw [Nat.min_eq_right (by omega), List.take_of_length_le (by rw [List.length_drop]; omega), List.take_of_length_le (by rw [List.length_drop]; omega)]
  · rw [Nat.min_eq_right (by omega : l.length ≤ a), List.drop_eq_nil_of_le (Nat.le_refl _), List.drop_eq_nil_of_le (by omega)]; simp
/-- pairs of numbers and items -/
def enumD : Nat → List D → List D
  | _, [] => []
  | k, d :: ds => .tup [.int (k : Nat), d] :: enumD (k + 1) ds
theorem pairs_enum : ∀ (k : Nat) (l : List D), pairs ((List.range' k l.length).map fun i => D.int ((i : Nat) : Int)) l = enumD k l
  | _, [] => by simp [pairs, enumD]
  | k, d :: ds => by
    rw [List.length_cons, List.range'_succ, List.map_cons]
    show D.tup [.int (k : Nat), d] :: pairs _ ds = _
    rw [pairs_enum (k + 1) ds]; rfl
theorem pairs_nums (l : List D) : pairs (nums l.length) l = enumD 0 l := by
  rw [← pairs_enum 0 l, nums, List.range_eq_range']
theorem isS_ite {α : Type} (x : Str) (a b : α) : (if isS (.str x) = true then a else b) = a := rfl
theorem if_le_sz {α : Type} {n : Nat} (h : n ≤ 1000) (a b : α) : (if n ≤ sizeLine then a else b) = a := if_pos (Nat.le_trans h (by decide))
theorem add_int {a b : Int} {M : Mem} : gAdd M (.int a) (.int b) = some (.int (a + b)) := rfl
theorem sub_int {a b : Int} {M : Mem} : gSub M (.int a) (.int b) = some (.int (a - b)) := rfl
theorem eq_int {M : Mem} {a b : Int} : gEq M (.int a) (.int b) = some (.bl (decide (a = b))) := by
  show some (D.bl (a == b)) = _
  congr 2
theorem ne_int {M : Mem} {a b : Int} : gNe M (.int a) (.int b) = some (.bl (!decide (a = b))) := by
  show some (D.bl (!(a == b))) = _
  congr 2
theorem le_int {M : Mem} {a b : Int} : gLe M (.int a) (.int b) = some (.bl (decide (a ≤ b))) := rfl
theorem lt_int {M : Mem} {a b : Int} : gLt M (.int a) (.int b) = some (.bl (decide (a < b))) := rfl
theorem gt_int {M : Mem} {a b : Int} : gGt M (.int a) (.int b) = some (.bl (decide (b < a))) := rfl
theorem ge_int {M : Mem} {a b : Int} : gGe M (.int a) (.int b) = some (.bl (decide (b ≤ a))) := rfl
theorem len_str {M : Mem} {s : Str} (h : s.length ≤ sizeLine) : fLen M (.str s) = some (.int (s.length : Nat)) := if_pos h
theorem is_non {M : Mem} {d : D} : gIs M d .non = some (.bl (isNon d)) := rfl
theorem isnot_non {M : Mem} {d : D} : gIsNot M d .non = some (.bl (!isNon d)) := rfl
theorem append_ok {M : Mem} {n : Nat} {ds : List D} {y : D} (h : M[n]? = some (.lst ds)) (hz : ds.length < sizeLine) : fAppend (.ref n) [y] M = .ok .non (M.set n (.lst (ds ++ [y]))) := by
  unfold fAppend
  simp only [h]
  rw [if_pos hz]
theorem isL_ref {M : Mem} {n : Nat} {ds : List D} (h : M[n]? = some (.lst ds)) : isL M (.ref n) = true := by
  unfold isL lstOf
  simp only [h]; rfl
theorem get_end {M : Mem} {c : Cell} : (M ++ [c])[M.length]? = some c := by rw [List.getElem?_append_right (Nat.le_refl _)]; simp
theorem set_end {M : Mem} {c d : Cell} : (M ++ [c]).set M.length d = M ++ [d] := by rw [List.set_append_right _ _ (Nat.le_refl _)]; simp
theorem lstX_lst {M : Mem} {ds : List D} : lstX M (.lst ds) = some ds := rfl
theorem lstOf_lst {M : Mem} {ds : List D} : lstOf M (.lst ds) = some ds := rfl
end Wn
end

section
set_option Elab.async false
set_option linter.all false
set_option maxRecDepth 100000
set_option maxHeartbeats 0
namespace Lw
open PySem Wn
/-- are_cells(value, low, high, cell) -/
def N_are_cells : List Str := ["value", "low", "high", "cell"]
def X1_are_cells : E := .cmp cIn (.var 3) (.glo "CELLS" (.str "0123456789abcdef"))
def B_are_cells : SL := .cons (.ret (.and (.bf bIsi (.cons (.var 0) (.cons (.tyn nStr) (.nil)))) (.and (.chn cLe cLe (.var 1) (.bf bLen (.cons (.var 0) (.nil))) (.var 2)) (.bf bAll (.cons (.lc false .str (.cons (.var 0) (.nil)) (.nm 3) [3] (.yes) (X1_are_cells)) (.nil)))))) (.nil)
noncomputable def F_are_cells : Fun := fnDef [] false 4 B_are_cells
/-- is_page(value) -/
def N_is_page : List Str := ["value"]
def B_is_page : SL := .cons (.ret (.fn 0 3 (.cons (.var 0) (.cons (.glo "CELLS_A_PAGE" (.int 256)) (.cons (.glo "CELLS_A_PAGE" (.int 256)) (.nil)))))) (.nil)
noncomputable def F_is_page : Fun := fnDef [F_are_cells] false 1 B_is_page
/-- is_page_text(value, sign) -/
def N_is_page_text : List Str := ["value", "sign"]
def X1_is_page_text : E := .or (.cmp cEq (.var 1) (.glo "FEED" (.str "\n"))) (.or (.cmp cIn (.var 1) (.glo "LOW_SIGNS" (.str " !\"#$"))) (.cmp cIn (.var 1) (.glo "HIGH_SIGNS" (.str "&'()*+,-./0123456789:;<=>?@ABCDEFGHIJKLMNOPQRSTUVWXYZ[\\]^_`abcdefghijklmnopqrstuvwxyz{|}~"))))
def B_is_page_text : SL := .cons (.ife (.or (.not (.tru (.bf bIsi (.cons (.var 0) (.cons (.tyn nStr) (.nil)))))) (.tru (.cmp cGt (.bf bLen (.cons (.var 0) (.nil))) (.glo "MOST_PAGE_SIGNS" (.int 113))))) (.cons (.ret (.cst (.bl false))) (.nil)) (.nil)) (.cons (.ret (.bf bAll (.cons (.lc false .str (.cons (.var 0) (.nil)) (.nm 1) [1] (.yes) (X1_is_page_text)) (.nil)))) (.nil))
noncomputable def F_is_page_text : Fun := fnDef [] false 2 B_is_page_text
/-- cell_number(cell) -/
def N_cell_number : List Str := ["cell"]
def B_cell_number : SL := .cons (.ret (.ms mIndex (.glo "CELLS" (.str "0123456789abcdef")) (.cons (.var 0) (.nil)))) (.nil)
noncomputable def F_cell_number : Fun := fnDef [] false 1 B_cell_number
/-- number_in_cells(cells, found, cell) -/
def N_number_in_cells : List Str := ["cells", "found", "cell"]
def L1_number_in_cells : SL := .cons (.asg (.nm 1) (.op oAdd (.op oMul (.var 1) (.glo "SIXTEEN" (.int 16))) (.fn 0 1 (.cons (.var 2) (.nil))))) (.nil)
def B_number_in_cells : SL := .cons (.asg (.nm 1) (.cst (.int 0))) (.cons (.for .str (.cons (.var 0) (.nil)) (.nm 2) (L1_number_in_cells)) (.cons (.ret (.var 1)) (.nil)))
noncomputable def F_number_in_cells : Fun := fnDef [F_cell_number] false 3 B_number_in_cells
/-- cells_of_number(number, width, found, place) -/
def N_cells_of_number : List Str := ["number", "width", "found", "place"]
def L1_cells_of_number : SL := .cons (.asg (.nm 2) (.op oAdd (.ix (.glo "CELLS" (.str "0123456789abcdef")) (.op oMod (.var 0) (.glo "SIXTEEN" (.int 16)))) (.var 2))) (.cons (.asg (.nm 0) (.op oDiv (.var 0) (.glo "SIXTEEN" (.int 16)))) (.nil))
def B_cells_of_number : SL := .cons (.asg (.nm 2) (.cst (.str ""))) (.cons (.for .rng1 (.cons (.var 1) (.nil)) (.nm 3) (L1_cells_of_number)) (.cons (.ret (.var 2)) (.nil)))
noncomputable def F_cells_of_number : Fun := fnDef [] false 4 B_cells_of_number
/-- contrary(cells, cell) -/
def N_contrary : List Str := ["cells", "cell"]
def X1_contrary : E := .ix (.glo "CELLS" (.str "0123456789abcdef")) (.op oSub (.glo "TOP" (.int 15)) (.fn 0 1 (.cons (.var 1) (.nil))))
def B_contrary : SL := .cons (.ret (.ms mJoin (.cst (.str "")) (.cons (.lc false .str (.cons (.var 0) (.nil)) (.nm 1) [1] (.yes) (X1_contrary)) (.nil)))) (.nil)
noncomputable def F_contrary : Fun := fnDef [F_cell_number] false 2 B_contrary
/-- sums_of(cells, plain, placed, squared, at, cell, lacking, place) -/
def N_sums_of : List Str := ["cells", "plain", "placed", "squared", "at", "cell", "lacking", "place"]
def L1_sums_of : SL := .cons (.par [6, 7] (.cons (.op oSub (.glo "TOP" (.int 15)) (.fn 0 1 (.cons (.var 5) (.nil)))) (.cons (.op oAdd (.var 4) (.cst (.int 1))) (.nil)))) (.cons (.par [1, 2, 3] (.cons (.op oAdd (.var 1) (.var 6)) (.cons (.op oAdd (.var 2) (.op oMul (.var 6) (.var 7))) (.cons (.op oAdd (.var 3) (.op oMul (.op oMul (.var 6) (.var 7)) (.var 7))) (.nil))))) (.nil))
def B_sums_of : SL := .cons (.asg (.tp (.cons (.nm 1) (.cons (.nm 2) (.cons (.nm 3) (.nil))))) (.tup (.cons (.cst (.int 0)) (.cons (.cst (.int 0)) (.cons (.cst (.int 0)) (.nil)))))) (.cons (.for .enu (.cons (.sl2 (.var 0) (.glo "CELLS_OF_TEXT" (.int 226))) (.nil)) (.tp (.cons (.nm 4) (.cons (.nm 5) (.nil)))) (L1_sums_of)) (.cons (.ret (.tup (.cons (.var 1) (.cons (.var 2) (.cons (.var 3) (.nil)))))) (.nil)))
noncomputable def F_sums_of : Fun := fnDef [F_cell_number] false 8 B_sums_of
/-- sum_cells(three, found, number, width, told) -/
def N_sum_cells : List Str := ["three", "found", "number", "width", "told"]
def L1_sum_cells : SL := .cons (.asg (.nm 4) (.fn 0 2 (.cons (.var 2) (.cons (.var 3) (.nil))))) (.cons (.asg (.nm 1) (.op oAdd (.op oAdd (.var 1) (.var 4)) (.fn 1 1 (.cons (.var 4) (.nil))))) (.nil))
def B_sum_cells : SL := .cons (.asg (.nm 1) (.cst (.str ""))) (.cons (.for .zip (.cons (.var 0) (.cons (.glo "WIDTHS" (.tup [.int 3, .int 5, .int 7])) (.nil))) (.tp (.cons (.nm 2) (.cons (.nm 3) (.nil)))) (L1_sum_cells)) (.cons (.ret (.var 1)) (.nil)))
noncomputable def F_sum_cells : Fun := fnDef [F_cells_of_number, F_contrary] false 5 B_sum_cells
/-- sign_number(sign) -/
def N_sign_number : List Str := ["sign"]
def B_sign_number : SL := .cons (.ife (.tru (.cmp cEq (.var 0) (.glo "FEED" (.str "\n")))) (.cons (.ret (.glo "FEED_NUMBER" (.int 10))) (.nil)) (.nil)) (.cons (.ret (.ife (.tru (.cmp cIn (.var 0) (.glo "LOW_SIGNS" (.str " !\"#$")))) (.op oAdd (.glo "LOW_NUMBER" (.int 32)) (.ms mIndex (.glo "LOW_SIGNS" (.str " !\"#$")) (.cons (.var 0) (.nil)))) (.op oAdd (.glo "HIGH_NUMBER" (.int 38)) (.ms mIndex (.glo "HIGH_SIGNS" (.str "&'()*+,-./0123456789:;<=>?@ABCDEFGHIJKLMNOPQRSTUVWXYZ[\\]^_`abcdefghijklmnopqrstuvwxyz{|}~")) (.cons (.var 0) (.nil)))))) (.nil))
noncomputable def F_sign_number : Fun := fnDef [] false 1 B_sign_number
/-- sign_of(number, at) -/
def N_sign_of : List Str := ["number", "at"]
def B_sign_of : SL := .cons (.ife (.tru (.cmp cEq (.var 0) (.glo "FEED_NUMBER" (.int 10)))) (.cons (.ret (.glo "FEED" (.str "\n"))) (.nil)) (.nil)) (.cons (.ife (.tru (.chn cLe cLt (.glo "LOW_NUMBER" (.int 32)) (.var 0) (.op oAdd (.glo "LOW_NUMBER" (.int 32)) (.bf bLen (.cons (.glo "LOW_SIGNS" (.str " !\"#$")) (.nil)))))) (.cons (.ret (.ix (.glo "LOW_SIGNS" (.str " !\"#$")) (.op oSub (.var 0) (.glo "LOW_NUMBER" (.int 32))))) (.nil)) (.nil)) (.cons (.asg (.nm 1) (.op oSub (.var 0) (.glo "HIGH_NUMBER" (.int 38)))) (.cons (.ret (.ife (.tru (.chn cLe cLt (.cst (.int 0)) (.var 1) (.bf bLen (.cons (.glo "HIGH_SIGNS" (.str "&'()*+,-./0123456789:;<=>?@ABCDEFGHIJKLMNOPQRSTUVWXYZ[\\]^_`abcdefghijklmnopqrstuvwxyz{|}~")) (.nil))))) (.ix (.glo "HIGH_SIGNS" (.str "&'()*+,-./0123456789:;<=>?@ABCDEFGHIJKLMNOPQRSTUVWXYZ[\\]^_`abcdefghijklmnopqrstuvwxyz{|}~")) (.var 1)) (.cst (.non)))) (.nil))))
noncomputable def F_sign_of : Fun := fnDef [] false 2 B_sign_of
/-- text_cells(text, found, sign) -/
def N_text_cells : List Str := ["text", "found", "sign"]
def X1_text_cells : E := .fn 0 2 (.cons (.fn 1 1 (.cons (.var 2) (.nil))) (.cons (.glo "PAIR" (.int 2)) (.nil)))
def B_text_cells : SL := .cons (.asg (.nm 1) (.ms mJoin (.cst (.str "")) (.cons (.lc false .str (.cons (.var 0) (.nil)) (.nm 2) [2] (.yes) (X1_text_cells)) (.nil)))) (.cons (.ret (.op oAdd (.var 1) (.op oMul (.glo "FALLEN" (.str "f")) (.op oSub (.glo "CELLS_OF_TEXT" (.int 226)) (.bf bLen (.cons (.var 1) (.nil))))))) (.nil))
noncomputable def F_text_cells : Fun := fnDef [F_cells_of_number, F_sign_number] false 3 B_text_cells
/-- signs_in(cells, signs, at, text, both, sign) -/
def N_signs_in : List Str := ["cells", "signs", "at", "text", "both", "sign"]
def L1_signs_in : SL := .cons (.asg (.nm 4) (.sl3 (.var 0) (.var 2) (.op oAdd (.var 2) (.glo "PAIR" (.int 2))))) (.cons (.ife (.tru (.cmp cEq (.var 4) (.op oAdd (.glo "FALLEN" (.str "f")) (.glo "FALLEN" (.str "f"))))) (.cons (.brk) (.nil)) (.nil)) (.cons (.asg (.nm 5) (.fn 0 1 (.cons (.fn 1 1 (.cons (.var 4) (.nil))) (.nil)))) (.cons (.ife (.tru (.cmp cIs (.var 5) (.cst (.non)))) (.cons (.ret (.cst (.non))) (.nil)) (.nil)) (.cons (.ex (.ml mAppend (.var 1) (.cons (.var 5) (.nil)))) (.nil)))))
def B_signs_in : SL := .cons (.asg (.nm 1) (.cel (.nil))) (.cons (.for .rng3 (.cons (.cst (.int 0)) (.cons (.glo "CELLS_OF_TEXT" (.int 226)) (.cons (.glo "PAIR" (.int 2)) (.nil)))) (.nm 2) (L1_signs_in)) (.cons (.frz 1) (.cons (.asg (.nm 3) (.ms mJoin (.cst (.str "")) (.cons (.var 1) (.nil)))) (.cons (.ret (.ife (.and (.tru (.fn 3 1 (.cons (.var 3) (.nil)))) (.tru (.cmp cEq (.fn 2 1 (.cons (.var 3) (.nil))) (.sl2 (.var 0) (.glo "CELLS_OF_TEXT" (.int 226)))))) (.var 3) (.cst (.non)))) (.nil)))))
noncomputable def F_signs_in : Fun := fnDef [F_sign_of, F_number_in_cells, F_text_cells, F_is_page_text] true 6 B_signs_in
/-- sealed_page(text, cells) -/
def N_sealed_page : List Str := ["text", "cells"]
def B_sealed_page : SL := .cons (.asg (.nm 1) (.fn 0 1 (.cons (.var 0) (.nil)))) (.cons (.ret (.op oAdd (.var 1) (.fn 1 1 (.cons (.fn 2 1 (.cons (.var 1) (.nil))) (.nil))))) (.nil))
noncomputable def F_sealed_page : Fun := fnDef [F_text_cells, F_sum_cells, F_sums_of] false 2 B_sealed_page
/-- told_sums(cells, width, found, at, told) -/
def N_told_sums : List Str := ["cells", "width", "found", "at", "told"]
def L1_told_sums : SL := .cons (.asg (.nm 4) (.sl3 (.var 0) (.var 3) (.op oAdd (.var 3) (.var 1)))) (.cons (.ife (.tru (.cmp cNe (.fn 0 1 (.cons (.var 4) (.nil))) (.sl3 (.var 0) (.op oAdd (.var 3) (.var 1)) (.op oAdd (.var 3) (.op oMul (.glo "PAIR" (.int 2)) (.var 1)))))) (.cons (.ret (.cst (.non))) (.nil)) (.nil)) (.cons (.ex (.ml mAppend (.var 2) (.cons (.fn 1 1 (.cons (.var 4) (.nil))) (.nil)))) (.cons (.asg (.nm 3) (.op oAdd (.var 3) (.op oMul (.glo "PAIR" (.int 2)) (.var 1)))) (.nil))))
def B_told_sums : SL := .cons (.par [2, 3] (.cons (.cel (.nil)) (.cons (.glo "CELLS_OF_TEXT" (.int 226)) (.nil)))) (.cons (.for .tup (.cons (.glo "WIDTHS" (.tup [.int 3, .int 5, .int 7])) (.nil)) (.nm 1) (L1_told_sums)) (.cons (.frz 2) (.cons (.ret (.bt tTup (.cons (.var 2) (.nil)))) (.nil))))
noncomputable def F_told_sums : Fun := fnDef [F_contrary, F_number_in_cells] true 5 B_told_sums
/-- fallen_in_text(cells, told, at, text, more, placed, squared, here, there) -/
def N_fallen_in_text : List Str := ["cells", "told", "at", "text", "more", "placed", "squared", "here", "there"]
def X1_fallen_in_text : E := .op oSub (.var 7) (.var 8)
def B_fallen_in_text : SL := .cons (.asg (.nm 1) (.fn 0 1 (.cons (.var 0) (.nil)))) (.cons (.ife (.tru (.cmp cIs (.var 1) (.cst (.non)))) (.cons (.ret (.cst (.non))) (.nil)) (.nil)) (.cons (.asg (.tp (.cons (.nm 4) (.cons (.nm 5) (.cons (.nm 6) (.nil))))) (.lc false .zip (.cons (.fn 1 1 (.cons (.var 0) (.nil))) (.cons (.var 1) (.nil))) (.tp (.cons (.nm 7) (.cons (.nm 8) (.nil)))) [7, 8] (.yes) (X1_fallen_in_text))) (.cons (.ife (.or (.tru (.cmp cLt (.var 4) (.cst (.int 1)))) (.tru (.cmp cNe (.op oMod (.var 5) (.var 4)) (.cst (.int 0))))) (.cons (.ret (.cst (.non))) (.nil)) (.nil)) (.cons (.asg (.nm 2) (.op oSub (.op oDiv (.var 5) (.var 4)) (.cst (.int 1)))) (.cons (.ife (.or (.not (.tru (.chn cLe cLt (.cst (.int 0)) (.var 2) (.glo "CELLS_OF_TEXT" (.int 226))))) (.or (.tru (.cmp cNe (.var 6) (.op oMul (.var 5) (.op oAdd (.var 2) (.cst (.int 1)))))) (.tru (.cmp cGt (.op oAdd (.fn 2 1 (.cons (.ix (.var 0) (.var 2)) (.nil))) (.var 4)) (.glo "TOP" (.int 15)))))) (.cons (.ret (.cst (.non))) (.nil)) (.nil)) (.cons (.asg (.nm 3) (.fn 3 1 (.cons (.op oAdd (.op oAdd (.sl2 (.var 0) (.var 2)) (.ix (.glo "CELLS" (.str "0123456789abcdef")) (.op oAdd (.fn 2 1 (.cons (.ix (.var 0) (.var 2)) (.nil))) (.var 4)))) (.sl1 (.var 0) (.op oAdd (.var 2) (.cst (.int 1))))) (.nil)))) (.cons (.ret (.ife (.tru (.cmp cIs (.var 3) (.cst (.non)))) (.cst (.non)) (.tup (.cons (.var 3) (.cons (.var 2) (.nil)))))) (.nil))))))))
noncomputable def F_fallen_in_text : Fun := fnDef [F_told_sums, F_sums_of, F_cell_number, F_signs_in] false 9 B_fallen_in_text
/-- fallen_in_sums(cells, text, due, unlike, at) -/
def N_fallen_in_sums : List Str := ["cells", "text", "due", "unlike", "at"]
def X1_fallen_in_sums : E := .var 4
def B_fallen_in_sums : SL := .cons (.asg (.nm 1) (.fn 0 1 (.cons (.var 0) (.nil)))) (.cons (.ife (.tru (.cmp cIs (.var 1) (.cst (.non)))) (.cons (.ret (.cst (.non))) (.nil)) (.nil)) (.cons (.asg (.nm 2) (.fn 1 1 (.cons (.var 1) (.nil)))) (.cons (.asg (.nm 3) (.lc false .rng2 (.cons (.glo "CELLS_OF_TEXT" (.int 226)) (.cons (.bf bLen (.cons (.var 0) (.nil))) (.nil))) (.nm 4) [4] (.tru (.cmp cNe (.ix (.var 0) (.var 4)) (.ix (.var 2) (.var 4)))) (X1_fallen_in_sums))) (.cons (.ife (.or (.tru (.cmp cNe (.bf bLen (.cons (.var 3) (.nil))) (.cst (.int 1)))) (.tru (.cmp cGt (.fn 2 1 (.cons (.ix (.var 0) (.ix (.var 3) (.cst (.int 0)))) (.nil))) (.fn 2 1 (.cons (.ix (.var 2) (.ix (.var 3) (.cst (.int 0)))) (.nil)))))) (.cons (.ret (.cst (.non))) (.nil)) (.nil)) (.cons (.ret (.tup (.cons (.var 1) (.cons (.ix (.var 3) (.cst (.int 0))) (.nil))))) (.nil))))))
noncomputable def F_fallen_in_sums : Fun := fnDef [F_signs_in, F_sealed_page, F_cell_number] false 5 B_fallen_in_sums
/-- opened(cells, text, found) -/
def N_opened : List Str := ["cells", "text", "found"]
def B_opened : SL := .cons (.ife (.not (.tru (.fn 0 1 (.cons (.var 0) (.nil))))) (.cons (.nev) (.nil)) (.nil)) (.cons (.ife (.tru (.cmp cEq (.var 0) (.op oMul (.glo "FALLEN" (.str "f")) (.bf bLen (.cons (.var 0) (.nil)))))) (.cons (.ret (.tup (.cons (.glo "EMPTY" (.str "empty")) (.nil)))) (.nil)) (.nil)) (.cons (.asg (.nm 1) (.fn 1 1 (.cons (.var 0) (.nil)))) (.cons (.ife (.and (.tru (.cmp cIn' (.var 1) (.cst (.non)))) (.tru (.cmp cEq (.fn 2 1 (.cons (.var 1) (.nil))) (.var 0)))) (.cons (.ret (.tup (.cons (.glo "WHOLE" (.str "whole")) (.cons (.var 1) (.nil))))) (.nil)) (.nil)) (.cons (.asg (.nm 2) (.or (.fn 4 1 (.cons (.var 0) (.nil))) (.fn 3 1 (.cons (.var 0) (.nil))))) (.cons (.ret (.ife (.tru (.cmp cIs (.var 2) (.cst (.non)))) (.tup (.cons (.glo "TORN" (.str "torn")) (.nil))) (.tup (.cons (.glo "MENDED" (.str "mended")) (.star (.var 2) (.nil)))))) (.nil))))))
noncomputable def F_opened : Fun := fnDef [F_is_page, F_signs_in, F_sealed_page, F_fallen_in_sums, F_fallen_in_text] false 3 B_opened
/-- _law_pot(script, place, cell, own, small) -/
def N_law_pot : List Str := ["script", "place", "cell", "own", "small"]
def B_law_pot : SL := .cons (.asg (.nm 2) (.ife (.tru (.cmp cLt (.var 1) (.bf bLen (.cons (.var 0) (.nil))))) (.ix (.var 0) (.var 1)) (.op oAdd (.op oAdd (.op oMod (.bf bSum (.cons (.sl2 (.var 0) (.cst (.int 1))) (.nil))) (.cst (.int 1000003))) (.op oMul (.cst (.int 1682)) (.var 1))) (.cst (.int 904))))) (.cons (.asg (.nm 3) (.op oMul (.op oMod (.bt tInt (.cons (.bf bAbs (.cons (.var 2) (.nil))) (.nil))) (.op oPow (.op oPow (.cst (.int 10)) (.cst (.int 60))) (.cst (.int 5)))) (.bt tInt (.cons (.cmp cGe (.bf bAbs (.cons (.var 2) (.nil))) (.op oPow (.cst (.int 10)) (.cst (.int 18)))) (.nil))))) (.cons (.asg (.nm 4) (.op oMod (.bt tInt (.cons (.var 2) (.nil))) (.cst (.int 2305843009213693951)))) (.cons (.ret (.cel (.cons (.var 3) (.cons (.op oMod (.bt tInt (.cons (.op oAdd (.op oAdd (.op oMul (.var 4) (.cst (.int 75318))) (.op oMul (.op oMul (.cst (.int 8976)) (.var 1)) (.var 1))) (.cst (.int 876))) (.nil))) (.cst (.int 2305843009213693921))) (.cons (.cst (.int 0)) (.nil)))))) (.nil))))
noncomputable def F_law_pot : Fun := fnDef [] true 5 B_law_pot
/-- _law_take(pot, upto, prime, blend, digit) -/
def N_law_take : List Str := ["pot", "upto", "prime", "blend", "digit"]
def B_law_take : SL := .cons (.ife (.tru (.cmp cGt (.ix (.var 0) (.cst (.int 0))) (.cst (.int 0)))) (.cons (.asg (.nm 4) (.op oMod (.bt tInt (.cons (.ix (.var 0) (.cst (.int 0))) (.nil))) (.var 1))) (.cons (.set (.var 0) (.cst (.int 0)) (.op oDiv (.ix (.var 0) (.cst (.int 0))) (.var 1))) (.cons (.ret (.var 4)) (.nil)))) (.nil)) (.cons (.set (.var 0) (.cst (.int 2)) (.op oAdd (.ix (.var 0) (.cst (.int 2))) (.cst (.int 1)))) (.cons (.asg (.nm 2) (.ix (.lst (.cons (.cst (.int 2147483647)) (.cons (.cst (.int 2147483629)) (.cons (.cst (.int 2147483587)) (.cons (.cst (.int 2147483579)) (.cons (.cst (.int 2147483563)) (.nil))))))) (.op oMod (.bt tInt (.cons (.ix (.var 0) (.cst (.int 2))) (.nil))) (.cst (.int 5))))) (.cons (.asg (.nm 3) (.op oMod (.bt tInt (.cons (.op oPow (.bt tInt (.cons (.op oAdd (.op oAdd (.ix (.var 0) (.cst (.int 1))) (.op oMul (.op oMul (.cst (.int 100832)) (.ix (.var 0) (.cst (.int 2)))) (.ix (.var 0) (.cst (.int 2))))) (.cst (.int 1200))) (.nil))) (.cst (.int 3))) (.nil))) (.var 2))) (.cons (.asg (.nm 3) (.op oMod (.bt tInt (.cons (.op oMul (.var 3) (.op oAdd (.op oMod (.bt tInt (.cons (.var 3) (.nil))) (.cst (.int 11114))) (.op oMul (.cst (.int 450)) (.ix (.var 0) (.cst (.int 2)))))) (.nil))) (.cst (.int 2305843009213693907)))) (.cons (.ret (.op oMod (.bt tInt (.cons (.op oDiv (.var 3) (.cst (.int 167))) (.nil))) (.var 1))) (.nil))))))
noncomputable def F_law_take : Fun := fnDef [] false 5 B_law_take
/-- _law_of(pot, some) -/
def N_law_of : List Str := ["pot", "some"]
def B_law_of : SL := .cons (.ret (.ix (.var 1) (.fn 0 2 (.cons (.var 0) (.cons (.bf bLen (.cons (.var 1) (.nil))) (.nil)))))) (.nil)
noncomputable def F_law_of : Fun := fnDef [F_law_take] false 2 B_law_of
/-- _law_cells(script, most) -/
def N_law_cells : List Str := ["script", "most"]
def B_law_cells : SL := .cons (.ret (.lr1 (.bf bMax (.cons (.cst (.int 1)) (.cons (.bf bMin (.cons (.var 1) (.cons (.bf bLen (.cons (.var 0) (.nil))) (.nil)))) (.nil)))))) (.nil)
noncomputable def F_law_cells : Fun := fnDef [] false 2 B_law_cells
/-- _law_code_worth(sign) -/
def N_law_code_worth : List Str := ["sign"]
def B_law_code_worth : SL := .cons (.ret (.ms mIndex (.cst (.str "0123456789abcdef")) (.cons (.var 0) (.nil)))) (.nil)
noncomputable def F_law_code_worth : Fun := fnDef [] false 1 B_law_code_worth
/-- _law_code_sums(cells, found, at, sign, lack) -/
def N_law_code_sums : List Str := ["cells", "found", "at", "sign", "lack"]
def L1_law_code_sums : SL := .cons (.asg (.nm 4) (.op oSub (.cst (.int 15)) (.fn 0 1 (.cons (.var 3) (.nil))))) (.cons (.asg (.nm 1) (.lst (.cons (.op oAdd (.ix (.var 1) (.cst (.int 0))) (.var 4)) (.cons (.op oAdd (.ix (.var 1) (.cst (.int 1))) (.op oMul (.var 4) (.op oAdd (.var 2) (.cst (.int 1))))) (.cons (.op oAdd (.ix (.var 1) (.cst (.int 2))) (.op oMul (.op oMul (.var 4) (.op oAdd (.var 2) (.cst (.int 1)))) (.op oAdd (.var 2) (.cst (.int 1))))) (.nil)))))) (.nil))
def B_law_code_sums : SL := .cons (.asg (.nm 1) (.lst (.cons (.cst (.int 0)) (.cons (.cst (.int 0)) (.cons (.cst (.int 0)) (.nil)))))) (.cons (.for .enu (.cons (.sl2 (.var 0) (.cst (.int 226))) (.nil)) (.tp (.cons (.nm 2) (.cons (.nm 3) (.nil)))) (L1_law_code_sums)) (.cons (.ret (.bt tTup (.cons (.var 1) (.nil)))) (.nil)))
noncomputable def F_law_code_sums : Fun := fnDef [F_law_code_worth] false 5 B_law_code_sums
/-- _law_code_figures(number, many, found, lap) -/
def N_law_code_figures : List Str := ["number", "many", "found", "lap"]
def L1_law_code_figures : SL := .cons (.asg (.nm 2) (.op oAdd (.ix (.cst (.str "0123456789abcdef")) (.op oMod (.var 0) (.cst (.int 16)))) (.var 2))) (.cons (.asg (.nm 0) (.op oDiv (.var 0) (.cst (.int 16)))) (.nil))
def B_law_code_figures : SL := .cons (.asg (.nm 2) (.cst (.str ""))) (.cons (.for .rng1 (.cons (.var 1) (.nil)) (.nm 3) (L1_law_code_figures)) (.cons (.ret (.var 2)) (.nil)))
noncomputable def F_law_code_figures : Fun := fnDef [] false 4 B_law_code_figures
/-- _law_code_number(cells, found, sign) -/
def N_law_code_number : List Str := ["cells", "found", "sign"]
def L1_law_code_number : SL := .cons (.asg (.nm 1) (.op oAdd (.op oMul (.cst (.int 16)) (.var 1)) (.fn 0 1 (.cons (.var 2) (.nil))))) (.nil)
def B_law_code_number : SL := .cons (.asg (.nm 1) (.cst (.int 0))) (.cons (.for .str (.cons (.var 0) (.nil)) (.nm 2) (L1_law_code_number)) (.cons (.ret (.var 1)) (.nil)))
noncomputable def F_law_code_number : Fun := fnDef [F_law_code_worth] false 3 B_law_code_number
/-- _law_code_turned(cells, sign) -/
def N_law_code_turned : List Str := ["cells", "sign"]
def X1_law_code_turned : E := .ix (.cst (.str "0123456789abcdef")) (.op oSub (.cst (.int 15)) (.fn 0 1 (.cons (.var 1) (.nil))))
def B_law_code_turned : SL := .cons (.ret (.ms mJoin (.cst (.str "")) (.cons (.lc false .str (.cons (.var 0) (.nil)) (.nm 1) [1] (.yes) (X1_law_code_turned)) (.nil)))) (.nil)
noncomputable def F_law_code_turned : Fun := fnDef [F_law_code_worth] false 2 B_law_code_turned
/-- _law_code_tail(cells, found, number, many, figures) -/
def N_law_code_tail : List Str := ["cells", "found", "number", "many", "figures"]
def L1_law_code_tail : SL := .cons (.asg (.nm 4) (.fn 1 2 (.cons (.var 2) (.cons (.var 3) (.nil))))) (.cons (.asg (.nm 1) (.op oAdd (.op oAdd (.var 1) (.var 4)) (.fn 2 1 (.cons (.var 4) (.nil))))) (.nil))
def B_law_code_tail : SL := .cons (.asg (.nm 1) (.cst (.str ""))) (.cons (.for .zip (.cons (.fn 0 1 (.cons (.var 0) (.nil))) (.cons (.tup (.cons (.cst (.int 3)) (.cons (.cst (.int 5)) (.cons (.cst (.int 7)) (.nil))))) (.nil))) (.tp (.cons (.nm 2) (.cons (.nm 3) (.nil)))) (L1_law_code_tail)) (.cons (.ret (.var 1)) (.nil)))
noncomputable def F_law_code_tail : Fun := fnDef [F_law_code_sums, F_law_code_figures, F_law_code_turned] false 5 B_law_code_tail
/-- _law_code_signs() -/
def N_law_code_signs : List Str := []
def B_law_code_signs : SL := .cons (.ret (.cst (.str " !\"#$&'()*+,-./0123456789:;<=>?@ABCDEFGHIJKLMNOPQRSTUVWXYZ[\\]^_`abcdefghijklmnopqrstuvwxyz{|}~"))) (.nil)
noncomputable def F_law_code_signs : Fun := fnDef [] false 0 B_law_code_signs
/-- _law_code_sealed(text, head, sign) -/
def N_law_code_sealed : List Str := ["text", "head", "sign"]
def X1_law_code_sealed : E := .fn 0 2 (.cons (.bf bOrd (.cons (.var 2) (.nil))) (.cons (.cst (.int 2)) (.nil)))
def B_law_code_sealed : SL := .cons (.asg (.nm 1) (.ms mJoin (.cst (.str "")) (.cons (.lc false .str (.cons (.var 0) (.nil)) (.nm 2) [2] (.yes) (X1_law_code_sealed)) (.nil)))) (.cons (.asg (.nm 1) (.op oAdd (.var 1) (.op oMul (.cst (.str "f")) (.op oSub (.cst (.int 226)) (.bf bLen (.cons (.var 1) (.nil))))))) (.cons (.ret (.op oAdd (.var 1) (.fn 1 1 (.cons (.var 1) (.nil))))) (.nil)))
noncomputable def F_law_code_sealed : Fun := fnDef [F_law_code_figures, F_law_code_tail] false 3 B_law_code_sealed
/-- _law_code_by_numbers(sign) -/
def N_law_code_by_numbers : List Str := ["sign"]
def X1_law_code_by_numbers : E := .tup (.cons (.bf bOrd (.cons (.var 0) (.nil))) (.cons (.var 0) (.nil)))
def B_law_code_by_numbers : SL := .cons (.ret (.dcp (.lc false .str (.cons (.op oAdd (.fn 0 0 (.nil)) (.cst (.str "\n"))) (.nil)) (.nm 0) [0] (.yes) (X1_law_code_by_numbers)))) (.nil)
noncomputable def F_law_code_by_numbers : Fun := fnDef [F_law_code_signs] true 1 B_law_code_by_numbers
/-- _law_code_text(head, signs, many, known, text, at, sign) -/
def N_law_code_text : List Str := ["head", "signs", "many", "known", "text", "at", "sign"]
def X1_law_code_text : E := .fn 0 1 (.cons (.sl3 (.var 0) (.var 5) (.op oAdd (.var 5) (.cst (.int 2)))) (.nil))
def X2_law_code_text : E := .cst (.int 1)
def X3_law_code_text : E := .md mGet (.var 3) (.cons (.var 6) (.cons (.cst (.str "")) (.nil)))
def B_law_code_text : SL := .cons (.asg (.nm 1) (.lc false .rng3 (.cons (.cst (.int 0)) (.cons (.cst (.int 226)) (.cons (.cst (.int 2)) (.nil)))) (.nm 5) [5] (.yes) (X1_law_code_text))) (.cons (.asg (.nm 2) (.bf bLen (.cons (.lc false .lst (.cons (.var 1) (.nil)) (.nm 6) [6] (.tru (.cmp cNe (.var 6) (.cst (.int 255)))) (X2_law_code_text)) (.nil)))) (.cons (.asg (.nm 3) (.fn 1 0 (.nil))) (.cons (.asg (.nm 4) (.ms mJoin (.cst (.str "")) (.cons (.lc false .lst (.cons (.sl2 (.var 1) (.var 2)) (.nil)) (.nm 6) [6] (.yes) (X3_law_code_text)) (.nil)))) (.cons (.ret (.ife (.and (.tru (.cmp cEq (.bf bLen (.cons (.var 4) (.nil))) (.var 2))) (.tru (.cmp cEq (.sl1 (.var 0) (.op oMul (.cst (.int 2)) (.var 2))) (.op oMul (.cst (.str "f")) (.op oSub (.cst (.int 226)) (.op oMul (.cst (.int 2)) (.var 2))))))) (.var 4) (.cst (.non)))) (.nil)))))
noncomputable def F_law_code_text : Fun := fnDef [F_law_code_number, F_law_code_by_numbers] true 7 B_law_code_text
/-- _law_code_unlike(one, other, at) -/
def N_law_code_unlike : List Str := ["one", "other", "at"]
def X1_law_code_unlike : E := .var 2
def B_law_code_unlike : SL := .cons (.ret (.lc false .rng1 (.cons (.cst (.int 256)) (.nil)) (.nm 2) [2] (.tru (.cmp cNe (.ix (.var 0) (.var 2)) (.ix (.var 1) (.var 2)))) (X1_law_code_unlike))) (.nil)
noncomputable def F_law_code_unlike : Fun := fnDef [] false 3 B_law_code_unlike
/-- _law_code_fallen(cells, page, places) -/
def N_law_code_fallen : List Str := ["cells", "page", "places"]
def B_law_code_fallen : SL := .cons (.asg (.nm 2) (.fn 0 2 (.cons (.var 0) (.cons (.var 1) (.nil))))) (.cons (.ret (.ife (.and (.tru (.cmp cEq (.bf bLen (.cons (.var 2) (.nil))) (.cst (.int 1)))) (.tru (.cmp cLt (.ix (.var 0) (.ix (.var 2) (.cst (.int 0)))) (.ix (.var 1) (.ix (.var 2) (.cst (.int 0))))))) (.ix (.var 2) (.cst (.int 0))) (.cst (.non)))) (.nil))
noncomputable def F_law_code_fallen : Fun := fnDef [F_law_code_unlike] false 3 B_law_code_fallen
/-- _law_code_told(cells, found, low, many, figures) -/
def N_law_code_told : List Str := ["cells", "found", "low", "many", "figures"]
def L1_law_code_told : SL := .cons (.asg (.nm 4) (.sl3 (.var 0) (.var 2) (.op oAdd (.var 2) (.var 3)))) (.cons (.ex (.ml mAppend (.var 1) (.cons (.fn 0 1 (.cons (.var 4) (.nil))) (.nil)))) (.cons (.ife (.tru (.cmp cNe (.sl3 (.var 0) (.op oAdd (.var 2) (.var 3)) (.op oAdd (.var 2) (.op oMul (.cst (.int 2)) (.var 3)))) (.fn 1 1 (.cons (.var 4) (.nil))))) (.cons (.ret (.cst (.non))) (.nil)) (.nil)) (.nil)))
def B_law_code_told : SL := .cons (.asg (.nm 1) (.cel (.nil))) (.cons (.for .tup (.cons (.tup (.cons (.tup (.cons (.cst (.int 226)) (.cons (.cst (.int 3)) (.nil)))) (.cons (.tup (.cons (.cst (.int 232)) (.cons (.cst (.int 5)) (.nil)))) (.nil)))) (.nil)) (.tp (.cons (.nm 2) (.cons (.nm 3) (.nil)))) (L1_law_code_told)) (.cons (.frz 1) (.cons (.ret (.var 1)) (.nil))))
noncomputable def F_law_code_told : Fun := fnDef [F_law_code_number, F_law_code_turned] true 5 B_law_code_told
/-- _law_code_lifted(cells, at, told, mine, by, far) -/
def N_law_code_lifted : List Str := ["cells", "at", "told", "mine", "by", "far"]
def B_law_code_lifted : SL := .cons (.par [2, 3] (.cons (.fn 1 1 (.cons (.var 0) (.nil))) (.cons (.fn 0 1 (.cons (.var 0) (.nil))) (.nil)))) (.cons (.ife (.or (.tru (.cmp cIs (.var 2) (.cst (.non)))) (.not (.tru (.chn cLe cLe (.cst (.int 1)) (.op oSub (.ix (.var 3) (.cst (.int 0))) (.ix (.var 2) (.cst (.int 0)))) (.cst (.int 15)))))) (.cons (.ret (.cst (.non))) (.nil)) (.nil)) (.cons (.par [4, 5] (.cons (.op oSub (.ix (.var 3) (.cst (.int 0))) (.ix (.var 2) (.cst (.int 0)))) (.cons (.op oSub (.ix (.var 3) (.cst (.int 1))) (.ix (.var 2) (.cst (.int 1)))) (.nil)))) (.cons (.asg (.nm 1) (.op oSub (.op oDiv (.var 5) (.var 4)) (.cst (.int 1)))) (.cons (.ife (.or (.not (.tru (.chn cLe cLt (.cst (.int 0)) (.var 1) (.cst (.int 226))))) (.or (.tru (.cmp cNe (.var 5) (.op oMul (.var 4) (.op oAdd (.var 1) (.cst (.int 1)))))) (.tru (.cmp cGt (.op oAdd (.fn 2 1 (.cons (.ix (.var 0) (.var 1)) (.nil))) (.var 4)) (.cst (.int 15)))))) (.cons (.ret (.cst (.non))) (.nil)) (.nil)) (.cons (.ret (.op oAdd (.op oAdd (.sl2 (.var 0) (.var 1)) (.ix (.cst (.str "0123456789abcdef")) (.op oAdd (.fn 2 1 (.cons (.ix (.var 0) (.var 1)) (.nil))) (.var 4)))) (.sl1 (.var 0) (.op oAdd (.var 1) (.cst (.int 1)))))) (.nil))))))
noncomputable def F_law_code_lifted : Fun := fnDef [F_law_code_sums, F_law_code_told, F_law_code_worth] false 6 B_law_code_lifted
/-- _law_code_opened(cells, lifted, head, text, fell) -/
def N_law_code_opened : List Str := ["cells", "lifted", "head", "text", "fell"]
def L1_law_code_opened : SL := .cons (.asg (.nm 3) (.ife (.tru (.cmp cNe (.var 2) (.cst (.str "")))) (.fn 1 1 (.cons (.var 2) (.nil))) (.cst (.non)))) (.cons (.ife (.and (.tru (.cmp cIn' (.var 3) (.cst (.non)))) (.tru (.cmp cEq (.fn 2 1 (.cons (.var 3) (.nil))) (.var 0)))) (.cons (.ret (.tup (.cons (.cst (.str "whole")) (.cons (.var 3) (.nil))))) (.nil)) (.nil)) (.cons (.asg (.nm 4) (.ife (.tru (.cmp cIs (.var 3) (.cst (.non)))) (.cst (.non)) (.fn 3 2 (.cons (.var 0) (.cons (.fn 2 1 (.cons (.var 3) (.nil))) (.nil)))))) (.cons (.ife (.tru (.cmp cIn' (.var 4) (.cst (.non)))) (.cons (.ret (.tup (.cons (.cst (.str "mended")) (.cons (.var 3) (.cons (.var 4) (.nil)))))) (.nil)) (.nil)) (.nil))))
def B_law_code_opened : SL := .cons (.ife (.tru (.cmp cEq (.var 0) (.op oMul (.cst (.str "f")) (.cst (.int 256))))) (.cons (.ret (.tup (.cons (.cst (.str "empty")) (.nil)))) (.nil)) (.nil)) (.cons (.asg (.nm 1) (.fn 0 1 (.cons (.var 0) (.nil)))) (.cons (.for .tup (.cons (.tup (.cons (.sl2 (.var 0) (.cst (.int 226))) (.cons (.ife (.tru (.cmp cIs (.var 1) (.cst (.non)))) (.cst (.str "")) (.sl2 (.var 1) (.cst (.int 226)))) (.nil)))) (.nil)) (.nm 2) (L1_law_code_opened)) (.cons (.ret (.tup (.cons (.cst (.str "torn")) (.nil)))) (.nil))))
noncomputable def F_law_code_opened : Fun := fnDef [F_law_code_lifted, F_law_code_text, F_law_code_sealed, F_law_code_fallen] false 5 B_law_code_opened
/-- _law_text_drawn(pot, many, signs, lap) -/
def N_law_text_drawn : List Str := ["pot", "many", "signs", "lap"]
def X1_law_text_drawn : E := .fn 0 2 (.cons (.var 0) (.cons (.var 2) (.nil)))
def B_law_text_drawn : SL := .cons (.asg (.nm 1) (.fn 0 2 (.cons (.var 0) (.cons (.lst (.cons (.cst (.int 0)) (.cons (.cst (.int 1)) (.cons (.cst (.int 2)) (.cons (.cst (.int 7)) (.cons (.cst (.int 20)) (.cons (.cst (.int 112)) (.cons (.cst (.int 113)) (.nil))))))))) (.nil))))) (.cons (.asg (.nm 2) (.fn 0 2 (.cons (.var 0) (.cons (.lst (.cons (.bt tLst (.cons (.cst (.str " !abz~\n")) (.nil))) (.cons (.lst (.cons (.cst (.str "~")) (.nil))) (.cons (.lst (.cons (.cst (.str "\n")) (.nil))) (.cons (.lst (.cons (.cst (.str " ")) (.nil))) (.cons (.bt tLst (.cons (.cst (.str "0123456789\n")) (.nil))) (.nil))))))) (.nil))))) (.cons (.ret (.ms mJoin (.cst (.str "")) (.cons (.lc false .rng1 (.cons (.var 1) (.nil)) (.nm 3) [3] (.yes) (X1_law_text_drawn)) (.nil)))) (.nil)))
noncomputable def F_law_text_drawn : Fun := fnDef [F_law_of] false 4 B_law_text_drawn
/-- _law_places(pot, page, lows, found, low, high, at, lap) -/
def N_law_places : List Str := ["pot", "page", "lows", "found", "low", "high", "at", "lap"]
def X1_law_places : E := .op oAdd (.var 4) (.fn 0 2 (.cons (.var 0) (.cons (.op oSub (.var 5) (.var 4)) (.nil))))
def L1_law_places : SL := .cons (.ex (.ml mExtend (.var 3) (.cons (.lc true .rng1 (.cons (.cst (.int 2)) (.nil)) (.nm 7) [7] (.yes) (X1_law_places)) (.nil)))) (.nil)
def X2_law_places : E := .var 6
def B_law_places : SL := .cons (.asg (.nm 2) (.lst (.cons (.tup (.cons (.cst (.int 0)) (.cons (.cst (.int 8)) (.nil)))) (.cons (.tup (.cons (.cst (.int 0)) (.cons (.cst (.int 226)) (.nil)))) (.cons (.tup (.cons (.cst (.int 200)) (.cons (.cst (.int 226)) (.nil)))) (.cons (.tup (.cons (.cst (.int 226)) (.cons (.cst (.int 229)) (.nil)))) (.cons (.tup (.cons (.cst (.int 229)) (.cons (.cst (.int 232)) (.nil)))) (.cons (.tup (.cons (.cst (.int 232)) (.cons (.cst (.int 237)) (.nil)))) (.cons (.tup (.cons (.cst (.int 237)) (.cons (.cst (.int 242)) (.nil)))) (.cons (.tup (.cons (.cst (.int 242)) (.cons (.cst (.int 249)) (.nil)))) (.cons (.tup (.cons (.cst (.int 249)) (.cons (.cst (.int 256)) (.nil)))) (.nil)))))))))))) (.cons (.asg (.nm 3) (.cel (.nil))) (.cons (.for .lst (.cons (.var 2) (.nil)) (.tp (.cons (.nm 4) (.cons (.nm 5) (.nil)))) (L1_law_places)) (.cons (.frz 3) (.cons (.ret (.lc false .lst (.cons (.var 3) (.nil)) (.nm 6) [6] (.tru (.cmp cNe (.ix (.var 1) (.var 6)) (.cst (.str "0")))) (X2_law_places))) (.nil)))))
noncomputable def F_law_places : Fun := fnDef [F_law_take] true 8 B_law_places
/-- _law_lower(pot, sign, some) -/
def N_law_lower : List Str := ["pot", "sign", "some"]
def B_law_lower : SL := .cons (.asg (.nm 2) (.sl2 (.cst (.str "0123456789abcdef")) (.fn 0 1 (.cons (.var 1) (.nil))))) (.cons (.ret (.lst (.cons (.ix (.var 2) (.cst (.int 0))) (.cons (.ix (.var 2) (.neg (.cst (.int 1)))) (.cons (.fn 1 2 (.cons (.var 0) (.cons (.bt tLst (.cons (.var 2) (.nil))) (.nil)))) (.nil)))))) (.nil))
noncomputable def F_law_lower : Fun := fnDef [F_law_code_worth, F_law_of] false 3 B_law_lower
/-- _law_right(pot, lap, text, page, places, at, sign, cells, other, both, told) -/
def N_law_right : List Str := ["pot", "lap", "text", "page", "places", "at", "sign", "cells", "other", "both", "told"]
def L1_law_right : SL := .cons (.asg (.nm 6) (.fn 3 2 (.cons (.var 0) (.cons (.fn 4 2 (.cons (.var 0) (.cons (.ix (.var 3) (.var 5)) (.nil)))) (.nil))))) (.cons (.asg (.nm 7) (.op oAdd (.op oAdd (.sl2 (.var 3) (.var 5)) (.var 6)) (.sl1 (.var 3) (.op oAdd (.var 5) (.cst (.int 1)))))) (.cons (.ife (.tru (.cmp cNe (.bf bRepr (.cons (.fn 5 1 (.cons (.var 7) (.nil))) (.nil))) (.bf bRepr (.cons (.tup (.cons (.cst (.str "mended")) (.cons (.var 2) (.cons (.var 5) (.nil))))) (.nil))))) (.cons (.ret (.cst (.bl false))) (.nil)) (.nil)) (.cons (.asg (.nm 8) (.fn 3 2 (.cons (.var 0) (.cons (.var 4) (.nil))))) (.cons (.ife (.tru (.cmp cNe (.var 8) (.var 5))) (.cons (.asg (.nm 9) (.op oAdd (.op oAdd (.sl2 (.var 7) (.var 8)) (.ix (.fn 4 2 (.cons (.var 0) (.cons (.ix (.var 3) (.var 8)) (.nil)))) (.cst (.int 2)))) (.sl1 (.var 7) (.op oAdd (.var 8) (.cst (.int 1)))))) (.cons (.asg (.nm 10) (.fn 5 1 (.cons (.var 9) (.nil)))) (.cons (.ife (.tru (.cmp cNe (.bf bRepr (.cons (.var 10) (.nil))) (.bf bRepr (.cons (.fn 6 1 (.cons (.var 9) (.nil))) (.nil))))) (.cons (.ret (.cst (.bl false))) (.nil)) (.nil)) (.nil)))) (.nil)) (.nil)))))
def L2_law_right : SL := .cons (.asg (.nm 2) (.fn 0 1 (.cons (.var 0) (.nil)))) (.cons (.asg (.nm 3) (.fn 1 1 (.cons (.var 2) (.nil)))) (.cons (.asg (.nm 4) (.fn 2 2 (.cons (.var 0) (.cons (.var 3) (.nil))))) (.cons (.for .lst (.cons (.var 4) (.nil)) (.nm 5) (L1_law_right)) (.nil))))
def B_law_right : SL := .cons (.for .rng1 (.cons (.cst (.int 2)) (.nil)) (.nm 1) (L2_law_right)) (.cons (.ret (.cst (.bl true))) (.nil))
noncomputable def F_law_right : Fun := fnDef [F_law_text_drawn, F_law_code_sealed, F_law_places, F_law_of, F_law_lower, F_opened, F_law_code_opened] false 11 B_law_right
/-- law(script, place) -/
def N_law : List Str := ["script", "place"]
def X1_law : E := .fn 1 1 (.cons (.fn 2 2 (.cons (.var 0) (.cons (.var 1) (.nil)))) (.nil))
def B_law : SL := .cons (.ret (.bf bAll (.cons (.lc false .lst (.cons (.fn 0 2 (.cons (.var 0) (.cons (.cst (.int 2)) (.nil)))) (.nil)) (.nm 1) [1] (.yes) (X1_law)) (.nil)))) (.nil)
noncomputable def F_law : Fun := fnDef [F_law_cells, F_law_right, F_law_pot] false 2 B_law
end Lw
end

section
set_option Elab.async false
set_option linter.all false
set_option maxRecDepth 100000
set_option maxHeartbeats 2000000
namespace Lw
open PySem Wn
local macro_rules | `(tactic| walk_at "ev") => `(tactic| simp only [fnDef, fnOf, denSL, denS, den, denL, denB, denI, sSeq, sAsg, sRet, sRetN, sEx, sIf, sFor, sPar, sSet, sPass, sBrk, sCnt, bndS, bnd, Wn.ret, stuck, opt, eVar, eCst, eOp, eCall, eChain, bTru, bNot, bAnd, bOr, eOr, eAnd, eNot, eIf, lNil, lCons, eTup, eLst, eCell, eMt, eMl, eSl, oNo, oAt, eNeg, eLc, lcRun, fnDo, startE, fin, Tg.put, TgL.puts, isS_ite, if_le_sz, add_int, sub_int, eq_int, ne_int, le_int, lt_int, gt_int, ge_int, is_non, isnot_non, isNon, asTru, truD, iArg, wipeE,
  List.map_cons, List.map_nil, List.length_cons, List.length_nil, List.getElem?_cons_zero, List.getElem?_cons_succ, List.set_cons_zero, List.set_cons_succ, List.getD_cons_zero, List.getD_cons_succ, List.cons_append, List.nil_append, List.replicate_succ, List.replicate_zero, Nat.zero_add, Nat.sub_self, Nat.add_one_sub_one, Nat.reduceAdd, Nat.reduceSub, Nat.reduceLeDiff, Nat.reduceEqDiff, if_true, if_false, Bool.false_eq_true, Bool.not_true, Bool.not_false, decide_true, decide_false, g1, g2, List.zip_cons_cons, List.zip_nil_right, List.foldl_cons, List.foldl_nil,
  mIndex, mJoin, mAppend, mExtend, mGet, eMd, eDcp, gDcp, sSetA, setA, bLen, bAbs, bMax, bMin, bSum, bAll, bAny, bOrd, bRepr, bIsi, tInt, tTup, tLst, nInt, nStr, nBool, nTup, nLst, oAdd, oSub, oMul, oMod, oDiv, oPow, cEq, cNe, cLt, cLe, cGt, cGe, cIn, cNi, cIs, cIn', Option.some_or, Option.or_none, Option.none_or])
local macro_rules | `(tactic| walk_at "evh") => `(tactic| simp only [*, fnDef, fnOf, denSL, denS, den, denL, denB, denI, sSeq, sAsg, sRet, sRetN, sEx, sIf, sFor, sPar, sSet, sPass, sBrk, sCnt, bndS, bnd, Wn.ret, stuck, opt, eVar, eCst, eOp, eCall, eChain, bTru, bNot, bAnd, bOr, eOr, eAnd, eNot, eIf, lNil, lCons, eTup, eLst, eCell, eMt, eMl, eSl, oNo, oAt, eNeg, eLc, lcRun, fnDo, startE, fin, Tg.put, TgL.puts, isS_ite, if_le_sz, add_int, sub_int, eq_int, ne_int, le_int, lt_int, gt_int, ge_int, is_non, isnot_non, isNon, asTru, truD, iArg, wipeE,
  List.map_cons, List.map_nil, List.length_cons, List.length_nil, List.getElem?_cons_zero, List.getElem?_cons_succ, List.set_cons_zero, List.set_cons_succ, List.getD_cons_zero, List.getD_cons_succ, List.cons_append, List.nil_append, List.replicate_succ, List.replicate_zero, Nat.zero_add, Nat.sub_self, Nat.add_one_sub_one, Nat.reduceAdd, Nat.reduceSub, Nat.reduceLeDiff, Nat.reduceEqDiff, if_true, if_false, Bool.false_eq_true, Bool.not_true, Bool.not_false, decide_true, decide_false, g1, g2, List.zip_cons_cons, List.zip_nil_right, List.foldl_cons, List.foldl_nil,
  mIndex, mJoin, mAppend, mExtend, mGet, eMd, eDcp, gDcp, sSetA, setA, bLen, bAbs, bMax, bMin, bSum, bAll, bAny, bOrd, bRepr, bIsi, tInt, tTup, tLst, nInt, nStr, nBool, nTup, nLst, oAdd, oSub, oMul, oMod, oDiv, oPow, cEq, cNe, cLt, cLe, cGt, cGe, cIn, cNi, cIs, cIn', Option.some_or, Option.or_none, Option.none_or])
/-! ### numbers and cells -/
theorem ev_cell_number {v : Nat} {M : Mem} (h : v < 16) : F_cell_number [.str (st [hexc v])] M = .ok (.int (v : Nat)) M := by
  unfold F_cell_number B_cell_number
  walk_at "ev"
  have e := idx_cell (M := M) h
  unfold CS at e
  rw [e]
def hexval (a : Nat) (vs : List Nat) : Nat := vs.foldl (fun a v => a * 16 + v) a
theorem mul_ok {a b : Int} {M : Mem} (h : a.natAbs.log2 + b.natAbs.log2 < 1000000) : gMul M (.int a) (.int b) = some (.int (a * b)) := if_pos h
theorem log2_le {a n : Nat} (h : a < 2 ^ n) : a.log2 ≤ n := by
  by_cases h0 : a = 0
  · subst h0; simp
  · exact Nat.le_of_lt ((Nat.log2_lt h0).mpr h)
theorem number_loop {M : Mem} {s : D} : ∀ (vs : List Nat) (n : Nat) (x : Option D), Cells vs → hexval n vs < 2 ^ 1000 → ∃ y, forGo (.nm 2) (denSL [F_cell_number] L1_number_in_cells) (vs.map fun v => D.str (st [hexc v])) [some s, some (.int (n : Nat)), x] M = .nx [some s, some (.int (hexval n vs : Nat)), y] M
  | [], n, x, _, _ => ⟨x, rfl⟩
  | v :: vs, n, x, hc, hb => by
    have hv : v < 16 := hc v (List.mem_cons_self ..)
    have mono : ∀ (vs : List Nat) (a : Nat), a ≤ hexval a vs := by
      intro vs
      induction vs with
      | nil => intro a; exact Nat.le_refl _
      | cons v vs ih => intro a; exact Nat.le_trans (by omega) (ih (a * 16 + v))
    have hn : n * 16 + v < 2 ^ 1000 := Nat.lt_of_le_of_lt (mono vs (n * 16 + v)) hb
    obtain ⟨y, ih⟩ := number_loop (M := M) (s := s) vs (n * 16 + v) (some (.str (st [hexc v]))) (fun w hw => hc w (List.mem_cons_of_mem _ hw)) hb
    refine ⟨y, ?_⟩
    rw [List.map_cons, for_nx (δ1 := [some s, some (.int (n : Nat)), some (.str (st [hexc v]))]) (δ2 := [some s, some (.int ((n * 16 + v : Nat) : Int)), some (.str (st [hexc v]))]) (M2 := M) rfl ?_]
    · exact ih
    · unfold L1_number_in_cells
      walk_at "ev"
      have e1 : gMul M (.int (n : Nat)) (.int 16) = some (.int ((n : Nat) * 16)) := mul_ok (by
        have := log2_le (a := n) (n := 1000) (by omega)
        show n.log2 + Nat.log2 16 < 1000000
        have : Nat.log2 16 = 4 := by decide
        omega)
      simp only [e1, ev_cell_number hv, add_int]
      simp
theorem ev_number_in_cells {vs : List Nat} {M : Mem} (hc : Cells vs) (hb : hexval 0 vs < 2 ^ 1000) : F_number_in_cells [.str (cs vs)] M = .ok (.int (hexval 0 vs : Nat)) M := by
  obtain ⟨y, h⟩ := number_loop (M := M) (s := .str (cs vs)) vs 0 none hc hb
  unfold F_number_in_cells B_number_in_cells
  walk_at "ev"
  simp only [itS, cs_sgn]
  have h0 : (.int 0 : D) = .int ((0 : Nat) : Int) := rfl
  rw [h0, h]
  rfl
/-- a number as so many cells -/
def digits : Nat → Nat → List Nat
  | 0, _ => []
  | w + 1, n => digits w (n / 16) ++ [n % 16]
theorem digits_cells : ∀ w n, Cells (digits w n)
  | 0, _ => fun v h => by cases h
  | w + 1, n => fun v h => by
    rcases List.mem_append.mp h with h | h
    · exact digits_cells w _ v h
    · rw [List.mem_singleton.mp h]; omega
theorem digits_len : ∀ w n, (digits w n).length = w
  | 0, _ => rfl
  | w + 1, n => by simp [digits, digits_len w]
theorem mod_ok {a b : Int} {M : Mem} (h : 0 < b) : gMod M (.int a) (.int b) = some (.int (a % b)) := if_pos h
theorem div_ok {a b : Int} {M : Mem} (h : 0 < b) (h2 : b.natAbs.log2 < 9000) : gDiv M (.int a) (.int b) = some (.int (a / b)) := if_pos ⟨h, h2⟩
theorem figures_loop {M : Mem} {w : D} : ∀ (ds : List D) (n : Nat) (acc : List Nat) (x : Option D), acc.length + ds.length ≤ 1000 → ∃ y, forGo (.nm 3) (denSL [] L1_cells_of_number) ds [some (.int (n : Nat)), some w, some (.str (cs acc)), x] M = .nx [some (.int ((n / 16 ^ ds.length : Nat) : Int)), some w, some (.str (cs (digits ds.length n ++ acc))), y] M
  | [], n, acc, x, _ => ⟨x, by simp [forGo, digits]⟩
  | d :: ds, n, acc, x, hl => by
    have hm : n % 16 < 16 := Nat.mod_lt _ (by decide)
    obtain ⟨y, ih⟩ := figures_loop (M := M) (w := w) ds (n / 16) (n % 16 :: acc) (some d) (by simp at hl ⊢; omega)
    refine ⟨y, ?_⟩
    rw [for_nx (δ1 := [some (.int (n : Nat)), some w, some (.str (cs acc)), some d]) (δ2 := [some (.int ((n / 16 : Nat) : Int)), some w, some (.str (cs (n % 16 :: acc))), some d]) (M2 := M) rfl ?_]
    · rw [ih]
      have e1 : n / 16 / 16 ^ ds.length = n / 16 ^ (ds.length + 1) := by rw [Nat.div_div_eq_div_mul, Nat.pow_succ, Nat.mul_comm]
      have e2 : digits ds.length (n / 16) ++ n % 16 :: acc = digits (ds.length + 1) n ++ acc := by simp [digits]
      rw [e1, e2]; rfl
    · unfold L1_cells_of_number
      walk_at "ev"
      have e1 : gMod M (.int (n : Nat)) (.int 16) = some (.int ((n % 16 : Nat) : Int)) := by rw [mod_ok (by decide)]; rfl
      have e2 : gDiv M (.int (n : Nat)) (.int 16) = some (.int ((n / 16 : Nat) : Int)) := by rw [div_ok (by decide) (by decide)]; rfl
      have e3 := cs_at (M := M) hm
      unfold CS at e3
      have e4 : gAdd M (.str (st [hexc (n % 16)])) (.str (cs acc)) = some (.str (cs (n % 16 :: acc))) := gAdd_cs (a := [n % 16]) (by simp at hl ⊢; unfold sizeLine; omega)
      simp only [e1, e2, e3, e4, Option.some_or]
      walk_at "ev"
      simp only [e2]
theorem fRng1_int {j : Int} {M : Mem} (h1 : j.natAbs < 2 ^ 62) : fRng1 [.int j] M = .ok (rng 0 j.toNat) M := by
  have e : fRng [.int j] M = (if j.natAbs < 2 ^ 62 then .ok (rng 0 j.toNat) M else .bad) := rfl
  have e2 : fRng1 [.int j] M = fRng [.int j] M := rfl
  rw [e2, e, if_pos h1]
theorem fRng1_nat {n : Nat} {M : Mem} (h : n ≤ 1000000000) : fRng1 [.int (n : Nat)] M = .ok (rng 0 n) M := by
  rw [fRng1_int (by omega)]; rfl
theorem rng_len (a : Int) (n : Nat) : (rng a n).length = n := by simp [rng]
theorem ev_cells_of_number {n w : Nat} {M : Mem} (hw : w ≤ 900) : F_cells_of_number [.int (n : Nat), .int (w : Nat)] M = .ok (.str (cs (digits w n))) M := by
  obtain ⟨y, h⟩ := figures_loop (M := M) (w := .int (w : Nat)) (rng 0 w) n [] none (by rw [rng_len]; simp; omega)
  unfold F_cells_of_number B_cells_of_number
  walk_at "ev"
  have e := fRng1_nat (M := M) (n := w) (by omega)
  have e0 : (.str (Str.ofString "") : D) = .str (cs []) := rfl
  simp only [e, e0, h]
  rw [rng_len, List.append_nil]
  rfl
/-- each cell taken from the greatest one -/
def turned (vs : List Nat) : List Nat := vs.map (15 - ·)
theorem turned_cells (vs : List Nat) : Cells (turned vs) := fun v h => by
  obtain ⟨w, _, rfl⟩ := List.mem_map.mp h
  omega
theorem sum_ones : ∀ l : List Nat, (l.map fun _ => 1).sum = l.length
  | [] => rfl
  | _ :: l => by rw [List.map_cons, List.sum_cons, sum_ones l, List.length_cons]; omega
theorem bYes_ok {δ : Wn.Env} {M : Mem} : bYes δ M = .ok true M := rfl
theorem join_cells {M : Mem} {vs : List Nat} (h : vs.length ≤ 16777216) : gJoin M (.str (Str.ofString "")) [.lst (vs.map fun v => D.str (st [hexc v]))] = some (.str (cs vs)) := by
  have e : (vs.map fun v => D.str (st [hexc v])) = (vs.map fun v => [hexc v]).map fun l => D.str (st l) := by rw [List.map_map]; rfl
  have e0 : (.str (Str.ofString "") : D) = .str (st []) := rfl
  rw [e0, e, gJoin_st]
  · congr 2
    unfold cs
    congr 1
    induction vs with
    | nil => rfl
    | cons v vs ih => simp at ih ⊢; exact ih (by simp at h; omega)
  · rw [List.map_map]
    have : (List.length ∘ fun v : Nat => [hexc v]) = fun _ => 1 := by funext v; rfl
    rw [this, sum_ones]; exact h
theorem ev_contrary {vs : List Nat} {M : Mem} (hc : Cells vs) (hl : vs.length ≤ 1000000) : F_contrary [.str (cs vs)] M = .ok (.str (cs (turned vs))) M := by
  unfold F_contrary B_contrary
  walk_at "ev"
  simp only [itS, cs_sgn]
  have key : lcGo (.nm 1) bYes (den [F_cell_number] X1_contrary) [some (.str (cs vs)), none] (vs.map fun v => D.str (st [hexc v])) M = .ok ((turned vs).map fun v => D.str (st [hexc v])) M := by
    have go : ∀ (ws : List Nat), Cells ws → lcGo (.nm 1) bYes (den [F_cell_number] X1_contrary) [some (.str (cs vs)), none] (ws.map fun v => D.str (st [hexc v])) M = .ok ((turned ws).map fun v => D.str (st [hexc v])) M := by
      intro ws
      induction ws with
      | nil => intro _; rfl
      | cons w ws ih =>
        intro hw
        have h1 : den [F_cell_number] X1_contrary [some (.str (cs vs)), some (.str (st [hexc w]))] M = .ok (.str (st [hexc (15 - w)])) M := by
          unfold X1_contrary
          walk_at "ev"
          have hw16 : w < 16 := hw w (List.mem_cons_self ..)
          have e3 := cs_at (M := M) (v := 15 - w) (by omega)
          unfold CS at e3
          have e4 : ((15 : Int) - ((w : Nat) : Int)) = ((15 - w : Nat) : Int) := by omega
          simp only [ev_cell_number hw16, sub_int, e4, e3, Option.some_or]
        rw [List.map_cons, lcGo_cons]
        simp only [Tg.put, bYes_ok, List.set_cons_zero, List.set_cons_succ, h1, ih fun v hv => hw v (List.mem_cons_of_mem _ hv)]
        rfl
    exact go vs hc
  have hz : (vs.map fun v => D.str (st [hexc v])).length ≤ sizeLine := by rw [List.length_map]; unfold sizeLine; omega
  rw [if_pos hz, key]
  have ht : (turned vs).length ≤ 16777216 := by simp [turned]; omega
  simp only [join_cells ht]
end Lw
end

section
set_option Elab.async false
set_option linter.all false
set_option maxRecDepth 100000
set_option maxHeartbeats 2000000
namespace Lw
open PySem Wn
local macro_rules | `(tactic| walk_at "ev") => `(tactic| simp only [fnDef, fnOf, denSL, denS, den, denL, denB, denI, sSeq, sAsg, sRet, sRetN, sEx, sIf, sFor, sPar, sSet, sPass, sBrk, sCnt, bndS, bnd, Wn.ret, stuck, opt, eVar, eCst, eOp, eCall, eChain, bTru, bNot, bAnd, bOr, eOr, eAnd, eNot, eIf, lNil, lCons, eTup, eLst, eCell, eMt, eMl, eSl, oNo, oAt, eNeg, eLc, lcRun, fnDo, startE, fin, Tg.put, TgL.puts, isS_ite, if_le_sz, add_int, sub_int, eq_int, ne_int, le_int, lt_int, gt_int, ge_int, is_non, isnot_non, isNon, asTru, truD, iArg, wipeE,
  List.map_cons, List.map_nil, List.length_cons, List.length_nil, List.getElem?_cons_zero, List.getElem?_cons_succ, List.set_cons_zero, List.set_cons_succ, List.getD_cons_zero, List.getD_cons_succ, List.cons_append, List.nil_append, List.replicate_succ, List.replicate_zero, Nat.zero_add, Nat.sub_self, Nat.add_one_sub_one, Nat.reduceAdd, Nat.reduceSub, Nat.reduceLeDiff, Nat.reduceEqDiff, if_true, if_false, Bool.false_eq_true, Bool.not_true, Bool.not_false, decide_true, decide_false, g1, g2, List.zip_cons_cons, List.zip_nil_right, List.foldl_cons, List.foldl_nil,
  mIndex, mJoin, mAppend, mExtend, mGet, eMd, eDcp, gDcp, sSetA, setA, bLen, bAbs, bMax, bMin, bSum, bAll, bAny, bOrd, bRepr, bIsi, tInt, tTup, tLst, nInt, nStr, nBool, nTup, nLst, oAdd, oSub, oMul, oMod, oDiv, oPow, cEq, cNe, cLt, cLe, cGt, cGe, cIn, cNi, cIs, cIn', Option.some_or, Option.or_none, Option.none_or])
local macro_rules | `(tactic| walk_at "evh") => `(tactic| simp only [*, fnDef, fnOf, denSL, denS, den, denL, denB, denI, sSeq, sAsg, sRet, sRetN, sEx, sIf, sFor, sPar, sSet, sPass, sBrk, sCnt, bndS, bnd, Wn.ret, stuck, opt, eVar, eCst, eOp, eCall, eChain, bTru, bNot, bAnd, bOr, eOr, eAnd, eNot, eIf, lNil, lCons, eTup, eLst, eCell, eMt, eMl, eSl, oNo, oAt, eNeg, eLc, lcRun, fnDo, startE, fin, Tg.put, TgL.puts, isS_ite, if_le_sz, add_int, sub_int, eq_int, ne_int, le_int, lt_int, gt_int, ge_int, is_non, isnot_non, isNon, asTru, truD, iArg, wipeE,
  List.map_cons, List.map_nil, List.length_cons, List.length_nil, List.getElem?_cons_zero, List.getElem?_cons_succ, List.set_cons_zero, List.set_cons_succ, List.getD_cons_zero, List.getD_cons_succ, List.cons_append, List.nil_append, List.replicate_succ, List.replicate_zero, Nat.zero_add, Nat.sub_self, Nat.add_one_sub_one, Nat.reduceAdd, Nat.reduceSub, Nat.reduceLeDiff, Nat.reduceEqDiff, if_true, if_false, Bool.false_eq_true, Bool.not_true, Bool.not_false, decide_true, decide_false, g1, g2, List.zip_cons_cons, List.zip_nil_right, List.foldl_cons, List.foldl_nil,
  mIndex, mJoin, mAppend, mExtend, mGet, eMd, eDcp, gDcp, sSetA, setA, bLen, bAbs, bMax, bMin, bSum, bAll, bAny, bOrd, bRepr, bIsi, tInt, tTup, tLst, nInt, nStr, nBool, nTup, nLst, oAdd, oSub, oMul, oMod, oDiv, oPow, cEq, cNe, cLt, cLe, cGt, cGe, cIn, cNi, cIs, cIn', Option.some_or, Option.or_none, Option.none_or])
/-! ### sums -/
def sums3 : Nat → List Nat → Nat × Nat × Nat → Nat × Nat × Nat
  | _, [], a => a
  | k, v :: vs, (a, b, c) => sums3 (k + 1) vs (a + (15 - v), b + (15 - v) * (k + 1), c + (15 - v) * (k + 1) * (k + 1))
def tup3 (t : Nat × Nat × Nat) : D := .tup [.int (t.1 : Nat), .int (t.2.1 : Nat), .int (t.2.2 : Nat)]
theorem log_small {a : Nat} (h : a < 1000000000) : a.log2 ≤ 30 := log2_le (by omega)
theorem sums_loop {M : Mem} {s : D} : ∀ (vs : List Nat) (k a b c : Nat) (x y z w : Option D), Cells vs → k + vs.length ≤ 100000 → ∃ x' y' z' w', forGo (.tp (.cons (.nm 4) (.cons (.nm 5) .nil))) (denSL [F_cell_number] L1_sums_of) (enumD k (vs.map fun v => D.str (st [hexc v]))) [some s, some (.int (a : Nat)), some (.int (b : Nat)), some (.int (c : Nat)), x, y, z, w] M
    = .nx [some s, some (.int ((sums3 k vs (a, b, c)).1 : Nat)), some (.int ((sums3 k vs (a, b, c)).2.1 : Nat)), some (.int ((sums3 k vs (a, b, c)).2.2 : Nat)), x', y', z', w'] M
  | [], k, a, b, c, x, y, z, w, _, _ => ⟨x, y, z, w, rfl⟩
  | v :: vs, k, a, b, c, x, y, z, w, hc, hl => by
    have hv : v < 16 := hc v (List.mem_cons_self ..)
    rw [List.length_cons] at hl
    obtain ⟨x', y', z', w', ih⟩ := sums_loop (M := M) (s := s) vs (k + 1) (a + (15 - v)) (b + (15 - v) * (k + 1)) (c + (15 - v) * (k + 1) * (k + 1)) (some (.int (k : Nat))) (some (.str (st [hexc v]))) (some (.int ((15 - v : Nat) : Int))) (some (.int ((k + 1 : Nat) : Int))) (fun u hu => hc u (List.mem_cons_of_mem _ hu)) (by omega)
    refine ⟨x', y', z', w', ?_⟩
    rw [List.map_cons]
    show forGo _ _ (D.tup [.int (k : Nat), D.str (st [hexc v])] :: enumD (k + 1) _) _ M = _
    rw [for_nx (δ1 := [some s, some (.int (a : Nat)), some (.int (b : Nat)), some (.int (c : Nat)), some (.int (k : Nat)), some (.str (st [hexc v])), z, w])
      (δ2 := [some s, some (.int ((a + (15 - v) : Nat) : Int)), some (.int ((b + (15 - v) * (k + 1) : Nat) : Int)), some (.int ((c + (15 - v) * (k + 1) * (k + 1) : Nat) : Int)), some (.int (k : Nat)), some (.str (st [hexc v])), some (.int ((15 - v : Nat) : Int)), some (.int ((k + 1 : Nat) : Int))]) (M2 := M) rfl ?_]
    · exact ih
    · unfold L1_sums_of
      walk_at "ev"
      have e1 : ((15 : Int) - ((v : Nat) : Int)) = ((15 - v : Nat) : Int) := by omega
      have e2 : (((k : Nat) : Int) + 1) = ((k + 1 : Nat) : Int) := by omega
      have l1 : (15 - v).log2 ≤ 30 := log_small (by omega)
      have l2 : (k + 1).log2 ≤ 30 := log_small (by omega)
      have l3 : ((15 - v) * (k + 1)).log2 ≤ 30 := log_small (by
        have : (15 - v) * (k + 1) ≤ 15 * 100001 := Nat.mul_le_mul (by omega) (by omega)
        omega)
      have m1 : gMul M (.int ((15 - v : Nat) : Int)) (.int ((k + 1 : Nat) : Int)) = some (.int (((15 - v) * (k + 1) : Nat) : Int)) := by
        rw [mul_ok (by simp only [Int.natAbs_natCast]; omega)]; simp
      have m2 : gMul M (.int (((15 - v) * (k + 1) : Nat) : Int)) (.int ((k + 1 : Nat) : Int)) = some (.int (((15 - v) * (k + 1) * (k + 1) : Nat) : Int)) := by
        rw [mul_ok (by simp only [Int.natAbs_natCast]; omega)]; simp
      simp only [ev_cell_number hv, sub_int, e1, add_int, e2, Option.some_or]
      walk_at "ev"
      simp only [m1, m2, add_int, Option.some_or]
      walk_at "ev"
      rfl
theorem ev_sums_of {vs : List Nat} {M : Mem} (hc : Cells vs) (hl : vs.length ≤ 1000) : F_sums_of [.str (cs vs)] M = .ok (tup3 (sums3 0 (vs.take 226) (0, 0, 0))) M := by
  have hc2 : Cells (vs.take 226) := fun v h => hc v (List.mem_of_mem_take h)
  obtain ⟨x, y, z, w, h⟩ := sums_loop (M := M) (s := .str (cs vs)) (vs.take 226) 0 0 0 0 none none none none hc2 (by rw [List.length_take]; omega)
  unfold F_sums_of B_sums_of
  walk_at "ev"
  have e1 : gSl M (.str (cs vs)) none (some 226) = some (.str (cs (vs.take 226))) := by
    rw [gSl_cs (by unfold sizeLine; omega)]
    rw [show (226 : Int) = ((226 : Nat) : Int) from rfl, cutD_hi]
  simp only [e1, fEnu1, List.length_cons, List.length_nil, Nat.zero_add, if_true, fEnu, cs_sgn, pairs_nums]
  have h0 : (.int 0 : D) = .int ((0 : Nat) : Int) := rfl
  rw [h0, h]
  rfl
end Lw
end

section
set_option Elab.async false
set_option linter.all false
set_option maxRecDepth 100000
set_option maxHeartbeats 2000000
namespace Lw
open PySem Wn
local macro_rules | `(tactic| walk_at "ev") => `(tactic| simp only [fnDef, fnOf, denSL, denS, den, denL, denB, denI, sSeq, sAsg, sRet, sRetN, sEx, sIf, sFor, sPar, sSet, sPass, sBrk, sCnt, bndS, bnd, Wn.ret, stuck, opt, eVar, eCst, eOp, eCall, eChain, bTru, bNot, bAnd, bOr, eOr, eAnd, eNot, eIf, lNil, lCons, eTup, eLst, eCell, eMt, eMl, eSl, oNo, oAt, eNeg, eLc, lcRun, fnDo, startE, fin, Tg.put, TgL.puts, isS_ite, if_le_sz, add_int, sub_int, eq_int, ne_int, le_int, lt_int, gt_int, ge_int, is_non, isnot_non, isNon, asTru, truD, iArg, wipeE,
  List.map_cons, List.map_nil, List.length_cons, List.length_nil, List.getElem?_cons_zero, List.getElem?_cons_succ, List.set_cons_zero, List.set_cons_succ, List.getD_cons_zero, List.getD_cons_succ, List.cons_append, List.nil_append, List.replicate_succ, List.replicate_zero, Nat.zero_add, Nat.sub_self, Nat.add_one_sub_one, Nat.reduceAdd, Nat.reduceSub, Nat.reduceLeDiff, Nat.reduceEqDiff, if_true, if_false, Bool.false_eq_true, Bool.not_true, Bool.not_false, decide_true, decide_false, g1, g2, List.zip_cons_cons, List.zip_nil_right, List.foldl_cons, List.foldl_nil,
  mIndex, mJoin, mAppend, mExtend, mGet, eMd, eDcp, gDcp, sSetA, setA, bLen, bAbs, bMax, bMin, bSum, bAll, bAny, bOrd, bRepr, bIsi, tInt, tTup, tLst, nInt, nStr, nBool, nTup, nLst, oAdd, oSub, oMul, oMod, oDiv, oPow, cEq, cNe, cLt, cLe, cGt, cGe, cIn, cNi, cIs, cIn', Option.some_or, Option.or_none, Option.none_or])
local macro_rules | `(tactic| walk_at "evh") => `(tactic| simp only [*, fnDef, fnOf, denSL, denS, den, denL, denB, denI, sSeq, sAsg, sRet, sRetN, sEx, sIf, sFor, sPar, sSet, sPass, sBrk, sCnt, bndS, bnd, Wn.ret, stuck, opt, eVar, eCst, eOp, eCall, eChain, bTru, bNot, bAnd, bOr, eOr, eAnd, eNot, eIf, lNil, lCons, eTup, eLst, eCell, eMt, eMl, eSl, oNo, oAt, eNeg, eLc, lcRun, fnDo, startE, fin, Tg.put, TgL.puts, isS_ite, if_le_sz, add_int, sub_int, eq_int, ne_int, le_int, lt_int, gt_int, ge_int, is_non, isnot_non, isNon, asTru, truD, iArg, wipeE,
  List.map_cons, List.map_nil, List.length_cons, List.length_nil, List.getElem?_cons_zero, List.getElem?_cons_succ, List.set_cons_zero, List.set_cons_succ, List.getD_cons_zero, List.getD_cons_succ, List.cons_append, List.nil_append, List.replicate_succ, List.replicate_zero, Nat.zero_add, Nat.sub_self, Nat.add_one_sub_one, Nat.reduceAdd, Nat.reduceSub, Nat.reduceLeDiff, Nat.reduceEqDiff, if_true, if_false, Bool.false_eq_true, Bool.not_true, Bool.not_false, decide_true, decide_false, g1, g2, List.zip_cons_cons, List.zip_nil_right, List.foldl_cons, List.foldl_nil,
  mIndex, mJoin, mAppend, mExtend, mGet, eMd, eDcp, gDcp, sSetA, setA, bLen, bAbs, bMax, bMin, bSum, bAll, bAny, bOrd, bRepr, bIsi, tInt, tTup, tLst, nInt, nStr, nBool, nTup, nLst, oAdd, oSub, oMul, oMod, oDiv, oPow, cEq, cNe, cLt, cLe, cGt, cGe, cIn, cNi, cIs, cIn', Option.some_or, Option.or_none, Option.none_or])
/-! ### the sums' cells -/
def told2 (w n : Nat) : List Nat := digits w n ++ turned (digits w n)
def tail3 (t : Nat × Nat × Nat) : List Nat := told2 3 t.1 ++ told2 5 t.2.1 ++ told2 7 t.2.2
theorem turned_len (l : List Nat) : (turned l).length = l.length := by simp [turned]
theorem told2_len (w n : Nat) : (told2 w n).length = w + w := by rw [told2, List.length_append, turned_len, digits_len]
theorem tail3_len (t : Nat × Nat × Nat) : (tail3 t).length = 30 := by simp [tail3, told2_len]
theorem cells_app {a b : List Nat} (ha : Cells a) (hb : Cells b) : Cells (a ++ b) := fun v h => (List.mem_append.mp h).elim (ha v) (hb v)
theorem told2_cells (w n : Nat) : Cells (told2 w n) := cells_app (digits_cells w n) (turned_cells _)
theorem tail3_cells (t : Nat × Nat × Nat) : Cells (tail3 t) := cells_app (cells_app (told2_cells _ _) (told2_cells _ _)) (told2_cells _ _)
theorem sum_turn {M : Mem} {th : D} {n w : Nat} {acc : List Nat} {x : Option D} (hw : w ≤ 100) (ha : acc.length ≤ 1000) :
    denSL [F_cells_of_number, F_contrary] L1_sum_cells [some th, some (.str (cs acc)), some (.int (n : Nat)), some (.int (w : Nat)), x] M = .nx [some th, some (.str (cs (acc ++ told2 w n))), some (.int (n : Nat)), some (.int (w : Nat)), some (.str (cs (digits w n)))] M := by
  unfold L1_sum_cells
  have hl := digits_len w n
  have e1 : gAdd M (.str (cs acc)) (.str (cs (digits w n))) = some (.str (cs (acc ++ digits w n))) := gAdd_cs (by unfold sizeLine; omega)
  have e2 : gAdd M (.str (cs (acc ++ digits w n))) (.str (cs (turned (digits w n)))) = some (.str (cs (acc ++ told2 w n))) := by
    rw [gAdd_cs (by rw [List.length_append, turned_len]; unfold sizeLine; omega), told2, List.append_assoc]
  walk_at "ev"
  simp only [ev_cells_of_number (M := M) (n := n) (w := w) (by omega)]
  walk_at "ev"
  simp only [e1, ev_contrary (M := M) (digits_cells w n) (by omega), Option.some_or, e2]
theorem ev_sum_cells {t : Nat × Nat × Nat} {M : Mem} : F_sum_cells [tup3 t] M = .ok (.str (cs (tail3 t))) M := by
  obtain ⟨a, b, c⟩ := t
  unfold F_sum_cells B_sum_cells
  walk_at "ev"
  have e0 : (.str (Str.ofString "") : D) = .str (cs []) := rfl
  have ez : fZip2 [tup3 (a, b, c), .tup [.int 3, .int 5, .int 7]] M = .ok [.tup [.int (a : Nat), .int ((3 : Nat) : Int)], .tup [.int (b : Nat), .int ((5 : Nat) : Int)], .tup [.int (c : Nat), .int ((7 : Nat) : Int)]] M := rfl
  simp only [e0, ez]
  rw [for_nx rfl (sum_turn (by omega) (by simp)), for_nx rfl (sum_turn (by omega) (by simp [told2_len])), for_nx rfl (sum_turn (by omega) (by simp [told2_len]))]
  rfl

/-! ### signs -/
def LOW : Str := " !\"#$"
def HIGH : Str := "&'()*+,-./0123456789:;<=>?@ABCDEFGHIJKLMNOPQRSTUVWXYZ[\\]^_`abcdefghijklmnopqrstuvwxyz{|}~"
def okSign (c : Nat) : Bool := decide (c = 10) || (decide (32 ≤ c) && decide (c ≤ 36)) || (decide (38 ≤ c) && decide (c ≤ 126))
theorem low_in : ∀ c, c < 127 → strIn (st [c]) LOW = (decide (32 ≤ c) && decide (c ≤ 36)) := by decide +kernel
theorem high_in : ∀ c, c < 127 → strIn (st [c]) HIGH = (decide (38 ≤ c) && decide (c ≤ 126)) := by decide +kernel
theorem low_ix : ∀ k, k < 5 → Builtin.Str.occurrences LOW (st [32 + k]) 0 LOW.length 1 = [k] := by decide +kernel
theorem high_ix : ∀ k, k < 89 → Builtin.Str.occurrences HIGH (st [38 + k]) 0 HIGH.length 1 = [k] := by decide +kernel
theorem low_at : ∀ k, k < 5 → L2.atI LOW.cps.toList ((k : Nat) : Int) = some (32 + k) := by decide +kernel
theorem high_at : ∀ k, k < 89 → L2.atI HIGH.cps.toList ((k : Nat) : Int) = some (38 + k) := by decide +kernel
theorem st_ok {l : List Nat} (h : ∀ c ∈ l, c < 0x110000) : PyData.strOk (st l) = true := by
  unfold PyData.strOk st
  simp only [Array.all_eq_true', List.mem_toArray, decide_eq_true_eq]
  exact h
theorem okSign_lt {c : Nat} (h : okSign c = true) : c < 127 := by
  unfold okSign at h
  simp only [Bool.or_eq_true, Bool.and_eq_true, decide_eq_true_eq] at h
  omega
theorem feed_eq {M : Mem} {c : Nat} (h : c < 127) : gEq M (.str (st [c])) (.str (Str.ofString "\n")) = some (.bl (decide (c = 10))) := by
  have e : (Str.ofString "\n") = st [10] := rfl
  rw [e, gEq_str (st_ok fun x hx => by rw [List.mem_singleton.mp hx]; omega) (st_ok fun x hx => by rw [List.mem_singleton.mp hx]; omega), st_beq]
  simp
theorem ev_sign_number {c : Nat} {M : Mem} (h : okSign c = true) : F_sign_number [.str (st [c])] M = .ok (.int (c : Nat)) M := by
  have hc := okSign_lt h
  unfold F_sign_number B_sign_number
  walk_at "ev"
  have e1 := feed_eq (M := M) hc
  by_cases h0 : c = 10
  · subst h0
    simp only [e1]
    walk_at "ev"
    rfl
  · have e2 : gIn M (.str (st [c])) (.str LOW) = some (.bl (decide (32 ≤ c) && decide (c ≤ 36))) := by
      show some (D.bl (strIn (st [c]) LOW)) = _
      rw [low_in c hc]
    unfold LOW at e2
    by_cases h1 : c ≤ 36
    · have h2 : 32 ≤ c := by
        unfold okSign at h
        simp only [Bool.or_eq_true, Bool.and_eq_true, decide_eq_true_eq] at h
        omega
      have e3 : gIndex M (.str LOW) [.str (st [c])] = some (.int ((c - 32 : Nat) : Int)) := by
        show (match Builtin.Str.occurrences LOW (st [c]) 0 LOW.length 1 with | i :: _ => some (D.int (i : Nat)) | [] => none) = _
        have := low_ix (c - 32) (by omega)
        rw [show 32 + (c - 32) = c by omega] at this
        rw [this]
      unfold LOW at e3
      have e4 : ((32 : Int) + ((c - 32 : Nat) : Int)) = ((c : Nat) : Int) := by omega
      simp only [e1, h0, decide_false]
      walk_at "ev"
      simp only [e2, h1, h2, decide_true, Bool.and_self]
      walk_at "ev"
      simp only [e3, add_int, e4, Option.some_or]
    · have h2 : 38 ≤ c := by
        unfold okSign at h
        simp only [Bool.or_eq_true, Bool.and_eq_true, decide_eq_true_eq] at h
        omega
      have e3 : gIndex M (.str HIGH) [.str (st [c])] = some (.int ((c - 38 : Nat) : Int)) := by
        show (match Builtin.Str.occurrences HIGH (st [c]) 0 HIGH.length 1 with | i :: _ => some (D.int (i : Nat)) | [] => none) = _
        have := high_ix (c - 38) (by omega)
        rw [show 38 + (c - 38) = c by omega] at this
        rw [this]
      unfold HIGH at e3
      have e4 : ((38 : Int) + ((c - 38 : Nat) : Int)) = ((c : Nat) : Int) := by omega
      simp only [e1, h0, decide_false]
      walk_at "ev"
      simp only [e2, h1, decide_false, Bool.and_false]
      walk_at "ev"
      simp only [e3, add_int, e4, Option.some_or]
end Lw
end

section
set_option Elab.async false
set_option linter.all false
set_option maxRecDepth 100000
set_option maxHeartbeats 2000000
namespace Lw
open PySem Wn
local macro_rules | `(tactic| walk_at "ev") => `(tactic| simp only [fnDef, fnOf, denSL, denS, den, denL, denB, denI, sSeq, sAsg, sRet, sRetN, sEx, sIf, sFor, sPar, sSet, sPass, sBrk, sCnt, bndS, bnd, Wn.ret, stuck, opt, eVar, eCst, eOp, eCall, eChain, bTru, bNot, bAnd, bOr, eOr, eAnd, eNot, eIf, lNil, lCons, eTup, eLst, eCell, eMt, eMl, eSl, oNo, oAt, eNeg, eLc, lcRun, fnDo, startE, fin, Tg.put, TgL.puts, isS_ite, if_le_sz, add_int, sub_int, eq_int, ne_int, le_int, lt_int, gt_int, ge_int, is_non, isnot_non, isNon, asTru, truD, iArg, wipeE,
  List.map_cons, List.map_nil, List.length_cons, List.length_nil, List.getElem?_cons_zero, List.getElem?_cons_succ, List.set_cons_zero, List.set_cons_succ, List.getD_cons_zero, List.getD_cons_succ, List.cons_append, List.nil_append, List.replicate_succ, List.replicate_zero, Nat.zero_add, Nat.sub_self, Nat.add_one_sub_one, Nat.reduceAdd, Nat.reduceSub, Nat.reduceLeDiff, Nat.reduceEqDiff, if_true, if_false, Bool.false_eq_true, Bool.not_true, Bool.not_false, decide_true, decide_false, g1, g2, List.zip_cons_cons, List.zip_nil_right, List.foldl_cons, List.foldl_nil,
  mIndex, mJoin, mAppend, mExtend, mGet, eMd, eDcp, gDcp, sSetA, setA, bLen, bAbs, bMax, bMin, bSum, bAll, bAny, bOrd, bRepr, bIsi, tInt, tTup, tLst, nInt, nStr, nBool, nTup, nLst, oAdd, oSub, oMul, oMod, oDiv, oPow, cEq, cNe, cLt, cLe, cGt, cGe, cIn, cNi, cIs, cIn', Option.some_or, Option.or_none, Option.none_or])
local macro_rules | `(tactic| walk_at "evh") => `(tactic| simp only [*, fnDef, fnOf, denSL, denS, den, denL, denB, denI, sSeq, sAsg, sRet, sRetN, sEx, sIf, sFor, sPar, sSet, sPass, sBrk, sCnt, bndS, bnd, Wn.ret, stuck, opt, eVar, eCst, eOp, eCall, eChain, bTru, bNot, bAnd, bOr, eOr, eAnd, eNot, eIf, lNil, lCons, eTup, eLst, eCell, eMt, eMl, eSl, oNo, oAt, eNeg, eLc, lcRun, fnDo, startE, fin, Tg.put, TgL.puts, isS_ite, if_le_sz, add_int, sub_int, eq_int, ne_int, le_int, lt_int, gt_int, ge_int, is_non, isnot_non, isNon, asTru, truD, iArg, wipeE,
  List.map_cons, List.map_nil, List.length_cons, List.length_nil, List.getElem?_cons_zero, List.getElem?_cons_succ, List.set_cons_zero, List.set_cons_succ, List.getD_cons_zero, List.getD_cons_succ, List.cons_append, List.nil_append, List.replicate_succ, List.replicate_zero, Nat.zero_add, Nat.sub_self, Nat.add_one_sub_one, Nat.reduceAdd, Nat.reduceSub, Nat.reduceLeDiff, Nat.reduceEqDiff, if_true, if_false, Bool.false_eq_true, Bool.not_true, Bool.not_false, decide_true, decide_false, g1, g2, List.zip_cons_cons, List.zip_nil_right, List.foldl_cons, List.foldl_nil,
  mIndex, mJoin, mAppend, mExtend, mGet, eMd, eDcp, gDcp, sSetA, setA, bLen, bAbs, bMax, bMin, bSum, bAll, bAny, bOrd, bRepr, bIsi, tInt, tTup, tLst, nInt, nStr, nBool, nTup, nLst, oAdd, oSub, oMul, oMod, oDiv, oPow, cEq, cNe, cLt, cLe, cGt, cGe, cIn, cNi, cIs, cIn', Option.some_or, Option.or_none, Option.none_or])
/-! ### the sign of a number -/
def signD (n : Nat) : D := if okSign n = true then .str (st [n]) else .non
theorem ev_sign_of {n : Nat} {M : Mem} : F_sign_of [.int (n : Nat)] M = .ok (signD n) M := by
  by_cases h0 : n = 10
  · subst h0; rfl
  have h0' : (((n : Nat) : Int) = 10) = False := by simp; omega
  have l1 : ∀ M, fLen M (.str (Str.ofString " !\"#$")) = some (.int 5) := fun _ => rfl
  have l2 : ∀ M, fLen M (.str (Str.ofString "&'()*+,-./0123456789:;<=>?@ABCDEFGHIJKLMNOPQRSTUVWXYZ[\\]^_`abcdefghijklmnopqrstuvwxyz{|}~")) = some (.int 89) := fun _ => rfl
  have q1 : ((32 : Int) + 5) = 37 := rfl
  unfold F_sign_of B_sign_of
  by_cases h1 : 32 ≤ n ∧ n < 37
  · have a1 : ((32 : Int) ≤ ((n : Nat) : Int)) = True := by simp; omega
    have a2 : (((n : Nat) : Int) < 37) = True := by simp; omega
    have e4 : ((n : Nat) : Int) - 32 = ((n - 32 : Nat) : Int) := by omega
    have e5 : ∀ M, gIx M (.str LOW) (.int ((n - 32 : Nat) : Int)) = some (.str (st [n])) := fun M => by
      show (if LOW.length ≤ sizeLine then (L2.atI LOW.cps.toList (((n - 32 : Nat) : Nat) : Int)).map fun c => D.str ⟨#[c]⟩ else none) = _
      rw [if_pos (by decide), low_at (n - 32) (by omega), show 32 + (n - 32) = n by omega]; rfl
    unfold LOW at e5
    have e6 : signD n = .str (st [n]) := by
      have : okSign n = true := by simp [okSign]; omega
      unfold signD; rw [if_pos this]
    rw [e6]
    clear h0 h1 e6
    walk_at "evh"
  by_cases h2 : 38 ≤ n ∧ n < 127
  · have e4 : ((n : Nat) : Int) - 38 = ((n - 38 : Nat) : Int) := by omega
    have a2 : ((((n - 38 : Nat) : Nat) : Int) < 89) = True := by simp; omega
    have a3 : ((0 : Int) ≤ (((n - 38 : Nat) : Nat) : Int)) = True := by simp
    have e5 : ∀ M, gIx M (.str HIGH) (.int ((n - 38 : Nat) : Int)) = some (.str (st [n])) := fun M => by
      show (if HIGH.length ≤ sizeLine then (L2.atI HIGH.cps.toList (((n - 38 : Nat) : Nat) : Int)).map fun c => D.str ⟨#[c]⟩ else none) = _
      rw [if_pos (by decide), high_at (n - 38) (by omega), show 38 + (n - 38) = n by omega]; rfl
    unfold HIGH at e5
    have e6 : signD n = .str (st [n]) := by
      have : okSign n = true := by simp [okSign]; omega
      unfold signD; rw [if_pos this]
    have b1 : ((32 : Int) ≤ ((n : Nat) : Int)) = True := by simp; omega
    have b2 : (((n : Nat) : Int) < 37) = False := by simp; omega
    rw [e6]
    clear h0 h1 h2 e6
    walk_at "evh"
  · have e6 : signD n = .non := by
      have : okSign n = false := by simp [okSign]; omega
      unfold signD; rw [this]; rfl
    rw [e6]
    by_cases h3 : 32 ≤ n
    · have b1 : ((32 : Int) ≤ ((n : Nat) : Int)) = True := by simp; omega
      have b2 : (((n : Nat) : Int) < 37) = False := by simp; omega
      by_cases h4 : 38 ≤ n
      · have c1 : ((0 : Int) ≤ ((n : Nat) : Int) - 38) = True := by simp; omega
        have c2 : (((n : Nat) : Int) - 38 < 89) = False := by simp; omega
        clear h0 h1 h2 h3 h4 e6
        walk_at "evh"
      · have c1 : ((0 : Int) ≤ ((n : Nat) : Int) - 38) = False := by simp; omega
        clear h0 h1 h2 h3 h4 e6
        walk_at "evh"
    · have b1 : ((32 : Int) ≤ ((n : Nat) : Int)) = False := by simp; omega
      have c1 : ((0 : Int) ≤ ((n : Nat) : Int) - 38) = False := by simp; omega
      clear h0 h1 h2 h3 e6
      walk_at "evh"

/-! ### texts of pages -/
def okText (l : List Nat) : Bool := decide (l.length ≤ 113) && l.all okSign
/-- all of a list of truths -/
theorem dBools_map {α : Type} (f : α → Bool) : ∀ l : List α, dBools (l.map fun x => D.bl (f x)) = some (l.map f)
  | [] => rfl
  | x :: l => by
    show Option.map (fun r => f x :: r) (dBools (l.map fun x => D.bl (f x))) = _
    rw [dBools_map f l]; rfl
theorem all_map {α : Type} {M : Mem} (f : α → Bool) (l : List α) : fAll M (.lst (l.map fun x => D.bl (f x))) = some (.bl (l.all f)) := by
  show ((dBools (l.map fun x => D.bl (f x))).map fun is => D.bl (is.all id)) = _
  rw [dBools_map]
  simp [List.all_map, Function.comp_def]
/-- a comprehension over items, each to a value -/
theorem lc_vals {α : Type} {i : Nat} {e : Fe} {δ : Wn.Env} {M : Mem} {f g : α → D} : ∀ {l : List α}, (∀ x ∈ l, e (δ.set i (some (f x))) M = .ok (g x) M) → lcGo (.nm i) bYes e δ (l.map f) M = .ok (l.map g) M
  | [], _ => rfl
  | x :: l, h => by
    have h1 := h x (List.mem_cons_self ..)
    have h2 := lc_vals (l := l) fun y hy => h y (List.mem_cons_of_mem _ hy)
    rw [List.map_cons, lcGo_cons]
    simp only [Tg.put, bYes_ok, h1, h2, List.map_cons]
theorem sign_test {c : Nat} {M : Mem} {s : D} (hc : c < 127) : den [] X1_is_page_text [some s, some (.str (st [c]))] M = .ok (.bl (okSign c)) M := by
  have e1 := feed_eq (M := M) hc
  have e2 : gIn M (.str (st [c])) (.str LOW) = some (.bl (decide (32 ≤ c) && decide (c ≤ 36))) := by
    show some (D.bl (strIn (st [c]) LOW)) = _
    rw [low_in c hc]
  have e3 : gIn M (.str (st [c])) (.str HIGH) = some (.bl (decide (38 ≤ c) && decide (c ≤ 126))) := by
    show some (D.bl (strIn (st [c]) HIGH)) = _
    rw [high_in c hc]
  unfold LOW at e2
  unfold HIGH at e3
  unfold X1_is_page_text okSign
  try walk_at "ev"
  simp only [e1]
  by_cases h0 : c = 10
  · simp only [h0, decide_true, Bool.true_or]
    rfl
  · simp only [h0, decide_false, Bool.false_or]
    try walk_at "ev"
    simp only [e2, Option.some_or]
    by_cases h1 : 32 ≤ c ∧ c ≤ 36
    · simp only [h1.1, h1.2, decide_true, Bool.and_self, Bool.true_or]
      rfl
    · have : (decide (32 ≤ c) && decide (c ≤ 36)) = false := by simp; omega
      simp only [this, Bool.false_or]
      try walk_at "ev"
      simp only [e3, Option.some_or]
theorem ev_is_page_text {l : List Nat} {M : Mem} (h : ∀ c ∈ l, c < 127) (hl : l.length ≤ 1000) : F_is_page_text [.str (st l)] M = .ok (.bl (okText l)) M := by
  unfold F_is_page_text B_is_page_text
  try walk_at "ev"
  have i1 : fIsi M (.str (st l)) (.ty "str") = some (.bl true) := rfl
  have i2 : fLen M (.str (st l)) = some (.int (l.length : Nat)) := by rw [len_str (by rw [st_len]; unfold sizeLine; omega), st_len]
  simp only [i1]
  try walk_at "ev"
  simp only [i2, gt_int]
  have hz : (l.map fun c => D.str (st [c])).length ≤ sizeLine := by rw [List.length_map]; unfold sizeLine; omega
  by_cases h1 : l.length ≤ 113
  · have h1' : ¬ (113 : Int) < ((l.length : Nat) : Int) := by omega
    simp only [h1', decide_false]
    try walk_at "ev"
    simp only [itS, st_sgn]
    rw [if_pos hz, lc_vals (g := fun c => D.bl (okSign c)) fun c hc => sign_test (h c hc)]
    simp only [all_map]
    unfold okText
    simp only [h1, decide_true, Bool.true_and]
  · have h1' : (113 : Int) < ((l.length : Nat) : Int) := by omega
    unfold okText
    simp only [h1', h1, decide_true, decide_false, Bool.false_and]
    rfl
end Lw
end

section
set_option Elab.async false
set_option linter.all false
set_option maxRecDepth 100000
set_option maxHeartbeats 2000000
namespace Lw
open PySem Wn
local macro_rules | `(tactic| walk_at "ev") => `(tactic| simp only [fnDef, fnOf, denSL, denS, den, denL, denB, denI, sSeq, sAsg, sRet, sRetN, sEx, sIf, sFor, sPar, sSet, sPass, sBrk, sCnt, bndS, bnd, Wn.ret, stuck, opt, eVar, eCst, eOp, eCall, eChain, bTru, bNot, bAnd, bOr, eOr, eAnd, eNot, eIf, lNil, lCons, eTup, eLst, eCell, eMt, eMl, eSl, oNo, oAt, eNeg, eLc, lcRun, fnDo, startE, fin, Tg.put, TgL.puts, isS_ite, if_le_sz, add_int, sub_int, eq_int, ne_int, le_int, lt_int, gt_int, ge_int, is_non, isnot_non, isNon, asTru, truD, iArg, wipeE,
  List.map_cons, List.map_nil, List.length_cons, List.length_nil, List.getElem?_cons_zero, List.getElem?_cons_succ, List.set_cons_zero, List.set_cons_succ, List.getD_cons_zero, List.getD_cons_succ, List.cons_append, List.nil_append, List.replicate_succ, List.replicate_zero, Nat.zero_add, Nat.sub_self, Nat.add_one_sub_one, Nat.reduceAdd, Nat.reduceSub, Nat.reduceLeDiff, Nat.reduceEqDiff, if_true, if_false, Bool.false_eq_true, Bool.not_true, Bool.not_false, decide_true, decide_false, g1, g2, List.zip_cons_cons, List.zip_nil_right, List.foldl_cons, List.foldl_nil,
  mIndex, mJoin, mAppend, mExtend, mGet, eMd, eDcp, gDcp, sSetA, setA, bLen, bAbs, bMax, bMin, bSum, bAll, bAny, bOrd, bRepr, bIsi, tInt, tTup, tLst, nInt, nStr, nBool, nTup, nLst, oAdd, oSub, oMul, oMod, oDiv, oPow, cEq, cNe, cLt, cLe, cGt, cGe, cIn, cNi, cIs, cIn', Option.some_or, Option.or_none, Option.none_or])
local macro_rules | `(tactic| walk_at "evh") => `(tactic| simp only [*, fnDef, fnOf, denSL, denS, den, denL, denB, denI, sSeq, sAsg, sRet, sRetN, sEx, sIf, sFor, sPar, sSet, sPass, sBrk, sCnt, bndS, bnd, Wn.ret, stuck, opt, eVar, eCst, eOp, eCall, eChain, bTru, bNot, bAnd, bOr, eOr, eAnd, eNot, eIf, lNil, lCons, eTup, eLst, eCell, eMt, eMl, eSl, oNo, oAt, eNeg, eLc, lcRun, fnDo, startE, fin, Tg.put, TgL.puts, isS_ite, if_le_sz, add_int, sub_int, eq_int, ne_int, le_int, lt_int, gt_int, ge_int, is_non, isnot_non, isNon, asTru, truD, iArg, wipeE,
  List.map_cons, List.map_nil, List.length_cons, List.length_nil, List.getElem?_cons_zero, List.getElem?_cons_succ, List.set_cons_zero, List.set_cons_succ, List.getD_cons_zero, List.getD_cons_succ, List.cons_append, List.nil_append, List.replicate_succ, List.replicate_zero, Nat.zero_add, Nat.sub_self, Nat.add_one_sub_one, Nat.reduceAdd, Nat.reduceSub, Nat.reduceLeDiff, Nat.reduceEqDiff, if_true, if_false, Bool.false_eq_true, Bool.not_true, Bool.not_false, decide_true, decide_false, g1, g2, List.zip_cons_cons, List.zip_nil_right, List.foldl_cons, List.foldl_nil,
  mIndex, mJoin, mAppend, mExtend, mGet, eMd, eDcp, gDcp, sSetA, setA, bLen, bAbs, bMax, bMin, bSum, bAll, bAny, bOrd, bRepr, bIsi, tInt, tTup, tLst, nInt, nStr, nBool, nTup, nLst, oAdd, oSub, oMul, oMod, oDiv, oPow, cEq, cNe, cLt, cLe, cGt, cGe, cIn, cNi, cIs, cIn', Option.some_or, Option.or_none, Option.none_or])

/-! ### the cells of a text -/
def textC (l : List Nat) : List Nat := l.flatMap (digits 2) ++ List.replicate (226 - 2 * l.length) 15
theorem flat2_len : ∀ l : List Nat, (l.flatMap (digits 2)).length = 2 * l.length
  | [] => rfl
  | c :: l => by rw [List.flatMap_cons, List.length_append, digits_len, flat2_len l, List.length_cons]; omega
theorem flat2_cells : ∀ l : List Nat, Cells (l.flatMap (digits 2)) := fun l v h => by
  obtain ⟨c, _, h⟩ := List.mem_flatMap.mp h
  exact digits_cells 2 c v h
theorem textC_cells (l : List Nat) : Cells (textC l) := cells_app (flat2_cells l) fun v h => by rw [List.eq_of_mem_replicate h]; decide
theorem textC_len {l : List Nat} (h : l.length ≤ 113) : (textC l).length = 226 := by
  rw [textC, List.length_append, flat2_len, List.length_replicate]; omega
theorem flat_cs : ∀ l : List (List Nat), (l.map fun x => x.map hexc).flatten = l.flatten.map hexc
  | [] => rfl
  | x :: l => by rw [List.map_cons, List.flatten_cons, List.flatten_cons, List.map_append, flat_cs l]
/-- strings of cells joined -/
theorem join_cs {M : Mem} {ls : List (List Nat)} (h : (ls.map List.length).sum ≤ 16777216) : gJoin M (.str (Str.ofString "")) [.lst (ls.map fun l => D.str (cs l))] = some (.str (cs ls.flatten)) := by
  have e : (ls.map fun l => D.str (cs l)) = (ls.map fun l => l.map hexc).map fun l => D.str (st l) := by rw [List.map_map]; rfl
  have e0 : (.str (Str.ofString "") : D) = .str (st []) := rfl
  rw [e0, e, gJoin_st, flat_cs]
  · rfl
  · rw [List.map_map]
    have : (List.length ∘ fun l : List Nat => l.map hexc) = List.length := by funext l; simp
    rw [this]; exact h
theorem sum_len2 (l : List Nat) : ((l.map (digits 2)).map List.length).sum = 2 * l.length := by
  rw [List.map_map]
  induction l with
  | nil => rfl
  | cons c l ih => rw [List.map_cons, List.sum_cons, ih, List.length_cons]; simp [digits_len]; omega
theorem sign_cells {c : Nat} {M : Mem} {s w : D} (h : okSign c = true) : den [F_cells_of_number, F_sign_number] X1_text_cells [some s, none, some (.str (st [c]))] M = .ok (.str (cs (digits 2 c))) M := by
  have e1 := fun M => ev_sign_number (M := M) h
  have e2 : ∀ M, F_cells_of_number [.int (c : Nat), .int 2] M = .ok (.str (cs (digits 2 c))) M := fun M => ev_cells_of_number (w := 2) (by omega)
  unfold X1_text_cells
  walk_at "evh"
theorem ev_text_cells {l : List Nat} {M : Mem} (h : okText l = true) : F_text_cells [.str (st l)] M = .ok (.str (cs (textC l))) M := by
  obtain ⟨h1, h2⟩ := Bool.and_eq_true_iff.mp (show (decide (l.length ≤ 113) && l.all okSign) = true from h)
  have hl := of_decide_eq_true h1
  have hs := List.all_eq_true.mp h2
  unfold F_text_cells B_text_cells
  have hz : (l.map fun c => D.str (st [c])).length ≤ sizeLine := by rw [List.length_map]; unfold sizeLine; omega
  have e1 : lcGo (.nm 2) bYes (den [F_cells_of_number, F_sign_number] X1_text_cells) [some (.str (st l)), none, none] (l.map fun c => D.str (st [c])) M = .ok ((l.map (digits 2)).map fun x => D.str (cs x)) M := by
    rw [List.map_map]
    exact lc_vals (g := fun c => D.str (cs (digits 2 c))) fun c hc => sign_cells (w := .non) (hs c hc)
  have e2 := join_cs (M := M) (ls := l.map (digits 2)) (by rw [sum_len2]; omega)
  have e3 : (l.map (digits 2)).flatten = l.flatMap (digits 2) := rfl
  rw [e3] at e2
  have e4 : fLen M (.str (cs (l.flatMap (digits 2)))) = some (.int ((2 * l.length : Nat) : Int)) := by
    rw [len_str (by rw [cs_len, flat2_len]; unfold sizeLine; omega), cs_len, flat2_len]
  have e5 : (226 : Int) - ((2 * l.length : Nat) : Int) = ((226 - 2 * l.length : Nat) : Int) := by omega
  have e6 : gMul M (.str (Str.ofString "f")) (.int ((226 - 2 * l.length : Nat) : Int)) = some (.str (cs (List.replicate (226 - 2 * l.length) 15))) := by
    have e0 : (.str (Str.ofString "f") : D) = .str (st [102]) := rfl
    rw [e0, gMul_st (by omega)]
    congr 2
    unfold cs
    rw [List.map_replicate]; rfl
  have e7 : gAdd M (.str (cs (l.flatMap (digits 2)))) (.str (cs (List.replicate (226 - 2 * l.length) 15))) = some (.str (cs (textC l))) := gAdd_cs (by rw [flat2_len, List.length_replicate]; unfold sizeLine; omega)
  clear h h1 h2 hs
  walk_at "ev"
  simp only [itS, st_sgn]
  rw [if_pos hz, e1]
  simp only [e2, Option.some_or]
  walk_at "ev"
  simp only [e4, e5, Option.some_or]
  walk_at "ev"
  simp only [e5, e6, Option.some_or, e7]

/-! ### the text that cells tell -/
def scan (vs : List Nat) : List Nat → List Nat → Option (List Nat)
  | [], acc => some acc
  | a :: as, acc => if (vs.drop a).take 2 = [15, 15] then some acc else if okSign (hexval 0 ((vs.drop a).take 2)) = true then scan vs as (acc ++ [hexval 0 ((vs.drop a).take 2)]) else none
def ats : List Nat := (List.range 113).map (2 * ·)
def signsIn (vs : List Nat) : Option (List Nat) := match scan vs ats [] with
  | some l => if okText l = true ∧ textC l = vs.take 226 then some l else none
  | none => none
theorem scan_ok {vs : List Nat} : ∀ {as acc l : List Nat}, (∀ c ∈ acc, okSign c = true) → scan vs as acc = some l → ∀ c ∈ l, okSign c = true
  | [], acc, l, h, e => by cases e; exact h
  | a :: as, acc, l, h, e => by
    unfold scan at e
    split at e
    · cases e; exact h
    · split at e
      · rename_i h2
        exact scan_ok (fun c hc => by
          rcases List.mem_append.mp hc with hc | hc
          · exact h c hc
          · rw [List.mem_singleton.mp hc]; exact h2) e
      · cases e
theorem scan_len {vs : List Nat} : ∀ {as acc l : List Nat}, scan vs as acc = some l → l.length ≤ acc.length + as.length
  | [], acc, l, e => by cases e; simp
  | a :: as, acc, l, e => by
    unfold scan at e
    split at e
    · cases e; simp
    · split at e
      · have := scan_len e
        simp at this ⊢; omega
      · cases e
def stDs (l : List Nat) : List D := l.map fun c => .str (st [c])
/-- the loop: how it ends -/
theorem signs_loop {M : Mem} {vs : List Nat} (hc : Cells vs) (hl : vs.length ≤ 1000) : ∀ (as acc : List Nat) (x y z w : Option D), acc.length + as.length ≤ 1000 → (∀ a ∈ as, a ≤ 1000) →
    (match scan vs as acc with
      | some l => ∃ x' y' z' w', forGo (.nm 2) (denSL [F_sign_of, F_number_in_cells, F_text_cells, F_is_page_text] L1_signs_in) (as.map fun a => D.int ((a : Nat) : Int)) [some (.str (cs vs)), some (.ref M.length), x, y, z, w] (M ++ [.lst (stDs acc)]) = .nx [some (.str (cs vs)), some (.ref M.length), x', y', z', w'] (M ++ [.lst (stDs l)])
      | none => ∃ J, forGo (.nm 2) (denSL [F_sign_of, F_number_in_cells, F_text_cells, F_is_page_text] L1_signs_in) (as.map fun a => D.int ((a : Nat) : Int)) [some (.str (cs vs)), some (.ref M.length), x, y, z, w] (M ++ [.lst (stDs acc)]) = .rt .non (M ++ J))
  | [], acc, x, y, z, w, _, _ => ⟨x, y, z, w, rfl⟩
  | a :: as, acc, x, y, z, w, h1, h2 => by
    have ha := h2 a (List.mem_cons_self ..)
    rw [List.length_cons] at h1
    have hb : Cells ((vs.drop a).take 2) := fun v h => hc v (List.mem_of_mem_drop (List.mem_of_mem_take h))
    generalize hbb : (vs.drop a).take 2 = both at hb
    have hbl : both.length ≤ 2 := by rw [← hbb, List.length_take]; omega
    have e1 : ∀ M, gSl M (.str (cs vs)) (some ((a : Nat) : Int)) (some (((a : Nat) : Int) + 2)) = some (.str (cs both)) := fun M => by
      rw [gSl_cs (by unfold sizeLine; omega), show (((a : Nat) : Int) + 2) = ((a + 2 : Nat) : Int) by omega, cutD_both, show a + 2 - a = 2 by omega, hbb]
    have e2 : ∀ M, gEq M (.str (cs both)) (.str (cs [15, 15])) = some (.bl (decide (both = [15, 15]))) := fun M => gEq_cs hb (fun v h => by simp at h; omega)
    have e0 : ∀ M, gAdd M (.str (Str.ofString "f")) (.str (Str.ofString "f")) = some (.str (cs [15, 15])) := fun _ => rfl
    have hv : hexval 0 both < 2 ^ 1000 := by
      have : ∀ n v, hexval 0 [n, v] = (0 * 16 + n) * 16 + v := fun _ _ => rfl
      match both, hb, hbl with
      | [], _, _ => exact Nat.two_pow_pos _
      | [n], hb, _ =>
        have := hb n (by simp)
        show 0 * 16 + n < _
        have : (16 : Nat) ≤ 2 ^ 1000 := Nat.le_trans (by decide : 16 ≤ 2 ^ 4) (Nat.pow_le_pow_right (by decide) (by decide))
        omega
      | [n, v], hb, _ =>
        have q1 := hb n (by simp)
        have q2 := hb v (by simp)
        rw [this]
        have : (256 : Nat) ≤ 2 ^ 1000 := Nat.le_trans (by decide : 256 ≤ 2 ^ 8) (Nat.pow_le_pow_right (by decide) (by decide))
        omega
    have e3 : ∀ M, F_number_in_cells [.str (cs both)] M = .ok (.int (hexval 0 both : Nat)) M := fun M => ev_number_in_cells hb hv
    have e4 : ∀ M, F_sign_of [.int (hexval 0 both : Nat)] M = .ok (signD (hexval 0 both)) M := fun M => ev_sign_of
    have hd : ∀ (δ : Wn.Env) M, Tg.put M (.nm 2) (D.int ((a : Nat) : Int)) δ = some (δ.set 2 (some (.int ((a : Nat) : Int)))) := fun _ _ => rfl
    rw [List.map_cons, forGo_cons]
    unfold scan
    rw [hbb]
    by_cases h3 : both = [15, 15]
    · rw [if_pos h3]
      have T : denSL [F_sign_of, F_number_in_cells, F_text_cells, F_is_page_text] L1_signs_in [some (.str (cs vs)), some (.ref M.length), some (.int ((a : Nat) : Int)), y, z, w] (M ++ [.lst (stDs acc)]) = .bk [some (.str (cs vs)), some (.ref M.length), some (.int ((a : Nat) : Int)), y, some (.str (cs both)), w] (M ++ [.lst (stDs acc)]) := by
        have h4 : (both = [15, 15]) = True := by simp [h3]
        clear hb hbl hv e3 e4 hd h1 h2 ha hbb hc hl h3
        unfold L1_signs_in
        walk_at "evh"
      refine ⟨some (.int ((a : Nat) : Int)), y, some (.str (cs both)), w, ?_⟩
      simp only [hd, List.set_cons_zero, List.set_cons_succ, T]
    · rw [if_neg h3]
      have h4 : (both = [15, 15]) = False := by simp [h3]
      by_cases h5 : okSign (hexval 0 both) = true
      · rw [if_pos h5]
        have e5 : signD (hexval 0 both) = .str (st [hexval 0 both]) := by unfold signD; rw [if_pos h5]
        have e8 : fAppend (.ref M.length) [.str (st [hexval 0 both])] (M ++ [.lst (stDs acc)]) = .ok .non (M ++ [.lst (stDs (acc ++ [hexval 0 both]))]) := by
          have q : stDs acc ++ [D.str (st [hexval 0 both])] = stDs (acc ++ [hexval 0 both]) := by simp [stDs]
          rw [append_ok get_end (by simp [stDs]; unfold sizeLine; omega), q, set_end]
        have e9 : isL (M ++ [Cell.lst (stDs acc)]) (.ref M.length) = true := isL_ref get_end
        have T : denSL [F_sign_of, F_number_in_cells, F_text_cells, F_is_page_text] L1_signs_in [some (.str (cs vs)), some (.ref M.length), some (.int ((a : Nat) : Int)), y, z, w] (M ++ [.lst (stDs acc)]) = .nx [some (.str (cs vs)), some (.ref M.length), some (.int ((a : Nat) : Int)), y, some (.str (cs both)), some (.str (st [hexval 0 both]))] (M ++ [.lst (stDs (acc ++ [hexval 0 both]))]) := by
          clear hb hbl hv hd h1 h2 ha hbb hc hl h3 h5
          unfold L1_signs_in
          walk_at "evh"
          simp only [noErr, e8]
        have ih := signs_loop (M := M) hc hl as (acc ++ [hexval 0 both]) (some (.int ((a : Nat) : Int))) y (some (.str (cs both))) (some (.str (st [hexval 0 both]))) (by simp; omega) (fun b hb => h2 b (List.mem_cons_of_mem _ hb))
        simp only [hd, List.set_cons_zero, List.set_cons_succ, T]
        exact ih
      · rw [if_neg h5]
        have e5 : signD (hexval 0 both) = .non := by unfold signD; rw [if_neg h5]
        have T : denSL [F_sign_of, F_number_in_cells, F_text_cells, F_is_page_text] L1_signs_in [some (.str (cs vs)), some (.ref M.length), some (.int ((a : Nat) : Int)), y, z, w] (M ++ [.lst (stDs acc)]) = .rt .non (M ++ [.lst (stDs acc)]) := by
          clear hb hbl hv hd h1 h2 ha hbb hc hl h3 h5
          unfold L1_signs_in
          walk_at "evh"
        simp only [hd, List.set_cons_zero, List.set_cons_succ, T]
        exact ⟨_, rfl⟩
end Lw
end

section
set_option Elab.async false
set_option linter.all false
set_option maxRecDepth 100000
set_option maxHeartbeats 2000000
namespace Lw
open PySem Wn
local macro_rules | `(tactic| walk_at "ev") => `(tactic| simp only [fnDef, fnOf, denSL, denS, den, denL, denB, denI, sSeq, sAsg, sRet, sRetN, sEx, sIf, sFor, sPar, sSet, sPass, sBrk, sCnt, bndS, bnd, Wn.ret, stuck, opt, eVar, eCst, eOp, eCall, eChain, bTru, bNot, bAnd, bOr, eOr, eAnd, eNot, eIf, lNil, lCons, eTup, eLst, eCell, eMt, eMl, eSl, oNo, oAt, eNeg, eLc, lcRun, fnDo, startE, fin, Tg.put, TgL.puts, isS_ite, if_le_sz, add_int, sub_int, eq_int, ne_int, le_int, lt_int, gt_int, ge_int, is_non, isnot_non, isNon, asTru, truD, iArg, wipeE,
  List.map_cons, List.map_nil, List.length_cons, List.length_nil, List.getElem?_cons_zero, List.getElem?_cons_succ, List.set_cons_zero, List.set_cons_succ, List.getD_cons_zero, List.getD_cons_succ, List.cons_append, List.nil_append, List.replicate_succ, List.replicate_zero, Nat.zero_add, Nat.sub_self, Nat.add_one_sub_one, Nat.reduceAdd, Nat.reduceSub, Nat.reduceLeDiff, Nat.reduceEqDiff, if_true, if_false, Bool.false_eq_true, Bool.not_true, Bool.not_false, decide_true, decide_false, g1, g2, List.zip_cons_cons, List.zip_nil_right, List.foldl_cons, List.foldl_nil,
  mIndex, mJoin, mAppend, mExtend, mGet, eMd, eDcp, gDcp, sSetA, setA, bLen, bAbs, bMax, bMin, bSum, bAll, bAny, bOrd, bRepr, bIsi, tInt, tTup, tLst, nInt, nStr, nBool, nTup, nLst, oAdd, oSub, oMul, oMod, oDiv, oPow, cEq, cNe, cLt, cLe, cGt, cGe, cIn, cNi, cIs, cIn', Option.some_or, Option.or_none, Option.none_or])
local macro_rules | `(tactic| walk_at "evh") => `(tactic| simp only [*, fnDef, fnOf, denSL, denS, den, denL, denB, denI, sSeq, sAsg, sRet, sRetN, sEx, sIf, sFor, sPar, sSet, sPass, sBrk, sCnt, bndS, bnd, Wn.ret, stuck, opt, eVar, eCst, eOp, eCall, eChain, bTru, bNot, bAnd, bOr, eOr, eAnd, eNot, eIf, lNil, lCons, eTup, eLst, eCell, eMt, eMl, eSl, oNo, oAt, eNeg, eLc, lcRun, fnDo, startE, fin, Tg.put, TgL.puts, isS_ite, if_le_sz, add_int, sub_int, eq_int, ne_int, le_int, lt_int, gt_int, ge_int, is_non, isnot_non, isNon, asTru, truD, iArg, wipeE,
  List.map_cons, List.map_nil, List.length_cons, List.length_nil, List.getElem?_cons_zero, List.getElem?_cons_succ, List.set_cons_zero, List.set_cons_succ, List.getD_cons_zero, List.getD_cons_succ, List.cons_append, List.nil_append, List.replicate_succ, List.replicate_zero, Nat.zero_add, Nat.sub_self, Nat.add_one_sub_one, Nat.reduceAdd, Nat.reduceSub, Nat.reduceLeDiff, Nat.reduceEqDiff, if_true, if_false, Bool.false_eq_true, Bool.not_true, Bool.not_false, decide_true, decide_false, g1, g2, List.zip_cons_cons, List.zip_nil_right, List.foldl_cons, List.foldl_nil,
  mIndex, mJoin, mAppend, mExtend, mGet, eMd, eDcp, gDcp, sSetA, setA, bLen, bAbs, bMax, bMin, bSum, bAll, bAny, bOrd, bRepr, bIsi, tInt, tTup, tLst, nInt, nStr, nBool, nTup, nLst, oAdd, oSub, oMul, oMod, oDiv, oPow, cEq, cNe, cLt, cLe, cGt, cGe, cIn, cNi, cIs, cIn', Option.some_or, Option.or_none, Option.none_or])

/-! ### signs_in -/
def optS : Option (List Nat) → D
  | some l => .str (st l)
  | none => .non
theorem clo_optS {n : Nat} : ∀ {o : Option (List Nat)}, clo n (optS o) = true
  | some _ => rfl
  | none => rfl
theorem ats_rng : rngC 0 2 113 = ats.map fun a => D.int ((a : Nat) : Int) := by
  unfold rngC ats
  rw [List.map_map]
  congr 1
  funext k
  show D.int (0 + (k : Nat) * 2) = D.int ((2 * k : Nat) : Int)
  congr 1
  omega
theorem rng_226 {M : Mem} : fRng3 [.int 0, .int 226, .int 2] M = .ok (ats.map fun a => D.int ((a : Nat) : Int)) M := by
  rw [← ats_rng]; rfl
theorem join_signs {M : Mem} {l : List Nat} (h : l.length ≤ 1000) : gJoin M (.str (Str.ofString "")) [.lst (stDs l)] = some (.str (st l)) := by
  have e : stDs l = (l.map fun c => [c]).map fun x => D.str (st x) := by rw [List.map_map]; rfl
  have e0 : (.str (Str.ofString "") : D) = .str (st []) := rfl
  have hs : ∀ l : List Nat, (l.map fun c => [c]).flatten = l := by
    intro l
    induction l with
    | nil => rfl
    | cons c l ih => simp at ih ⊢; exact ih
  rw [e0, e, gJoin_st, hs]
  rw [List.map_map]
  have : (List.length ∘ fun c : Nat => [c]) = fun _ => 1 := by funext v; rfl
  rw [this, sum_ones]; omega
theorem frz_end {M : Mem} {ds : List D} {a b c d e f : Option D} : sFrz 1 [a, some (.ref M.length), c, d, e, f] (M ++ [.lst ds]) = .nx [a, some (.lst ds), c, d, e, f] (M ++ [.dead]) := by
  unfold sFrz
  simp only [List.getElem?_cons_succ, List.getElem?_cons_zero, get_end, set_end, List.set_cons_succ, List.set_cons_zero]
theorem ev_signs_in {vs : List Nat} {M : Mem} (hc : Cells vs) (hl : vs.length ≤ 1000) : F_signs_in [.str (cs vs)] M = .ok (optS (signsIn vs)) M := by
  have L := signs_loop (M := M) hc hl ats [] none none none none (by simp [ats]) (fun a h => by
    obtain ⟨k, hk, rfl⟩ := List.mem_map.mp h
    have := List.mem_range.mp hk
    omega)
  have h226 : Cells (vs.take 226) := fun v h => hc v (List.mem_of_mem_take h)
  have e1 : ∀ M, gSl M (.str (cs vs)) none (some 226) = some (.str (cs (vs.take 226))) := fun M => by
    rw [gSl_cs (by unfold sizeLine; omega)]
    rw [show (226 : Int) = ((226 : Nat) : Int) from rfl, cutD_hi]
  have e2 : ∀ M, fRng3 [.int 0, .int 226, .int 2] M = .ok (ats.map fun a => D.int ((a : Nat) : Int)) M := fun M => rng_226
  have go : fin (denSL [F_sign_of, F_number_in_cells, F_text_cells, F_is_page_text] B_signs_in (startE 6 [.str (cs vs)]) M) = .ok (optS (signsIn vs)) (M ++ [.dead]) ∨ (signsIn vs = none ∧ ∃ J, fin (denSL [F_sign_of, F_number_in_cells, F_text_cells, F_is_page_text] B_signs_in (startE 6 [.str (cs vs)]) M) = .ok .non (M ++ J)) := by
    cases hs : scan vs ats [] with
    | none =>
      rw [hs] at L
      obtain ⟨J, L⟩ := L
      refine .inr ⟨by unfold signsIn; rw [hs], J, ?_⟩
      have L' : forGo (.nm 2) (denSL [F_sign_of, F_number_in_cells, F_text_cells, F_is_page_text] L1_signs_in) (ats.map fun a => D.int ((a : Nat) : Int)) [some (.str (cs vs)), some (.ref M.length), none, none, none, none] (M ++ [.lst []]) = .rt .non (M ++ J) := L
      clear L hs hc hl h226 e1
      unfold B_signs_in
      walk_at "evh"
    | some l =>
      rw [hs] at L
      obtain ⟨x, y, z, w, L⟩ := L
      refine .inl ?_
      have L' : forGo (.nm 2) (denSL [F_sign_of, F_number_in_cells, F_text_cells, F_is_page_text] L1_signs_in) (ats.map fun a => D.int ((a : Nat) : Int)) [some (.str (cs vs)), some (.ref M.length), none, none, none, none] (M ++ [.lst []]) = .nx [some (.str (cs vs)), some (.ref M.length), x, y, z, w] (M ++ [.lst (stDs l)]) := L
      have hok : ∀ c ∈ l, okSign c = true := scan_ok (by intro c h; cases h) hs
      have hlen : l.length ≤ 113 := by have := scan_len hs; simpa [ats] using this
      have hokT : okText l = true := by
        unfold okText
        rw [decide_eq_true hlen, Bool.true_and, List.all_eq_true]
        exact hok
      have e3 : ∀ M, gJoin M (.str (Str.ofString "")) [.lst (stDs l)] = some (.str (st l)) := fun M => join_signs (by omega)
      have e4 : ∀ M, F_is_page_text [.str (st l)] M = .ok (.bl true) M := fun M => by
        rw [ev_is_page_text (fun c h => okSign_lt (hok c h)) (by omega), hokT]
      have e5 : ∀ M, F_text_cells [.str (st l)] M = .ok (.str (cs (textC l))) M := fun M => ev_text_cells hokT
      have e6 : ∀ M, gEq M (.str (cs (textC l))) (.str (cs (vs.take 226))) = some (.bl (decide (textC l = vs.take 226))) := fun M => gEq_cs (textC_cells l) h226
      have e7 : signsIn vs = if textC l = vs.take 226 then some l else none := by
        unfold signsIn
        rw [hs]
        simp only [hokT, true_and]
      rw [e7]
      have fz : ∀ a c d e f, sFrz 1 [a, some (.ref M.length), c, d, e, f] (M ++ [.lst (stDs l)]) = .nx [a, some (.lst (stDs l)), c, d, e, f] (M ++ [.dead]) := fun a c d e f => frz_end (b := none)
      by_cases h9 : textC l = vs.take 226
      · rw [if_pos h9]
        have h9' : (textC l = vs.take 226) = True := by simp [h9]
        clear L hs hc hl h226 hok hlen hokT e7 h9
        unfold B_signs_in
        walk_at "evh"
        rfl
      · rw [if_neg h9]
        have h9' : (textC l = vs.take 226) = False := by simp [h9]
        clear L hs hc hl h226 hok hlen hokT e7 h9
        unfold B_signs_in
        walk_at "evh"
        rfl
  have tr : F_signs_in [.str (cs vs)] M = trim M (fin (denSL [F_sign_of, F_number_in_cells, F_text_cells, F_is_page_text] B_signs_in (startE 6 [.str (cs vs)]) M)) := by
    unfold F_signs_in fnDef fnOf
    rw [if_pos rfl]
  rw [tr]
  rcases go with go | ⟨g1, J, go⟩
  · rw [go, trim_same clo_optS]
  · rw [go, trim_same rfl, g1]; rfl
end Lw
end

section
set_option Elab.async false
set_option linter.all false
set_option maxRecDepth 100000
set_option maxHeartbeats 2000000
namespace Lw
open PySem Wn
local macro_rules | `(tactic| walk_at "ev") => `(tactic| simp only [fnDef, fnOf, denSL, denS, den, denL, denB, denI, sSeq, sAsg, sRet, sRetN, sEx, sIf, sFor, sPar, sSet, sPass, sBrk, sCnt, bndS, bnd, Wn.ret, stuck, opt, eVar, eCst, eOp, eCall, eChain, bTru, bNot, bAnd, bOr, eOr, eAnd, eNot, eIf, lNil, lCons, eTup, eLst, eCell, eMt, eMl, eSl, oNo, oAt, eNeg, eLc, lcRun, fnDo, startE, fin, Tg.put, TgL.puts, isS_ite, if_le_sz, add_int, sub_int, eq_int, ne_int, le_int, lt_int, gt_int, ge_int, is_non, isnot_non, isNon, asTru, truD, iArg, wipeE,
  List.map_cons, List.map_nil, List.length_cons, List.length_nil, List.getElem?_cons_zero, List.getElem?_cons_succ, List.set_cons_zero, List.set_cons_succ, List.getD_cons_zero, List.getD_cons_succ, List.cons_append, List.nil_append, List.replicate_succ, List.replicate_zero, Nat.zero_add, Nat.sub_self, Nat.add_one_sub_one, Nat.reduceAdd, Nat.reduceSub, Nat.reduceLeDiff, Nat.reduceEqDiff, if_true, if_false, Bool.false_eq_true, Bool.not_true, Bool.not_false, decide_true, decide_false, g1, g2, List.zip_cons_cons, List.zip_nil_right, List.foldl_cons, List.foldl_nil,
  mIndex, mJoin, mAppend, mExtend, mGet, eMd, eDcp, gDcp, sSetA, setA, bLen, bAbs, bMax, bMin, bSum, bAll, bAny, bOrd, bRepr, bIsi, tInt, tTup, tLst, nInt, nStr, nBool, nTup, nLst, oAdd, oSub, oMul, oMod, oDiv, oPow, cEq, cNe, cLt, cLe, cGt, cGe, cIn, cNi, cIs, cIn', Option.some_or, Option.or_none, Option.none_or])
local macro_rules | `(tactic| walk_at "evh") => `(tactic| simp only [*, fnDef, fnOf, denSL, denS, den, denL, denB, denI, sSeq, sAsg, sRet, sRetN, sEx, sIf, sFor, sPar, sSet, sPass, sBrk, sCnt, bndS, bnd, Wn.ret, stuck, opt, eVar, eCst, eOp, eCall, eChain, bTru, bNot, bAnd, bOr, eOr, eAnd, eNot, eIf, lNil, lCons, eTup, eLst, eCell, eMt, eMl, eSl, oNo, oAt, eNeg, eLc, lcRun, fnDo, startE, fin, Tg.put, TgL.puts, isS_ite, if_le_sz, add_int, sub_int, eq_int, ne_int, le_int, lt_int, gt_int, ge_int, is_non, isnot_non, isNon, asTru, truD, iArg, wipeE,
  List.map_cons, List.map_nil, List.length_cons, List.length_nil, List.getElem?_cons_zero, List.getElem?_cons_succ, List.set_cons_zero, List.set_cons_succ, List.getD_cons_zero, List.getD_cons_succ, List.cons_append, List.nil_append, List.replicate_succ, List.replicate_zero, Nat.zero_add, Nat.sub_self, Nat.add_one_sub_one, Nat.reduceAdd, Nat.reduceSub, Nat.reduceLeDiff, Nat.reduceEqDiff, if_true, if_false, Bool.false_eq_true, Bool.not_true, Bool.not_false, decide_true, decide_false, g1, g2, List.zip_cons_cons, List.zip_nil_right, List.foldl_cons, List.foldl_nil,
  mIndex, mJoin, mAppend, mExtend, mGet, eMd, eDcp, gDcp, sSetA, setA, bLen, bAbs, bMax, bMin, bSum, bAll, bAny, bOrd, bRepr, bIsi, tInt, tTup, tLst, nInt, nStr, nBool, nTup, nLst, oAdd, oSub, oMul, oMod, oDiv, oPow, cEq, cNe, cLt, cLe, cGt, cGe, cIn, cNi, cIs, cIn', Option.some_or, Option.or_none, Option.none_or])

/-! ### sealed pages -/
def sealedC (l : List Nat) : List Nat := textC l ++ tail3 (sums3 0 (textC l) (0, 0, 0))
theorem sealedC_cells (l : List Nat) : Cells (sealedC l) := cells_app (textC_cells l) (tail3_cells _)
theorem okText_len {l : List Nat} (h : okText l = true) : l.length ≤ 113 := of_decide_eq_true (Bool.and_eq_true_iff.mp (show (decide (l.length ≤ 113) && l.all okSign) = true from h)).1
theorem okText_all {l : List Nat} (h : okText l = true) : ∀ c ∈ l, okSign c = true := List.all_eq_true.mp (Bool.and_eq_true_iff.mp (show (decide (l.length ≤ 113) && l.all okSign) = true from h)).2
theorem sealedC_len {l : List Nat} (h : okText l = true) : (sealedC l).length = 256 := by
  rw [sealedC, List.length_append, textC_len (okText_len h), tail3_len]
theorem ev_sealed_page {l : List Nat} {M : Mem} (h : okText l = true) : F_sealed_page [.str (st l)] M = .ok (.str (cs (sealedC l))) M := by
  have hl := textC_len (okText_len h)
  have e1 : ∀ M, F_text_cells [.str (st l)] M = .ok (.str (cs (textC l))) M := fun M => ev_text_cells h
  have e2 : ∀ M, F_sums_of [.str (cs (textC l))] M = .ok (tup3 (sums3 0 (textC l) (0, 0, 0))) M := fun M => by
    rw [ev_sums_of (textC_cells l) (by omega), List.take_of_length_le (by omega)]
  have e3 : ∀ M, F_sum_cells [tup3 (sums3 0 (textC l) (0, 0, 0))] M = .ok (.str (cs (tail3 (sums3 0 (textC l) (0, 0, 0))))) M := fun M => ev_sum_cells
  have e4 : ∀ M, gAdd M (.str (cs (textC l))) (.str (cs (tail3 (sums3 0 (textC l) (0, 0, 0))))) = some (.str (cs (sealedC l))) := fun M => gAdd_cs (by rw [hl, tail3_len]; decide)
  clear h hl
  unfold F_sealed_page B_sealed_page
  walk_at "evh"
theorem cell_in : ∀ v, v < 16 → strIn (st [hexc v]) CS = true := by decide +kernel
theorem ev_are_cells {vs : List Nat} {M : Mem} (hc : Cells vs) (hl : vs.length ≤ 100000) : F_are_cells [.str (cs vs), .int 256, .int 256] M = .ok (.bl (decide (vs.length = 256))) M := by
  have e1 : ∀ M, fIsi M (.str (cs vs)) (.ty "str") = some (.bl true) := fun _ => rfl
  have e2 : ∀ M, fLen M (.str (cs vs)) = some (.int (vs.length : Nat)) := fun M => by rw [len_str (by rw [cs_len]; unfold sizeLine; omega), cs_len]
  have key : ∀ M, lcGo (.nm 3) bYes (den [] X1_are_cells) [some (.str (cs vs)), some (.int 256), some (.int 256), none] (vs.map fun v => D.str (st [hexc v])) M = .ok (vs.map fun v => D.bl true) M := fun M =>
    lc_vals (g := fun v => D.bl true) fun v hv => by
      have e3 : ∀ M, gIn M (.str (st [hexc v])) (.str CS) = some (.bl true) := fun M => by
        show some (D.bl (strIn (st [hexc v]) CS)) = _
        rw [cell_in v (hc v hv)]
      unfold CS at e3
      unfold X1_are_cells
      clear hc hl hv e1 e2
      walk_at "evh"
  have ha : ∀ M, fAll M (.lst (vs.map fun v => D.bl true)) = some (.bl true) := fun M => by
    rw [all_map (fun _ => true) vs]; simp
  have hz : (vs.map fun v => D.str (st [hexc v])).length ≤ sizeLine := by rw [List.length_map]; unfold sizeLine; omega
  have hw : ∀ (α : Type) (a b : α), (if (vs.map fun v => D.str (st [hexc v])).length ≤ sizeLine then a else b) = a := fun _ a b => if_pos hz
  have ht : ∀ M, itS (.str (cs vs)) M = .ok (vs.map fun v => D.str (st [hexc v])) M := fun M => by
    show Res.ok (sgn (cs vs)) M = _
    rw [cs_sgn]
  unfold F_are_cells B_are_cells
  by_cases h1 : vs.length = 256
  · have h2 : (vs.length = 256) = True := by simp [h1]
    have h3 : ((256 : Int) ≤ ((vs.length : Nat) : Int)) = True := by simp; omega
    have h4 : (((vs.length : Nat) : Int) ≤ 256) = True := by simp; omega
    rw [decide_eq_true h1]
    clear hc hl hz h1 h2
    walk_at "evh"
  · rw [decide_eq_false h1]
    by_cases h5 : 256 ≤ vs.length
    · have h3 : ((256 : Int) ≤ ((vs.length : Nat) : Int)) = True := by simp; omega
      have h4 : (((vs.length : Nat) : Int) ≤ 256) = False := by simp; omega
      clear hc hl hz h1 h5 key ha hw ht
      walk_at "evh"
    · have h3 : ((256 : Int) ≤ ((vs.length : Nat) : Int)) = False := by simp; omega
      clear hc hl hz h1 h5 key ha hw ht
      walk_at "evh"
theorem ev_is_page {vs : List Nat} {M : Mem} (hc : Cells vs) (hl : vs.length ≤ 100000) : F_is_page [.str (cs vs)] M = .ok (.bl (decide (vs.length = 256))) M := by
  have e : ∀ M, F_are_cells [.str (cs vs), .int 256, .int 256] M = .ok (.bl (decide (vs.length = 256))) M := fun M => ev_are_cells hc hl
  unfold F_is_page B_is_page
  clear hc hl
  walk_at "ev"
  simp only [e]
/-! ### the sums that a page tells -/
def toldOne (vs : List Nat) (a w : Nat) : Option Nat := if turned ((vs.drop a).take w) = (vs.drop (a + w)).take w then some (hexval 0 ((vs.drop a).take w)) else none
def toldS (vs : List Nat) : Option (Nat × Nat × Nat) := match toldOne vs 226 3, toldOne vs 232 5, toldOne vs 242 7 with
  | some a, some b, some c => some (a, b, c)
  | _, _, _ => none
def inD (l : List Nat) : List D := l.map fun n => .int ((n : Nat) : Int)
theorem hexval_lt : ∀ (vs : List Nat) (a n : Nat), Cells vs → a < 16 ^ n → hexval a vs < 16 ^ (n + vs.length)
  | [], a, n, _, h => h
  | v :: vs, a, n, hc, h => by
    have hv := hc v (List.mem_cons_self ..)
    have := hexval_lt vs (a * 16 + v) (n + 1) (fun w hw => hc w (List.mem_cons_of_mem _ hw)) (by rw [Nat.pow_succ]; omega)
    rw [show n + (v :: vs).length = n + 1 + vs.length by simp; omega]
    exact this
theorem hexval_big {vs : List Nat} (hc : Cells vs) (h : vs.length ≤ 100) : hexval 0 vs < 2 ^ 1000 := by
  have h1 := hexval_lt vs 0 1 hc (by decide)
  refine Nat.lt_of_lt_of_le h1 ?_
  rw [show (16 : Nat) = 2 ^ 4 from rfl, ← Nat.pow_mul]
  exact Nat.pow_le_pow_right (by decide) (by omega)
theorem told_turn {M : Mem} {vs : List Nat} (hc : Cells vs) (hl : vs.length ≤ 1000) (a w : Nat) (acc : List Nat) (x : Option D) (hw : w ≤ 10) (ha : a ≤ 1000) (hacc : acc.length ≤ 100) :
    (match toldOne vs a w with
      | some n => ∃ x', denSL [F_contrary, F_number_in_cells] L1_told_sums [some (.str (cs vs)), some (.int (w : Nat)), some (.ref M.length), some (.int (a : Nat)), x] (M ++ [.lst (inD acc)]) = .nx [some (.str (cs vs)), some (.int (w : Nat)), some (.ref M.length), some (.int ((a + 2 * w : Nat) : Int)), x'] (M ++ [.lst (inD (acc ++ [n]))])
      | none => denSL [F_contrary, F_number_in_cells] L1_told_sums [some (.str (cs vs)), some (.int (w : Nat)), some (.ref M.length), some (.int (a : Nat)), x] (M ++ [.lst (inD acc)]) = .rt .non (M ++ [.lst (inD acc)])) := by
  have ht : Cells ((vs.drop a).take w) := fun v h => hc v (List.mem_of_mem_drop (List.mem_of_mem_take h))
  have ht2 : Cells ((vs.drop (a + w)).take w) := fun v h => hc v (List.mem_of_mem_drop (List.mem_of_mem_take h))
  have hs : vs.length ≤ sizeLine := by unfold sizeLine; omega
  have e1 : ∀ M, gSl M (.str (cs vs)) (some ((a : Nat) : Int)) (some (((a : Nat) : Int) + ((w : Nat) : Int))) = some (.str (cs ((vs.drop a).take w))) := fun M => by
    rw [gSl_cs hs, show (((a : Nat) : Int) + ((w : Nat) : Int)) = ((a + w : Nat) : Int) by omega, cutD_both, show a + w - a = w by omega]
  have m1 : ∀ M, gMul M (.int 2) (.int ((w : Nat) : Int)) = some (.int ((2 * w : Nat) : Int)) := fun M => by
    rw [mul_ok]
    · rfl
    · have := log_small (a := w) (by omega)
      show Nat.log2 2 + w.log2 < 1000000
      have : Nat.log2 2 = 1 := by decide
      omega
  have e2 : ∀ M, gSl M (.str (cs vs)) (some (((a : Nat) : Int) + ((w : Nat) : Int))) (some ((a + 2 * w : Nat) : Int)) = some (.str (cs ((vs.drop (a + w)).take w))) := fun M => by
    rw [gSl_cs hs, show (((a : Nat) : Int) + ((w : Nat) : Int)) = ((a + w : Nat) : Int) by omega, cutD_both, show a + 2 * w - (a + w) = w by omega]
  have hln : ((vs.drop a).take w).length ≤ 10 := by rw [List.length_take]; omega
  have e3 : ∀ M, F_contrary [.str (cs ((vs.drop a).take w))] M = .ok (.str (cs (turned ((vs.drop a).take w)))) M := fun M => ev_contrary ht (by omega)
  have e4 : ∀ M, gNe M (.str (cs (turned ((vs.drop a).take w)))) (.str (cs ((vs.drop (a + w)).take w))) = some (.bl (!decide (turned ((vs.drop a).take w) = (vs.drop (a + w)).take w))) := fun M => gNe_cs (turned_cells _) ht2
  have e5 : ∀ M, F_number_in_cells [.str (cs ((vs.drop a).take w))] M = .ok (.int (hexval 0 ((vs.drop a).take w) : Nat)) M := fun M => ev_number_in_cells ht (hexval_big ht (by omega))
  have e6 : (((a : Nat) : Int) + ((2 * w : Nat) : Int)) = ((a + 2 * w : Nat) : Int) := by omega
  unfold toldOne
  by_cases h : turned ((vs.drop a).take w) = (vs.drop (a + w)).take w
  · rw [if_pos h]
    have h' : (turned ((vs.drop a).take w) = (vs.drop (a + w)).take w) = True := by simp [h]
    have e8 : fAppend (.ref M.length) [.int (hexval 0 ((vs.drop a).take w) : Nat)] (M ++ [.lst (inD acc)]) = .ok .non (M ++ [.lst (inD (acc ++ [hexval 0 ((vs.drop a).take w)]))]) := by
      have q : inD acc ++ [D.int (hexval 0 ((vs.drop a).take w) : Nat)] = inD (acc ++ [hexval 0 ((vs.drop a).take w)]) := by simp [inD]
      rw [append_ok get_end (by simp [inD]; unfold sizeLine; omega), q, set_end]
    have e9 : isL (M ++ [Cell.lst (inD acc)]) (.ref M.length) = true := isL_ref get_end
    refine ⟨some (.str (cs ((vs.drop a).take w))), ?_⟩
    clear hc hl hw ha hacc ht ht2 hs hln h
    unfold L1_told_sums
    walk_at "evh"
    simp only [noErr, e8]
    walk_at "evh"
  · rw [if_neg h]
    have h' : (turned ((vs.drop a).take w) = (vs.drop (a + w)).take w) = False := by simp [h]
    clear hc hl hw ha hacc ht ht2 hs hln h
    unfold L1_told_sums
    walk_at "evh"
end Lw
end

section
set_option Elab.async false
set_option linter.all false
set_option maxRecDepth 100000
set_option maxHeartbeats 2000000
namespace Lw
open PySem Wn
local macro_rules | `(tactic| walk_at "ev") => `(tactic| simp only [fnDef, fnOf, denSL, denS, den, denL, denB, denI, sSeq, sAsg, sRet, sRetN, sEx, sIf, sFor, sPar, sSet, sPass, sBrk, sCnt, bndS, bnd, Wn.ret, stuck, opt, eVar, eCst, eOp, eCall, eChain, bTru, bNot, bAnd, bOr, eOr, eAnd, eNot, eIf, lNil, lCons, eTup, eLst, eCell, eMt, eMl, eSl, oNo, oAt, eNeg, eLc, lcRun, fnDo, startE, fin, Tg.put, TgL.puts, isS_ite, if_le_sz, add_int, sub_int, eq_int, ne_int, le_int, lt_int, gt_int, ge_int, is_non, isnot_non, isNon, asTru, truD, iArg, wipeE,
  List.map_cons, List.map_nil, List.length_cons, List.length_nil, List.getElem?_cons_zero, List.getElem?_cons_succ, List.set_cons_zero, List.set_cons_succ, List.getD_cons_zero, List.getD_cons_succ, List.cons_append, List.nil_append, List.replicate_succ, List.replicate_zero, Nat.zero_add, Nat.sub_self, Nat.add_one_sub_one, Nat.reduceAdd, Nat.reduceSub, Nat.reduceLeDiff, Nat.reduceEqDiff, if_true, if_false, Bool.false_eq_true, Bool.not_true, Bool.not_false, decide_true, decide_false, g1, g2, List.zip_cons_cons, List.zip_nil_right, List.foldl_cons, List.foldl_nil,
  mIndex, mJoin, mAppend, mExtend, mGet, eMd, eDcp, gDcp, sSetA, setA, bLen, bAbs, bMax, bMin, bSum, bAll, bAny, bOrd, bRepr, bIsi, tInt, tTup, tLst, nInt, nStr, nBool, nTup, nLst, oAdd, oSub, oMul, oMod, oDiv, oPow, cEq, cNe, cLt, cLe, cGt, cGe, cIn, cNi, cIs, cIn', Option.some_or, Option.or_none, Option.none_or])
local macro_rules | `(tactic| walk_at "evh") => `(tactic| simp only [*, fnDef, fnOf, denSL, denS, den, denL, denB, denI, sSeq, sAsg, sRet, sRetN, sEx, sIf, sFor, sPar, sSet, sPass, sBrk, sCnt, bndS, bnd, Wn.ret, stuck, opt, eVar, eCst, eOp, eCall, eChain, bTru, bNot, bAnd, bOr, eOr, eAnd, eNot, eIf, lNil, lCons, eTup, eLst, eCell, eMt, eMl, eSl, oNo, oAt, eNeg, eLc, lcRun, fnDo, startE, fin, Tg.put, TgL.puts, isS_ite, if_le_sz, add_int, sub_int, eq_int, ne_int, le_int, lt_int, gt_int, ge_int, is_non, isnot_non, isNon, asTru, truD, iArg, wipeE,
  List.map_cons, List.map_nil, List.length_cons, List.length_nil, List.getElem?_cons_zero, List.getElem?_cons_succ, List.set_cons_zero, List.set_cons_succ, List.getD_cons_zero, List.getD_cons_succ, List.cons_append, List.nil_append, List.replicate_succ, List.replicate_zero, Nat.zero_add, Nat.sub_self, Nat.add_one_sub_one, Nat.reduceAdd, Nat.reduceSub, Nat.reduceLeDiff, Nat.reduceEqDiff, if_true, if_false, Bool.false_eq_true, Bool.not_true, Bool.not_false, decide_true, decide_false, g1, g2, List.zip_cons_cons, List.zip_nil_right, List.foldl_cons, List.foldl_nil,
  mIndex, mJoin, mAppend, mExtend, mGet, eMd, eDcp, gDcp, sSetA, setA, bLen, bAbs, bMax, bMin, bSum, bAll, bAny, bOrd, bRepr, bIsi, tInt, tTup, tLst, nInt, nStr, nBool, nTup, nLst, oAdd, oSub, oMul, oMod, oDiv, oPow, cEq, cNe, cLt, cLe, cGt, cGe, cIn, cNi, cIs, cIn', Option.some_or, Option.or_none, Option.none_or])

/-! ### told_sums -/
def optT : Option (Nat × Nat × Nat) → D
  | some t => tup3 t
  | none => .non
theorem clo_optT {n : Nat} : ∀ {o : Option (Nat × Nat × Nat)}, clo n (optT o) = true
  | some _ => rfl
  | none => rfl
theorem frz2_end {M : Mem} {ds : List D} {a b c d : Option D} : sFrz 2 [a, b, some (.ref M.length), c, d] (M ++ [.lst ds]) = .nx [a, b, some (.lst ds), c, d] (M ++ [.dead]) := by
  unfold sFrz
  simp only [List.getElem?_cons_succ, List.getElem?_cons_zero, get_end, set_end, List.set_cons_succ, List.set_cons_zero]
theorem told_loop {M : Mem} {vs : List Nat} (hc : Cells vs) (hl : vs.length ≤ 1000) : ∀ (ws : List Nat) (a : Nat) (acc : List Nat) (x y : Option D), (∀ w ∈ ws, w ≤ 10) → a + 20 * ws.length ≤ 1000 → acc.length + ws.length ≤ 100 →
    (match (show List Nat → Nat → Option (List Nat) from fun ws a => (ws.foldl (fun s w => (s.1 + 2 * w, match s.2, toldOne vs s.1 w with | some l, some n => some (l ++ [n]) | _, _ => none)) (a, some acc)).2) ws a with
      | some l => ∃ x' y' z', forGo (.nm 1) (denSL [F_contrary, F_number_in_cells] L1_told_sums) (ws.map fun w => D.int ((w : Nat) : Int)) [some (.str (cs vs)), x, some (.ref M.length), some (.int (a : Nat)), y] (M ++ [.lst (inD acc)]) = .nx [some (.str (cs vs)), x', some (.ref M.length), y', z'] (M ++ [.lst (inD l)])
      | none => ∃ J, forGo (.nm 1) (denSL [F_contrary, F_number_in_cells] L1_told_sums) (ws.map fun w => D.int ((w : Nat) : Int)) [some (.str (cs vs)), x, some (.ref M.length), some (.int (a : Nat)), y] (M ++ [.lst (inD acc)]) = .rt .non (M ++ J))
  | [], a, acc, x, y, _, _, _ => ⟨x, _, y, rfl⟩
  | w :: ws, a, acc, x, y, h1, h2, h3 => by
    rw [List.length_cons] at h2 h3
    have T := told_turn (M := M) hc hl a w acc y (h1 w (List.mem_cons_self ..)) (by omega) (by omega)
    have hd : ∀ (δ : Wn.Env) M, Tg.put M (.nm 1) (D.int ((w : Nat) : Int)) δ = some (δ.set 1 (some (.int ((w : Nat) : Int)))) := fun _ _ => rfl
    have hn : ∀ (ws : List Nat) (a : Nat), (ws.foldl (fun s w => (s.1 + 2 * w, match s.2, toldOne vs s.1 w with | some l, some n => some (l ++ [n]) | _, _ => none)) (a, (none : Option (List Nat)))).2 = none := by
      intro ws
      induction ws with
      | nil => intro a; rfl
      | cons w ws ih => intro a; exact ih _
    simp only [List.foldl_cons]
    rw [List.map_cons, forGo_cons]
    cases ht : toldOne vs a w with
    | none =>
      rw [ht] at T
      simp only [hn, hd, List.set_cons_zero, List.set_cons_succ, T]
      exact ⟨_, rfl⟩
    | some n =>
      rw [ht] at T
      obtain ⟨x', T⟩ := T
      have ih := told_loop (M := M) hc hl ws (a + 2 * w) (acc ++ [n]) (some (.int ((w : Nat) : Int))) x' (fun v hv => h1 v (List.mem_cons_of_mem _ hv)) (by have := h1 w (List.mem_cons_self ..); omega) (by simp; omega)
      simp only [hd, List.set_cons_zero, List.set_cons_succ, T]
      exact ih
theorem told_fold (vs : List Nat) : (([3, 5, 7] : List Nat).foldl (fun s w => (s.1 + 2 * w, match s.2, toldOne vs s.1 w with | some l, some n => some (l ++ [n]) | _, _ => none)) (226, some ([] : List Nat))).2 = (toldS vs).map fun t => [t.1, t.2.1, t.2.2] := by
  unfold toldS
  simp only [List.foldl_cons, List.foldl_nil, Nat.reduceMul, Nat.reduceAdd]
  cases toldOne vs 226 3 <;> cases toldOne vs 232 5 <;> cases toldOne vs 242 7 <;> rfl
theorem ev_told_sums {vs : List Nat} {M : Mem} (hc : Cells vs) (hl : vs.length ≤ 1000) : F_told_sums [.str (cs vs)] M = .ok (optT (toldS vs)) M := by
  have L := told_loop (M := M) hc hl [3, 5, 7] 226 [] none none (by intro w h; simp at h; omega) (by simp) (by simp)
  simp only [told_fold] at L
  have e0 : (([3, 5, 7] : List Nat).map fun w => D.int ((w : Nat) : Int)) = [.int 3, .int 5, .int 7] := rfl
  have e1 : inD [] = [] := rfl
  have e2 : ∀ M, itT (.tup [.int 3, .int 5, .int 7]) M = .ok [.int 3, .int 5, .int 7] M := fun _ => rfl
  rw [e0, e1] at L
  have tr : F_told_sums [.str (cs vs)] M = trim M (fin (denSL [F_contrary, F_number_in_cells] B_told_sums (startE 5 [.str (cs vs)]) M)) := by
    unfold F_told_sums fnDef fnOf
    rw [if_pos rfl]
  rw [tr]
  cases hs : toldS vs with
  | none =>
    rw [hs] at L
    obtain ⟨J, L⟩ := L
    have L' : forGo (.nm 1) (denSL [F_contrary, F_number_in_cells] L1_told_sums) [.int 3, .int 5, .int 7] [some (.str (cs vs)), none, some (.ref M.length), some (.int 226), none] (M ++ [.lst []]) = .rt .non (M ++ J) := L
    have go : fin (denSL [F_contrary, F_number_in_cells] B_told_sums (startE 5 [.str (cs vs)]) M) = .ok .non (M ++ J) := by
      clear L hs hc hl tr e0 e1
      unfold B_told_sums
      walk_at "evh"
    rw [go]
    exact trim_same rfl
  | some t =>
    rw [hs] at L
    obtain ⟨x, y, z, L⟩ := L
    have L' : forGo (.nm 1) (denSL [F_contrary, F_number_in_cells] L1_told_sums) [.int 3, .int 5, .int 7] [some (.str (cs vs)), none, some (.ref M.length), some (.int 226), none] (M ++ [.lst []]) = .nx [some (.str (cs vs)), x, some (.ref M.length), y, z] (M ++ [.lst (inD [t.1, t.2.1, t.2.2])]) := L
    have fz : ∀ a b c d, sFrz 2 [a, b, some (.ref M.length), c, d] (M ++ [.lst (inD [t.1, t.2.1, t.2.2])]) = .nx [a, b, some (.lst (inD [t.1, t.2.1, t.2.2])), c, d] (M ++ [.dead]) := fun a b c d => frz2_end
    have ft : ∀ M, fTuple M (.lst (inD [t.1, t.2.1, t.2.2])) = some (tup3 t) := fun _ => rfl
    have go : fin (denSL [F_contrary, F_number_in_cells] B_told_sums (startE 5 [.str (cs vs)]) M) = .ok (tup3 t) (M ++ [.dead]) := by
      clear L hs hc hl tr e0 e1
      unfold B_told_sums
      walk_at "evh"
    rw [go]
    exact trim_same (clo_optT (o := some t))
end Lw
end

section
set_option Elab.async false
set_option linter.all false
set_option maxRecDepth 100000
set_option maxHeartbeats 4000000
namespace Lw
open PySem Wn
local macro_rules | `(tactic| walk_at "ev") => `(tactic| simp only [fnDef, fnOf, denSL, denS, den, denL, denB, denI, sSeq, sAsg, sRet, sRetN, sEx, sIf, sFor, sPar, sSet, sPass, sBrk, sCnt, bndS, bnd, Wn.ret, stuck, opt, eVar, eCst, eOp, eCall, eChain, bTru, bNot, bAnd, bOr, eOr, eAnd, eNot, eIf, lNil, lCons, eTup, eLst, eCell, eMt, eMl, eSl, oNo, oAt, eNeg, eLc, lcRun, fnDo, startE, fin, Tg.put, TgL.puts, isS_ite, if_le_sz, lstX_lst, lstOf_lst, add_int, sub_int, eq_int, ne_int, le_int, lt_int, gt_int, ge_int, is_non, isnot_non, isNon, asTru, truD, iArg, wipeE,
  List.map_cons, List.map_nil, List.length_cons, List.length_nil, List.getElem?_cons_zero, List.getElem?_cons_succ, List.set_cons_zero, List.set_cons_succ, List.getD_cons_zero, List.getD_cons_succ, List.cons_append, List.nil_append, List.replicate_succ, List.replicate_zero, Nat.zero_add, Nat.sub_self, Nat.add_one_sub_one, Nat.reduceAdd, Nat.reduceSub, Nat.reduceLeDiff, Nat.reduceEqDiff, if_true, if_false, Bool.false_eq_true, Bool.not_true, Bool.not_false, decide_true, decide_false, g1, g2, List.zip_cons_cons, List.zip_nil_right, List.foldl_cons, List.foldl_nil,
  mIndex, mJoin, mAppend, mExtend, mGet, eMd, eDcp, gDcp, sSetA, setA, bLen, bAbs, bMax, bMin, bSum, bAll, bAny, bOrd, bRepr, bIsi, tInt, tTup, tLst, nInt, nStr, nBool, nTup, nLst, oAdd, oSub, oMul, oMod, oDiv, oPow, cEq, cNe, cLt, cLe, cGt, cGe, cIn, cNi, cIs, cIn', Option.some_or, Option.or_none, Option.none_or])
local macro_rules | `(tactic| walk_at "evh") => `(tactic| simp only [*, fnDef, fnOf, denSL, denS, den, denL, denB, denI, sSeq, sAsg, sRet, sRetN, sEx, sIf, sFor, sPar, sSet, sPass, sBrk, sCnt, bndS, bnd, Wn.ret, stuck, opt, eVar, eCst, eOp, eCall, eChain, bTru, bNot, bAnd, bOr, eOr, eAnd, eNot, eIf, lNil, lCons, eTup, eLst, eCell, eMt, eMl, eSl, oNo, oAt, eNeg, eLc, lcRun, fnDo, startE, fin, Tg.put, TgL.puts, isS_ite, if_le_sz, lstX_lst, lstOf_lst, add_int, sub_int, eq_int, ne_int, le_int, lt_int, gt_int, ge_int, is_non, isnot_non, isNon, asTru, truD, iArg, wipeE,
  List.map_cons, List.map_nil, List.length_cons, List.length_nil, List.getElem?_cons_zero, List.getElem?_cons_succ, List.set_cons_zero, List.set_cons_succ, List.getD_cons_zero, List.getD_cons_succ, List.cons_append, List.nil_append, List.replicate_succ, List.replicate_zero, Nat.zero_add, Nat.sub_self, Nat.add_one_sub_one, Nat.reduceAdd, Nat.reduceSub, Nat.reduceLeDiff, Nat.reduceEqDiff, if_true, if_false, Bool.false_eq_true, Bool.not_true, Bool.not_false, decide_true, decide_false, g1, g2, List.zip_cons_cons, List.zip_nil_right, List.foldl_cons, List.foldl_nil,
  mIndex, mJoin, mAppend, mExtend, mGet, eMd, eDcp, gDcp, sSetA, setA, bLen, bAbs, bMax, bMin, bSum, bAll, bAny, bOrd, bRepr, bIsi, tInt, tTup, tLst, nInt, nStr, nBool, nTup, nLst, oAdd, oSub, oMul, oMod, oDiv, oPow, cEq, cNe, cLt, cLe, cGt, cGe, cIn, cNi, cIs, cIn', Option.some_or, Option.or_none, Option.none_or])
/-! ### one fallen cell in the text -/
def setAt (vs : List Nat) (a v : Nat) : List Nat := vs.take a ++ [v] ++ vs.drop (a + 1)
/-- the page with that cell as it was; none if the sums do not lead to one -/
def fallAt (vs : List Nat) (s t : Nat × Nat × Nat) : Option (Nat × Nat) :=
  if ((s.1 : Int) - t.1 < 1) ∨ ((s.2.1 : Int) - t.2.1) % ((s.1 : Int) - t.1) ≠ 0 then none
  else if ¬ (0 ≤ ((s.2.1 : Int) - t.2.1) / ((s.1 : Int) - t.1) - 1 ∧ ((s.2.1 : Int) - t.2.1) / ((s.1 : Int) - t.1) - 1 < 226) then none
  else if ((s.2.2 : Int) - t.2.2) ≠ ((s.2.1 : Int) - t.2.1) * (((s.2.1 : Int) - t.2.1) / ((s.1 : Int) - t.1) - 1 + 1) then none
  else if (15 : Int) < (vs.getD (((s.2.1 : Int) - t.2.1) / ((s.1 : Int) - t.1) - 1).toNat 0 : Nat) + ((s.1 : Int) - t.1) then none
  else some ((((s.2.1 : Int) - t.2.1) / ((s.1 : Int) - t.1) - 1).toNat, ((vs.getD (((s.2.1 : Int) - t.2.1) / ((s.1 : Int) - t.1) - 1).toNat 0 : Nat) + ((s.1 : Int) - t.1)).toNat)
def fallenText (vs : List Nat) : Option (List Nat × Nat) := match toldS vs with
  | none => none
  | some t => match fallAt vs (sums3 0 (vs.take 226) (0, 0, 0)) t with
    | none => none
    | some p => (signsIn (setAt vs p.1 p.2)).map fun l => (l, p.1)
theorem sums3_le : ∀ (vs : List Nat) (k a b c n : Nat), k + vs.length ≤ n → (sums3 k vs (a, b, c)).1 ≤ a + 15 * vs.length ∧ (sums3 k vs (a, b, c)).2.1 ≤ b + 15 * vs.length * n ∧ (sums3 k vs (a, b, c)).2.2 ≤ c + 15 * vs.length * n * n
  | [], k, a, b, c, n, _ => by simp [sums3]
  | v :: vs, k, a, b, c, n, h => by
    rw [List.length_cons] at h
    have ih := sums3_le vs (k + 1) (a + (15 - v)) (b + (15 - v) * (k + 1)) (c + (15 - v) * (k + 1) * (k + 1)) n (by omega)
    have h1 : (15 - v) * (k + 1) ≤ 15 * n := Nat.mul_le_mul (by omega) (by omega)
    have h2 : (15 - v) * (k + 1) * (k + 1) ≤ 15 * n * n := Nat.mul_le_mul h1 (by omega)
    have e1 : 15 * (vs.length + 1) * n = 15 * vs.length * n + 15 * n := by rw [Nat.mul_add, Nat.add_mul, Nat.mul_one]
    have e2 : 15 * (vs.length + 1) * n * n = 15 * vs.length * n * n + 15 * n * n := by rw [e1, Nat.add_mul]
    show (sums3 (k + 1) vs _).1 ≤ _ ∧ (sums3 (k + 1) vs _).2.1 ≤ _ ∧ (sums3 (k + 1) vs _).2.2 ≤ _
    rw [List.length_cons, e2, e1]
    omega
theorem sums3_small (vs : List Nat) : (sums3 0 (vs.take 226) (0, 0, 0)).1 < 1000000000 ∧ (sums3 0 (vs.take 226) (0, 0, 0)).2.1 < 1000000000 ∧ (sums3 0 (vs.take 226) (0, 0, 0)).2.2 < 1000000000 := by
  have h := sums3_le (vs.take 226) 0 0 0 0 226 (by rw [List.length_take]; omega)
  have hl : (vs.take 226).length ≤ 226 := by rw [List.length_take]; omega
  have h1 : 15 * (vs.take 226).length * 226 ≤ 15 * 226 * 226 := Nat.mul_le_mul (Nat.mul_le_mul (Nat.le_refl _) hl) (Nat.le_refl _)
  have h2 : 15 * (vs.take 226).length * 226 * 226 ≤ 15 * 226 * 226 * 226 := Nat.mul_le_mul h1 (Nat.le_refl _)
  omega
theorem toldOne_lt {vs : List Nat} (hc : Cells vs) {a w n : Nat} (h : toldOne vs a w = some n) : n < 16 ^ (1 + w) := by
  unfold toldOne at h
  split at h
  · cases h
    have ht : Cells ((vs.drop a).take w) := fun v h => hc v (List.mem_of_mem_drop (List.mem_of_mem_take h))
    have := hexval_lt _ 0 1 ht (by decide)
    refine Nat.lt_of_lt_of_le this (Nat.pow_le_pow_right (by decide) ?_)
    rw [List.length_take]; omega
  · cases h
theorem toldS_small {vs : List Nat} (hc : Cells vs) {t : Nat × Nat × Nat} (h : toldS vs = some t) : t.1 < 16 ^ 8 ∧ t.2.1 < 16 ^ 8 ∧ t.2.2 < 16 ^ 8 := by
  unfold toldS at h
  split at h
  · rename_i a b c h1 h2 h3
    cases h
    have g1 := toldOne_lt hc h1
    have g2 := toldOne_lt hc h2
    have g3 := toldOne_lt hc h3
    refine ⟨?_, ?_, g3⟩
    · exact Nat.lt_of_lt_of_le g1 (by decide)
    · exact Nat.lt_of_lt_of_le g2 (by decide)
  · cases h
def optP : Option (List Nat × Nat) → D
  | some p => .tup [.str (st p.1), .int (p.2 : Nat)]
  | none => .non
theorem cs_ix {M : Mem} {vs : List Nat} {a v : Nat} (hl : vs.length ≤ 1000) (h : vs[a]? = some v) : gIx M (.str (cs vs)) (.int (a : Nat)) = some (.str (st [hexc v])) := by
  unfold cs
  exact gIx_st (by rw [List.length_map]; unfold sizeLine; omega) (by rw [List.getElem?_map, h]; rfl)
theorem sums3_mono : ∀ (vs : List Nat) (k a b c : Nat), a ≤ (sums3 k vs (a, b, c)).1 ∧ b ≤ (sums3 k vs (a, b, c)).2.1 ∧ c ≤ (sums3 k vs (a, b, c)).2.2
  | [], k, a, b, c => ⟨Nat.le_refl _, Nat.le_refl _, Nat.le_refl _⟩
  | v :: vs, k, a, b, c => by
    have h := sums3_mono vs (k + 1) (a + (15 - v)) (b + (15 - v) * (k + 1)) (c + (15 - v) * (k + 1) * (k + 1))
    show a ≤ (sums3 (k + 1) vs _).1 ∧ _
    exact ⟨Nat.le_trans (Nat.le_add_right _ _) h.1, Nat.le_trans (Nat.le_add_right _ _) h.2.1, Nat.le_trans (Nat.le_add_right _ _) h.2.2⟩
theorem ev_fallen_in_text {vs : List Nat} {M : Mem} (hc : Cells vs) (hl : vs.length ≤ 1000) (h226 : 226 ≤ vs.length) : F_fallen_in_text [.str (cs vs)] M = .ok (optP (fallenText vs)) M := by
  have e1 : ∀ M, F_told_sums [.str (cs vs)] M = .ok (optT (toldS vs)) M := fun M => ev_told_sums hc hl
  have e2 : ∀ M, F_sums_of [.str (cs vs)] M = .ok (tup3 (sums3 0 (vs.take 226) (0, 0, 0))) M := fun M => ev_sums_of hc hl
  cases ht : toldS vs with
  | none =>
    rw [ht] at e1
    have e3 : fallenText vs = none := by unfold fallenText; rw [ht]
    have e4 : optT none = .non := rfl
    rw [e3]
    clear hc hl h226 ht e3
    unfold F_fallen_in_text B_fallen_in_text
    walk_at "evh"
    rfl
  | some t =>
    rw [ht] at e1
    generalize hs : sums3 0 (vs.take 226) (0, 0, 0) = s at e2
    obtain ⟨s1, s2, s3⟩ := s
    obtain ⟨t1, t2, t3⟩ := t
    have e4 : optT (some (t1, t2, t3)) = .tup [.int (t1 : Nat), .int (t2 : Nat), .int (t3 : Nat)] := rfl
    have e5 : tup3 (s1, s2, s3) = .tup [.int (s1 : Nat), .int (s2 : Nat), .int (s3 : Nat)] := rfl
    have e6 : ∀ M, fZip2 [.tup [.int (s1 : Nat), .int (s2 : Nat), .int (s3 : Nat)], .tup [.int (t1 : Nat), .int (t2 : Nat), .int (t3 : Nat)]] M = .ok [.tup [.int (s1 : Nat), .int (t1 : Nat)], .tup [.int (s2 : Nat), .int (t2 : Nat)], .tup [.int (s3 : Nat), .int (t3 : Nat)]] M := fun _ => rfl
    have e7 : ∀ (δ : Wn.Env) M, δ.length = 9 → lcGo (.tp (.cons (.nm 7) (.cons (.nm 8) .nil))) bYes (den [F_told_sums, F_sums_of, F_cell_number, F_signs_in] X1_fallen_in_text) δ [.tup [.int (s1 : Nat), .int (t1 : Nat)], .tup [.int (s2 : Nat), .int (t2 : Nat)], .tup [.int (s3 : Nat), .int (t3 : Nat)]] M = .ok [.int ((s1 : Nat) - (t1 : Nat)), .int ((s2 : Nat) - (t2 : Nat)), .int ((s3 : Nat) - (t3 : Nat))] M := fun δ M hd => by
      match δ, hd with
      | [_, _, _, _, _, _, _, _, _], _ => rfl
    have hsm := sums3_small vs
    rw [hs] at hsm
    have htm := toldS_small hc ht
    have e8 : fallenText vs = match fallAt vs (s1, s2, s3) (t1, t2, t3) with
      | none => none
      | some p => (signsIn (setAt vs p.1 p.2)).map fun l => (l, p.1) := by
      unfold fallenText
      rw [ht, hs]
    rw [e8]
    simp only at hsm htm
    generalize hm : ((s1 : Nat) : Int) - ((t1 : Nat) : Int) = more at e7
    generalize hp : ((s2 : Nat) : Int) - ((t2 : Nat) : Int) = placed at e7
    generalize hq : ((s3 : Nat) : Int) - ((t3 : Nat) : Int) = squared at e7
    have b1 : more.natAbs < 16000000000 := by omega
    have b2 : placed.natAbs < 16000000000 := by omega
    unfold fallAt
    simp only [hm, hp, hq]
    have e7' : ∀ (b : D) M, lcGo (.tp (.cons (.nm 7) (.cons (.nm 8) .nil))) bYes (den [F_told_sums, F_sums_of, F_cell_number, F_signs_in] X1_fallen_in_text) [some (.str (cs vs)), some b, none, none, none, none, none, none, none] [.tup [.int (s1 : Nat), .int (t1 : Nat)], .tup [.int (s2 : Nat), .int (t2 : Nat)], .tup [.int (s3 : Nat), .int (t3 : Nat)]] M = .ok [.int more, .int placed, .int squared] M := fun b M => e7 _ M rfl
    have e9 : optP none = .non := rfl
    by_cases c1 : more < 1
    · rw [if_pos (.inl c1)]
      have c1' : (more < 1) = True := by simp [c1]
      clear hc hl h226 ht hs hsm htm e8 b1 b2 hm hp hq e7 c1
      unfold F_fallen_in_text B_fallen_in_text
      walk_at "evh"
    have c1' : (more < 1) = False := by simp; omega
    have d1 : ∀ M, gMod M (.int placed) (.int more) = some (.int (placed % more)) := fun M => mod_ok (by omega)
    have d2 : ∀ M, gDiv M (.int placed) (.int more) = some (.int (placed / more)) := fun M => div_ok (by omega) (by
      have := log2_le (a := more.natAbs) (n := 40) (by omega)
      omega)
    by_cases c2 : placed % more = 0
    rotate_left
    · rw [if_pos (.inr c2)]
      have c2' : (placed % more = 0) = False := by simp [c2]
      clear hc hl h226 ht hs hsm htm e8 b1 b2 hm hp hq e7 c1 c2 d2
      unfold F_fallen_in_text B_fallen_in_text
      walk_at "evh"
    rw [if_neg (by rintro (z | z); exact c1 z; exact z c2)]
    have c2' : (placed % more = 0) = True := by simp [c2]
    generalize ha : placed / more - 1 = a
    by_cases c3 : 0 ≤ a ∧ a < 226
    rotate_left
    · rw [if_pos c3]
      by_cases c4 : 0 ≤ a
      · have c3' : (0 ≤ a) = True := by simp [c4]
        have c4' : (a < 226) = False := by simp; omega
        clear hc hl h226 ht hs hsm htm e8 b1 b2 hm hp hq e7 c1 c2 c3 c4
        unfold F_fallen_in_text B_fallen_in_text
        walk_at "evh"
      · have c3' : (0 ≤ a) = False := by simp; omega
        clear hc hl h226 ht hs hsm htm e8 b1 b2 hm hp hq e7 c1 c2 c3 c4
        unfold F_fallen_in_text B_fallen_in_text
        walk_at "evh"
    rw [if_neg (by simpa using c3)]
    have c3' : (0 ≤ a) = True := by simp [c3.1]
    have c4' : (a < 226) = True := by simp [c3.2]
    have d3 : ∀ M, gMul M (.int placed) (.int (a + 1)) = some (.int (placed * (a + 1))) := fun M => mul_ok (by
      have := log2_le (a := placed.natAbs) (n := 40) (by omega)
      have := log2_le (a := (a + 1).natAbs) (n := 40) (by omega)
      omega)
    by_cases c5 : squared = placed * (a + 1)
    rotate_left
    · rw [if_pos c5]
      have c5' : (squared = placed * (a + 1)) = False := by simp [c5]
      clear hc hl h226 ht hs hsm htm e8 b1 b2 hm hp hq e7 c1 c2 c3 c5
      unfold F_fallen_in_text B_fallen_in_text
      walk_at "evh"
    rw [if_neg (by simpa using c5)]
    have c5' : (squared = placed * (a + 1)) = True := by simp [c5]
    obtain ⟨n, rfl⟩ : ∃ n : Nat, a = (n : Nat) := ⟨a.toNat, by omega⟩
    rw [Int.toNat_natCast]
    have hn : n < 226 := by omega
    have hv : vs[n]? = some (vs.getD n 0) := by
      rw [List.getElem?_eq_getElem (by omega)]
      simp [List.getD, List.getElem?_eq_getElem (show n < vs.length by omega)]
    generalize hvv : vs.getD n 0 = v at hv
    have hv16 : v < 16 := hc v (List.mem_of_getElem? hv)
    have d4 : ∀ M, gIx M (.str (cs vs)) (.int (n : Nat)) = some (.str (st [hexc v])) := fun M => cs_ix hl hv
    have d5 : ∀ M, F_cell_number [.str (st [hexc v])] M = .ok (.int (v : Nat)) M := fun M => ev_cell_number hv16
    by_cases c6 : (15 : Int) < (v : Nat) + more
    · rw [if_pos c6]
      have c6' : ((15 : Int) < (v : Nat) + more) = True := by simp [c6]
      clear hc hl h226 ht hs hsm htm e8 b1 b2 hm hp hq e7 c1 c2 c3 c5 c6 hv hvv hv16
      unfold F_fallen_in_text B_fallen_in_text
      walk_at "evh"
    rw [if_neg c6]
    have c6' : ((15 : Int) < (v : Nat) + more) = False := by simp; omega
    obtain ⟨u, hu⟩ : ∃ u : Nat, ((v : Nat) : Int) + more = (u : Nat) := ⟨(((v : Nat) : Int) + more).toNat, by omega⟩
    have hu16 : u < 16 := by omega
    have d6 : ∀ M, gIx M (.str CS) (.int (u : Nat)) = some (.str (cs [u])) := fun M => cs_at hu16
    unfold CS at d6
    have d7 : ∀ M, gSl M (.str (cs vs)) none (some (n : Nat)) = some (.str (cs (vs.take n))) := fun M => by rw [gSl_cs (by unfold sizeLine; omega), cutD_hi]
    have hn1 : ((n : Nat) : Int) + 1 = ((n + 1 : Nat) : Int) := by omega
    have d8 : ∀ M, gSl M (.str (cs vs)) (some ((n + 1 : Nat) : Int)) none = some (.str (cs (vs.drop (n + 1)))) := fun M => by rw [gSl_cs (by unfold sizeLine; omega), cutD_lo]
    have d9 : ∀ M, gAdd M (.str (cs (vs.take n))) (.str (cs [u])) = some (.str (cs (vs.take n ++ [u]))) := fun M => gAdd_cs (by rw [List.length_take, List.length_singleton]; unfold sizeLine; omega)
    have d10 : ∀ M, gAdd M (.str (cs (vs.take n ++ [u]))) (.str (cs (vs.drop (n + 1)))) = some (.str (cs (setAt vs n u))) := fun M => gAdd_cs (by rw [List.length_append, List.length_take, List.length_singleton, List.length_drop]; unfold sizeLine; omega)
    have d11 : ∀ M, F_signs_in [.str (cs (setAt vs n u))] M = .ok (optS (signsIn (setAt vs n u))) M := fun M => ev_signs_in (by
      intro w hw
      unfold setAt at hw
      simp only [List.mem_append, List.mem_singleton] at hw
      rcases hw with (hw | hw) | hw
      · exact hc w (List.mem_of_mem_take hw)
      · omega
      · exact hc w (List.mem_of_mem_drop hw)) (by unfold setAt; simp; omega)
    rw [hu, Int.toNat_natCast]
    simp only [hu] at c6'
    simp only [hn1] at d3 c5'
    cases hsg : signsIn (setAt vs n u) with
    | none =>
      rw [hsg] at d11
      have f1 : optS none = .non := rfl
      simp only [hsg, Option.map_none]
      clear hc hl h226 ht hs hsm htm e8 b1 b2 hm hp hq e7 c1 c2 c3 c5 c6 hv hvv hv16 hu16 hsg hn
      unfold F_fallen_in_text B_fallen_in_text
      walk_at "evh"
    | some l =>
      rw [hsg] at d11
      have f1 : optS (some l) = .str (st l) := rfl
      have f2 : optP (some (l, n)) = .tup [.str (st l), .int (n : Nat)] := rfl
      simp only [hsg, Option.map_some, f2]
      clear hc hl h226 ht hs hsm htm e8 b1 b2 hm hp hq e7 c1 c2 c3 c5 c6 hv hvv hv16 hu16 hsg hn f2
      unfold F_fallen_in_text B_fallen_in_text
      walk_at "evh"
end Lw
end

section
set_option Elab.async false
set_option linter.all false
set_option maxRecDepth 100000
set_option maxHeartbeats 4000000
namespace Lw
open PySem Wn
local macro_rules | `(tactic| walk_at "ev") => `(tactic| simp only [fnDef, fnOf, denSL, denS, den, denL, denB, denI, sSeq, sAsg, sRet, sRetN, sEx, sIf, sFor, sPar, sSet, sPass, sBrk, sCnt, bndS, bnd, Wn.ret, stuck, opt, eVar, eCst, eOp, eCall, eChain, bTru, bNot, bAnd, bOr, eOr, eAnd, eNot, eIf, lNil, lCons, eTup, eLst, eCell, eMt, eMl, eSl, oNo, oAt, eNeg, eLc, lcRun, fnDo, startE, fin, Tg.put, TgL.puts, isS_ite, if_le_sz, lstX_lst, lstOf_lst, add_int, sub_int, eq_int, ne_int, le_int, lt_int, gt_int, ge_int, is_non, isnot_non, isNon, asTru, truD, iArg, wipeE,
  List.map_cons, List.map_nil, List.length_cons, List.length_nil, List.getElem?_cons_zero, List.getElem?_cons_succ, List.set_cons_zero, List.set_cons_succ, List.getD_cons_zero, List.getD_cons_succ, List.cons_append, List.nil_append, List.replicate_succ, List.replicate_zero, Nat.zero_add, Nat.sub_self, Nat.add_one_sub_one, Nat.reduceAdd, Nat.reduceSub, Nat.reduceLeDiff, Nat.reduceEqDiff, if_true, if_false, Bool.false_eq_true, Bool.not_true, Bool.not_false, decide_true, decide_false, g1, g2, List.zip_cons_cons, List.zip_nil_right, List.foldl_cons, List.foldl_nil,
  mIndex, mJoin, mAppend, mExtend, mGet, eMd, eDcp, gDcp, sSetA, setA, bLen, bAbs, bMax, bMin, bSum, bAll, bAny, bOrd, bRepr, bIsi, tInt, tTup, tLst, nInt, nStr, nBool, nTup, nLst, oAdd, oSub, oMul, oMod, oDiv, oPow, cEq, cNe, cLt, cLe, cGt, cGe, cIn, cNi, cIs, cIn', Option.some_or, Option.or_none, Option.none_or])
local macro_rules | `(tactic| walk_at "evh") => `(tactic| simp only [*, fnDef, fnOf, denSL, denS, den, denL, denB, denI, sSeq, sAsg, sRet, sRetN, sEx, sIf, sFor, sPar, sSet, sPass, sBrk, sCnt, bndS, bnd, Wn.ret, stuck, opt, eVar, eCst, eOp, eCall, eChain, bTru, bNot, bAnd, bOr, eOr, eAnd, eNot, eIf, lNil, lCons, eTup, eLst, eCell, eMt, eMl, eSl, oNo, oAt, eNeg, eLc, lcRun, fnDo, startE, fin, Tg.put, TgL.puts, isS_ite, if_le_sz, lstX_lst, lstOf_lst, add_int, sub_int, eq_int, ne_int, le_int, lt_int, gt_int, ge_int, is_non, isnot_non, isNon, asTru, truD, iArg, wipeE,
  List.map_cons, List.map_nil, List.length_cons, List.length_nil, List.getElem?_cons_zero, List.getElem?_cons_succ, List.set_cons_zero, List.set_cons_succ, List.getD_cons_zero, List.getD_cons_succ, List.cons_append, List.nil_append, List.replicate_succ, List.replicate_zero, Nat.zero_add, Nat.sub_self, Nat.add_one_sub_one, Nat.reduceAdd, Nat.reduceSub, Nat.reduceLeDiff, Nat.reduceEqDiff, if_true, if_false, Bool.false_eq_true, Bool.not_true, Bool.not_false, decide_true, decide_false, g1, g2, List.zip_cons_cons, List.zip_nil_right, List.foldl_cons, List.foldl_nil,
  mIndex, mJoin, mAppend, mExtend, mGet, eMd, eDcp, gDcp, sSetA, setA, bLen, bAbs, bMax, bMin, bSum, bAll, bAny, bOrd, bRepr, bIsi, tInt, tTup, tLst, nInt, nStr, nBool, nTup, nLst, oAdd, oSub, oMul, oMod, oDiv, oPow, cEq, cNe, cLt, cLe, cGt, cGe, cIn, cNi, cIs, cIn', Option.some_or, Option.or_none, Option.none_or])
/-! ### one fallen cell in the sums, and what a page is told as -/
theorem lc_filter {i : Nat} {c : Fb} {e : Fe} {δ : Wn.Env} {M : Mem} {p : D → Bool} : ∀ {ds : List D}, (∀ d ∈ ds, c (δ.set i (some d)) M = .ok (p d) M) → (∀ d ∈ ds, e (δ.set i (some d)) M = .ok d M) → lcGo (.nm i) c e δ ds M = .ok (ds.filter p) M
  | [], _, _ => rfl
  | d :: ds, h, g => by
    have h1 := h d (List.mem_cons_self ..)
    have g1 := g d (List.mem_cons_self ..)
    have h2 := lc_filter (fun x hx => h x (List.mem_cons_of_mem _ hx)) (fun x hx => g x (List.mem_cons_of_mem _ hx))
    rw [lcGo_cons]
    simp only [Tg.put, h1]
    cases hp : p d
    · simp only [h2, List.filter_cons, hp, Bool.false_eq_true, if_false]
    · simp only [g1, h2, List.filter_cons, hp, if_true]
def tails : List Nat := (List.range 30).map (226 + ·)
def unl (vs ps : List Nat) : List Nat := tails.filter fun a => !decide (vs.getD a 0 = ps.getD a 0)
def fallenSums (vs : List Nat) : Option (List Nat × Nat) := match signsIn vs with
  | none => none
  | some l => match unl vs (sealedC l) with
    | [a] => if (sealedC l).getD a 0 < vs.getD a 0 then none else some (l, a)
    | _ => none
theorem tails_rng {M : Mem} : fRng2 [.int 226, .int 256] M = .ok (tails.map fun a => D.int ((a : Nat) : Int)) M := rfl
theorem filter_map {α β : Type} (f : α → β) (p : β → Bool) (q : α → Bool) : ∀ l : List α, (∀ a ∈ l, p (f a) = q a) → (l.map f).filter p = (l.filter q).map f
  | [], _ => rfl
  | a :: l, h => by
    have h1 := h a (List.mem_cons_self ..)
    have ih := filter_map f p q l fun b hb => h b (List.mem_cons_of_mem _ hb)
    rw [List.map_cons, List.filter_cons, List.filter_cons, ih, h1]
    cases q a <;> simp
theorem getD_get {vs : List Nat} {a : Nat} (h : a < vs.length) : vs[a]? = some (vs.getD a 0) := by
  rw [List.getElem?_eq_getElem h]
  simp [List.getD, List.getElem?_eq_getElem h]
theorem getD_cell {vs : List Nat} (hc : Cells vs) (a : Nat) : vs.getD a 0 < 16 := by
  by_cases h : a < vs.length
  · exact hc _ (List.mem_of_getElem? (getD_get h))
  · simp [List.getD, List.getElem?_eq_none (Nat.le_of_not_lt h)]
theorem cell1 {v : Nat} : st [hexc v] = cs [v] := rfl
theorem ev_unl {vs ps : List Nat} {M : Mem} {x y : Option D} (hc : Cells vs) (hp : Cells ps) (hl : vs.length = 256) (hq : ps.length = 256) : lcGo (.nm 4) (denB [F_signs_in, F_sealed_page, F_cell_number] (.tru (.cmp cNe (.ix (.var 0) (.var 4)) (.ix (.var 2) (.var 4))))) (den [F_signs_in, F_sealed_page, F_cell_number] X1_fallen_in_sums) [some (.str (cs vs)), x, some (.str (cs ps)), y, none] (tails.map fun a => D.int ((a : Nat) : Int)) M = .ok ((unl vs ps).map fun a => D.int ((a : Nat) : Int)) M := by
  have key : ∀ a ∈ tails, a < 256 := by decide
  have e := lc_filter (i := 4) (M := M) (c := denB [F_signs_in, F_sealed_page, F_cell_number] (.tru (.cmp cNe (.ix (.var 0) (.var 4)) (.ix (.var 2) (.var 4))))) (e := den [F_signs_in, F_sealed_page, F_cell_number] X1_fallen_in_sums) (δ := [some (.str (cs vs)), x, some (.str (cs ps)), y, none])
    (p := fun d => match d with | .int i => !decide (vs.getD i.toNat 0 = ps.getD i.toNat 0) | _ => false) (ds := tails.map fun a => D.int ((a : Nat) : Int)) (fun d hd => by
      obtain ⟨a, ha, rfl⟩ := List.mem_map.mp hd
      have h1 := key a ha
      have i1 : ∀ M, gIx M (.str (cs vs)) (.int ((a : Nat) : Int)) = some (.str (cs [vs.getD a 0])) := fun M => by
        rw [← cell1]; exact cs_ix (by omega) (getD_get (by omega))
      have i2 : ∀ M, gIx M (.str (cs ps)) (.int ((a : Nat) : Int)) = some (.str (cs [ps.getD a 0])) := fun M => by
        rw [← cell1]; exact cs_ix (by omega) (getD_get (by omega))
      have i3 : ∀ M, gNe M (.str (cs [vs.getD a 0])) (.str (cs [ps.getD a 0])) = some (.bl (!decide (vs.getD a 0 = ps.getD a 0))) := fun M => by
        rw [gNe_cs (by intro v hv; rw [List.mem_singleton] at hv; subst hv; exact getD_cell hc a) (by intro v hv; rw [List.mem_singleton] at hv; subst hv; exact getD_cell hp a)]
        congr 3
        simp
      clear hd ha h1 key hc hp hl hq
      simp only [Int.toNat_natCast]
      walk_at "evh") (fun d hd => rfl)
  rw [e, filter_map (q := fun a => !decide (vs.getD a 0 = ps.getD a 0))]
  · rfl
  · intro a _
    simp only [Int.toNat_natCast]
theorem ev_fallen_in_sums {vs : List Nat} {M : Mem} (hc : Cells vs) (hl : vs.length = 256) : F_fallen_in_sums [.str (cs vs)] M = .ok (optP (fallenSums vs)) M := by
  have e1 : ∀ M, F_signs_in [.str (cs vs)] M = .ok (optS (signsIn vs)) M := fun M => ev_signs_in hc (by omega)
  cases hs : signsIn vs with
  | none =>
    rw [hs] at e1
    have e2 : fallenSums vs = none := by unfold fallenSums; rw [hs]
    have e3 : optS none = .non := rfl
    rw [e2]
    have e4 : optP none = .non := rfl
    clear hc hl hs e2
    unfold F_fallen_in_sums B_fallen_in_sums
    walk_at "evh"
  | some l =>
    rw [hs] at e1
    have hok : okText l = true := by
      unfold signsIn at hs
      split at hs
      · split at hs
        · rename_i h; cases hs; exact h.1
        · cases hs
      · cases hs
    have e3 : optS (some l) = .str (st l) := rfl
    have hpc := sealedC_cells l
    have hpl := sealedC_len hok
    have e4 : ∀ M, F_sealed_page [.str (st l)] M = .ok (.str (cs (sealedC l))) M := fun M => ev_sealed_page hok
    have e5 : ∀ M, fLen M (.str (cs vs)) = some (.int 256) := fun M => by rw [len_str (by rw [cs_len, hl]; decide), cs_len, hl]; rfl
    have e6 : ∀ M, fRng2 [.int 226, .int 256] M = .ok (tails.map fun a => D.int ((a : Nat) : Int)) M := fun M => tails_rng
    have e7 : ∀ (x y : Option D) M, lcGo (.nm 4) (bTru (eOp gNe (eOp (fun M a b => (gIx M a b).or (gIxD M a b)) (eVar 0) (eVar 4)) (eOp (fun M a b => (gIx M a b).or (gIxD M a b)) (eVar 2) (eVar 4)))) (den [F_signs_in, F_sealed_page, F_cell_number] X1_fallen_in_sums) [some (.str (cs vs)), x, some (.str (cs (sealedC l))), y, none] (tails.map fun a => D.int ((a : Nat) : Int)) M = .ok ((unl vs (sealedC l)).map fun a => D.int ((a : Nat) : Int)) M := fun x y M => ev_unl hc hpc hl hpl
    have hin : ∀ a ∈ unl vs (sealedC l), a < 256 := fun a ha => by
      have key : ∀ a ∈ tails, a < 256 := by decide
      exact key a (List.mem_filter.mp ha |>.1)
    have e8 : fallenSums vs = match unl vs (sealedC l) with
      | [a] => if (sealedC l).getD a 0 < vs.getD a 0 then none else some (l, a)
      | _ => none := by unfold fallenSums; rw [hs]
    rw [e8]
    have hz : (unl vs (sealedC l)).length ≤ 30 := by
      refine Nat.le_trans (List.length_filter_le _ _) ?_
      decide
    generalize unl vs (sealedC l) = u at *
    have q1 : (tails.map fun a => D.int ((a : Nat) : Int)).length ≤ 1000 := by decide
    have e10 : optP none = .non := rfl
    match u, hin with
    | [], _ =>
      have e9 : ∀ M, fLen M (.lst []) = some (.int 0) := fun M => rfl
      have n1 : ((0 : Int) = 1) = False := by simp
      clear hc hl hs hok hpc hpl hin e8 hz
      unfold F_fallen_in_sums B_fallen_in_sums
      walk_at "evh"
    | [a], hin =>
      have ha : a < 256 := hin a (List.mem_singleton.mpr rfl)
      have e9 : ∀ M, fLen M (.lst [.int (a : Nat)]) = some (.int 1) := fun M => rfl
      have n1 : ((1 : Int) = 1) = True := by simp
      have i1 : ∀ M, gIx M (.str (cs vs)) (.int ((a : Nat) : Int)) = some (.str (st [hexc (vs.getD a 0)])) := fun M => cs_ix (by omega) (getD_get (by omega))
      have i2 : ∀ M, gIx M (.str (cs (sealedC l))) (.int ((a : Nat) : Int)) = some (.str (st [hexc ((sealedC l).getD a 0)])) := fun M => cs_ix (by omega) (getD_get (by omega))
      have i3 : ∀ M, F_cell_number [.str (st [hexc (vs.getD a 0)])] M = .ok (.int (vs.getD a 0 : Nat)) M := fun M => ev_cell_number (getD_cell hc a)
      have i4 : ∀ M, F_cell_number [.str (st [hexc ((sealedC l).getD a 0)])] M = .ok (.int ((sealedC l).getD a 0 : Nat)) M := fun M => ev_cell_number (getD_cell hpc a)
      have i5 : ∀ M, gIx M (.lst [.int (a : Nat)]) (.int 0) = some (.int (a : Nat)) := fun M => rfl
      show _ = Res.ok (optP (if (sealedC l).getD a 0 < vs.getD a 0 then none else some (l, a))) M
      generalize vs.getD a 0 = v at *
      generalize (sealedC l).getD a 0 = w at *
      by_cases c : w < v
      · have c' : (((w : Nat) : Int) < (v : Nat)) = True := by simp [c]
        have c2 : (w < v) = True := by simp [c]
        clear hc hl hs hok hpc hpl hin e8 hz c
        unfold F_fallen_in_sums B_fallen_in_sums
        walk_at "evh"
      · have c' : (((w : Nat) : Int) < (v : Nat)) = False := by simp; omega
        have c2 : (w < v) = False := by simp; omega
        have f2 : optP (some (l, a)) = .tup [.str (st l), .int (a : Nat)] := rfl
        clear hc hl hs hok hpc hpl hin e8 hz c
        unfold F_fallen_in_sums B_fallen_in_sums
        walk_at "evh"
    | a :: b :: u, _ =>
      have e9 : ∀ M, fLen M (.lst (.int (a : Nat) :: .int (b : Nat) :: u.map fun a => D.int ((a : Nat) : Int))) = some (.int ((u.length + 2 : Nat) : Int)) := fun M => by
        show some (D.int (((_ : List D).length : Nat) : Int)) = _
        rw [List.length_cons, List.length_cons, List.length_map]
      have n1 : (((u.length + 2 : Nat) : Int) = 1) = False := by simp; omega
      clear hc hl hs hok hpc hpl hin e8 hz
      unfold F_fallen_in_sums B_fallen_in_sums
      walk_at "evh"
def wholeOf (vs : List Nat) : Option (List Nat) := match signsIn vs with
  | some l => if sealedC l = vs then some l else none
  | none => none
def mendOf (vs : List Nat) : Option (List Nat × Nat) := match fallenText vs with
  | some p => some p
  | none => fallenSums vs
def blank : List Nat := List.replicate 256 15
def openD (vs : List Nat) : D :=
  if vs = blank then .tup [.str "empty"]
  else match wholeOf vs with
    | some l => .tup [.str "whole", .str (st l)]
    | none => match mendOf vs with
      | some p => .tup [.str "mended", .str (st p.1), .int (p.2 : Nat)]
      | none => .tup [.str "torn"]
theorem blank_cells : Cells blank := fun v h => by rw [List.eq_of_mem_replicate h]; decide
theorem signsIn_ok {vs l : List Nat} (hs : signsIn vs = some l) : okText l = true := by
  unfold signsIn at hs
  split at hs
  · split at hs
    · rename_i h; cases hs; exact h.1
    · cases hs
  · cases hs
theorem ev_opened {vs : List Nat} {M : Mem} (hc : Cells vs) (hl : vs.length = 256) : F_opened [.str (cs vs)] M = .ok (openD vs) M := by
  have e1 : ∀ M, F_is_page [.str (cs vs)] M = .ok (.bl true) M := fun M => by rw [ev_is_page hc (by omega), hl]; rfl
  have e2 : ∀ M, fLen M (.str (cs vs)) = some (.int 256) := fun M => by rw [len_str (by rw [cs_len, hl]; decide), cs_len, hl]; rfl
  have e3 : ∀ M, gMul M (.str (Str.ofString "f")) (.int 256) = some (.str (cs blank)) := fun M => by
    have e0 : (.str (Str.ofString "f") : D) = .str (st [102]) := rfl
    have e1 : (.int 256 : D) = .int ((256 : Nat) : Int) := rfl
    rw [e0, e1, gMul_st (by omega)]
    congr 2
  have e4 : ∀ M, gEq M (.str (cs vs)) (.str (cs blank)) = some (.bl (decide (vs = blank))) := fun M => gEq_cs hc blank_cells
  by_cases hb : vs = blank
  · have hb' : (vs = blank) = True := by simp [hb]
    unfold openD
    clear hc hl hb
    unfold F_opened B_opened
    walk_at "evh"
    all_goals rfl
  have hb' : (vs = blank) = False := by simp [hb]
  have e5 : ∀ M, F_signs_in [.str (cs vs)] M = .ok (optS (signsIn vs)) M := fun M => ev_signs_in hc (by omega)
  have e6 : ∀ M, F_fallen_in_text [.str (cs vs)] M = .ok (optP (fallenText vs)) M := fun M => ev_fallen_in_text hc (by omega) (by omega)
  have e7 : ∀ M, F_fallen_in_sums [.str (cs vs)] M = .ok (optP (fallenSums vs)) M := fun M => ev_fallen_in_sums hc hl
  have r0 : openD vs = match wholeOf vs with
    | some l => .tup [.str "whole", .str (st l)]
    | none => match mendOf vs with
      | some p => .tup [.str "mended", .str (st p.1), .int (p.2 : Nat)]
      | none => .tup [.str "torn"] := by unfold openD; rw [if_neg hb]
  rw [r0]
  have f1 : optS none = .non := rfl
  have f2 : optP none = .non := rfl
  have f3 : ∀ l, optS (some l) = .str (st l) := fun _ => rfl
  have f4 : ∀ p, optP (some p) = .tup [.str (st p.1), .int (p.2 : Nat)] := fun _ => rfl
  -- what follows when it is not whole
  cases hs : signsIn vs with
  | none =>
    have hw : wholeOf vs = none := by unfold wholeOf; rw [hs]
    rw [hs] at e5
    unfold mendOf
    cases ht : fallenText vs with
    | some p =>
      rw [ht] at e6
      clear hc hl hb hs ht
      unfold F_opened B_opened
      walk_at "evh"
      all_goals rfl
    | none =>
      rw [ht] at e6
      cases hu : fallenSums vs with
      | some p =>
        rw [hu] at e7
        clear hc hl hb hs ht hu
        unfold F_opened B_opened
        walk_at "evh"
        all_goals rfl
      | none =>
        rw [hu] at e7
        clear hc hl hb hs ht hu
        unfold F_opened B_opened
        walk_at "evh"
        all_goals rfl
  | some l =>
    have hok := signsIn_ok hs
    rw [hs] at e5
    have e8 : ∀ M, F_sealed_page [.str (st l)] M = .ok (.str (cs (sealedC l))) M := fun M => ev_sealed_page hok
    have e9 : ∀ M, gEq M (.str (cs (sealedC l))) (.str (cs vs)) = some (.bl (decide (sealedC l = vs))) := fun M => gEq_cs (sealedC_cells l) hc
    by_cases hq : sealedC l = vs
    · have hw : wholeOf vs = some l := by unfold wholeOf; rw [hs]; exact if_pos hq
      have hq' : (sealedC l = vs) = True := by simp [hq]
      clear hc hl hb hs hok hq
      unfold F_opened B_opened
      walk_at "evh"
      all_goals rfl
    · have hw : wholeOf vs = none := by unfold wholeOf; rw [hs]; exact if_neg hq
      have hq' : (sealedC l = vs) = False := by simp [hq]
      unfold mendOf
      cases ht : fallenText vs with
      | some p =>
        rw [ht] at e6
        clear hc hl hb hs ht hok hq
        unfold F_opened B_opened
        walk_at "evh"
        all_goals rfl
      | none =>
        rw [ht] at e6
        cases hu : fallenSums vs with
        | some p =>
          rw [hu] at e7
          clear hc hl hb hs ht hu hok hq
          unfold F_opened B_opened
          walk_at "evh"
          all_goals rfl
        | none =>
          rw [hu] at e7
          clear hc hl hb hs ht hu hok hq
          unfold F_opened B_opened
          walk_at "evh"
          all_goals rfl
end Lw
end

section
set_option Elab.async false
set_option linter.all false
set_option maxRecDepth 100000
set_option maxHeartbeats 4000000
namespace Lw
open PySem Wn
local macro_rules | `(tactic| walk_at "ev") => `(tactic| simp only [fnDef, fnOf, denSL, denS, den, denL, denB, denI, sSeq, sAsg, sRet, sRetN, sEx, sIf, sFor, sPar, sSet, sPass, sBrk, sCnt, bndS, bnd, Wn.ret, stuck, opt, eVar, eCst, eOp, eCall, eChain, bTru, bNot, bAnd, bOr, eOr, eAnd, eNot, eIf, lNil, lCons, eTup, eLst, eCell, eMt, eMl, eSl, oNo, oAt, eNeg, eLc, lcRun, fnDo, startE, fin, Tg.put, TgL.puts, isS_ite, if_le_sz, lstX_lst, lstOf_lst, add_int, sub_int, eq_int, ne_int, le_int, lt_int, gt_int, ge_int, is_non, isnot_non, isNon, asTru, truD, iArg, wipeE,
  List.map_cons, List.map_nil, List.length_cons, List.length_nil, List.getElem?_cons_zero, List.getElem?_cons_succ, List.set_cons_zero, List.set_cons_succ, List.getD_cons_zero, List.getD_cons_succ, List.cons_append, List.nil_append, List.replicate_succ, List.replicate_zero, Nat.zero_add, Nat.sub_self, Nat.add_one_sub_one, Nat.reduceAdd, Nat.reduceSub, Nat.reduceLeDiff, Nat.reduceEqDiff, if_true, if_false, Bool.false_eq_true, Bool.not_true, Bool.not_false, decide_true, decide_false, g1, g2, List.zip_cons_cons, List.zip_nil_right, List.foldl_cons, List.foldl_nil,
  mIndex, mJoin, mAppend, mExtend, mGet, eMd, eDcp, gDcp, sSetA, setA, bLen, bAbs, bMax, bMin, bSum, bAll, bAny, bOrd, bRepr, bIsi, tInt, tTup, tLst, nInt, nStr, nBool, nTup, nLst, oAdd, oSub, oMul, oMod, oDiv, oPow, cEq, cNe, cLt, cLe, cGt, cGe, cIn, cNi, cIs, cIn', Option.some_or, Option.or_none, Option.none_or])
local macro_rules | `(tactic| walk_at "evh") => `(tactic| simp only [*, fnDef, fnOf, denSL, denS, den, denL, denB, denI, sSeq, sAsg, sRet, sRetN, sEx, sIf, sFor, sPar, sSet, sPass, sBrk, sCnt, bndS, bnd, Wn.ret, stuck, opt, eVar, eCst, eOp, eCall, eChain, bTru, bNot, bAnd, bOr, eOr, eAnd, eNot, eIf, lNil, lCons, eTup, eLst, eCell, eMt, eMl, eSl, oNo, oAt, eNeg, eLc, lcRun, fnDo, startE, fin, Tg.put, TgL.puts, isS_ite, if_le_sz, lstX_lst, lstOf_lst, add_int, sub_int, eq_int, ne_int, le_int, lt_int, gt_int, ge_int, is_non, isnot_non, isNon, asTru, truD, iArg, wipeE,
  List.map_cons, List.map_nil, List.length_cons, List.length_nil, List.getElem?_cons_zero, List.getElem?_cons_succ, List.set_cons_zero, List.set_cons_succ, List.getD_cons_zero, List.getD_cons_succ, List.cons_append, List.nil_append, List.replicate_succ, List.replicate_zero, Nat.zero_add, Nat.sub_self, Nat.add_one_sub_one, Nat.reduceAdd, Nat.reduceSub, Nat.reduceLeDiff, Nat.reduceEqDiff, if_true, if_false, Bool.false_eq_true, Bool.not_true, Bool.not_false, decide_true, decide_false, g1, g2, List.zip_cons_cons, List.zip_nil_right, List.foldl_cons, List.foldl_nil,
  mIndex, mJoin, mAppend, mExtend, mGet, eMd, eDcp, gDcp, sSetA, setA, bLen, bAbs, bMax, bMin, bSum, bAll, bAny, bOrd, bRepr, bIsi, tInt, tTup, tLst, nInt, nStr, nBool, nTup, nLst, oAdd, oSub, oMul, oMod, oDiv, oPow, cEq, cNe, cLt, cLe, cGt, cGe, cIn, cNi, cIs, cIn', Option.some_or, Option.or_none, Option.none_or])
/-! ### the law's own code -/
theorem own_worth : F_law_code_worth = F_cell_number := rfl
theorem own_figures : F_law_code_figures = F_cells_of_number := rfl
theorem own_turned : F_law_code_turned = F_contrary := rfl
theorem ev_law_code_worth {v : Nat} {M : Mem} (h : v < 16) : F_law_code_worth [.str (st [hexc v])] M = .ok (.int (v : Nat)) M := by
  rw [own_worth, ev_cell_number h]
def lst3 (t : Nat × Nat × Nat) : D := .lst [.int (t.1 : Nat), .int (t.2.1 : Nat), .int (t.2.2 : Nat)]
theorem lst3_0 {M : Mem} {a b c : Nat} : gIx M (lst3 (a, b, c)) (.int 0) = some (.int (a : Nat)) := rfl
theorem lst3_1 {M : Mem} {a b c : Nat} : gIx M (lst3 (a, b, c)) (.int 1) = some (.int (b : Nat)) := rfl
theorem lst3_2 {M : Mem} {a b c : Nat} : gIx M (lst3 (a, b, c)) (.int 2) = some (.int (c : Nat)) := rfl
theorem lst3_mk {a b c : Nat} : D.lst [.int (a : Nat), .int (b : Nat), .int (c : Nat)] = lst3 (a, b, c) := rfl
theorem own_sums_loop {M : Mem} {s : D} : ∀ (vs : List Nat) (k a b c : Nat) (x y z : Option D), Cells vs → k + vs.length ≤ 100000 → ∃ x' y' z', forGo (.tp (.cons (.nm 2) (.cons (.nm 3) .nil))) (denSL [F_law_code_worth] L1_law_code_sums) (enumD k (vs.map fun v => D.str (st [hexc v]))) [some s, some (lst3 (a, b, c)), x, y, z] M
    = .nx [some s, some (lst3 (sums3 k vs (a, b, c))), x', y', z'] M
  | [], k, a, b, c, x, y, z, _, _ => ⟨x, y, z, rfl⟩
  | v :: vs, k, a, b, c, x, y, z, hc, hl => by
    have hv : v < 16 := hc v (List.mem_cons_self ..)
    rw [List.length_cons] at hl
    obtain ⟨x', y', z', ih⟩ := own_sums_loop (M := M) (s := s) vs (k + 1) (a + (15 - v)) (b + (15 - v) * (k + 1)) (c + (15 - v) * (k + 1) * (k + 1)) (some (.int (k : Nat))) (some (.str (st [hexc v]))) (some (.int ((15 - v : Nat) : Int))) (fun u hu => hc u (List.mem_cons_of_mem _ hu)) (by omega)
    refine ⟨x', y', z', ?_⟩
    rw [List.map_cons]
    show forGo _ _ (D.tup [.int (k : Nat), D.str (st [hexc v])] :: enumD (k + 1) _) _ M = _
    rw [for_nx (δ1 := [some s, some (lst3 (a, b, c)), some (.int (k : Nat)), some (.str (st [hexc v])), z])
      (δ2 := [some s, some (lst3 (a + (15 - v), b + (15 - v) * (k + 1), c + (15 - v) * (k + 1) * (k + 1))), some (.int (k : Nat)), some (.str (st [hexc v])), some (.int ((15 - v : Nat) : Int))]) (M2 := M) rfl ?_]
    · exact ih
    · have e1 : ((15 : Int) - ((v : Nat) : Int)) = ((15 - v : Nat) : Int) := by omega
      have e2 : (((k : Nat) : Int) + 1) = ((k + 1 : Nat) : Int) := by omega
      have l1 : (15 - v).log2 ≤ 30 := log_small (by omega)
      have l2 : (k + 1).log2 ≤ 30 := log_small (by omega)
      have l3 : ((15 - v) * (k + 1)).log2 ≤ 30 := log_small (by
        have : (15 - v) * (k + 1) ≤ 15 * 100001 := Nat.mul_le_mul (by omega) (by omega)
        omega)
      have m1 : ∀ M, gMul M (.int ((15 - v : Nat) : Int)) (.int ((k + 1 : Nat) : Int)) = some (.int (((15 - v) * (k + 1) : Nat) : Int)) := fun M => by
        rw [mul_ok (by simp only [Int.natAbs_natCast]; omega)]; simp
      have m2 : ∀ M, gMul M (.int (((15 - v) * (k + 1) : Nat) : Int)) (.int ((k + 1 : Nat) : Int)) = some (.int (((15 - v) * (k + 1) * (k + 1) : Nat) : Int)) := fun M => by
        rw [mul_ok (by simp only [Int.natAbs_natCast]; omega)]; simp
      have e3 : ∀ M, F_law_code_worth [.str (st [hexc v])] M = .ok (.int (v : Nat)) M := fun M => ev_law_code_worth hv
      have f0 : ∀ M, gIx M (lst3 (a, b, c)) (.int 0) = some (.int (a : Nat)) := fun _ => rfl
      have f1 : ∀ M, gIx M (lst3 (a, b, c)) (.int 1) = some (.int (b : Nat)) := fun _ => rfl
      have f2 : ∀ M, gIx M (lst3 (a, b, c)) (.int 2) = some (.int (c : Nat)) := fun _ => rfl
      clear hc hl ih hv l1 l2 l3
      unfold L1_law_code_sums
      walk_at "evh"
      rfl
theorem ev_law_code_sums {vs : List Nat} {M : Mem} (hc : Cells vs) (hl : vs.length ≤ 1000) : F_law_code_sums [.str (cs vs)] M = .ok (tup3 (sums3 0 (vs.take 226) (0, 0, 0))) M := by
  have hc2 : Cells (vs.take 226) := fun v h => hc v (List.mem_of_mem_take h)
  obtain ⟨x, y, z, h⟩ := own_sums_loop (M := M) (s := .str (cs vs)) (vs.take 226) 0 0 0 0 none none none hc2 (by rw [List.length_take]; omega)
  have e1 : ∀ M, gSl M (.str (cs vs)) none (some 226) = some (.str (cs (vs.take 226))) := fun M => by
    rw [gSl_cs (by unfold sizeLine; omega)]
    rw [show (226 : Int) = ((226 : Nat) : Int) from rfl, cutD_hi]
  have h0 : D.lst [.int 0, .int 0, .int 0] = lst3 (0, 0, 0) := rfl
  unfold F_law_code_sums B_law_code_sums
  clear hc hl hc2
  walk_at "ev"
  simp only [e1, fEnu1, List.length_cons, List.length_nil, Nat.zero_add, if_true, fEnu, cs_sgn, pairs_nums]
  rw [h0, h]
  rfl
theorem own_tail_turn {M : Mem} {th : D} {n w : Nat} {acc : List Nat} {x : Option D} (hw : w ≤ 100) (ha : acc.length ≤ 1000) :
    denSL [F_law_code_sums, F_law_code_figures, F_law_code_turned] L1_law_code_tail [some th, some (.str (cs acc)), some (.int (n : Nat)), some (.int (w : Nat)), x] M = .nx [some th, some (.str (cs (acc ++ told2 w n))), some (.int (n : Nat)), some (.int (w : Nat)), some (.str (cs (digits w n)))] M := by
  have hl := digits_len w n
  have e1 : ∀ M, gAdd M (.str (cs acc)) (.str (cs (digits w n))) = some (.str (cs (acc ++ digits w n))) := fun M => gAdd_cs (by unfold sizeLine; omega)
  have e2 : ∀ M, gAdd M (.str (cs (acc ++ digits w n))) (.str (cs (turned (digits w n)))) = some (.str (cs (acc ++ told2 w n))) := fun M => by
    rw [gAdd_cs (by rw [List.length_append, turned_len]; unfold sizeLine; omega), told2, List.append_assoc]
  have e3 : ∀ M, F_law_code_figures [.int (n : Nat), .int (w : Nat)] M = .ok (.str (cs (digits w n))) M := fun M => by
    rw [own_figures]; exact ev_cells_of_number (by omega)
  have e4 : ∀ M, F_law_code_turned [.str (cs (digits w n))] M = .ok (.str (cs (turned (digits w n)))) M := fun M => by
    rw [own_turned]; exact ev_contrary (digits_cells w n) (by omega)
  clear hl hw ha
  unfold L1_law_code_tail
  walk_at "evh"
theorem ev_law_code_tail {vs : List Nat} {M : Mem} (hc : Cells vs) (hl : vs.length ≤ 1000) : F_law_code_tail [.str (cs vs)] M = .ok (.str (cs (tail3 (sums3 0 (vs.take 226) (0, 0, 0))))) M := by
  have e1 : ∀ M, F_law_code_sums [.str (cs vs)] M = .ok (tup3 (sums3 0 (vs.take 226) (0, 0, 0))) M := fun M => ev_law_code_sums hc hl
  generalize sums3 0 (vs.take 226) (0, 0, 0) = t at *
  obtain ⟨a, b, c⟩ := t
  unfold F_law_code_tail B_law_code_tail
  clear hc hl
  walk_at "ev"
  have e0 : (.str (Str.ofString "") : D) = .str (cs []) := rfl
  have ez : ∀ M, fZip2 [tup3 (a, b, c), .tup [.int 3, .int 5, .int 7]] M = .ok [.tup [.int (a : Nat), .int ((3 : Nat) : Int)], .tup [.int (b : Nat), .int ((5 : Nat) : Int)], .tup [.int (c : Nat), .int ((7 : Nat) : Int)]] M := fun _ => rfl
  simp only [e0, e1, ez]
  rw [for_nx rfl (own_tail_turn (by omega) (by simp)), for_nx rfl (own_tail_turn (by omega) (by simp [told2_len])), for_nx rfl (own_tail_turn (by omega) (by simp [told2_len]))]
  rfl
theorem ord_st {c : Nat} {M : Mem} : fOrd M (.str (st [c])) = some (.int (c : Nat)) := rfl
theorem own_sign {c : Nat} {M : Mem} {s : D} (h : okSign c = true) : den [F_law_code_figures, F_law_code_tail] X1_law_code_sealed [some s, none, some (.str (st [c]))] M = .ok (.str (cs (digits 2 c))) M := by
  have e1 : ∀ M, fOrd M (.str (st [c])) = some (.int (c : Nat)) := fun _ => rfl
  have e2 : ∀ M, F_law_code_figures [.int (c : Nat), .int 2] M = .ok (.str (cs (digits 2 c))) M := fun M => by
    rw [own_figures]; exact ev_cells_of_number (w := 2) (by omega)
  unfold X1_law_code_sealed
  walk_at "evh"
theorem ev_law_code_sealed {l : List Nat} {M : Mem} (h : okText l = true) : F_law_code_sealed [.str (st l)] M = .ok (.str (cs (sealedC l))) M := by
  have h1 := okText_len h
  have hs := okText_all h
  have hz : (l.map fun c => D.str (st [c])).length ≤ sizeLine := by rw [List.length_map]; unfold sizeLine; omega
  have e1 : ∀ M, lcGo (.nm 2) bYes (den [F_law_code_figures, F_law_code_tail] X1_law_code_sealed) [some (.str (st l)), none, none] (l.map fun c => D.str (st [c])) M = .ok ((l.map (digits 2)).map fun x => D.str (cs x)) M := fun M => by
    rw [List.map_map]
    exact lc_vals (g := fun c => D.str (cs (digits 2 c))) fun c hc => own_sign (hs c hc)
  have e2 : ∀ M, gJoin M (.str (Str.ofString "")) [.lst ((l.map (digits 2)).map fun x => D.str (cs x))] = some (.str (cs (l.flatMap (digits 2)))) := fun M => join_cs (M := M) (ls := l.map (digits 2)) (by rw [sum_len2]; omega)
  have e4 : ∀ M, fLen M (.str (cs (l.flatMap (digits 2)))) = some (.int ((2 * l.length : Nat) : Int)) := fun M => by
    rw [len_str (by rw [cs_len, flat2_len]; unfold sizeLine; omega), cs_len, flat2_len]
  have e5 : (226 : Int) - ((2 * l.length : Nat) : Int) = ((226 - 2 * l.length : Nat) : Int) := by omega
  have e6 : ∀ M, gMul M (.str (Str.ofString "f")) (.int ((226 - 2 * l.length : Nat) : Int)) = some (.str (cs (List.replicate (226 - 2 * l.length) 15))) := fun M => by
    have e0 : (.str (Str.ofString "f") : D) = .str (st [102]) := rfl
    rw [e0, gMul_st (by omega)]
    congr 2
    unfold cs
    rw [List.map_replicate]; rfl
  have e7 : ∀ M, gAdd M (.str (cs (l.flatMap (digits 2)))) (.str (cs (List.replicate (226 - 2 * l.length) 15))) = some (.str (cs (textC l))) := fun M => gAdd_cs (by rw [flat2_len, List.length_replicate]; unfold sizeLine; omega)
  have hl := textC_len h1
  have e8 : ∀ M, F_law_code_tail [.str (cs (textC l))] M = .ok (.str (cs (tail3 (sums3 0 (textC l) (0, 0, 0))))) M := fun M => by
    rw [ev_law_code_tail (textC_cells l) (by omega), List.take_of_length_le (by omega)]
  have e9 : ∀ M, gAdd M (.str (cs (textC l))) (.str (cs (tail3 (sums3 0 (textC l) (0, 0, 0))))) = some (.str (cs (sealedC l))) := fun M => gAdd_cs (by rw [hl, tail3_len]; decide)
  have hw : ∀ (α : Type) (a b : α), (if (l.map fun c => D.str (st [c])).length ≤ sizeLine then a else b) = a := fun _ a b => if_pos hz
  have ht : ∀ M, itS (.str (st l)) M = .ok (l.map fun c => D.str (st [c])) M := fun M => by
    show Res.ok (sgn (st l)) M = _
    rw [st_sgn]
  clear h h1 hs hz hl
  unfold F_law_code_sealed B_law_code_sealed
  walk_at "evh"
end Lw
end

section
set_option Elab.async false
set_option linter.all false
set_option maxRecDepth 100000
set_option maxHeartbeats 4000000
namespace Lw
open PySem Wn
local macro_rules | `(tactic| walk_at "ev") => `(tactic| simp only [fnDef, fnOf, denSL, denS, den, denL, denB, denI, sSeq, sAsg, sRet, sRetN, sEx, sIf, sFor, sPar, sSet, sPass, sBrk, sCnt, bndS, bnd, Wn.ret, stuck, opt, eVar, eCst, eOp, eCall, eChain, bTru, bNot, bAnd, bOr, eOr, eAnd, eNot, eIf, lNil, lCons, eTup, eLst, eCell, eMt, eMl, eSl, oNo, oAt, eNeg, eLc, lcRun, fnDo, startE, fin, Tg.put, TgL.puts, isS_ite, if_le_sz, lstX_lst, lstOf_lst, add_int, sub_int, eq_int, ne_int, le_int, lt_int, gt_int, ge_int, is_non, isnot_non, isNon, asTru, truD, iArg, wipeE,
  List.map_cons, List.map_nil, List.length_cons, List.length_nil, List.getElem?_cons_zero, List.getElem?_cons_succ, List.set_cons_zero, List.set_cons_succ, List.getD_cons_zero, List.getD_cons_succ, List.cons_append, List.nil_append, List.replicate_succ, List.replicate_zero, Nat.zero_add, Nat.sub_self, Nat.add_one_sub_one, Nat.reduceAdd, Nat.reduceSub, Nat.reduceLeDiff, Nat.reduceEqDiff, if_true, if_false, Bool.false_eq_true, Bool.not_true, Bool.not_false, decide_true, decide_false, g1, g2, List.zip_cons_cons, List.zip_nil_right, List.foldl_cons, List.foldl_nil,
  mIndex, mJoin, mAppend, mExtend, mGet, eMd, eDcp, gDcp, sSetA, setA, bLen, bAbs, bMax, bMin, bSum, bAll, bAny, bOrd, bRepr, bIsi, tInt, tTup, tLst, nInt, nStr, nBool, nTup, nLst, oAdd, oSub, oMul, oMod, oDiv, oPow, cEq, cNe, cLt, cLe, cGt, cGe, cIn, cNi, cIs, cIn', Option.some_or, Option.or_none, Option.none_or])
local macro_rules | `(tactic| walk_at "evh") => `(tactic| simp only [*, fnDef, fnOf, denSL, denS, den, denL, denB, denI, sSeq, sAsg, sRet, sRetN, sEx, sIf, sFor, sPar, sSet, sPass, sBrk, sCnt, bndS, bnd, Wn.ret, stuck, opt, eVar, eCst, eOp, eCall, eChain, bTru, bNot, bAnd, bOr, eOr, eAnd, eNot, eIf, lNil, lCons, eTup, eLst, eCell, eMt, eMl, eSl, oNo, oAt, eNeg, eLc, lcRun, fnDo, startE, fin, Tg.put, TgL.puts, isS_ite, if_le_sz, lstX_lst, lstOf_lst, add_int, sub_int, eq_int, ne_int, le_int, lt_int, gt_int, ge_int, is_non, isnot_non, isNon, asTru, truD, iArg, wipeE,
  List.map_cons, List.map_nil, List.length_cons, List.length_nil, List.getElem?_cons_zero, List.getElem?_cons_succ, List.set_cons_zero, List.set_cons_succ, List.getD_cons_zero, List.getD_cons_succ, List.cons_append, List.nil_append, List.replicate_succ, List.replicate_zero, Nat.zero_add, Nat.sub_self, Nat.add_one_sub_one, Nat.reduceAdd, Nat.reduceSub, Nat.reduceLeDiff, Nat.reduceEqDiff, if_true, if_false, Bool.false_eq_true, Bool.not_true, Bool.not_false, decide_true, decide_false, g1, g2, List.zip_cons_cons, List.zip_nil_right, List.foldl_cons, List.foldl_nil,
  mIndex, mJoin, mAppend, mExtend, mGet, eMd, eDcp, gDcp, sSetA, setA, bLen, bAbs, bMax, bMin, bSum, bAll, bAny, bOrd, bRepr, bIsi, tInt, tTup, tLst, nInt, nStr, nBool, nTup, nLst, oAdd, oSub, oMul, oMod, oDiv, oPow, cEq, cNe, cLt, cLe, cGt, cGe, cIn, cNi, cIs, cIn', Option.some_or, Option.or_none, Option.none_or])
/-! ### the pot from which the law draws -/
def potD (a b c : Nat) : List D := [.int (a : Nat), .int (b : Nat), .int (c : Nat)]
/-- a pot from which so much was drawn -/
def Pot (k : Nat) (p : List D) : Prop := ∃ a b c, p = potD a b c ∧ c ≤ k ∧ b < 2 ^ 62
def u32 : List Int := [2147483647, 2147483629, 2147483587, 2147483579, 2147483563]
theorem prime_at : ∀ r, r < 5 → ∃ p : Nat, 0 < p ∧ p < 2147483648 ∧ L2.atI [D.int 2147483647, .int 2147483629, .int 2147483587, .int 2147483579, .int 2147483563] ((r : Nat) : Int) = some (.int (p : Nat))
  | 0, _ => ⟨2147483647, by decide, by decide, rfl⟩
  | 1, _ => ⟨2147483629, by decide, by decide, rfl⟩
  | 2, _ => ⟨2147483587, by decide, by decide, rfl⟩
  | 3, _ => ⟨2147483579, by decide, by decide, rfl⟩
  | 4, _ => ⟨2147483563, by decide, by decide, rfl⟩
  | n + 5, h => by omega
theorem log_le {a n : Nat} (h : a < 2 ^ n) : a.log2 ≤ n := log2_le h
theorem ix_ref {M : Mem} {n : Nat} {p : List D} {i : Int} (h : M[n]? = some (.lst p)) : gIx M (.ref n) (.int i) = L2.atI p i := by
  show ((lstOf M (.ref n)).bind fun ds => L2.atI ds i) = _
  unfold lstOf
  simp only [h, Option.bind_some]
theorem set_ref {M : Mem} {n : Nat} {p : List D} {i : Int} {v : D} {j : Nat} (h : M[n]? = some (.lst p)) (e : L2.ixN p.length i = some j) : setD (.ref n) (.int i) v M = some (M.set n (.lst (p.set j v))) := by
  unfold setD
  simp only [h, e, Option.map_some]
theorem get_set {M : Mem} {n : Nat} {c d : Cell} (h : M[n]? = some c) : (M.set n d)[n]? = some d := by
  rw [List.getElem?_set_self (List.getElem?_eq_some_iff.mp h).1]
theorem ev_take {k u n : Nat} {M : Mem} {p : List D} (hM : M[n]? = some (.lst p)) (hp : Pot k p) (hk : k < 100000) (hu : 0 < u) (hu2 : u < 1000000) : ∃ r p', r < u ∧ Pot (k + 1) p' ∧ F_law_take [.ref n, .int (u : Nat)] M = .ok (.int (r : Nat)) (M.set n (.lst p')) := by
  obtain ⟨a, b, c, rfl, hc, hb⟩ := hp
  have f0 : gIx M (.ref n) (.int 0) = some (.int (a : Nat)) := by rw [ix_ref hM]; rfl
  by_cases ha : 0 < a
  · refine ⟨a % u, potD (a / u) b c, Nat.mod_lt _ hu, ⟨_, _, _, rfl, by omega, hb⟩, ?_⟩
    have c1 : ((0 : Int) < ((a : Nat) : Int)) = True := by simp; omega
    have e0 : fInt M (.int (a : Nat)) = some (.int (a : Nat)) := rfl
    have e1 : gMod M (.int (a : Nat)) (.int (u : Nat)) = some (.int ((a % u : Nat) : Int)) := by rw [mod_ok (by omega)]; rfl
    have e2 : gDiv M (.int (a : Nat)) (.int (u : Nat)) = some (.int ((a / u : Nat) : Int)) := by
      rw [div_ok (by omega)]
      · rfl
      · have := log_le (a := u) (n := 30) (by omega)
        simp only [Int.natAbs_natCast]
        omega
    have e3 : setD (.ref n) (.int 0) (.int ((a / u : Nat) : Int)) M = some (M.set n (.lst (potD (a / u) b c))) := by rw [set_ref hM (j := 0) rfl]; rfl
    clear hM hc hb hk hu hu2 ha
    unfold F_law_take B_law_take
    walk_at "evh"
  · have c1 : ((0 : Int) < ((a : Nat) : Int)) = False := by simp; omega
    have f2 : gIx M (.ref n) (.int 2) = some (.int (c : Nat)) := by rw [ix_ref hM]; rfl
    have e0 : ((c : Nat) : Int) + 1 = ((c + 1 : Nat) : Int) := by omega
    have e3 : setD (.ref n) (.int 2) (.int ((c + 1 : Nat) : Int)) M = some (M.set n (.lst (potD a b (c + 1)))) := by rw [set_ref hM (j := 2) rfl]; rfl
    have hM1 : (M.set n (.lst (potD a b (c + 1))))[n]? = some (.lst (potD a b (c + 1))) := get_set hM
    generalize hN : M.set n (.lst (potD a b (c + 1))) = N at *
    have g2 : gIx N (.ref n) (.int 2) = some (.int ((c + 1 : Nat) : Int)) := by rw [ix_ref hM1]; rfl
    have g1 : gIx N (.ref n) (.int 1) = some (.int (b : Nat)) := by rw [ix_ref hM1]; rfl
    have i0 : ∀ j : Int, fInt N (.int j) = some (.int j) := fun _ => rfl
    have m0 : gMod N (.int ((c + 1 : Nat) : Int)) (.int 5) = some (.int (((c + 1) % 5 : Nat) : Int)) := by rw [mod_ok (by omega)]; rfl
    obtain ⟨q, hq, hq2, hq3⟩ := prime_at ((c + 1) % 5) (by omega)
    have m1 : gIx N (.lst [D.int 2147483647, .int 2147483629, .int 2147483587, .int 2147483579, .int 2147483563]) (.int (((c + 1) % 5 : Nat) : Int)) = some (.int (q : Nat)) := by
      show ((lstOf N (.lst _)).bind fun ds => L2.atI ds _) = _
      rw [lstOf_lst]; exact hq3
    have l0 := log_le (a := c + 1) (n := 20) (by omega)
    have l1 : Nat.log2 100832 ≤ 20 := by decide
    have m2 : gMul N (.int 100832) (.int ((c + 1 : Nat) : Int)) = some (.int ((100832 * (c + 1) : Nat) : Int)) := by
      rw [mul_ok (by show Nat.log2 100832 + (c + 1).log2 < 1000000; omega)]; rfl
    have l2 := log_le (a := 100832 * (c + 1)) (n := 40) (by omega)
    have m3 : gMul N (.int ((100832 * (c + 1) : Nat) : Int)) (.int ((c + 1 : Nat) : Int)) = some (.int ((100832 * (c + 1) * (c + 1) : Nat) : Int)) := by
      rw [mul_ok (by show (100832 * (c + 1)).log2 + (c + 1).log2 < 1000000; omega)]; rfl
    obtain ⟨x, hx, l3⟩ : ∃ x, 100832 * (c + 1) * (c + 1) = x ∧ x < 2 ^ 60 := ⟨_, rfl, Nat.lt_of_le_of_lt (Nat.mul_le_mul (show 100832 * (c + 1) ≤ 100832 * 100000 by omega) (show c + 1 ≤ 100000 by omega)) (by decide)⟩
    rw [hx] at m3
    have a1 : ((b : Nat) : Int) + ((x : Nat) : Int) = ((b + x : Nat) : Int) := by omega
    have a2 : ((b + x : Nat) : Int) + 1200 = ((b + x + 1200 : Nat) : Int) := by omega
    have m4 : gPow N (.int ((b + x + 1200 : Nat) : Int)) (.int 3) = some (.int (((b + x + 1200) ^ 3 : Nat) : Int)) := by
      show (if 0 ≤ (3 : Int) ∧ (3 : Int).natAbs ≤ 1000 ∧ (b + x + 1200).log2 < 10000 then some (D.int (((b + x + 1200 : Nat) : Int) ^ (3 : Int).toNat)) else none) = _
      have := log_le (a := b + x + 1200) (n := 70) (by omega)
      rw [if_pos ⟨by decide, by decide, by omega⟩]
      congr 2
    obtain ⟨y, hy⟩ : ∃ y, (b + x + 1200) ^ 3 = y := ⟨_, rfl⟩
    rw [hy] at m4
    have m5 : gMod N (.int (y : Nat)) (.int (q : Nat)) = some (.int ((y % q : Nat) : Int)) := by rw [mod_ok (by omega)]; rfl
    have hz : y % q < 2147483648 := Nat.lt_trans (Nat.mod_lt _ hq) hq2
    generalize y % q = z at *
    have m6 : gMod N (.int (z : Nat)) (.int 11114) = some (.int ((z % 11114 : Nat) : Int)) := by rw [mod_ok (by omega)]; rfl
    have m7 : gMul N (.int 450) (.int ((c + 1 : Nat) : Int)) = some (.int ((450 * (c + 1) : Nat) : Int)) := by
      rw [mul_ok (by
        show Nat.log2 450 + (c + 1).log2 < 1000000
        have : Nat.log2 450 ≤ 20 := by decide
        omega)]; rfl
    have a3 : ((z % 11114 : Nat) : Int) + ((450 * (c + 1) : Nat) : Int) = ((z % 11114 + 450 * (c + 1) : Nat) : Int) := by omega
    have hw : z % 11114 + 450 * (c + 1) < 2 ^ 40 := by omega
    generalize z % 11114 + 450 * (c + 1) = w at *
    have m8 : gMul N (.int (z : Nat)) (.int (w : Nat)) = some (.int ((z * w : Nat) : Int)) := by
      have l4 := log_le (a := z) (n := 40) (by omega)
      have l5 := log_le (a := w) (n := 40) (by omega)
      rw [mul_ok (by show z.log2 + w.log2 < 1000000; omega)]; rfl
    generalize z * w = v at *
    have m9 : gMod N (.int (v : Nat)) (.int 2305843009213693907) = some (.int ((v % 2305843009213693907 : Nat) : Int)) := by rw [mod_ok (by decide)]; rfl
    generalize v % 2305843009213693907 = v2 at *
    have m10 : gDiv N (.int (v2 : Nat)) (.int 167) = some (.int ((v2 / 167 : Nat) : Int)) := by rw [div_ok (by decide) (by decide)]; rfl
    have m11 : gMod N (.int ((v2 / 167 : Nat) : Int)) (.int (u : Nat)) = some (.int ((v2 / 167 % u : Nat) : Int)) := by rw [mod_ok (by omega)]; rfl
    refine ⟨v2 / 167 % u, potD a b (c + 1), Nat.mod_lt _ hu, ⟨_, _, _, rfl, by omega, hb⟩, ?_⟩
    rw [hN]
    clear hM hc hb hk hu hu2 ha hN hM1 hq hq2 hq3 l0 l1 l2 l3 hx hy hz hw
    unfold F_law_take B_law_take
    walk_at "evh"
theorem ev_of {k n : Nat} {M : Mem} {p ds : List D} (hM : M[n]? = some (.lst p)) (hp : Pot k p) (hk : k < 100000) (h0 : ds ≠ []) (hl : ds.length ≤ 1000) : ∃ d ∈ ds, ∃ p', Pot (k + 1) p' ∧ F_law_of [.ref n, .lst ds] M = .ok d (M.set n (.lst p')) := by
  have h1 : 0 < ds.length := List.length_pos_iff.mpr h0
  obtain ⟨r, p', hr, hp', e⟩ := ev_take hM hp hk h1 (by omega)
  refine ⟨ds[r], List.getElem_mem hr, p', hp', ?_⟩
  have e1 : fLen M (.lst ds) = some (.int (ds.length : Nat)) := rfl
  have e2 : ∀ M, gIx M (.lst ds) (.int (r : Nat)) = some ds[r] := fun M => by
    show ((lstOf M (.lst _)).bind fun ds => L2.atI ds _) = _
    rw [lstOf_lst]
    show L2.atI ds _ = _
    unfold L2.atI L2.ixN
    rw [if_pos (by omega), if_pos (by omega)]
    show ((some r).bind fun j => ds[j]?) = _
    show ds[r]? = _
    rw [List.getElem?_eq_getElem hr]
  clear hM hp hk h0 hl hp' h1
  unfold F_law_of B_law_of
  walk_at "evh"
end Lw
end

section
set_option Elab.async false
set_option linter.all false
set_option maxRecDepth 100000
set_option maxHeartbeats 4000000
namespace Lw
open PySem Wn
local macro_rules | `(tactic| walk_at "ev") => `(tactic| simp only [fnDef, fnOf, denSL, denS, den, denL, denB, denI, sSeq, sAsg, sRet, sRetN, sEx, sIf, sFor, sPar, sSet, sPass, sBrk, sCnt, bndS, bnd, Wn.ret, stuck, opt, eVar, eCst, eOp, eCall, eChain, bTru, bNot, bAnd, bOr, eOr, eAnd, eNot, eIf, lNil, lCons, eTup, eLst, eCell, eMt, eMl, eSl, oNo, oAt, eNeg, eLc, lcRun, fnDo, startE, fin, Tg.put, TgL.puts, isS_ite, if_le_sz, lstX_lst, lstOf_lst, add_int, sub_int, eq_int, ne_int, le_int, lt_int, gt_int, ge_int, is_non, isnot_non, isNon, asTru, truD, iArg, wipeE,
  List.map_cons, List.map_nil, List.length_cons, List.length_nil, List.getElem?_cons_zero, List.getElem?_cons_succ, List.set_cons_zero, List.set_cons_succ, List.getD_cons_zero, List.getD_cons_succ, List.cons_append, List.nil_append, List.replicate_succ, List.replicate_zero, Nat.zero_add, Nat.sub_self, Nat.add_one_sub_one, Nat.reduceAdd, Nat.reduceSub, Nat.reduceLeDiff, Nat.reduceEqDiff, if_true, if_false, Bool.false_eq_true, Bool.not_true, Bool.not_false, decide_true, decide_false, g1, g2, List.zip_cons_cons, List.zip_nil_right, List.foldl_cons, List.foldl_nil,
  mIndex, mJoin, mAppend, mExtend, mGet, eMd, eDcp, gDcp, sSetA, setA, bLen, bAbs, bMax, bMin, bSum, bAll, bAny, bOrd, bRepr, bIsi, tInt, tTup, tLst, nInt, nStr, nBool, nTup, nLst, oAdd, oSub, oMul, oMod, oDiv, oPow, cEq, cNe, cLt, cLe, cGt, cGe, cIn, cNi, cIs, cIn', Option.some_or, Option.or_none, Option.none_or])
local macro_rules | `(tactic| walk_at "evh") => `(tactic| simp only [*, fnDef, fnOf, denSL, denS, den, denL, denB, denI, sSeq, sAsg, sRet, sRetN, sEx, sIf, sFor, sPar, sSet, sPass, sBrk, sCnt, bndS, bnd, Wn.ret, stuck, opt, eVar, eCst, eOp, eCall, eChain, bTru, bNot, bAnd, bOr, eOr, eAnd, eNot, eIf, lNil, lCons, eTup, eLst, eCell, eMt, eMl, eSl, oNo, oAt, eNeg, eLc, lcRun, fnDo, startE, fin, Tg.put, TgL.puts, isS_ite, if_le_sz, lstX_lst, lstOf_lst, add_int, sub_int, eq_int, ne_int, le_int, lt_int, gt_int, ge_int, is_non, isnot_non, isNon, asTru, truD, iArg, wipeE,
  List.map_cons, List.map_nil, List.length_cons, List.length_nil, List.getElem?_cons_zero, List.getElem?_cons_succ, List.set_cons_zero, List.set_cons_succ, List.getD_cons_zero, List.getD_cons_succ, List.cons_append, List.nil_append, List.replicate_succ, List.replicate_zero, Nat.zero_add, Nat.sub_self, Nat.add_one_sub_one, Nat.reduceAdd, Nat.reduceSub, Nat.reduceLeDiff, Nat.reduceEqDiff, if_true, if_false, Bool.false_eq_true, Bool.not_true, Bool.not_false, decide_true, decide_false, g1, g2, List.zip_cons_cons, List.zip_nil_right, List.foldl_cons, List.foldl_nil,
  mIndex, mJoin, mAppend, mExtend, mGet, eMd, eDcp, gDcp, sSetA, setA, bLen, bAbs, bMax, bMin, bSum, bAll, bAny, bOrd, bRepr, bIsi, tInt, tTup, tLst, nInt, nStr, nBool, nTup, nLst, oAdd, oSub, oMul, oMod, oDiv, oPow, cEq, cNe, cLt, cLe, cGt, cGe, cIn, cNi, cIs, cIn', Option.some_or, Option.or_none, Option.none_or])
/-! ### what the law draws -/
def csDs (vs : List Nat) : List D := vs.map fun v => .str (st [hexc v])
theorem idxS {v : Nat} {M : Mem} (h : v < 16) : gIndex M (.str (Str.ofString "0123456789abcdef")) [.str (st [hexc v])] = some (.int (v : Nat)) := idx_cell h
theorem set_same {M : Mem} {n : Nat} {c : Cell} (h : M[n]? = some c) : M.set n c = M := by
  refine List.ext_getElem? fun i => ?_
  by_cases hi : n = i
  · subst hi
    rw [get_set h, h]
  · rw [List.getElem?_set_ne hi]
/-- many draws in a comprehension -/
theorem draws {i n B : Nat} {e : Fe} {δ : Wn.Env} {S : D → Prop} (h : ∀ M p k d, M[n]? = some (.lst p) → Pot k p → k < B → ∃ x p', S x ∧ Pot (k + 1) p' ∧ e (δ.set i (some d)) M = .ok x (M.set n (.lst p'))) : ∀ (ds : List D) (M : Mem) (p : List D) (k : Nat), M[n]? = some (.lst p) → Pot k p → k + ds.length ≤ B → ∃ xs p', xs.length = ds.length ∧ (∀ x ∈ xs, S x) ∧ Pot (k + ds.length) p' ∧ lcGo (.nm i) bYes e δ ds M = .ok xs (M.set n (.lst p'))
  | [], M, p, k, hM, hp, _ => ⟨[], p, rfl, (by intro x hx; cases hx), hp, by rw [set_same hM]; rfl⟩
  | d :: ds, M, p, k, hM, hp, hB => by
    rw [List.length_cons] at hB
    obtain ⟨x, p1, s1, q1, e1⟩ := h M p k d hM hp (by omega)
    obtain ⟨xs, p2, l2, s2, q2, e2⟩ := draws h ds (M.set n (.lst p1)) p1 (k + 1) (get_set hM) q1 (by omega)
    refine ⟨x :: xs, p2, by rw [List.length_cons, l2, List.length_cons], ?_, ?_, ?_⟩
    · intro y hy
      rcases List.mem_cons.mp hy with rfl | hy
      · exact s1
      · exact s2 y hy
    · rw [List.length_cons, show k + (ds.length + 1) = k + 1 + ds.length by omega]; exact q2
    · rw [lcGo_cons]
      simp only [Tg.put, bYes_ok, e1, e2, List.set_set]
theorem Pot.mono {k l : Nat} {p : List D} (h : Pot k p) (hl : k ≤ l) : Pot l p := by
  obtain ⟨a, b, c, e, h1, h2⟩ := h
  exact ⟨a, b, c, e, by omega, h2⟩
theorem list_str {M : Mem} {x : Str} (h : x.length ≤ sizeLine) : fList M (.str x) = some (.lst (sgn x)) := if_pos h
theorem all_cells : ∀ {xs : List D}, (∀ x ∈ xs, ∃ v, v < 16 ∧ x = .str (st [hexc v])) → ∃ vs, Cells vs ∧ xs = csDs vs
  | [], _ => ⟨[], (by intro v h; cases h), rfl⟩
  | x :: xs, h => by
    obtain ⟨v, hv, rfl⟩ := h x (List.mem_cons_self ..)
    obtain ⟨vs, hc, rfl⟩ := all_cells fun y hy => h y (List.mem_cons_of_mem _ hy)
    refine ⟨v :: vs, ?_, rfl⟩
    intro w hw
    rcases List.mem_cons.mp hw with rfl | hw
    · exact hv
    · exact hc w hw
end Lw
end

section
set_option Elab.async false
set_option linter.all false
set_option maxRecDepth 100000
set_option maxHeartbeats 4000000
namespace Lw
open PySem Wn
local macro_rules | `(tactic| walk_at "ev") => `(tactic| simp only [fnDef, fnOf, denSL, denS, den, denL, denB, denI, sSeq, sAsg, sRet, sRetN, sEx, sIf, sFor, sPar, sSet, sPass, sBrk, sCnt, bndS, bnd, Wn.ret, stuck, opt, eVar, eCst, eOp, eCall, eChain, bTru, bNot, bAnd, bOr, eOr, eAnd, eNot, eIf, lNil, lCons, eTup, eLst, eCell, eMt, eMl, eSl, oNo, oAt, eNeg, eLc, lcRun, fnDo, startE, fin, Tg.put, TgL.puts, isS_ite, if_le_sz, lstX_lst, lstOf_lst, add_int, sub_int, eq_int, ne_int, le_int, lt_int, gt_int, ge_int, is_non, isnot_non, isNon, asTru, truD, iArg, wipeE,
  List.map_cons, List.map_nil, List.length_cons, List.length_nil, List.getElem?_cons_zero, List.getElem?_cons_succ, List.set_cons_zero, List.set_cons_succ, List.getD_cons_zero, List.getD_cons_succ, List.cons_append, List.nil_append, List.replicate_succ, List.replicate_zero, Nat.zero_add, Nat.sub_self, Nat.add_one_sub_one, Nat.reduceAdd, Nat.reduceSub, Nat.reduceLeDiff, Nat.reduceEqDiff, if_true, if_false, Bool.false_eq_true, Bool.not_true, Bool.not_false, decide_true, decide_false, g1, g2, List.zip_cons_cons, List.zip_nil_right, List.foldl_cons, List.foldl_nil,
  mIndex, mJoin, mAppend, mExtend, mGet, eMd, eDcp, gDcp, sSetA, setA, bLen, bAbs, bMax, bMin, bSum, bAll, bAny, bOrd, bRepr, bIsi, tInt, tTup, tLst, nInt, nStr, nBool, nTup, nLst, oAdd, oSub, oMul, oMod, oDiv, oPow, cEq, cNe, cLt, cLe, cGt, cGe, cIn, cNi, cIs, cIn', Option.some_or, Option.or_none, Option.none_or])
local macro_rules | `(tactic| walk_at "evh") => `(tactic| simp only [*, fnDef, fnOf, denSL, denS, den, denL, denB, denI, sSeq, sAsg, sRet, sRetN, sEx, sIf, sFor, sPar, sSet, sPass, sBrk, sCnt, bndS, bnd, Wn.ret, stuck, opt, eVar, eCst, eOp, eCall, eChain, bTru, bNot, bAnd, bOr, eOr, eAnd, eNot, eIf, lNil, lCons, eTup, eLst, eCell, eMt, eMl, eSl, oNo, oAt, eNeg, eLc, lcRun, fnDo, startE, fin, Tg.put, TgL.puts, isS_ite, if_le_sz, lstX_lst, lstOf_lst, add_int, sub_int, eq_int, ne_int, le_int, lt_int, gt_int, ge_int, is_non, isnot_non, isNon, asTru, truD, iArg, wipeE,
  List.map_cons, List.map_nil, List.length_cons, List.length_nil, List.getElem?_cons_zero, List.getElem?_cons_succ, List.set_cons_zero, List.set_cons_succ, List.getD_cons_zero, List.getD_cons_succ, List.cons_append, List.nil_append, List.replicate_succ, List.replicate_zero, Nat.zero_add, Nat.sub_self, Nat.add_one_sub_one, Nat.reduceAdd, Nat.reduceSub, Nat.reduceLeDiff, Nat.reduceEqDiff, if_true, if_false, Bool.false_eq_true, Bool.not_true, Bool.not_false, decide_true, decide_false, g1, g2, List.zip_cons_cons, List.zip_nil_right, List.foldl_cons, List.foldl_nil,
  mIndex, mJoin, mAppend, mExtend, mGet, eMd, eDcp, gDcp, sSetA, setA, bLen, bAbs, bMax, bMin, bSum, bAll, bAny, bOrd, bRepr, bIsi, tInt, tTup, tLst, nInt, nStr, nBool, nTup, nLst, oAdd, oSub, oMul, oMod, oDiv, oPow, cEq, cNe, cLt, cLe, cGt, cGe, cIn, cNi, cIs, cIn', Option.some_or, Option.or_none, Option.none_or])
/-! ### texts that are drawn -/
def lotA : List Nat := [32, 33, 97, 98, 122, 126, 10]
def lotB : List Nat := [48, 49, 50, 51, 52, 53, 54, 55, 56, 57, 10]
theorem lotA_sgn : sgn (Str.ofString " !abz~\n") = stDs lotA := by
  have e : Str.ofString " !abz~\n" = st lotA := by decide
  rw [e, st_sgn]; rfl
theorem lotB_sgn : sgn (Str.ofString "0123456789\n") = stDs lotB := by
  have e : Str.ofString "0123456789\n" = st lotB := by decide
  rw [e, st_sgn]; rfl
def lots : List (List Nat) := [lotA, [126], [10], [32], lotB]
theorem lots_ok : ∀ l ∈ lots, l ≠ [] ∧ l.length ≤ 11 ∧ ∀ c ∈ l, okSign c = true := by decide
def manies : List Nat := [0, 1, 2, 7, 20, 112, 113]
theorem all_signs : ∀ {xs : List D}, (∀ x ∈ xs, ∃ c, okSign c = true ∧ x = .str (st [c])) → ∃ l, (∀ c ∈ l, okSign c = true) ∧ xs = stDs l
  | [], _ => ⟨[], (by intro v h; cases h), rfl⟩
  | x :: xs, h => by
    obtain ⟨v, hv, rfl⟩ := h x (List.mem_cons_self ..)
    obtain ⟨vs, hc, rfl⟩ := all_signs fun y hy => h y (List.mem_cons_of_mem _ hy)
    refine ⟨v :: vs, ?_, rfl⟩
    intro w hw
    rcases List.mem_cons.mp hw with rfl | hw
    · exact hv
    · exact hc w hw
theorem ev_text_drawn {k n : Nat} {M : Mem} {p : List D} (hM : M[n]? = some (.lst p)) (hp : Pot k p) (hk : k < 90000) : ∃ l p', okText l = true ∧ Pot (k + 115) p' ∧ F_law_text_drawn [.ref n] M = .ok (.str (st l)) (M.set n (.lst p')) := by
  obtain ⟨d1, hd1, p1, q1, t1⟩ := ev_of (ds := [.int 0, .int 1, .int 2, .int 7, .int 20, .int 112, .int 113]) hM hp (by omega) (by simp) (by simp)
  have hM1 := get_set (d := .lst p1) hM
  have hmm : ∃ m : Nat, m ≤ 113 ∧ d1 = .int (m : Nat) := by
    simp only [List.mem_cons, List.not_mem_nil, or_false] at hd1
    rcases hd1 with rfl | rfl | rfl | rfl | rfl | rfl | rfl
    · exact ⟨0, by decide, rfl⟩
    · exact ⟨1, by decide, rfl⟩
    · exact ⟨2, by decide, rfl⟩
    · exact ⟨7, by decide, rfl⟩
    · exact ⟨20, by decide, rfl⟩
    · exact ⟨112, by decide, rfl⟩
    · exact ⟨113, by decide, rfl⟩
  obtain ⟨m, hm, rfl⟩ := hmm
  obtain ⟨d2, hd2, p2, q2, t2⟩ := ev_of (ds := [.lst (stDs lotA), .lst [.str (Str.ofString "~")], .lst [.str (Str.ofString "\n")], .lst [.str (Str.ofString " ")], .lst (stDs lotB)]) hM1 q1 (by omega) (by simp) (by simp)
  rw [List.set_set] at t2
  have hM2 := get_set (d := .lst p2) hM
  have hll : ∃ l ∈ lots, d2 = .lst (stDs l) := by
    simp only [List.mem_cons, List.not_mem_nil, or_false] at hd2
    rcases hd2 with rfl | rfl | rfl | rfl | rfl
    · exact ⟨lotA, by simp [lots], rfl⟩
    · exact ⟨[126], by simp [lots], rfl⟩
    · exact ⟨[10], by simp [lots], rfl⟩
    · exact ⟨[32], by simp [lots], rfl⟩
    · exact ⟨lotB, by simp [lots], rfl⟩
  obtain ⟨l, hl, rfl⟩ := hll
  obtain ⟨l0, l1, l2⟩ := lots_ok l hl
  have e1 : ∀ M, fList M (.str (Str.ofString " !abz~\n")) = some (.lst (stDs lotA)) := fun M => by rw [list_str (by decide), lotA_sgn]
  have e2 : ∀ M, fList M (.str (Str.ofString "0123456789\n")) = some (.lst (stDs lotB)) := fun M => by rw [list_str (by decide), lotB_sgn]
  have e3 : ∀ M, fRng1 [.int ((m : Nat) : Int)] M = .ok (rng 0 m) M := fun M => fRng1_nat (by omega)
  have q3 : (rng 0 m).length ≤ 1000 := by rw [rng_len]; omega
  obtain ⟨xs, p3, l3, s3, q4, t3⟩ := draws (i := 3) (n := n) (B := 99999) (e := den [F_law_of] X1_law_text_drawn) (δ := [some (.ref n), some (.int (m : Nat)), some (.lst (stDs l)), none]) (S := fun x => ∃ c, okSign c = true ∧ x = .str (st [c])) (fun M p k d hM hp hk => by
    obtain ⟨x, hx, p', hp', e⟩ := ev_of (ds := stDs l) hM hp (by omega) (by simp [stDs, l0]) (by simp [stDs]; omega)
    obtain ⟨v, hv, rfl⟩ := List.mem_map.mp hx
    refine ⟨_, p', ⟨v, l2 v hv, rfl⟩, hp', ?_⟩
    clear hM hp hk hx hv hp' t1 t2 hM1 hM2 e1 e2 e3
    unfold X1_law_text_drawn
    walk_at "evh") (rng 0 m) _ p2 (k + 1 + 1) hM2 q2 (by rw [rng_len]; omega)
  rw [List.set_set] at t3
  rw [rng_len] at q4 l3
  obtain ⟨vs, hvs, rfl⟩ := all_signs s3
  have hvl : vs.length = m := by simpa [stDs] using l3
  have e5 : ∀ M, gJoin M (.str (Str.ofString "")) [.lst (stDs vs)] = some (.str (st vs)) := fun M => join_signs (by omega)
  refine ⟨vs, p3, ?_, q4.mono (by omega), ?_⟩
  · unfold okText
    rw [Bool.and_eq_true, List.all_eq_true]
    exact ⟨decide_eq_true (by omega), hvs⟩
  · clear hM hp hk q1 hM1 q2 hM2 l3 s3 q4 hvs hvl hd1 hd2 hl l0 l1 l2 hm
    unfold F_law_text_drawn B_law_text_drawn
    walk_at "evh"
end Lw
end

section
set_option Elab.async false
set_option linter.all false
set_option maxRecDepth 100000
set_option maxHeartbeats 4000000
namespace Lw
open PySem Wn
theorem hexval_app (a x : Nat) (l : List Nat) : hexval a (l ++ [x]) = hexval a l * 16 + x := by
  unfold hexval
  rw [List.foldl_append]; rfl
theorem hexval_digits : ∀ w n, hexval 0 (digits w n) = n % 16 ^ w
  | 0, n => by simp [digits, hexval, Nat.mod_one]
  | w + 1, n => by
    rw [digits, hexval_app, hexval_digits w, Nat.pow_succ, Nat.mul_comm (16 ^ w) 16, Nat.mod_mul]
    omega
theorem sealed_text {l : List Nat} (h : okText l = true) : (sealedC l).take 226 = textC l := by
  have hl := textC_len (okText_len h)
  rw [sealedC, ← hl, List.take_left]
theorem sealed_tail {l : List Nat} (h : okText l = true) : (sealedC l).drop 226 = tail3 (sums3 0 (textC l) (0, 0, 0)) := by
  have hl := textC_len (okText_len h)
  rw [sealedC, ← hl, List.drop_left]
theorem told2_at (w n : Nat) : (told2 w n).take w = digits w n ∧ (told2 w n).drop w = turned (digits w n) := by
  have h := digits_len w n
  unfold told2
  constructor
  · exact List.take_left' h
  · exact List.drop_left' h
theorem drop_take_app {a b c : List Nat} {n m : Nat} (h1 : a.length = n) (h2 : b.length = m) : ((a ++ (b ++ c)).drop n).take m = b := by
  rw [List.drop_left' h1, List.take_left' h2]
theorem sums3_bound (l : List Nat) (hl : l.length ≤ 226) : (sums3 0 l (0, 0, 0)).1 < 16 ^ 3 ∧ (sums3 0 l (0, 0, 0)).2.1 < 16 ^ 5 ∧ (sums3 0 l (0, 0, 0)).2.2 < 16 ^ 7 := by
  have h := sums3_le l 0 0 0 0 226 (by omega)
  have h1 : 15 * l.length * 226 ≤ 15 * 226 * 226 := Nat.mul_le_mul (Nat.mul_le_mul (Nat.le_refl _) hl) (Nat.le_refl _)
  have h2 : 15 * l.length * 226 * 226 ≤ 15 * 226 * 226 * 226 := Nat.mul_le_mul h1 (Nat.le_refl _)
  refine ⟨?_, ?_, ?_⟩ <;> omega
theorem tails_mem {a : Nat} : a ∈ tails ↔ 226 ≤ a ∧ a < 256 := by
  unfold tails
  rw [List.mem_map]
  constructor
  · rintro ⟨k, hk, rfl⟩
    have := List.mem_range.mp hk
    omega
  · intro h
    exact ⟨a - 226, List.mem_range.mpr (by omega), by omega⟩
theorem getD_drop (l : List Nat) (n i : Nat) : (l.drop n).getD i 0 = l.getD (n + i) 0 := by
  rw [List.getD_eq_getElem?_getD, List.getElem?_drop, ← List.getD_eq_getElem?_getD]
theorem ext_getD {a b : List Nat} (h : a.length = b.length) (e : ∀ i, i < a.length → a.getD i 0 = b.getD i 0) : a = b := by
  refine List.ext_getElem? fun i => ?_
  by_cases hi : i < a.length
  · rw [getD_get hi, getD_get (by omega), e i hi]
  · rw [List.getElem?_eq_none (by omega), List.getElem?_eq_none (by omega)]
theorem scan_text {vs tl : List Nat} : ∀ (l : List Nat) (i m : Nat) (acc : List Nat), l.length ≤ m → (∀ c ∈ l, okSign c = true) → vs.drop (2 * i) = l.flatMap (digits 2) ++ (List.replicate (2 * (m - l.length)) 15 ++ tl) → scan vs ((List.range' i m).map (2 * ·)) acc = some (acc ++ l)
  | [], i, 0, acc, _, _, _ => by simp [scan]
  | [], i, m + 1, acc, _, _, h => by
    rw [List.range'_succ, List.map_cons, scan]
    have h2 : (vs.drop (2 * i)).take 2 = [15, 15] := by
      rw [h, List.flatMap_nil, List.nil_append, List.length_nil, show 2 * (m + 1 - 0) = 2 * m + 1 + 1 by omega, List.replicate_succ, List.replicate_succ]
      rfl
    rw [if_pos h2, List.append_nil]
  | c :: l, i, 0, acc, hl, _, _ => by simp at hl
  | c :: l, i, m + 1, acc, hl, hs, h => by
    have hc := hs c (List.mem_cons_self ..)
    have hc2 := okSign_lt hc
    rw [List.flatMap_cons, List.append_assoc] at h
    have d2 : (digits 2 c).length = 2 := digits_len 2 c
    have h2 : (vs.drop (2 * i)).take 2 = digits 2 c := by rw [h, List.take_left' d2]
    have h3 : vs.drop (2 * (i + 1)) = l.flatMap (digits 2) ++ (List.replicate (2 * (m - l.length)) 15 ++ tl) := by
      rw [show 2 * (i + 1) = 2 * i + 2 by omega, ← List.drop_drop, h, List.drop_left' d2, List.length_cons, show m + 1 - (l.length + 1) = m - l.length by omega]
    have hx : hexval 0 (digits 2 c) = c := by rw [hexval_digits]; exact Nat.mod_eq_of_lt (by omega)
    have hn : digits 2 c ≠ [15, 15] := fun q => by
      rw [q] at hx
      have : hexval 0 [15, 15] = 255 := rfl
      omega
    rw [List.range'_succ, List.map_cons, scan, h2, if_neg hn, hx, if_pos hc, scan_text l (i + 1) m (acc ++ [c]) (by simpa using hl) (fun d hd => hs d (List.mem_cons_of_mem _ hd)) h3, List.append_assoc]
    rfl
theorem sealed_signs {l : List Nat} (hl : okText l = true) : signsIn (sealedC l) = some l := by
  have e : scan (sealedC l) ats [] = some l := by
    have hlen := okText_len hl
    have := scan_text (vs := sealedC l) (tl := tail3 (sums3 0 (textC l) (0, 0, 0))) l 0 113 [] hlen (okText_all hl) (by
      rw [Nat.mul_zero, List.drop_zero, sealedC, show 2 * (113 - l.length) = 226 - 2 * l.length by omega, ← List.append_assoc]
      rfl)
    rw [← List.range_eq_range'] at this
    exact this
  unfold signsIn
  rw [e]
  exact if_pos ⟨hl, (sealed_text hl).symm⟩
theorem sealed_whole {l : List Nat} (hl : okText l = true) : wholeOf (sealedC l) = some l := by
  unfold wholeOf
  rw [sealed_signs hl]
  exact if_pos rfl
/-! ### the law's own reading: texts -/
def byteAt (vs : List Nat) (a : Nat) : Nat := hexval 0 ((vs.drop a).take 2)
def bytes (vs : List Nat) : List Nat := ats.map (byteAt vs)
def manyOf (vs : List Nat) : Nat := ((bytes vs).filter fun c => !decide (c = 255)).length
def codeText (vs : List Nat) : Option (List Nat) :=
  if ((bytes vs).take (manyOf vs)).all okSign = true ∧ vs.drop (2 * manyOf vs) = List.replicate (226 - 2 * manyOf vs) 15 then some ((bytes vs).take (manyOf vs)) else none
theorem bytes_len (vs : List Nat) : (bytes vs).length = 113 := by simp [bytes, ats]
theorem many_le (vs : List Nat) : manyOf vs ≤ 113 := by
  have := List.length_filter_le (fun c => !decide (c = 255)) (bytes vs)
  rw [bytes_len] at this
  exact this
theorem bytes_text {vs tl : List Nat} : ∀ (l : List Nat) (i m : Nat), l.length ≤ m → (∀ c ∈ l, okSign c = true) → vs.drop (2 * i) = l.flatMap (digits 2) ++ (List.replicate (2 * (m - l.length)) 15 ++ tl) → (List.range' i m).map (fun k => byteAt vs (2 * k)) = l ++ List.replicate (m - l.length) 255
  | [], i, 0, _, _, _ => by simp
  | [], i, m + 1, _, _, h => by
    have h2 : (vs.drop (2 * i)).take 2 = [15, 15] := by
      rw [h, List.flatMap_nil, List.nil_append, List.length_nil, show 2 * (m + 1 - 0) = 2 * m + 1 + 1 by omega, List.replicate_succ, List.replicate_succ]
      rfl
    have h3 : vs.drop (2 * (i + 1)) = ([] : List Nat).flatMap (digits 2) ++ (List.replicate (2 * (m - ([] : List Nat).length)) 15 ++ tl) := by
      rw [show 2 * (i + 1) = 2 * i + 2 by omega, ← List.drop_drop, h, List.flatMap_nil, List.nil_append, List.length_nil, show 2 * (m + 1 - 0) = 2 * m + 1 + 1 by omega, List.replicate_succ, List.replicate_succ]
      rfl
    have ih := bytes_text (vs := vs) (tl := tl) [] (i + 1) m (by simp) (by intro c hc; cases hc) h3
    rw [List.range'_succ, List.map_cons, ih]
    show byteAt vs (2 * i) :: ([] ++ List.replicate (m - 0) 255) = [] ++ List.replicate (m + 1 - 0) 255
    rw [byteAt, h2]
    show _ = List.replicate (m + 1) 255
    rw [List.replicate_succ]; rfl
  | c :: l, i, 0, hl, _, _ => by simp at hl
  | c :: l, i, m + 1, hl, hs, h => by
    have hc := hs c (List.mem_cons_self ..)
    have hc2 := okSign_lt hc
    rw [List.flatMap_cons, List.append_assoc] at h
    have d2 : (digits 2 c).length = 2 := digits_len 2 c
    have h2 : (vs.drop (2 * i)).take 2 = digits 2 c := by rw [h, List.take_left' d2]
    have h3 : vs.drop (2 * (i + 1)) = l.flatMap (digits 2) ++ (List.replicate (2 * (m - l.length)) 15 ++ tl) := by
      rw [show 2 * (i + 1) = 2 * i + 2 by omega, ← List.drop_drop, h, List.drop_left' d2, List.length_cons, show m + 1 - (l.length + 1) = m - l.length by omega]
    have hx : hexval 0 (digits 2 c) = c := by rw [hexval_digits]; exact Nat.mod_eq_of_lt (by omega)
    rw [List.range'_succ, List.map_cons, byteAt, h2, hx, bytes_text l (i + 1) m (by simpa using hl) (fun d hd => hs d (List.mem_cons_of_mem _ hd)) h3, List.length_cons, show m + 1 - (l.length + 1) = m - l.length by omega]
    rfl
theorem bytes_textC {l : List Nat} (hl : okText l = true) : bytes (textC l) = l ++ List.replicate (113 - l.length) 255 := by
  have h := bytes_text (vs := textC l) (tl := []) l 0 113 (okText_len hl) (okText_all hl) (by
    rw [Nat.mul_zero, List.drop_zero, textC, show 2 * (113 - l.length) = 226 - 2 * l.length by omega, List.append_nil])
  rw [← h, bytes, ats, List.map_map, List.range_eq_range']
  rfl
theorem many_textC {l : List Nat} (hl : okText l = true) : manyOf (textC l) = l.length := by
  rw [manyOf, bytes_textC hl, List.filter_append, List.length_append]
  have h1 : l.filter (fun c => !decide (c = 255)) = l := List.filter_eq_self.mpr fun c hc => by
    have := okSign_lt (okText_all hl c hc)
    simp; omega
  have h2 : (List.replicate (113 - l.length) 255).filter (fun c => !decide (c = 255)) = [] := List.filter_eq_nil_iff.mpr fun c hc => by
    rw [List.eq_of_mem_replicate hc]; simp
  rw [h1, h2]; rfl
theorem code_of {l : List Nat} (hl : okText l = true) : codeText (textC l) = some l := by
  have e : (bytes (textC l)).take (manyOf (textC l)) = l := by rw [many_textC hl, bytes_textC hl, List.take_left]
  unfold codeText
  rw [e, if_pos]
  refine ⟨List.all_eq_true.mpr (okText_all hl), ?_⟩
  rw [many_textC hl, textC, List.drop_left' (flat2_len l)]
theorem two_back {x y : Nat} (hx : x < 16) (hy : y < 16) : digits 2 (hexval 0 [x, y]) = [x, y] := by
  have e : hexval 0 [x, y] = x * 16 + y := by simp [hexval]
  rw [e]
  simp only [digits, List.nil_append, List.cons_append, List.append_assoc]
  congr 1
  · omega
  · congr 1; omega
theorem bytes_back {vs : List Nat} (hl : vs.length = 226) (hc : Cells vs) : ∀ n, n ≤ 113 → ((bytes vs).take n).flatMap (digits 2) = vs.take (2 * n)
  | 0, _ => by simp
  | n + 1, h => by
    have ih := bytes_back hl hc n (by omega)
    have e1 : (bytes vs)[n]? = some (byteAt vs (2 * n)) := by
      rw [bytes, ats, List.map_map, List.getElem?_map, List.getElem?_range (by omega)]; rfl
    rw [List.take_add_one, e1, Option.toList_some, List.flatMap_append, ih, show 2 * (n + 1) = 2 * n + 2 by omega, List.take_add]
    congr 1
    rw [List.flatMap_singleton, byteAt]
    have h2 : ((vs.drop (2 * n)).take 2).length = 2 := by rw [List.length_take, List.length_drop]; omega
    obtain ⟨x, y, e⟩ : ∃ x y, (vs.drop (2 * n)).take 2 = [x, y] := by
      match (vs.drop (2 * n)).take 2, h2 with
      | [x, y], _ => exact ⟨x, y, rfl⟩
    have hx : ∀ v ∈ [x, y], v < 16 := fun v hv => hc v (List.mem_of_mem_drop (List.mem_of_mem_take (by rw [e]; exact hv)))
    rw [e, two_back (hx x (by simp)) (hx y (by simp))]
theorem code_some {vs l : List Nat} (hl : vs.length = 226) (hc : Cells vs) (h : codeText vs = some l) : okText l = true ∧ textC l = vs := by
  unfold codeText at h
  split at h
  · rename_i hh
    cases h
    have hm := many_le vs
    have hn : ((bytes vs).take (manyOf vs)).length = manyOf vs := by rw [List.length_take, bytes_len]; omega
    refine ⟨?_, ?_⟩
    · unfold okText
      rw [Bool.and_eq_true]
      exact ⟨decide_eq_true (by omega), hh.1⟩
    · rw [textC, hn, ← hh.2, bytes_back hl hc _ hm, List.take_append_drop]
  · cases h
theorem signs_of {vs l : List Nat} (hl : okText l = true) (h : vs.take 226 = textC l) : signsIn vs = some l := by
  have e : scan vs ats [] = some l := by
    have hlen := okText_len hl
    have := scan_text (vs := vs) (tl := vs.drop 226) l 0 113 [] hlen (okText_all hl) (by
      rw [Nat.mul_zero, List.drop_zero, show 2 * (113 - l.length) = 226 - 2 * l.length by omega, ← List.append_assoc]
      show vs = textC l ++ vs.drop 226
      rw [← h, List.take_append_drop])
    rw [← List.range_eq_range'] at this
    exact this
  unfold signsIn
  rw [e]
  exact if_pos ⟨hl, h.symm⟩
theorem signs_some {vs l : List Nat} (hs : signsIn vs = some l) : okText l = true ∧ textC l = vs.take 226 := by
  unfold signsIn at hs
  split at hs
  · split at hs
    · rename_i h; cases hs; exact h
    · cases hs
  · cases hs
theorem code_signs {vs : List Nat} (hl : 226 ≤ vs.length) (hc : Cells vs) : codeText (vs.take 226) = signsIn vs := by
  have hl2 : (vs.take 226).length = 226 := by rw [List.length_take]; omega
  have hc2 : Cells (vs.take 226) := fun v hv => hc v (List.mem_of_mem_take hv)
  cases h : signsIn vs with
  | some l =>
    obtain ⟨h1, h2⟩ := signs_some h
    rw [← h2, code_of h1]
  | none =>
    cases g : codeText (vs.take 226) with
    | none => rfl
    | some l =>
      obtain ⟨h1, h2⟩ := code_some hl2 hc2 g
      rw [signs_of h1 h2.symm] at h
      cases h
/-! ### sums of a page with one cell otherwise -/
theorem sums3_acc : ∀ (vs : List Nat) (k a b c : Nat), sums3 k vs (a, b, c) = (a + (sums3 k vs (0, 0, 0)).1, b + (sums3 k vs (0, 0, 0)).2.1, c + (sums3 k vs (0, 0, 0)).2.2)
  | [], k, a, b, c => rfl
  | v :: vs, k, a, b, c => by
    rw [sums3, sums3_acc vs, sums3, sums3_acc vs (k + 1) (0 + _)]
    simp only [Nat.zero_add, Nat.add_assoc]
theorem sums3_cons (v : Nat) (vs : List Nat) (k : Nat) : sums3 k (v :: vs) (0, 0, 0) = (15 - v + (sums3 (k + 1) vs (0, 0, 0)).1, (15 - v) * (k + 1) + (sums3 (k + 1) vs (0, 0, 0)).2.1, (15 - v) * (k + 1) * (k + 1) + (sums3 (k + 1) vs (0, 0, 0)).2.2) := by
  rw [sums3, sums3_acc vs]
  simp only [Nat.zero_add]
theorem sums3_set : ∀ (vs : List Nat) (k a d : Nat), a < vs.length → vs.getD a 0 + d ≤ 15 →
    (sums3 k vs (0, 0, 0)).1 = (sums3 k (vs.set a (vs.getD a 0 + d)) (0, 0, 0)).1 + d ∧
    (sums3 k vs (0, 0, 0)).2.1 = (sums3 k (vs.set a (vs.getD a 0 + d)) (0, 0, 0)).2.1 + d * (k + a + 1) ∧
    (sums3 k vs (0, 0, 0)).2.2 = (sums3 k (vs.set a (vs.getD a 0 + d)) (0, 0, 0)).2.2 + d * (k + a + 1) * (k + a + 1)
  | [], k, a, d, h, _ => by simp at h
  | v :: vs, k, 0, d, h, h2 => by
    have h2 : v + d ≤ 15 := h2
    have e : (v :: vs).set 0 ((v :: vs).getD 0 0 + d) = (v + d) :: vs := rfl
    have e2 : 15 - v = 15 - (v + d) + d := by omega
    rw [e, sums3_cons, sums3_cons, e2]
    simp only [Nat.add_zero, Nat.add_mul]
    omega
  | v :: vs, k, a + 1, d, h, h2 => by
    have ih := sums3_set vs (k + 1) a d (by simpa using h) (by simpa using h2)
    have e : (v :: vs).set (a + 1) ((v :: vs).getD (a + 1) 0 + d) = v :: vs.set a (vs.getD a 0 + d) := rfl
    rw [e, sums3_cons, sums3_cons]
    rw [show k + (a + 1) + 1 = k + 1 + a + 1 by omega]
    simp only
    omega
theorem setAt_set {vs : List Nat} {a v : Nat} (h : a < vs.length) : setAt vs a v = vs.set a v := by
  rw [setAt, List.set_eq_take_append_cons_drop, if_pos h]
  simp
theorem getD_set_self {vs : List Nat} {a v : Nat} (h : a < vs.length) : (vs.set a v).getD a 0 = v := by
  rw [List.getD_eq_getElem?_getD, List.getElem?_set_self h]; rfl
theorem getD_set_ne {vs : List Nat} {a i v : Nat} (h : a ≠ i) : (vs.set a v).getD i 0 = vs.getD i 0 := by
  rw [List.getD_eq_getElem?_getD, List.getElem?_set_ne h, ← List.getD_eq_getElem?_getD]
theorem take_getD {vs : List Nat} {n i : Nat} (h : i < n) : (vs.take n).getD i 0 = vs.getD i 0 := by
  rw [List.getD_eq_getElem?_getD, List.getElem?_take_of_lt h, ← List.getD_eq_getElem?_getD]
theorem cells_set {vs : List Nat} {a v : Nat} (hc : Cells vs) (hv : v < 16) : Cells (vs.set a v) := fun w h => by
  rcases List.mem_or_eq_of_mem_set h with h | h
  · exact hc w h
  · omega
/-! ### sums that are told -/
theorem digits_hexval' : ∀ (n : Nat) (l : List Nat), l.length = n → Cells l → digits n (hexval 0 l) = l
  | 0, l, h, _ => by
    have : l = [] := List.length_eq_zero_iff.mp h
    subst this; rfl
  | n + 1, l, h, hc => by
    have hne : l ≠ [] := fun q => by rw [q] at h; simp at h
    have e := List.dropLast_concat_getLast hne
    have hx : l.getLast hne < 16 := hc _ (List.getLast_mem hne)
    have ih := digits_hexval' n l.dropLast (by rw [List.length_dropLast]; omega) fun v hv => hc v ((List.dropLast_sublist l).subset hv)
    rw [← e, digits, hexval_app, show (hexval 0 l.dropLast * 16 + l.getLast hne) / 16 = hexval 0 l.dropLast by omega, show (hexval 0 l.dropLast * 16 + l.getLast hne) % 16 = l.getLast hne by omega, ih]
theorem digits_hexval (l : List Nat) (hc : Cells l) : digits l.length (hexval 0 l) = l := digits_hexval' _ l rfl hc
theorem told2_back {vs : List Nat} {a w n : Nat} (hl : a + w + w ≤ vs.length) (hc : Cells vs) (h : toldOne vs a w = some n) : (vs.drop a).take (w + w) = told2 w n := by
  unfold toldOne at h
  split at h
  · rename_i e
    cases h
    have hl2 : ((vs.drop a).take w).length = w := by rw [List.length_take, List.length_drop]; omega
    have d := digits_hexval ((vs.drop a).take w) fun v hv => hc v (List.mem_of_mem_drop (List.mem_of_mem_take hv))
    rw [hl2] at d
    rw [told2, d, e, List.take_add, List.drop_drop]
  · cases h
theorem toldS_some {vs : List Nat} {t : Nat × Nat × Nat} (h : toldS vs = some t) : toldOne vs 226 3 = some t.1 ∧ toldOne vs 232 5 = some t.2.1 ∧ toldOne vs 242 7 = some t.2.2 := by
  unfold toldS at h
  split at h
  · rename_i a b c h1 h2 h3
    cases h
    exact ⟨h1, h2, h3⟩
  · cases h
theorem tail_told {vs : List Nat} {t : Nat × Nat × Nat} (hl : vs.length = 256) (hc : Cells vs) (h : toldS vs = some t) : vs.drop 226 = tail3 t := by
  obtain ⟨h1, h2, h3⟩ := toldS_some h
  have e1 := told2_back (by omega) hc h1
  have e2 := told2_back (by omega) hc h2
  have e3 := told2_back (by omega) hc h3
  have e : (vs.drop 226) = (vs.drop 226).take 6 ++ ((vs.drop 232).take 10 ++ (vs.drop 242).take 14) := by
    have a1 : (vs.drop 242).take 14 = vs.drop 242 := List.take_of_length_le (by rw [List.length_drop]; omega)
    rw [a1]
    have a2 : vs.drop 242 = (vs.drop 232).drop 10 := by rw [List.drop_drop]
    rw [a2, List.take_append_drop]
    have a3 : vs.drop 232 = (vs.drop 226).drop 6 := by rw [List.drop_drop]
    rw [a3, List.take_append_drop]
  rw [e, tail3, List.append_assoc]
  rw [← e1, ← e2, ← e3]
theorem toldOne_at {vs : List Nat} {a w n : Nat} (h : (vs.drop a).take (w + w) = told2 w n) (hn : n < 16 ^ w) : toldOne vs a w = some n := by
  have hd := digits_len w n
  have e1 : (vs.drop a).take w = digits w n := by
    have : ((vs.drop a).take (w + w)).take w = (vs.drop a).take w := by rw [List.take_take]; congr 1; omega
    rw [← this, h, told2, List.take_left' hd]
  have e2 : (vs.drop (a + w)).take w = turned (digits w n) := by
    have : ((vs.drop a).take (w + w)).drop w = (vs.drop (a + w)).take w := by rw [List.drop_take, List.drop_drop]; congr 1; omega
    rw [← this, h, told2, List.drop_left' hd]
  unfold toldOne
  rw [e1, e2, if_pos rfl, hexval_digits, Nat.mod_eq_of_lt hn]
theorem told_tail {vs : List Nat} {t : Nat × Nat × Nat} (h : vs.drop 226 = tail3 t) (h1 : t.1 < 16 ^ 3) (h2 : t.2.1 < 16 ^ 5) (h3 : t.2.2 < 16 ^ 7) : toldS vs = some t := by
  have l1 := told2_len 3 t.1
  have l2 := told2_len 5 t.2.1
  have l3 := told2_len 7 t.2.2
  have a2 : vs.drop 232 = (vs.drop 226).drop 6 := by rw [List.drop_drop]
  have a3 : vs.drop 242 = (vs.drop 226).drop 16 := by rw [List.drop_drop]
  rw [tail3, List.append_assoc] at h
  have e1 : (vs.drop 226).take (3 + 3) = told2 3 t.1 := by rw [h, List.take_left' l1]
  have e2 : (vs.drop 232).take (5 + 5) = told2 5 t.2.1 := by rw [a2, h, List.drop_left' l1, List.take_left' l2]
  have e3 : (vs.drop 242).take (7 + 7) = told2 7 t.2.2 := by
    rw [a3, h, ← List.append_assoc, List.drop_left' (by rw [List.length_append, l1, l2]), List.take_of_length_le (by omega)]
  unfold toldS
  rw [toldOne_at e1 h1, toldOne_at e2 h2, toldOne_at e3 h3]
/-- the cells behind the text agree, each with its contrary one -/
def Con (vs : List Nat) : Prop := (∀ j, j < 3 → vs.getD (229 + j) 0 = 15 - vs.getD (226 + j) 0) ∧ (∀ j, j < 5 → vs.getD (237 + j) 0 = 15 - vs.getD (232 + j) 0) ∧ ∀ j, j < 7 → vs.getD (249 + j) 0 = 15 - vs.getD (242 + j) 0
theorem con_one {vs : List Nat} {a w n : Nat} (hl : a + w + w ≤ vs.length) (h : toldOne vs a w = some n) (j : Nat) (hj : j < w) : vs.getD (a + w + j) 0 = 15 - vs.getD (a + j) 0 := by
  unfold toldOne at h
  split at h
  · rename_i e
    have e1 : (turned ((vs.drop a).take w)).getD j 0 = 15 - vs.getD (a + j) 0 := by
      rw [turned, List.getD_eq_getElem?_getD, List.getElem?_map, List.getElem?_take_of_lt hj, List.getElem?_drop]
      have hx : a + j < vs.length := by omega
      rw [List.getD_eq_getElem?_getD, List.getElem?_eq_getElem hx]; rfl
    have e2 : ((vs.drop (a + w)).take w).getD j 0 = vs.getD (a + w + j) 0 := by rw [take_getD hj, getD_drop]
    rw [← e1, ← e2, e]
  · cases h
theorem con_told {vs : List Nat} {t : Nat × Nat × Nat} (hl : vs.length = 256) (h : toldS vs = some t) : Con vs := by
  obtain ⟨h1, h2, h3⟩ := toldS_some h
  exact ⟨fun j hj => con_one (by omega) h1 j hj, fun j hj => con_one (by omega) h2 j hj, fun j hj => con_one (by omega) h3 j hj⟩
theorem con_two {vs ps : List Nat} (hv : Con vs) (hp : Con ps) (cv : Cells vs) (cp : Cells ps) {a : Nat} (h1 : 226 ≤ a) (h2 : a < 256) (h : ∀ b, 226 ≤ b → b < 256 → b ≠ a → vs.getD b 0 = ps.getD b 0) : vs.getD a 0 = ps.getD a 0 := by
  have ga := getD_cell cv a
  have gb := getD_cell cp a
  have fwd : ∀ b, 226 ≤ b → b < 256 → b ≠ a → vs.getD b 0 = 15 - vs.getD a 0 → ps.getD b 0 = 15 - ps.getD a 0 → vs.getD a 0 = ps.getD a 0 := fun b b1 b2 b3 e1 e2 => by
    have := h b b1 b2 b3
    omega
  have bwd : ∀ b, 226 ≤ b → b < 256 → b ≠ a → vs.getD a 0 = 15 - vs.getD b 0 → ps.getD a 0 = 15 - ps.getD b 0 → vs.getD a 0 = ps.getD a 0 := fun b b1 b2 b3 e1 e2 => by
    rw [e1, e2, h b b1 b2 b3]
  by_cases c1 : a < 229
  · have x1 := hv.1 (a - 226) (by omega)
    have x2 := hp.1 (a - 226) (by omega)
    rw [show 226 + (a - 226) = a by omega] at x1 x2
    exact fwd _ (by omega) (by omega) (by omega) x1 x2
  by_cases c2 : a < 232
  · have x1 := hv.1 (a - 229) (by omega)
    have x2 := hp.1 (a - 229) (by omega)
    rw [show 229 + (a - 229) = a by omega] at x1 x2
    exact bwd _ (by omega) (by omega) (by omega) x1 x2
  by_cases c3 : a < 237
  · have x1 := hv.2.1 (a - 232) (by omega)
    have x2 := hp.2.1 (a - 232) (by omega)
    rw [show 232 + (a - 232) = a by omega] at x1 x2
    exact fwd _ (by omega) (by omega) (by omega) x1 x2
  by_cases c4 : a < 242
  · have x1 := hv.2.1 (a - 237) (by omega)
    have x2 := hp.2.1 (a - 237) (by omega)
    rw [show 237 + (a - 237) = a by omega] at x1 x2
    exact bwd _ (by omega) (by omega) (by omega) x1 x2
  by_cases c5 : a < 249
  · have x1 := hv.2.2 (a - 242) (by omega)
    have x2 := hp.2.2 (a - 242) (by omega)
    rw [show 242 + (a - 242) = a by omega] at x1 x2
    exact fwd _ (by omega) (by omega) (by omega) x1 x2
  · have x1 := hv.2.2 (a - 249) (by omega)
    have x2 := hp.2.2 (a - 249) (by omega)
    rw [show 249 + (a - 249) = a by omega] at x1 x2
    exact bwd _ (by omega) (by omega) (by omega) x1 x2
/-! ### the law's own reader tells what the program tells -/
def ownLift (vs : List Nat) : Option (Nat × Nat) := match toldOne vs 226 3, toldOne vs 232 5 with
  | some p, some q =>
    if ¬ (1 ≤ ((sums3 0 (vs.take 226) (0, 0, 0)).1 : Int) - p ∧ ((sums3 0 (vs.take 226) (0, 0, 0)).1 : Int) - p ≤ 15) then none
    else if ¬ (0 ≤ (((sums3 0 (vs.take 226) (0, 0, 0)).2.1 : Int) - q) / (((sums3 0 (vs.take 226) (0, 0, 0)).1 : Int) - p) - 1 ∧ (((sums3 0 (vs.take 226) (0, 0, 0)).2.1 : Int) - q) / (((sums3 0 (vs.take 226) (0, 0, 0)).1 : Int) - p) - 1 < 226) then none
    else if (((sums3 0 (vs.take 226) (0, 0, 0)).2.1 : Int) - q) ≠ (((sums3 0 (vs.take 226) (0, 0, 0)).1 : Int) - p) * ((((sums3 0 (vs.take 226) (0, 0, 0)).2.1 : Int) - q) / (((sums3 0 (vs.take 226) (0, 0, 0)).1 : Int) - p) - 1 + 1) then none
    else if (15 : Int) < (vs.getD ((((sums3 0 (vs.take 226) (0, 0, 0)).2.1 : Int) - q) / (((sums3 0 (vs.take 226) (0, 0, 0)).1 : Int) - p) - 1).toNat 0 : Nat) + (((sums3 0 (vs.take 226) (0, 0, 0)).1 : Int) - p) then none
    else some (((((sums3 0 (vs.take 226) (0, 0, 0)).2.1 : Int) - q) / (((sums3 0 (vs.take 226) (0, 0, 0)).1 : Int) - p) - 1).toNat, ((vs.getD ((((sums3 0 (vs.take 226) (0, 0, 0)).2.1 : Int) - q) / (((sums3 0 (vs.take 226) (0, 0, 0)).1 : Int) - p) - 1).toNat 0 : Nat) + (((sums3 0 (vs.take 226) (0, 0, 0)).1 : Int) - p)).toNat)
  | _, _ => none
def unlAll (vs ps : List Nat) : List Nat := (List.range 256).filter fun a => !decide (vs.getD a 0 = ps.getD a 0)
def ownFell (vs ps : List Nat) : Option Nat := match unlAll vs ps with
  | [a] => if vs.getD a 0 < ps.getD a 0 then some a else none
  | _ => none
inductive Tld where
  | whole (l : List Nat) | mend (l : List Nat) (a : Nat) | torn
def ownTry (vs : List Nat) : Option (List Nat) → Option Tld
  | none => none
  | some l => if sealedC l = vs then some (.whole l) else (ownFell vs (sealedC l)).map (.mend l)
def ownTwo (vs : List Nat) : Option Tld := match ownLift vs with
  | none => none
  | some p => ownTry vs (codeText ((setAt vs p.1 p.2).take 226))
def ownTell (vs : List Nat) : Tld := match ownTry vs (codeText (vs.take 226)) with
  | some t => t
  | none => (ownTwo vs).getD .torn
def prgTell (vs : List Nat) : Tld := match wholeOf vs with
  | some l => .whole l
  | none => match mendOf vs with
    | some p => .mend p.1 p.2
    | none => .torn
theorem range_256 : List.range 256 = List.range 226 ++ tails := by decide +kernel
theorem unl_head {vs ps : List Nat} (h : vs.take 226 = ps.take 226) : unlAll vs ps = unl vs ps := by
  unfold unlAll unl
  rw [range_256, List.filter_append]
  have : (List.range 226).filter (fun a => !decide (vs.getD a 0 = ps.getD a 0)) = [] := List.filter_eq_nil_iff.mpr fun a ha => by
    have ha := List.mem_range.mp ha
    have e : vs.getD a 0 = ps.getD a 0 := by rw [← take_getD (vs := vs) ha, h, take_getD ha]
    simp only [e, decide_true, Bool.not_true, Bool.false_eq_true, not_false_eq_true]
  rw [this, List.nil_append]
theorem first_try {vs : List Nat} (hl : vs.length = 256) (hc : Cells vs) : ownTry vs (codeText (vs.take 226)) = match wholeOf vs with
    | some l => some (.whole l)
    | none => (fallenSums vs).map fun p => .mend p.1 p.2 := by
  rw [code_signs (by omega) hc]
  unfold wholeOf fallenSums
  cases hs : signsIn vs with
  | none => rfl
  | some l =>
    obtain ⟨h1, h2⟩ := signs_some hs
    simp only [ownTry]
    by_cases hw : sealedC l = vs
    · rw [if_pos hw, if_pos hw]
    · rw [if_neg hw, if_neg hw]
      simp only
      unfold ownFell
      rw [unl_head (by rw [sealed_text h1, h2])]
      cases hu : unl vs (sealedC l) with
      | nil => rfl
      | cons a u =>
        cases u with
        | cons b u => rfl
        | nil =>
          have hne : ¬ (vs.getD a 0 = (sealedC l).getD a 0) := by
            have : a ∈ unl vs (sealedC l) := by rw [hu]; exact List.mem_singleton.mpr rfl
            have := (List.mem_filter.mp this).2
            simpa using this
          simp only
          by_cases c : vs.getD a 0 < (sealedC l).getD a 0
          · rw [if_pos c, if_neg (by omega)]; rfl
          · rw [if_neg c, if_pos (by omega)]; rfl
theorem not_both {vs : List Nat} {p : List Nat × Nat} (hl : vs.length = 256) (hc : Cells vs) (h : fallenText vs = some p) : fallenSums vs = none := by
  have ht : ∃ t, toldS vs = some t := by
    unfold fallenText at h
    cases q : toldS vs with
    | none => rw [q] at h; cases h
    | some t => exact ⟨t, rfl⟩
  obtain ⟨t, ht⟩ := ht
  have cv := con_told hl ht
  unfold fallenSums
  cases hs : signsIn vs with
  | none => rfl
  | some l =>
    obtain ⟨h1, h2⟩ := signs_some hs
    have hb := sums3_bound (textC l) (by rw [textC_len (okText_len h1)]; omega)
    have cp := con_told (sealedC_len h1) (told_tail (sealed_tail h1) hb.1 hb.2.1 hb.2.2)
    simp only
    cases hu : unl vs (sealedC l) with
    | nil => rfl
    | cons a u =>
      cases u with
      | cons b u => rfl
      | nil =>
        exfalso
        have ha : a ∈ unl vs (sealedC l) := by rw [hu]; exact List.mem_singleton.mpr rfl
        obtain ⟨m1, m2⟩ := List.mem_filter.mp ha
        obtain ⟨g1, g2⟩ := tails_mem.mp m1
        have := con_two cv cp hc (sealedC_cells l) g1 g2 fun b b1 b2 b3 => Classical.byContradiction fun q => b3 (by
          have : b ∈ unl vs (sealedC l) := List.mem_filter.mpr ⟨tails_mem.mpr ⟨b1, b2⟩, by simpa using q⟩
          rw [hu] at this
          exact List.mem_singleton.mp this)
        simp at m2
        exact m2 this
theorem filter_one : ∀ (n a : Nat), a < n → (List.range n).filter (fun i => decide (i = a)) = [a]
  | 0, a, h => by omega
  | n + 1, a, h => by
    rw [List.range_succ, List.filter_append]
    by_cases e : a = n
    · subst e
      have : (List.range a).filter (fun i => decide (i = a)) = [] := List.filter_eq_nil_iff.mpr fun i hi => by
        have := List.mem_range.mp hi
        simp; omega
      rw [this]; simp
    · have e2 : n ≠ a := fun z => e z.symm
      rw [filter_one n a (by omega)]
      simp [e2]
theorem unl_set {vs : List Nat} {a v : Nat} (hl : vs.length = 256) (ha : a < 256) (hv : v ≠ vs.getD a 0) : unlAll vs (vs.set a v) = [a] := by
  unfold unlAll
  have : (fun i => !decide (vs.getD i 0 = (vs.set a v).getD i 0)) = fun i => decide (i = a) := by
    funext i
    by_cases e : i = a
    · subst e
      have hv' : ¬ (vs.getD i 0 = v) := fun z => hv z.symm
      rw [getD_set_self (by omega), decide_eq_false hv']; simp
    · rw [getD_set_ne (fun z => e z.symm)]
      simp [e]
  rw [this, filter_one 256 a ha]
/-- what the sums are of a page with one cell less -/
theorem sums_less {vs : List Nat} {a d : Nat} (hl : vs.length = 256) (ha : a < 226) (hd : vs.getD a 0 + d ≤ 15) :
    (sums3 0 (vs.take 226) (0, 0, 0)).1 = (sums3 0 ((vs.set a (vs.getD a 0 + d)).take 226) (0, 0, 0)).1 + d ∧
    (sums3 0 (vs.take 226) (0, 0, 0)).2.1 = (sums3 0 ((vs.set a (vs.getD a 0 + d)).take 226) (0, 0, 0)).2.1 + d * (a + 1) ∧
    (sums3 0 (vs.take 226) (0, 0, 0)).2.2 = (sums3 0 ((vs.set a (vs.getD a 0 + d)).take 226) (0, 0, 0)).2.2 + d * (a + 1) * (a + 1) := by
  have h := sums3_set (vs.take 226) 0 a d (by rw [List.length_take]; omega) (by rw [take_getD ha]; exact hd)
  rw [take_getD ha, Nat.zero_add] at h
  have e : (vs.set a (vs.getD a 0 + d)).take 226 = (vs.take 226).set a (vs.getD a 0 + d) := by rw [List.take_set]
  rw [e]
  exact h
theorem ediv_at {d : Int} {a : Nat} (hd : 1 ≤ d) : (d * ((a : Nat) + 1 : Int)) / d - 1 = (a : Nat) := by
  rw [Int.mul_ediv_cancel_left _ (by omega)]; omega
theorem fallAt_of {vs : List Nat} {s t : Nat × Nat × Nat} {a d : Nat} (hd : 1 ≤ d) (ha : a < 226) (hv : vs.getD a 0 + d ≤ 15) (h1 : s.1 = t.1 + d) (h2 : s.2.1 = t.2.1 + d * (a + 1)) (h3 : s.2.2 = t.2.2 + d * (a + 1) * (a + 1)) : fallAt vs s t = some (a, vs.getD a 0 + d) := by
  have e1 : (s.1 : Int) - t.1 = d := by omega
  have e2 : (s.2.1 : Int) - t.2.1 = d * ((a : Nat) + 1 : Int) := by rw [h2]; simp; omega
  have e3 : (s.2.2 : Int) - t.2.2 = d * ((a : Nat) + 1 : Int) * ((a : Nat) + 1 : Int) := by rw [h3]; simp; omega
  have e4 := ediv_at (d := d) (a := a) (by omega)
  unfold fallAt
  rw [e1, e2, e3, e4, if_neg, if_neg, if_neg, if_neg]
  · congr 1
  · simp only [Int.toNat_natCast]; omega
  · simp
  · omega
  · intro q
    rcases q with q | q
    · omega
    · exact q (Int.mul_emod_right _ _)
theorem fallAt_some {vs : List Nat} {s t : Nat × Nat × Nat} {p : Nat × Nat} (h : fallAt vs s t = some p) : ∃ a d, 1 ≤ d ∧ a < 226 ∧ vs.getD a 0 + d ≤ 15 ∧ s.1 = t.1 + d ∧ s.2.1 = t.2.1 + d * (a + 1) ∧ s.2.2 = t.2.2 + d * (a + 1) * (a + 1) ∧ p = (a, vs.getD a 0 + d) := by
  unfold fallAt at h
  generalize hb : (s.1 : Int) - t.1 = b at h
  generalize hp : (s.2.1 : Int) - t.2.1 = pl at h
  generalize hq : (s.2.2 : Int) - t.2.2 = sq at h
  generalize hx : pl / b - 1 = x at h
  split at h
  · cases h
  rename_i c1
  split at h
  · cases h
  rename_i c2
  split at h
  · cases h
  rename_i c3
  split at h
  · cases h
  rename_i c4
  cases h
  have b1 : 1 ≤ b := by omega
  have c1' : pl % b = 0 := Classical.byContradiction fun z => c1 (.inr z)
  have c2 := Classical.not_not.mp c2
  have c3 := Classical.not_not.mp c3
  obtain ⟨a, rfl⟩ : ∃ a : Nat, x = (a : Nat) := ⟨x.toNat, by omega⟩
  obtain ⟨d, rfl⟩ : ∃ d : Nat, b = (d : Nat) := ⟨b.toNat, by omega⟩
  have epl : pl = (d : Int) * ((a : Nat) + 1 : Int) := by
    have := Int.mul_ediv_add_emod pl d
    rw [c1', show pl / (d : Int) = (a : Nat) + 1 by omega] at this
    omega
  simp only [Int.toNat_natCast] at c4
  refine ⟨a, d, by omega, by omega, by omega, by omega, ?_, ?_, ?_⟩
  · have : ((s.2.1 : Nat) : Int) = ((t.2.1 + d * (a + 1) : Nat) : Int) := by
      rw [Int.natCast_add, Int.natCast_mul]
      have e : ((a + 1 : Nat) : Int) = (a : Nat) + 1 := by omega
      rw [e]; omega
    omega
  · have : ((s.2.2 : Nat) : Int) = ((t.2.2 + d * (a + 1) * (a + 1) : Nat) : Int) := by
      rw [Int.natCast_add, Int.natCast_mul, Int.natCast_mul]
      have e : ((a + 1 : Nat) : Int) = (a : Nat) + 1 := by omega
      rw [e, ← epl]; omega
    omega
  · simp only [Int.toNat_natCast]
    congr 1
theorem ownLift_of {vs : List Nat} {p q a d : Nat} (h1 : toldOne vs 226 3 = some p) (h2 : toldOne vs 232 5 = some q) (hd : 1 ≤ d) (ha : a < 226) (hv : vs.getD a 0 + d ≤ 15) (e1 : (sums3 0 (vs.take 226) (0, 0, 0)).1 = p + d) (e2 : (sums3 0 (vs.take 226) (0, 0, 0)).2.1 = q + d * (a + 1)) : ownLift vs = some (a, vs.getD a 0 + d) := by
  unfold ownLift
  rw [h1, h2]
  simp only
  generalize sums3 0 (vs.take 226) (0, 0, 0) = s at *
  have f1 : (s.1 : Int) - p = d := by omega
  have f2 : (s.2.1 : Int) - q = d * ((a : Nat) + 1 : Int) := by rw [e2]; simp; omega
  have f4 := ediv_at (d := d) (a := a) (by omega)
  rw [f1, f2, f4, if_neg, if_neg, if_neg, if_neg]
  · congr 1
  · simp only [Int.toNat_natCast]; omega
  · simp
  · omega
  · omega
theorem ownLift_some {vs : List Nat} {r : Nat × Nat} (h : ownLift vs = some r) : ∃ p q a d, toldOne vs 226 3 = some p ∧ toldOne vs 232 5 = some q ∧ 1 ≤ d ∧ a < 226 ∧ vs.getD a 0 + d ≤ 15 ∧ (sums3 0 (vs.take 226) (0, 0, 0)).1 = p + d ∧ (sums3 0 (vs.take 226) (0, 0, 0)).2.1 = q + d * (a + 1) ∧ r = (a, vs.getD a 0 + d) := by
  unfold ownLift at h
  split at h
  · rename_i p q h1 h2
    generalize sums3 0 (vs.take 226) (0, 0, 0) = s at *
    generalize hb : (s.1 : Int) - p = b at h
    generalize hp : (s.2.1 : Int) - q = pl at h
    generalize hx : pl / b - 1 = x at h
    split at h
    · cases h
    rename_i c1
    split at h
    · cases h
    rename_i c2
    split at h
    · cases h
    rename_i c3
    split at h
    · cases h
    rename_i c4
    cases h
    have c1 := Classical.not_not.mp c1
    have c2 := Classical.not_not.mp c2
    have c3 := Classical.not_not.mp c3
    obtain ⟨a, rfl⟩ : ∃ a : Nat, x = (a : Nat) := ⟨x.toNat, by omega⟩
    obtain ⟨d, rfl⟩ : ∃ d : Nat, b = (d : Nat) := ⟨b.toNat, by omega⟩
    simp only [Int.toNat_natCast] at c4
    refine ⟨p, q, a, d, h1, h2, by omega, by omega, by omega, by omega, ?_, ?_⟩
    · have : ((s.2.1 : Nat) : Int) = ((q + d * (a + 1) : Nat) : Int) := by
        rw [Int.natCast_add, Int.natCast_mul]
        have e : ((a + 1 : Nat) : Int) = (a : Nat) + 1 := by omega
        rw [e]; omega
      omega
    · simp only [Int.toNat_natCast]
      congr 1
  · cases h
theorem drop_set {vs : List Nat} {a v : Nat} (ha : a < 226) : (vs.set a v).drop 226 = vs.drop 226 := by
  rw [List.drop_set, if_pos ha]
theorem second_of {vs : List Nat} {p : List Nat × Nat} (hl : vs.length = 256) (hc : Cells vs) (h : fallenText vs = some p) : ownTwo vs = some (.mend p.1 p.2) := by
  unfold fallenText at h
  cases ht : toldS vs with
  | none => rw [ht] at h; cases h
  | some t =>
    rw [ht] at h
    simp only at h
    cases hf : fallAt vs (sums3 0 (vs.take 226) (0, 0, 0)) t with
    | none => rw [hf] at h; cases h
    | some r =>
      rw [hf] at h
      obtain ⟨a, d, hd, ha, hv, h1, h2, h3, rfl⟩ := fallAt_some hf
      obtain ⟨t1, t2, t3⟩ := toldS_some ht
      obtain ⟨l, hs, rfl⟩ := Option.map_eq_some_iff.mp h
      simp only at hs ⊢
      have hset : setAt vs a (vs.getD a 0 + d) = vs.set a (vs.getD a 0 + d) := setAt_set (by omega)
      rw [hset] at hs
      have hc2 := cells_set (a := a) (v := vs.getD a 0 + d) hc (by omega)
      obtain ⟨ok, ht2⟩ := signs_some hs
      obtain ⟨u1, u2, u3⟩ := sums_less hl ha hv
      have hsum : sums3 0 (textC l) (0, 0, 0) = t := by
        rw [ht2]
        refine Prod.ext ?_ (Prod.ext ?_ ?_) <;> omega
      have hseal : sealedC l = vs.set a (vs.getD a 0 + d) := by
        rw [sealedC, hsum, ht2, ← tail_told hl hc ht, ← drop_set (vs := vs) (v := vs.getD a 0 + d) ha, List.take_append_drop]
      unfold ownTwo
      rw [ownLift_of t1 t2 hd ha hv h1 h2]
      simp only
      rw [hset, code_signs (by rw [List.length_set]; omega) hc2, hs]
      simp only [ownTry]
      rw [if_neg, hseal]
      · unfold ownFell
        rw [unl_set hl (by omega) (by omega)]
        simp only
        rw [getD_set_self (by omega), if_pos (by omega)]
        rfl
      · intro q
        have := getD_set_self (vs := vs) (a := a) (v := vs.getD a 0 + d) (by omega)
        rw [← hseal, q] at this
        omega
theorem second_some {vs : List Nat} {t : Tld} (hl : vs.length = 256) (hc : Cells vs) (h : ownTwo vs = some t) : ∃ p, fallenText vs = some p := by
  unfold ownTwo at h
  cases hf : ownLift vs with
  | none => rw [hf] at h; cases h
  | some r =>
    rw [hf] at h
    obtain ⟨p, q, a, d, t1, t2, hd, ha, hv, h1, h2, rfl⟩ := ownLift_some hf
    simp only at h
    have hset : setAt vs a (vs.getD a 0 + d) = vs.set a (vs.getD a 0 + d) := setAt_set (by omega)
    have hc2 := cells_set (a := a) (v := vs.getD a 0 + d) hc (by omega)
    rw [hset, code_signs (by rw [List.length_set]; omega) hc2] at h
    cases hs : signsIn (vs.set a (vs.getD a 0 + d)) with
    | none => rw [hs] at h; cases h
    | some l =>
      rw [hs] at h
      obtain ⟨ok, ht2⟩ := signs_some hs
      have e2 := ht2
      have hne : (sealedC l).getD a 0 = vs.getD a 0 + d := by
        rw [← take_getD (n := 226) ha, sealed_text ok, ht2, take_getD ha, getD_set_self (by omega)]
      simp only [ownTry] at h
      rw [if_neg (by intro q; rw [q] at hne; omega)] at h
      obtain ⟨b, hb, _⟩ := Option.map_eq_some_iff.mp h
      unfold ownFell at hb
      have hu : unlAll vs (sealedC l) = [b] := by
        split at hb
        · rename_i x hx
          split at hb
          · cases hb; exact hx
          · cases hb
        · cases hb
      have hab : a = b := by
        have : a ∈ unlAll vs (sealedC l) := List.mem_filter.mpr ⟨List.mem_range.mpr (by omega), by rw [hne]; simp; omega⟩
        rw [hu] at this
        exact List.mem_singleton.mp this
      have htail : vs.drop 226 = (sealedC l).drop 226 := ext_getD (by rw [List.length_drop, List.length_drop, sealedC_len ok, hl]) fun i hi => by
        rw [List.length_drop] at hi
        rw [getD_drop, getD_drop]
        refine Classical.byContradiction fun q => ?_
        have : 226 + i ∈ unlAll vs (sealedC l) := List.mem_filter.mpr ⟨List.mem_range.mpr (by omega), by simpa using q⟩
        rw [hu] at this
        have := List.mem_singleton.mp this
        omega
      rw [sealed_tail ok] at htail
      have hb3 := sums3_bound (textC l) (by rw [textC_len (okText_len ok)]; omega)
      have ht := told_tail htail hb3.1 hb3.2.1 hb3.2.2
      obtain ⟨u1, u2, u3⟩ := sums_less hl ha hv
      rw [← e2] at u1 u2 u3
      have hfa := fallAt_of (vs := vs) (s := sums3 0 (vs.take 226) (0, 0, 0)) (t := sums3 0 (textC l) (0, 0, 0)) hd ha hv u1 u2 u3
      refine ⟨(l, a), ?_⟩
      unfold fallenText
      rw [ht]
      simp only
      rw [hfa]
      simp only
      rw [hset, hs]
      rfl
theorem own_prg {vs : List Nat} (hl : vs.length = 256) (hc : Cells vs) : ownTell vs = prgTell vs := by
  unfold ownTell prgTell
  rw [first_try hl hc]
  cases hw : wholeOf vs with
  | some l => rfl
  | none =>
    simp only
    unfold mendOf
    cases ht : fallenText vs with
    | some p =>
      rw [not_both hl hc ht, second_of hl hc ht]
      rfl
    | none =>
      cases hs : fallenSums vs with
      | some p => rfl
      | none =>
        simp only [Option.map_none]
        cases h2 : ownTwo vs with
        | none => rfl
        | some t =>
          obtain ⟨p, hp⟩ := second_some hl hc h2
          rw [ht] at hp
          cases hp
end Lw
end

section
set_option Elab.async false
set_option linter.all false
set_option maxRecDepth 100000
set_option maxHeartbeats 4000000
namespace Lw
open PySem Wn
local macro_rules | `(tactic| walk_at "ev") => `(tactic| simp only [fnDef, fnOf, denSL, denS, den, denL, denB, denI, sSeq, sAsg, sRet, sRetN, sEx, sIf, sFor, sPar, sSet, sPass, sBrk, sCnt, bndS, bnd, Wn.ret, stuck, opt, eVar, eCst, eOp, eCall, eChain, bTru, bNot, bAnd, bOr, eOr, eAnd, eNot, eIf, lNil, lCons, eTup, eLst, eCell, eMt, eMl, eSl, oNo, oAt, eNeg, eLc, lcRun, fnDo, startE, fin, Tg.put, TgL.puts, isS_ite, if_le_sz, lstX_lst, lstOf_lst, add_int, sub_int, eq_int, ne_int, le_int, lt_int, gt_int, ge_int, is_non, isnot_non, isNon, asTru, truD, iArg, wipeE,
  List.map_cons, List.map_nil, List.length_cons, List.length_nil, List.getElem?_cons_zero, List.getElem?_cons_succ, List.set_cons_zero, List.set_cons_succ, List.getD_cons_zero, List.getD_cons_succ, List.cons_append, List.nil_append, List.replicate_succ, List.replicate_zero, Nat.zero_add, Nat.sub_self, Nat.add_one_sub_one, Nat.reduceAdd, Nat.reduceSub, Nat.reduceLeDiff, Nat.reduceEqDiff, if_true, if_false, Bool.false_eq_true, Bool.not_true, Bool.not_false, decide_true, decide_false, g1, g2, List.zip_cons_cons, List.zip_nil_right, List.foldl_cons, List.foldl_nil,
  mIndex, mJoin, mAppend, mExtend, mGet, eMd, eDcp, gDcp, sSetA, setA, bLen, bAbs, bMax, bMin, bSum, bAll, bAny, bOrd, bRepr, bIsi, tInt, tTup, tLst, nInt, nStr, nBool, nTup, nLst, oAdd, oSub, oMul, oMod, oDiv, oPow, cEq, cNe, cLt, cLe, cGt, cGe, cIn, cNi, cIs, cIn', Option.some_or, Option.or_none, Option.none_or])
local macro_rules | `(tactic| walk_at "evh") => `(tactic| simp only [*, fnDef, fnOf, denSL, denS, den, denL, denB, denI, sSeq, sAsg, sRet, sRetN, sEx, sIf, sFor, sPar, sSet, sPass, sBrk, sCnt, bndS, bnd, Wn.ret, stuck, opt, eVar, eCst, eOp, eCall, eChain, bTru, bNot, bAnd, bOr, eOr, eAnd, eNot, eIf, lNil, lCons, eTup, eLst, eCell, eMt, eMl, eSl, oNo, oAt, eNeg, eLc, lcRun, fnDo, startE, fin, Tg.put, TgL.puts, isS_ite, if_le_sz, lstX_lst, lstOf_lst, add_int, sub_int, eq_int, ne_int, le_int, lt_int, gt_int, ge_int, is_non, isnot_non, isNon, asTru, truD, iArg, wipeE,
  List.map_cons, List.map_nil, List.length_cons, List.length_nil, List.getElem?_cons_zero, List.getElem?_cons_succ, List.set_cons_zero, List.set_cons_succ, List.getD_cons_zero, List.getD_cons_succ, List.cons_append, List.nil_append, List.replicate_succ, List.replicate_zero, Nat.zero_add, Nat.sub_self, Nat.add_one_sub_one, Nat.reduceAdd, Nat.reduceSub, Nat.reduceLeDiff, Nat.reduceEqDiff, if_true, if_false, Bool.false_eq_true, Bool.not_true, Bool.not_false, decide_true, decide_false, g1, g2, List.zip_cons_cons, List.zip_nil_right, List.foldl_cons, List.foldl_nil,
  mIndex, mJoin, mAppend, mExtend, mGet, eMd, eDcp, gDcp, sSetA, setA, bLen, bAbs, bMax, bMin, bSum, bAll, bAny, bOrd, bRepr, bIsi, tInt, tTup, tLst, nInt, nStr, nBool, nTup, nLst, oAdd, oSub, oMul, oMod, oDiv, oPow, cEq, cNe, cLt, cLe, cGt, cGe, cIn, cNi, cIs, cIn', Option.some_or, Option.or_none, Option.none_or])
/-! ### reprs of tuples -/
/-- repr of it is a string that compares with itself -/
def Shows (d : D) : Prop := ∃ r, (∀ M, fRepr M d = some (.str r)) ∧ ∀ M, gNe M (.str r) (.str r) = some (.bl false)
theorem tl_len (x : Str) : (TL.tl x).length = x.length := by simp [TL.tl, Str.length]
theorem strOk_tl {x : Str} (h : ∀ c ∈ TL.tl x, c < 0x110000) : PyData.strOk x = true := by
  unfold PyData.strOk
  rw [Array.all_eq_true']
  intro c hc
  exact decide_eq_true (h c (by simpa [TL.tl] using hc))
structure Nice (k B : Nat) (p : PyData) : Prop where
  sh : p.showable = true
  nd : p.hasDict = false
  dp : p.depth ≤ k
  ln : (TL.tl p.shown).length ≤ B
  ok : ∀ c ∈ TL.tl p.shown, c < 0x110000
theorem Nice.mono {k k' B B' : Nat} {p : PyData} (h : Nice k B p) (hk : k ≤ k') (hB : B ≤ B') : Nice k' B' p := ⟨h.sh, h.nd, Nat.le_trans h.dp hk, Nat.le_trans h.ln hB, h.ok⟩
theorem Nice.shows {k B : Nat} {d : D} {p : PyData} (h : Nice k B p) (hk : k ≤ 60) (hB : B ≤ 10000000) (hs : isSeq d = true) (hp : toPy d = some p) : Shows d := by
  refine ⟨p.shown, fun M => ?_, fun M => ?_⟩
  · unfold fRepr
    rw [if_pos hs, hp]
    refine if_pos ⟨h.sh, h.nd, Nat.le_trans h.dp hk, ?_⟩
    have := h.ln
    rw [tl_len] at this
    unfold sizeLine
    omega
  · have ok := strOk_tl h.ok
    rw [gNe_str ok ok]
    simp
theorem rc_ok : ∀ c, c < 127 → ∀ q ∈ [34, 39], ∀ x ∈ Builtin.Str.reprChar q c, x < 0x110000 := by decide +kernel
theorem rt_fold (q : Nat) : ∀ (l : List Nat) (acc : Array Nat), (∀ x ∈ acc.toList, x < 0x110000) → (∀ c ∈ l, ∀ x ∈ Builtin.Str.reprChar q c, x < 0x110000) → ∀ x ∈ (l.foldl (fun out c => out ++ (Builtin.Str.reprChar q c).toArray) acc).toList, x < 0x110000
  | [], acc, h, _ => h
  | c :: l, acc, h, g => by
    rw [List.foldl_cons]
    refine rt_fold q l _ (fun x hx => ?_) fun d hd => g d (List.mem_cons_of_mem _ hd)
    rw [Array.toList_append, List.mem_append] at hx
    rcases hx with hx | hx
    · exact h x hx
    · exact g c (List.mem_cons_self ..) x hx
theorem quote_two (x : Str) : reprQuote x ∈ [34, 39] := by
  unfold reprQuote
  split <;> simp
theorem rt_ok {l : List Nat} (h : ∀ c ∈ l, c < 127) : ∀ x ∈ TL.tl (reprText (st l)), x < 0x110000 := by
  intro x hx
  unfold reprText TL.tl at hx
  rw [Array.toList_push, List.mem_append, List.mem_singleton, ← Array.foldl_toList] at hx
  have q := quote_two (st l)
  have q2 : reprQuote (st l) < 0x110000 := by
    simp only [List.mem_cons, List.not_mem_nil, or_false] at q
    omega
  rcases hx with hx | hx
  · refine rt_fold _ _ _ ?_ (fun c hc => rc_ok c ?_ _ q) x hx
    · intro y hy
      simp only [List.mem_singleton] at hy
      omega
    · rw [st_tl] at hc
      exact h c hc
  · omega
theorem rt_len {l : List Nat} (h : ∀ c ∈ l, c < 127) : (reprText (st l)).length ≤ 10 * l.length + 2 := by
  have := StrLaws.reprText_len (st l) (fun c hc => by
    rw [st_tl] at hc
    have := h c hc
    omega)
  rw [st_len] at this
  exact this
theorem nice_str {l : List Nat} (h : ∀ c ∈ l, c < 127) : Nice 0 (10 * l.length + 2) (.str (st l)) :=
  ⟨rfl, rfl, Nat.le_refl _, by rw [PyData.shown_str, tl_len]; exact rt_len h, by rw [PyData.shown_str]; exact rt_ok h⟩
theorem nice_none : Nice 0 4 .none := ⟨rfl, rfl, Nat.le_refl _, by decide +kernel, by decide +kernel⟩
theorem nice_bool (b : Bool) : Nice 0 5 (.bool b) := by cases b <;> exact ⟨rfl, rfl, Nat.le_refl _, by decide +kernel, by decide +kernel⟩
theorem nice_nat {n : Nat} (h : n < 2 ^ 1000) : Nice 0 1001 (.int (n : Nat)) := by
  have hl : n.log2 < 1920 := by
    have := log2_le h
    omega
  have e1 : (PyData.int ((n : Nat) : Int)).shown = Str.ofString (toString ((n : Nat) : Int)) := rfl
  have e2 : TL.tl (Str.ofString (toString ((n : Nat) : Int))) = (Nat.repr n).toList.map Char.toNat := PyProof.Rows.signs_ofString _
  refine ⟨decide_eq_true (by simpa using hl), rfl, Nat.le_refl _, ?_, ?_⟩
  · rw [e1, e2, List.length_map]
    have := nat_repr_length_le (n := n) (k := 1000) (by omega) h
    rw [String.length_toList]
    omega
  · rw [e1, e2]
    intro c hc
    obtain ⟨ch, hch, rfl⟩ := List.mem_map.mp hc
    rw [Nat.toList_repr] at hch
    have := Nat.isDigit_of_mem_toDigits (by decide) (by decide) hch
    have h2 : ch.val ≤ '9'.val := by
      unfold Char.isDigit at this
      simp only [Bool.and_eq_true, decide_eq_true_eq] at this
      exact this.2
    have h3 : ch.val.toNat ≤ 57 := h2
    show ch.val.toNat < _
    omega
theorem joinL_le {S : List Nat} : ∀ ls : List (List Nat), (TL.joinL S ls).length ≤ (ls.map List.length).sum + S.length * ls.length
  | [] => by simp [TL.joinL]
  | [p] => by simp [TL.joinL]
  | p :: q :: r => by
    have ih := joinL_le (S := S) (q :: r)
    show (p ++ (S ++ TL.joinL S (q :: r))).length ≤ _
    simp only [List.length_append, List.map_cons, List.sum_cons, List.length_cons] at ih ⊢
    rw [Nat.mul_add]
    omega
theorem joinL_mem {S : List Nat} {c : Nat} : ∀ {ls : List (List Nat)}, c ∈ TL.joinL S ls → c ∈ S ∨ ∃ l ∈ ls, c ∈ l
  | [], h => by cases h
  | [p], h => .inr ⟨p, List.mem_singleton.mpr rfl, h⟩
  | p :: q :: r, h => by
    have h : c ∈ p ++ (S ++ TL.joinL S (q :: r)) := h
    rcases List.mem_append.mp h with h | h
    · exact .inr ⟨p, List.mem_cons_self .., h⟩
    · rcases List.mem_append.mp h with h | h
      · exact .inl h
      · rcases joinL_mem h with h | ⟨l, hl, h⟩
        · exact .inl h
        · exact .inr ⟨l, List.mem_cons_of_mem _ hl, h⟩
theorem tuple_tl (ps : List PyData) : ∃ e : List Nat, e.length ≤ 2 ∧ (∀ c ∈ e, c < 127) ∧ TL.tl (PyData.tuple ps).shown = 40 :: (TL.joinL [44, 32] ((PyData.shownAll ps).map TL.tl) ++ e) := by
  rw [PyData.shown_tuple]
  have e1 : TL.tl ("(" : Str) = [40] := by decide
  have e2 : TL.tl (", " : Str) = [44, 32] := by decide
  by_cases c : (ps.length == 1) = true
  · refine ⟨[44, 41], by decide, by decide, ?_⟩
    rw [if_pos c]
    have e3 : TL.tl ((",)" : String) : Str) = [44, 41] := by decide
    rw [TL.tl_append, TL.tl_append, TL.tl_join, e1, e2, e3]
    simp
  · refine ⟨[41], by decide, by decide, ?_⟩
    rw [if_neg c]
    have e3 : TL.tl ((")" : String) : Str) = [41] := by decide
    rw [TL.tl_append, TL.tl_append, TL.tl_join, e1, e2, e3]
    simp
theorem shownAll_map : ∀ ps : List PyData, PyData.shownAll ps = ps.map PyData.shown
  | [] => by simp only [PyData.shownAll, List.map_nil]
  | p :: ps => by simp only [PyData.shownAll, List.map_cons, shownAll_map ps]
theorem nice_all {k B : Nat} : ∀ {ps : List PyData}, (∀ p ∈ ps, Nice k B p) → PyData.showableAll ps = true ∧ PyData.hasDictAll ps = false ∧ PyData.depthAll ps ≤ k ∧ ((ps.map fun p => TL.tl p.shown).map List.length).sum ≤ B * ps.length
  | [], _ => by simp [PyData.showableAll, PyData.hasDictAll, PyData.depthAll]
  | p :: ps, h => by
    obtain ⟨h1, h2, h3, h4⟩ := nice_all (ps := ps) fun q hq => h q (List.mem_cons_of_mem _ hq)
    have hp := h p (List.mem_cons_self ..)
    refine ⟨by simp only [PyData.showableAll, hp.sh, h1, Bool.and_self], by simp only [PyData.hasDictAll, hp.nd, h2, Bool.or_self], ?_, ?_⟩
    · simp only [PyData.depthAll]
      have := hp.dp
      omega
    · simp only [List.map_cons, List.sum_cons, List.length_cons]
      have := hp.ln
      rw [Nat.mul_add]
      omega
theorem nice_tuple {k B : Nat} {ps : List PyData} (h : ∀ p ∈ ps, Nice k B p) : Nice (k + 1) ((B + 2) * ps.length + 3) (.tuple ps) := by
  obtain ⟨h1, h2, h3, h4⟩ := nice_all h
  obtain ⟨e, e1, e2, e3⟩ := tuple_tl ps
  refine ⟨by simpa only [PyData.showable] using h1, by simpa only [PyData.hasDict] using h2, by simp only [PyData.depth]; omega, ?_, ?_⟩
  · rw [e3, shownAll_map, List.length_cons, List.length_append]
    have := joinL_le (S := [44, 32]) ((ps.map PyData.shown).map TL.tl)
    simp only [List.length_map, List.length_cons, List.length_nil] at this
    rw [List.map_map, List.map_map] at this
    rw [List.map_map] at h4
    rw [List.map_map]
    have e4 : (ps.map ((List.length ∘ TL.tl) ∘ PyData.shown)).sum = (ps.map (List.length ∘ TL.tl ∘ PyData.shown)).sum := rfl
    have e5 : (ps.map (List.length ∘ (fun p : PyData => TL.tl p.shown))).sum = (ps.map (List.length ∘ TL.tl ∘ PyData.shown)).sum := rfl
    rw [e5] at h4
    rw [Nat.add_mul]
    omega
  · rw [e3, shownAll_map]
    intro c hc
    rcases List.mem_cons.mp hc with rfl | hc
    · omega
    · rcases List.mem_append.mp hc with hc | hc
      · rcases joinL_mem hc with hc | ⟨l, hl, hc⟩
        · have : ∀ c ∈ ([44, 32] : List Nat), c < 127 := by decide
          have := this c hc
          omega
        · obtain ⟨s, hs, rfl⟩ := List.mem_map.mp hl
          obtain ⟨p, hp, rfl⟩ := List.mem_map.mp hs
          exact (h p hp).ok c hc
      · have := e2 c hc
        omega
end Lw
end

section
set_option Elab.async false
set_option linter.all false
set_option maxRecDepth 100000
set_option maxHeartbeats 4000000
namespace Lw
open PySem Wn
local macro_rules | `(tactic| walk_at "ev") => `(tactic| simp only [fnDef, fnOf, denSL, denS, den, denL, denB, denI, sSeq, sAsg, sRet, sRetN, sEx, sIf, sFor, sPar, sSet, sPass, sBrk, sCnt, bndS, bnd, Wn.ret, stuck, opt, eVar, eCst, eOp, eCall, eChain, bTru, bNot, bAnd, bOr, eOr, eAnd, eNot, eIf, lNil, lCons, eTup, eLst, eCell, eMt, eMl, eSl, oNo, oAt, eNeg, eLc, lcRun, fnDo, startE, fin, Tg.put, TgL.puts, isS_ite, if_le_sz, lstX_lst, lstOf_lst, add_int, sub_int, eq_int, ne_int, le_int, lt_int, gt_int, ge_int, is_non, isnot_non, isNon, asTru, truD, iArg, wipeE,
  List.map_cons, List.map_nil, List.length_cons, List.length_nil, List.getElem?_cons_zero, List.getElem?_cons_succ, List.set_cons_zero, List.set_cons_succ, List.getD_cons_zero, List.getD_cons_succ, List.cons_append, List.nil_append, List.replicate_succ, List.replicate_zero, Nat.zero_add, Nat.sub_self, Nat.add_one_sub_one, Nat.reduceAdd, Nat.reduceSub, Nat.reduceLeDiff, Nat.reduceEqDiff, if_true, if_false, Bool.false_eq_true, Bool.not_true, Bool.not_false, decide_true, decide_false, g1, g2, List.zip_cons_cons, List.zip_nil_right, List.foldl_cons, List.foldl_nil,
  mIndex, mJoin, mAppend, mExtend, mGet, eMd, eDcp, gDcp, sSetA, setA, bLen, bAbs, bMax, bMin, bSum, bAll, bAny, bOrd, bRepr, bIsi, tInt, tTup, tLst, nInt, nStr, nBool, nTup, nLst, oAdd, oSub, oMul, oMod, oDiv, oPow, cEq, cNe, cLt, cLe, cGt, cGe, cIn, cNi, cIs, cIn', Option.some_or, Option.or_none, Option.none_or])
local macro_rules | `(tactic| walk_at "evh") => `(tactic| simp only [*, fnDef, fnOf, denSL, denS, den, denL, denB, denI, sSeq, sAsg, sRet, sRetN, sEx, sIf, sFor, sPar, sSet, sPass, sBrk, sCnt, bndS, bnd, Wn.ret, stuck, opt, eVar, eCst, eOp, eCall, eChain, bTru, bNot, bAnd, bOr, eOr, eAnd, eNot, eIf, lNil, lCons, eTup, eLst, eCell, eMt, eMl, eSl, oNo, oAt, eNeg, eLc, lcRun, fnDo, startE, fin, Tg.put, TgL.puts, isS_ite, if_le_sz, lstX_lst, lstOf_lst, add_int, sub_int, eq_int, ne_int, le_int, lt_int, gt_int, ge_int, is_non, isnot_non, isNon, asTru, truD, iArg, wipeE,
  List.map_cons, List.map_nil, List.length_cons, List.length_nil, List.getElem?_cons_zero, List.getElem?_cons_succ, List.set_cons_zero, List.set_cons_succ, List.getD_cons_zero, List.getD_cons_succ, List.cons_append, List.nil_append, List.replicate_succ, List.replicate_zero, Nat.zero_add, Nat.sub_self, Nat.add_one_sub_one, Nat.reduceAdd, Nat.reduceSub, Nat.reduceLeDiff, Nat.reduceEqDiff, if_true, if_false, Bool.false_eq_true, Bool.not_true, Bool.not_false, decide_true, decide_false, g1, g2, List.zip_cons_cons, List.zip_nil_right, List.foldl_cons, List.foldl_nil,
  mIndex, mJoin, mAppend, mExtend, mGet, eMd, eDcp, gDcp, sSetA, setA, bLen, bAbs, bMax, bMin, bSum, bAll, bAny, bOrd, bRepr, bIsi, tInt, tTup, tLst, nInt, nStr, nBool, nTup, nLst, oAdd, oSub, oMul, oMod, oDiv, oPow, cEq, cNe, cLt, cLe, cGt, cGe, cIn, cNi, cIs, cIn', Option.some_or, Option.or_none, Option.none_or])
/-! ### a pot made of a script -/
theorem pow_nat {a n : Nat} {M : Mem} (h : n ≤ 1000) (h2 : a.log2 < 10000) : gPow M (.int (a : Nat)) (.int (n : Nat)) = some (.int ((a ^ n : Nat) : Int)) := by
  show (if 0 ≤ ((n : Nat) : Int) ∧ ((n : Nat) : Int).natAbs ≤ 1000 ∧ a.log2 < 10000 then some (D.int (((a : Nat) : Int) ^ ((n : Nat) : Int).toNat)) else none) = _
  rw [if_pos ⟨by omega, by omega, h2⟩, Int.toNat_natCast]
  congr 2
theorem big_one : ∃ A : Nat, A.log2 < 10000 ∧ ∀ M, gPow M (.int 10) (.int 60) = some (.int (A : Nat)) := ⟨10 ^ 60, by decide +kernel, fun M => pow_nat (a := 10) (n := 60) (by decide) (by decide)⟩
theorem pow_to : ∃ A B : Nat, 0 < B ∧ B.log2 < 2000 ∧ (∀ M, gPow M (.int 10) (.int 60) = some (.int (A : Nat))) ∧ ∀ M, gPow M (.int (A : Nat)) (.int 5) = some (.int (B : Nat)) :=
  ⟨10 ^ 60, (10 ^ 60) ^ 5, Nat.pow_pos (by decide), by decide +kernel, fun M => pow_nat (a := 10) (n := 60) (by decide) (by decide), fun M => pow_nat (n := 5) (by decide) (by decide +kernel)⟩
theorem pow_18 : ∃ C : Int, ∀ M, gPow M (.int 10) (.int 18) = some (.int C) := ⟨_, fun M => pow_nat (a := 10) (n := 18) (by decide) (by decide)⟩
theorem abs_int (i : Int) (M : Mem) : fAbs M (.int i) = some (.int ((i.natAbs : Nat) : Int)) := by
  show some (D.int (if i < 0 then -i else i)) = _
  congr 2
  split <;> omega
theorem nat876 (n : Nat) : ((n : Nat) : Int) + 876 = ((n + 876 : Nat) : Int) := by omega
/-- the rest of the making of a pot, whatever the cell is -/
theorem pot_rest {M : Mem} {s : D} {i : Nat} (hi : i < 2) (x : Int) : ∃ a b : Nat, b < 2 ^ 62 ∧ denSL [] (match B_law_pot with | .cons _ r => r | .nil => .nil) [some s, some (.int (i : Nat)), some (.int x), none, none] M = .rt (.ref M.length) (M ++ [.lst (potD a b 0)]) := by
  obtain ⟨A, B, hB, hB2, p1, p2⟩ := pow_to
  obtain ⟨C, p3⟩ := pow_18
  have e1 : ∀ M, fAbs M (.int x) = some (.int ((x.natAbs : Nat) : Int)) := fun M => abs_int x M
  have e2 : ∀ M (j : Int), fInt M (.int j) = some (.int j) := fun _ _ => rfl
  have e3 : ∀ M, gMod M (.int ((x.natAbs : Nat) : Int)) (.int (B : Nat)) = some (.int ((x.natAbs % B : Nat) : Int)) := fun M => by rw [mod_ok (by omega)]; rfl
  have hm : x.natAbs % B < B := Nat.mod_lt _ hB
  have e4 : ∀ M (b : Bool), fInt M (.bl b) = some (.int ((if b = true then 1 else 0 : Nat) : Int)) := fun M b => by cases b <;> rfl
  have e5 : ∀ M (b : Bool), gMul M (.int ((x.natAbs % B : Nat) : Int)) (.int ((if b = true then 1 else 0 : Nat) : Int)) = some (.int ((x.natAbs % B * (if b = true then 1 else 0) : Nat) : Int)) := fun M b => by
    have l1 : (x.natAbs % B).log2 < 100000 := by
      have : x.natAbs % B < 2 ^ (B.log2 + 1) := Nat.lt_trans hm (Nat.lt_log2_self (n := B))
      have := log_le this
      omega
    rw [mul_ok]
    · simp
    · simp only [Int.natAbs_natCast]
      cases b
      · have : Nat.log2 0 = 0 := by decide
        simp only [Bool.false_eq_true, if_false, this]; omega
      · have : Nat.log2 1 = 0 := by decide
        simp only [if_true, this]; omega
  have e6 : ∀ M, gMod M (.int x) (.int 2305843009213693951) = some (.int (x % 2305843009213693951)) := fun M => mod_ok (by decide)
  obtain ⟨q, hq, hq2⟩ : ∃ q : Nat, x % 2305843009213693951 = (q : Nat) ∧ q < 2 ^ 62 := ⟨(x % 2305843009213693951).toNat, by omega, by omega⟩
  rw [hq] at e6
  have l2 := log_le hq2
  have e7 : ∀ M, gMul M (.int (q : Nat)) (.int 75318) = some (.int ((q * 75318 : Nat) : Int)) := fun M => by
    rw [mul_ok (by
      show q.log2 + Nat.log2 75318 < 1000000
      have : Nat.log2 75318 ≤ 20 := by decide
      omega)]; rfl
  have e8 : ∀ M, gMul M (.int 8976) (.int (i : Nat)) = some (.int ((8976 * i : Nat) : Int)) := fun M => by
    rw [mul_ok (by
      show Nat.log2 8976 + i.log2 < 1000000
      have : Nat.log2 8976 ≤ 20 := by decide
      have := log_le (a := i) (n := 2) (by omega)
      omega)]; rfl
  have e9 : ∀ M, gMul M (.int ((8976 * i : Nat) : Int)) (.int (i : Nat)) = some (.int ((8976 * i * i : Nat) : Int)) := fun M => by
    rw [mul_ok (by
      show (8976 * i).log2 + i.log2 < 1000000
      have := log_le (a := 8976 * i) (n := 20) (by omega)
      have := log_le (a := i) (n := 2) (by omega)
      omega)]; rfl
  have f1 : ((q * 75318 : Nat) : Int) + ((8976 * i * i : Nat) : Int) = ((q * 75318 + 8976 * i * i : Nat) : Int) := by omega
  have f2 : ((q * 75318 + 8976 * i * i : Nat) : Int) + 876 = ((q * 75318 + 8976 * i * i + 876 : Nat) : Int) := nat876 _
  obtain ⟨w, hw⟩ : ∃ w, q * 75318 + 8976 * i * i + 876 = w := ⟨_, rfl⟩
  rw [hw] at f2
  have e10 : ∀ M, gMod M (.int (w : Nat)) (.int 2305843009213693921) = some (.int ((w % 2305843009213693921 : Nat) : Int)) := fun M => by rw [mod_ok (by decide)]; rfl
  refine ⟨x.natAbs % B * (if decide (C ≤ ((x.natAbs : Nat) : Int)) = true then 1 else 0), w % 2305843009213693921, Nat.lt_trans (Nat.mod_lt w (by decide)) (by decide), ?_⟩
  have r0 : ((0 : Nat) : Int) = 0 := rfl
  unfold potD
  rw [r0]
  have e4' := fun M => e4 M (decide (C ≤ ((x.natAbs : Nat) : Int)))
  have e5' := fun M => e5 M (decide (C ≤ ((x.natAbs : Nat) : Int)))
  clear hi hB hB2 hm hw hq hq2 l2 r0 e4 e5
  unfold B_law_pot
  walk_at "evh"
theorem ints_sum : ∀ ns : List Int, dInts (ns.map D.int) = some ns
  | [] => rfl
  | n :: ns => by
    show (dInts (ns.map D.int)).map (n :: ·) = _
    rw [ints_sum ns]; rfl
theorem trim_ref {M M' : Mem} {n : Nat} (h : M.length ≤ n) : trim M (.ok (.ref n) M') = .ok (.ref n) M' := by
  simp only [trim]
  rw [if_neg]
  rintro ⟨h1, _⟩
  have h2 : decide (n < M.length) = true := h1
  exact absurd (of_decide_eq_true h2) (by omega)
theorem ev_pot {M : Mem} {ns : List Int} {i : Nat} (hi : i < 2) : ∃ a b : Nat, b < 2 ^ 62 ∧ F_law_pot [.scr (ns.map .int), .int (i : Nat)] M = .ok (.ref M.length) (M ++ [.lst (potD a b 0)]) := by
  have e1 : fLen M (.scr (ns.map .int)) = some (.int (ns.length : Nat)) := by
    show some (D.int (((ns.map D.int).length : Nat) : Int)) = _
    rw [List.length_map]
  have tr : F_law_pot [.scr (ns.map .int), .int (i : Nat)] M = trim M (fin (denSL [] B_law_pot (startE 5 [.scr (ns.map .int), .int (i : Nat)]) M)) := by
    unfold F_law_pot fnDef fnOf
    rw [if_pos rfl]
  have go : ∃ x, denSL [] (match B_law_pot with | .cons h _ => .cons h .nil | .nil => .nil) [some (.scr (ns.map .int)), some (.int (i : Nat)), none, none, none] M = .nx [some (.scr (ns.map .int)), some (.int (i : Nat)), some (.int x), none, none] M := by
    by_cases h : i < ns.length
    · have c1 : (((i : Nat) : Int) < (ns.length : Nat)) = True := by simp; omega
      have e2 : gIx M (.scr (ns.map .int)) (.int (i : Nat)) = some (.int ns[i]) := by
        show L2.atI (ns.map D.int) _ = _
        unfold L2.atI L2.ixN
        rw [List.length_map, if_pos (by omega), if_pos (by omega)]
        show (ns.map D.int)[i]? = _
        rw [List.getElem?_map, List.getElem?_eq_getElem h]; rfl
      refine ⟨ns[i], ?_⟩
      unfold B_law_pot
      walk_at "evh"
    · have c1 : (((i : Nat) : Int) < (ns.length : Nat)) = False := by simp; omega
      have e2 : gSl M (.scr (ns.map .int)) none (some 1) = some (.lst ((cutD ns none (some 1)).map .int)) := by
        show some (D.lst (cutD (ns.map D.int) none (some 1))) = _
        rw [cutD_map]
      have e3 : fSum M (.lst ((cutD ns none (some 1)).map .int)) = some (.int (cutD ns none (some 1)).sum) := by
        show ((some _).bind dInts).map (fun is => D.int is.sum) = _
        rw [Option.bind_some, ints_sum]; rfl
      have e4 : gMod M (.int (cutD ns none (some 1)).sum) (.int 1000003) = some (.int ((cutD ns none (some 1)).sum % 1000003)) := mod_ok (by decide)
      have e5 : gMul M (.int 1682) (.int (i : Nat)) = some (.int (1682 * (i : Nat))) := mul_ok (by
        show Nat.log2 1682 + i.log2 < 1000000
        have : Nat.log2 1682 ≤ 20 := by decide
        have := log_le (a := i) (n := 2) (by omega)
        omega)
      refine ⟨(cutD ns none (some 1)).sum % 1000003 + 1682 * (i : Nat) + 904, ?_⟩
      unfold B_law_pot
      walk_at "evh"
  obtain ⟨x, go⟩ := go
  obtain ⟨a, b, hb, rest⟩ := pot_rest (M := M) (s := .scr (ns.map .int)) hi x
  refine ⟨a, b, hb, ?_⟩
  have st0 : startE 5 [D.scr (ns.map .int), .int (i : Nat)] = [some (.scr (ns.map .int)), some (.int (i : Nat)), none, none, none] := rfl
  have all : denSL [] B_law_pot [some (.scr (ns.map .int)), some (.int (i : Nat)), none, none, none] M = .rt (.ref M.length) (M ++ [.lst (potD a b 0)]) := by
    rw [← rest]
    unfold B_law_pot at go ⊢
    simp only [denSL] at go ⊢
    refine seq_nx (M1 := M) ?_
    generalize denS [] _ = q at go ⊢
    unfold sSeq at go
    cases h1 : q [some (.scr (ns.map .int)), some (.int (i : Nat)), none, none, none] M with
    | nx δ1 M1 => rw [h1] at go; exact go
    | _ => rw [h1] at go; cases go
  rw [tr, st0, all]
  exact trim_ref (Nat.le_refl _)
end Lw
end

section
set_option Elab.async false
set_option linter.all false
set_option maxRecDepth 100000
set_option maxHeartbeats 4000000
namespace Lw
open PySem Wn
local macro_rules | `(tactic| walk_at "ev") => `(tactic| simp only [fnDef, fnOf, denSL, denS, den, denL, denB, denI, sSeq, sAsg, sRet, sRetN, sEx, sIf, sFor, sPar, sSet, sPass, sBrk, sCnt, bndS, bnd, Wn.ret, stuck, opt, eVar, eCst, eOp, eCall, eChain, bTru, bNot, bAnd, bOr, eOr, eAnd, eNot, eIf, lNil, lCons, eTup, eLst, eCell, eMt, eMl, eSl, oNo, oAt, eNeg, eLc, lcRun, fnDo, startE, fin, Tg.put, TgL.puts, isS_ite, if_le_sz, lstX_lst, lstOf_lst, add_int, sub_int, eq_int, ne_int, le_int, lt_int, gt_int, ge_int, is_non, isnot_non, isNon, asTru, truD, iArg, wipeE,
  List.map_cons, List.map_nil, List.length_cons, List.length_nil, List.getElem?_cons_zero, List.getElem?_cons_succ, List.set_cons_zero, List.set_cons_succ, List.getD_cons_zero, List.getD_cons_succ, List.cons_append, List.nil_append, List.replicate_succ, List.replicate_zero, Nat.zero_add, Nat.sub_self, Nat.add_one_sub_one, Nat.reduceAdd, Nat.reduceSub, Nat.reduceLeDiff, Nat.reduceEqDiff, if_true, if_false, Bool.false_eq_true, Bool.not_true, Bool.not_false, decide_true, decide_false, g1, g2, List.zip_cons_cons, List.zip_nil_right, List.foldl_cons, List.foldl_nil,
  mIndex, mJoin, mAppend, mExtend, mGet, eMd, eDcp, gDcp, sSetA, setA, bLen, bAbs, bMax, bMin, bSum, bAll, bAny, bOrd, bRepr, bIsi, tInt, tTup, tLst, nInt, nStr, nBool, nTup, nLst, oAdd, oSub, oMul, oMod, oDiv, oPow, cEq, cNe, cLt, cLe, cGt, cGe, cIn, cNi, cIs, cIn', Option.some_or, Option.or_none, Option.none_or])
local macro_rules | `(tactic| walk_at "evh") => `(tactic| simp only [*, fnDef, fnOf, denSL, denS, den, denL, denB, denI, sSeq, sAsg, sRet, sRetN, sEx, sIf, sFor, sPar, sSet, sPass, sBrk, sCnt, bndS, bnd, Wn.ret, stuck, opt, eVar, eCst, eOp, eCall, eChain, bTru, bNot, bAnd, bOr, eOr, eAnd, eNot, eIf, lNil, lCons, eTup, eLst, eCell, eMt, eMl, eSl, oNo, oAt, eNeg, eLc, lcRun, fnDo, startE, fin, Tg.put, TgL.puts, isS_ite, if_le_sz, lstX_lst, lstOf_lst, add_int, sub_int, eq_int, ne_int, le_int, lt_int, gt_int, ge_int, is_non, isnot_non, isNon, asTru, truD, iArg, wipeE,
  List.map_cons, List.map_nil, List.length_cons, List.length_nil, List.getElem?_cons_zero, List.getElem?_cons_succ, List.set_cons_zero, List.set_cons_succ, List.getD_cons_zero, List.getD_cons_succ, List.cons_append, List.nil_append, List.replicate_succ, List.replicate_zero, Nat.zero_add, Nat.sub_self, Nat.add_one_sub_one, Nat.reduceAdd, Nat.reduceSub, Nat.reduceLeDiff, Nat.reduceEqDiff, if_true, if_false, Bool.false_eq_true, Bool.not_true, Bool.not_false, decide_true, decide_false, g1, g2, List.zip_cons_cons, List.zip_nil_right, List.foldl_cons, List.foldl_nil,
  mIndex, mJoin, mAppend, mExtend, mGet, eMd, eDcp, gDcp, sSetA, setA, bLen, bAbs, bMax, bMin, bSum, bAll, bAny, bOrd, bRepr, bIsi, tInt, tTup, tLst, nInt, nStr, nBool, nTup, nLst, oAdd, oSub, oMul, oMod, oDiv, oPow, cEq, cNe, cLt, cLe, cGt, cGe, cIn, cNi, cIs, cIn', Option.some_or, Option.or_none, Option.none_or])
/-! ### the law's own reader: numbers, signs, texts -/
theorem own_number_loop {M : Mem} {s : D} : ∀ (vs : List Nat) (n : Nat) (x : Option D), Cells vs → hexval n vs < 2 ^ 1000 → ∃ y, forGo (.nm 2) (denSL [F_law_code_worth] L1_law_code_number) (vs.map fun v => D.str (st [hexc v])) [some s, some (.int (n : Nat)), x] M = .nx [some s, some (.int (hexval n vs : Nat)), y] M
  | [], n, x, _, _ => ⟨x, rfl⟩
  | v :: vs, n, x, hc, hb => by
    have hv : v < 16 := hc v (List.mem_cons_self ..)
    have e0 : hexval n (v :: vs) = hexval (n * 16 + v) vs := rfl
    rw [e0] at hb
    have hn : n < 2 ^ 1000 := by
      have key : ∀ (l : List Nat) (m : Nat), m ≤ hexval m l := by
        intro l
        induction l with
        | nil => intro m; exact Nat.le_refl _
        | cons w l ih => intro m; exact Nat.le_trans (by omega) (ih (m * 16 + w))
      exact Nat.lt_of_le_of_lt (Nat.le_trans (by omega) (key vs (n * 16 + v))) hb
    obtain ⟨y, ih⟩ := own_number_loop (M := M) (s := s) vs (n * 16 + v) (some (.str (st [hexc v]))) (fun u hu => hc u (List.mem_cons_of_mem _ hu)) hb
    refine ⟨y, ?_⟩
    rw [e0, List.map_cons, for_nx (δ1 := [some s, some (.int (n : Nat)), some (.str (st [hexc v]))]) (δ2 := [some s, some (.int ((n * 16 + v : Nat) : Int)), some (.str (st [hexc v]))]) (M2 := M) rfl ?_]
    · exact ih
    · have l1 := log2_le hn
      have m1 : ∀ M, gMul M (.int 16) (.int (n : Nat)) = some (.int ((16 * n : Nat) : Int)) := fun M => by
        rw [mul_ok (by
          show Nat.log2 16 + n.log2 < 1000000
          have : Nat.log2 16 = 4 := by decide
          omega)]; rfl
      have a1 : ((16 * n : Nat) : Int) + ((v : Nat) : Int) = ((n * 16 + v : Nat) : Int) := by omega
      have e1 : ∀ M, F_law_code_worth [.str (st [hexc v])] M = .ok (.int (v : Nat)) M := fun M => ev_law_code_worth hv
      clear hc hb ih hv hn l1 e0
      unfold L1_law_code_number
      walk_at "evh"
theorem ev_law_code_number {vs : List Nat} {M : Mem} (hc : Cells vs) (hb : hexval 0 vs < 2 ^ 1000) : F_law_code_number [.str (cs vs)] M = .ok (.int (hexval 0 vs : Nat)) M := by
  obtain ⟨y, h⟩ := own_number_loop (M := M) (s := .str (cs vs)) vs 0 none hc hb
  have e1 : ∀ M, itS (.str (cs vs)) M = .ok (vs.map fun v => D.str (st [hexc v])) M := fun M => by
    show Res.ok (sgn (cs vs)) M = _
    rw [cs_sgn]
  have e0 : (.int 0 : D) = .int ((0 : Nat) : Int) := rfl
  clear hc hb
  unfold F_law_code_number B_law_code_number
  walk_at "ev"
  simp only [e1]
  rw [e0, h]
  rfl
/-- all signs of texts, and the line feed -/
def signL : List Nat := [32, 33, 34, 35, 36] ++ (List.range 89).map (38 + ·) ++ [10]
theorem signL_st : Str.ofString " !\"#$&'()*+,-./0123456789:;<=>?@ABCDEFGHIJKLMNOPQRSTUVWXYZ[\\]^_`abcdefghijklmnopqrstuvwxyz{|}~" = st (signL.take 94) := by decide +kernel
theorem signL_ok : ∀ n, n < 256 → decide (n ∈ signL) = okSign n := by decide +kernel
theorem valD_map {f : Nat → D} (n : Nat) : ∀ l : List Nat, valD (l.map fun c => ((Sum.inl ((c : Nat) : Int) : L2.Key), f c)) (.inl ((n : Nat) : Int)) = if n ∈ l then some (f n) else none
  | [] => rfl
  | c :: l => by
    have ih := valD_map (f := f) n l
    rw [List.map_cons]
    by_cases e : c = n
    · subst e
      rw [if_pos (List.mem_cons_self ..)]
      simp [valD, List.find?_cons]
    · have e2 : valD ((((Sum.inl ((c : Nat) : Int) : L2.Key), f c)) :: l.map fun c => ((Sum.inl ((c : Nat) : Int) : L2.Key), f c)) (.inl ((n : Nat) : Int)) = valD (l.map fun c => ((Sum.inl ((c : Nat) : Int) : L2.Key), f c)) (.inl ((n : Nat) : Int)) := by
        have : ¬ ((Sum.inl ((c : Nat) : Int) : L2.Key) = .inl ((n : Nat) : Int)) := fun z => by
          injection z with z; omega
        unfold valD
        rw [List.find?_cons]
        simp only [this, decide_false]
      rw [e2, ih]
      by_cases h : n ∈ l
      · rw [if_pos h, if_pos (List.mem_cons_of_mem _ h)]
      · rw [if_neg h, if_neg (by intro z; rcases List.mem_cons.mp z with z | z; exact e z.symm; exact h z)]
theorem mergeD_map {f : Nat → D} : ∀ (l : List Nat) (acc : List (L2.Key × D)), l.Nodup → (∀ c ∈ l, ∀ p ∈ acc, p.1 ≠ (.inl ((c : Nat) : Int) : L2.Key)) → mergeD acc (l.map fun c => ((Sum.inl ((c : Nat) : Int) : L2.Key), f c)) = acc ++ l.map fun c => ((Sum.inl ((c : Nat) : Int) : L2.Key), f c)
  | [], acc, _, _ => by simp [mergeD]
  | c :: l, acc, hn, h => by
    obtain ⟨h1, h2⟩ := List.nodup_cons.mp hn
    have e : putD acc (.inl ((c : Nat) : Int)) (f c) = acc ++ [((Sum.inl ((c : Nat) : Int) : L2.Key), f c)] := by
      unfold putD
      rw [if_neg]
      intro q
      obtain ⟨p, hp, hp2⟩ := List.any_eq_true.mp q
      exact h c (List.mem_cons_self ..) p hp (of_decide_eq_true hp2)
    have ih := mergeD_map (f := f) l (acc ++ [((Sum.inl ((c : Nat) : Int) : L2.Key), f c)]) h2 (fun d hd p hp => by
      rcases List.mem_append.mp hp with hp | hp
      · exact h d (List.mem_cons_of_mem _ hd) p hp
      · rw [List.mem_singleton.mp hp]
        intro z
        injection z with z
        have : c = d := by omega
        subst this
        exact h1 hd)
    rw [List.map_cons]
    show mergeD (putD acc (.inl ((c : Nat) : Int)) (f c)) _ = _
    rw [e, ih, List.append_assoc]; rfl
def knownK : List (L2.Key × D) := signL.map fun c => ((Sum.inl ((c : Nat) : Int) : L2.Key), D.str (st [c]))
theorem pairs_known : ∀ l : List Nat, pairsD (l.map fun c => D.tup [.int ((c : Nat) : Int), .str (st [c])]) = some (l.map fun c => ((Sum.inl ((c : Nat) : Int) : L2.Key), D.str (st [c])))
  | [] => rfl
  | c :: l => by
    have ih := pairs_known l
    rw [List.map_cons, List.map_cons]
    show (match pairD (D.tup [.int ((c : Nat) : Int), .str (st [c])]), pairsD _ with | some p, some ps => some (p :: ps) | _, _ => none) = _
    rw [ih]; rfl
theorem ev_law_code_by_numbers {M : Mem} : F_law_code_by_numbers [] M = .ok (.ref M.length) (M ++ [.dct knownK]) := by
  have e1 : ∀ M, F_law_code_signs [] M = .ok (.str (st (signL.take 94))) M := fun M => by
    rw [← signL_st]; rfl
  have e2 : ∀ M, gAdd M (.str (st (signL.take 94))) (.str (Str.ofString "\n")) = some (.str (st signL)) := fun M => by
    have e0 : (.str (Str.ofString "\n") : D) = .str (st [10]) := rfl
    rw [e0, gAdd_st (by decide)]
    congr 2
  have e3 : ∀ M, itS (.str (st signL)) M = .ok (signL.map fun c => D.str (st [c])) M := fun M => by
    show Res.ok (sgn (st signL)) M = _
    rw [st_sgn]
  have hz : (signL.map fun c => D.str (st [c])).length ≤ 1000 := by decide
  have e4 : ∀ M, lcGo (.nm 0) bYes (den [F_law_code_signs] X1_law_code_by_numbers) [none] (signL.map fun c => D.str (st [c])) M = .ok (signL.map fun c => D.tup [.int ((c : Nat) : Int), .str (st [c])]) M := fun M =>
    lc_vals (g := fun c => D.tup [.int ((c : Nat) : Int), .str (st [c])]) fun c _ => by
      have e1 : ∀ M, fOrd M (.str (st [c])) = some (.int (c : Nat)) := fun _ => rfl
      unfold X1_law_code_by_numbers
      walk_at "evh"
  have e5 : mergeD [] (signL.map fun c => ((Sum.inl ((c : Nat) : Int) : L2.Key), D.str (st [c]))) = knownK := by
    rw [mergeD_map signL [] (by decide +kernel) (by intro c _ p hp; cases hp)]; rfl
  have e6 : ∀ M, gDcp [.lst (signL.map fun c => D.tup [.int ((c : Nat) : Int), .str (st [c])])] M = .ok (.ref M.length) (M ++ [.dct knownK]) := fun M => by
    unfold gDcp
    simp only [lstOf_lst, pairs_known, e5]
  have e7 : trim M (.ok (.ref M.length) (M ++ [.dct knownK])) = .ok (.ref M.length) (M ++ [.dct knownK]) := by
    simp only [trim]
    rw [if_neg]
    intro q
    have := of_decide_eq_true (show decide (M.length < M.length) = true from q.1)
    omega
  clear hz e5
  unfold F_law_code_by_numbers B_law_code_by_numbers
  simp only [fnDef, fnOf, denSL, denS, den, sSeq, sRet, bndS, eDcp, lCons, lNil, bnd, Wn.ret, eLc, lcRun, denI, denL, eOp, opt, oAdd, eCst, fnDo, denB, wipeE, startE, List.length_nil, List.map_nil, if_true, List.getD_cons_zero, e1, e2, Option.some_or, e3, List.length_map]
  simp only [List.nil_append, Nat.sub_zero, List.replicate_succ, List.replicate_zero, List.set_cons_zero, e4, fin]
  rw [if_pos (by decide)]
  simp only [e4, e6, fin, e7]

def optQ : Option (List Nat) → D
  | some l => .str (st l)
  | none => .non
theorem optQ_S (o : Option (List Nat)) : optQ o = optS o := by cases o <;> rfl
theorem byte_lt {vs : List Nat} (hc : Cells vs) (a : Nat) : byteAt vs a < 256 := by
  have h := hexval_lt ((vs.drop a).take 2) 0 0 (fun v hv => hc v (List.mem_of_mem_drop (List.mem_of_mem_take hv))) (by decide)
  have hl : ((vs.drop a).take 2).length ≤ 2 := by rw [List.length_take]; omega
  exact Nat.lt_of_lt_of_le h (Nat.le_trans (Nat.pow_le_pow_right (by decide) (show 0 + ((vs.drop a).take 2).length ≤ 2 by omega)) (by decide))
theorem lc_filter_val {α : Type} {i : Nat} {c : Fb} {e : Fe} {δ : Wn.Env} {M : Mem} {f : α → D} {p : α → Bool} {x : D} : ∀ {l : List α}, (∀ a ∈ l, c (δ.set i (some (f a))) M = .ok (p a) M) → (∀ a ∈ l, e (δ.set i (some (f a))) M = .ok x M) → lcGo (.nm i) c e δ (l.map f) M = .ok ((l.filter p).map fun _ => x) M
  | [], _, _ => rfl
  | d :: ds, h, g => by
    have h1 := h d (List.mem_cons_self ..)
    have g1 := g d (List.mem_cons_self ..)
    have h2 := lc_filter_val (fun x hx => h x (List.mem_cons_of_mem _ hx)) (fun x hx => g x (List.mem_cons_of_mem _ hx))
    rw [List.map_cons, lcGo_cons]
    simp only [Tg.put, h1]
    cases hp : p d
    · simp only [h2, List.filter_cons, hp, Bool.false_eq_true, if_false]
    · simp only [g1, h2, List.filter_cons, hp, if_true, List.map_cons]
/-- signs that are known, one behind another -/
theorem known_flat : ∀ l : List Nat, (l.map fun c => if okSign c = true then [c] else []).flatten = l.filter okSign
  | [] => rfl
  | c :: l => by
    rw [List.map_cons, List.flatten_cons, known_flat l, List.filter_cons]
    cases okSign c <;> rfl
theorem filter_len_eq {p : Nat → Bool} : ∀ l : List Nat, (l.filter p).length = l.length ↔ l.all p = true
  | [] => by simp
  | c :: l => by
    have ih := filter_len_eq (p := p) l
    have hle := List.length_filter_le p l
    rw [List.filter_cons, List.all_cons]
    cases hp : p c
    · simp only [Bool.false_eq_true, if_false, Bool.false_and, iff_false, List.length_cons]; omega
    · simp only [if_true, List.length_cons, Bool.true_and, ← ih]; omega
theorem ev_law_code_text {vs : List Nat} {M : Mem} (hc : Cells vs) (hl : vs.length = 226) : F_law_code_text [.str (cs vs)] M = .ok (optS (codeText vs)) M := by
  have e1 : ∀ M, fRng3 [.int 0, .int 226, .int 2] M = .ok (ats.map fun a => D.int ((a : Nat) : Int)) M := fun M => rng_226
  have e2 : ∀ M, lcGo (.nm 5) bYes (den [F_law_code_number, F_law_code_by_numbers] X1_law_code_text) [some (.str (cs vs)), none, none, none, none, none, none] (ats.map fun a => D.int ((a : Nat) : Int)) M = .ok ((bytes vs).map fun n => D.int ((n : Nat) : Int)) M := fun M => by
    have key : ∀ a ∈ ats, a ≤ 226 := by decide
    rw [bytes, List.map_map]
    exact lc_vals (g := fun a => D.int ((byteAt vs a : Nat) : Int)) fun a ha => by
      have h1 := key a ha
      have a1 : ((a : Nat) : Int) + 2 = ((a + 2 : Nat) : Int) := by omega
      have s1 : ∀ M, gSl M (.str (cs vs)) (some ((a : Nat) : Int)) (some ((a + 2 : Nat) : Int)) = some (.str (cs ((vs.drop a).take 2))) := fun M => by
        rw [gSl_cs (by unfold sizeLine; omega), cutD_both, show a + 2 - a = 2 by omega]
      have n1 : ∀ M, F_law_code_number [.str (cs ((vs.drop a).take 2))] M = .ok (.int (byteAt vs a : Nat)) M := fun M => by
        refine ev_law_code_number (fun v hv => hc v (List.mem_of_mem_drop (List.mem_of_mem_take hv))) ?_
        exact Nat.lt_trans (byte_lt hc a) (by decide +kernel)
      clear ha h1 key
      unfold X1_law_code_text
      walk_at "evh"
  have hb : ∀ n ∈ bytes vs, n < 256 := fun n hn => by
    obtain ⟨a, _, rfl⟩ := List.mem_map.mp hn
    exact byte_lt hc a
  have hbl := bytes_len vs
  have hm := many_le vs
  have e3 : ∀ (x y : Option D) M, lcGo (.nm 6) (bTru (eOp gNe (eVar 6) (eCst (.int 255)))) (den [F_law_code_number, F_law_code_by_numbers] X2_law_code_text) [some (.str (cs vs)), some (.lst ((bytes vs).map fun n => D.int ((n : Nat) : Int))), none, none, none, x, y] ((bytes vs).map fun n => D.int ((n : Nat) : Int)) M = .ok (((bytes vs).filter fun c => !decide (c = 255)).map fun _ => D.int 1) M := fun x y M =>
    lc_filter_val (fun n _ => by
      have c1 : decide (((n : Nat) : Int) = 255) = decide (n = 255) := by congr 1; apply propext; omega
      walk_at "evh") (fun n _ => rfl)
  have hz1 : (ats.map fun a => D.int ((a : Nat) : Int)).length ≤ 1000 := by decide
  have hz2 : ((bytes vs).map fun n => D.int ((n : Nat) : Int)).length ≤ 1000 := by rw [List.length_map, hbl]; decide
  have e4 : ∀ M, fLen M (.lst (((bytes vs).filter fun c => !decide (c = 255)).map fun _ => D.int 1)) = some (.int (manyOf vs : Nat)) := fun M => by
    show some (D.int ((List.length _ : Nat) : Int)) = _
    rw [List.length_map]; rfl
  have e5 : ∀ M, F_law_code_by_numbers [] M = .ok (.ref M.length) (M ++ [.dct knownK]) := fun M => ev_law_code_by_numbers
  have e6 : ∀ M, gSl M (.lst ((bytes vs).map fun n => D.int ((n : Nat) : Int))) none (some ((manyOf vs : Nat) : Int)) = some (.lst (((bytes vs).take (manyOf vs)).map fun n => D.int ((n : Nat) : Int))) := fun M => by
    show some (D.lst (cutD _ none (some ((manyOf vs : Nat) : Int)))) = _
    rw [cutD_map, cutD_hi]
  have hz3 : (((bytes vs).take (manyOf vs)).map fun n => D.int ((n : Nat) : Int)).length ≤ 1000 := by rw [List.length_map, List.length_take, hbl]; omega
  have e7 : ∀ (a b c : D) (x : Option D), lcGo (.nm 6) bYes (den [F_law_code_number, F_law_code_by_numbers] X3_law_code_text) [some a, some b, some c, some (.ref M.length), none, x, none] (((bytes vs).take (manyOf vs)).map fun n => D.int ((n : Nat) : Int)) (M ++ [.dct knownK]) = .ok (((bytes vs).take (manyOf vs)).map fun n => D.str (st (if okSign n = true then [n] else []))) (M ++ [.dct knownK]) := fun a b c x =>
    lc_vals (g := fun n => D.str (st (if okSign n = true then [n] else []))) fun n hn => by
      have hn := hb n (List.mem_of_mem_take hn)
      have d1 : isDct (M ++ [.dct knownK]) (.ref M.length) = true := by
        unfold isDct dctOf
        simp only [get_end]; rfl
      have d2 : fGetD (.ref M.length) [.int (n : Nat), .str (Str.ofString "")] (M ++ [.dct knownK]) = .ok (.str (st (if okSign n = true then [n] else []))) (M ++ [.dct knownK]) := by
        have d3 : dctOf (M ++ [.dct knownK]) (.ref M.length) = some knownK := by
          unfold dctOf
          simp only [get_end]
        unfold fGetD
        simp only [d3, keyD]
        have d4 := valD_map (f := fun c => D.str (st [c])) n signL
        rw [show knownK = signL.map fun c => ((Sum.inl ((c : Nat) : Int) : L2.Key), D.str (st [c])) from rfl, d4]
        have d5 := signL_ok n hn
        by_cases q : n ∈ signL
        · rw [decide_eq_true q] at d5
          rw [if_pos q, ← d5]; rfl
        · rw [decide_eq_false q] at d5
          rw [if_neg q, ← d5]; rfl
      clear hn
      unfold X3_law_code_text
      walk_at "evh"
      simp only [noErr]
  have e8 : ∀ M, gJoin M (.str (Str.ofString "")) [.lst (((bytes vs).take (manyOf vs)).map fun n => D.str (st (if okSign n = true then [n] else [])))] = some (.str (st (((bytes vs).take (manyOf vs)).filter okSign))) := fun M => by
    have e0 : (.str (Str.ofString "") : D) = .str (st []) := rfl
    have := gJoin_st (M := M) (ls := ((bytes vs).take (manyOf vs)).map fun n => if okSign n = true then [n] else []) (by
      have : ∀ l : List Nat, ((l.map fun n => if okSign n = true then [n] else []).map List.length).sum ≤ l.length := by
        intro l
        induction l with
        | nil => simp
        | cons a l ih =>
          rw [List.map_cons, List.map_cons, List.sum_cons, List.length_cons]
          cases okSign a <;> simp at ih ⊢ <;> omega
      have h2 := this ((bytes vs).take (manyOf vs))
      rw [List.length_take, hbl] at h2
      omega)
    rw [List.map_map, known_flat] at this
    rw [e0]
    exact this
  have hfl := List.length_filter_le okSign ((bytes vs).take (manyOf vs))
  have htl : ((bytes vs).take (manyOf vs)).length = manyOf vs := by rw [List.length_take, hbl]; omega
  have e9 : ∀ M, fLen M (.str (st (((bytes vs).take (manyOf vs)).filter okSign))) = some (.int ((((bytes vs).take (manyOf vs)).filter okSign).length : Nat)) := fun M => by
    rw [len_str (by rw [st_len]; unfold sizeLine; omega), st_len]
  have c1 : decide ((((((bytes vs).take (manyOf vs)).filter okSign).length : Nat) : Int) = ((manyOf vs : Nat) : Int)) = ((bytes vs).take (manyOf vs)).all okSign := by
    have := filter_len_eq (p := okSign) ((bytes vs).take (manyOf vs))
    rw [htl] at this
    by_cases q : ((bytes vs).take (manyOf vs)).all okSign = true
    · rw [q]
      apply decide_eq_true
      rw [this.mpr q]
    · have q2 : ((bytes vs).take (manyOf vs)).all okSign = false := by simpa using q
      rw [q2]
      apply decide_eq_false
      intro z
      exact q (this.mp (by omega))
  have m1 : ∀ M, gMul M (.int 2) (.int (manyOf vs : Nat)) = some (.int ((2 * manyOf vs : Nat) : Int)) := fun M => by
    rw [mul_ok (by
      show Nat.log2 2 + (manyOf vs).log2 < 1000000
      have : Nat.log2 2 = 1 := by decide
      have := log_small (a := manyOf vs) (by omega)
      omega)]; rfl
  have e10 : ∀ M, gSl M (.str (cs vs)) (some ((2 * manyOf vs : Nat) : Int)) none = some (.str (cs (vs.drop (2 * manyOf vs)))) := fun M => by
    rw [gSl_cs (by unfold sizeLine; omega), cutD_lo]
  have a2 : (226 : Int) - ((2 * manyOf vs : Nat) : Int) = ((226 - 2 * manyOf vs : Nat) : Int) := by omega
  have e11 : ∀ M, gMul M (.str (Str.ofString "f")) (.int ((226 - 2 * manyOf vs : Nat) : Int)) = some (.str (cs (List.replicate (226 - 2 * manyOf vs) 15))) := fun M => by
    have e0 : (.str (Str.ofString "f") : D) = .str (st [102]) := rfl
    rw [e0, gMul_st (by omega)]
    congr 2
    unfold cs
    rw [List.map_replicate]; rfl
  have e12 : ∀ M, gEq M (.str (cs (vs.drop (2 * manyOf vs)))) (.str (cs (List.replicate (226 - 2 * manyOf vs) 15))) = some (.bl (decide (vs.drop (2 * manyOf vs) = List.replicate (226 - 2 * manyOf vs) 15))) := fun M => by
    rw [gEq_cs (fun v hv => hc v (List.mem_of_mem_drop hv)) (fun v hv => by rw [List.eq_of_mem_replicate hv]; decide)]
  have hfin : (if ((bytes vs).take (manyOf vs)).all okSign = true then (if decide (vs.drop (2 * manyOf vs) = List.replicate (226 - 2 * manyOf vs) 15) = true then D.str (st (((bytes vs).take (manyOf vs)).filter okSign)) else .non) else .non) = optS (codeText vs) := by
    unfold codeText
    by_cases q : ((bytes vs).take (manyOf vs)).all okSign = true
    · rw [if_pos q]
      by_cases q2 : vs.drop (2 * manyOf vs) = List.replicate (226 - 2 * manyOf vs) 15
      · rw [if_pos (decide_eq_true q2), if_pos ⟨q, q2⟩]
        have : ((bytes vs).take (manyOf vs)).filter okSign = (bytes vs).take (manyOf vs) := List.filter_eq_self.mpr (List.all_eq_true.mp q)
        rw [this]; rfl
      · rw [if_neg (by simpa using q2), if_neg fun z => q2 z.2]; rfl
    · rw [if_neg q, if_neg fun z => q z.1]; rfl
  have htr : trim M (.ok (optS (codeText vs)) (M ++ [.dct knownK])) = .ok (optS (codeText vs)) M := trim_same clo_optS
  rw [← hfin] at htr ⊢
  have hii : ∀ M ds, itL (D.lst ds) M = .ok ds M := fun _ _ => rfl
  clear hfin hc hl hb hbl hm hfl htl
  generalize hA : ((bytes vs).take (manyOf vs)).all okSign = A at *
  generalize hB : decide (vs.drop (2 * manyOf vs) = List.replicate (226 - 2 * manyOf vs) 15) = B at *
  clear hA hB
  unfold F_law_code_text B_law_code_text
  cases A with
  | false =>
    walk_at "evh"
    all_goals exact htr
  | true =>
    cases B with
    | false =>
      walk_at "evh"
      all_goals exact htr
    | true =>
      walk_at "evh"
      all_goals exact htr
end Lw
end

section
set_option Elab.async false
set_option linter.all false
set_option maxRecDepth 100000
set_option maxHeartbeats 4000000
namespace Lw
open PySem Wn
local macro_rules | `(tactic| walk_at "ev") => `(tactic| simp only [fnDef, fnOf, denSL, denS, den, denL, denB, denI, sSeq, sAsg, sRet, sRetN, sEx, sIf, sFor, sPar, sSet, sPass, sBrk, sCnt, bndS, bnd, Wn.ret, stuck, opt, eVar, eCst, eOp, eCall, eChain, bTru, bNot, bAnd, bOr, eOr, eAnd, eNot, eIf, lNil, lCons, eTup, eLst, eCell, eMt, eMl, eSl, oNo, oAt, eNeg, eLc, lcRun, fnDo, startE, fin, Tg.put, TgL.puts, isS_ite, if_le_sz, lstX_lst, lstOf_lst, add_int, sub_int, eq_int, ne_int, le_int, lt_int, gt_int, ge_int, is_non, isnot_non, isNon, asTru, truD, iArg, wipeE,
  List.map_cons, List.map_nil, List.length_cons, List.length_nil, List.getElem?_cons_zero, List.getElem?_cons_succ, List.set_cons_zero, List.set_cons_succ, List.getD_cons_zero, List.getD_cons_succ, List.cons_append, List.nil_append, List.replicate_succ, List.replicate_zero, Nat.zero_add, Nat.sub_self, Nat.add_one_sub_one, Nat.reduceAdd, Nat.reduceSub, Nat.reduceLeDiff, Nat.reduceEqDiff, if_true, if_false, Bool.false_eq_true, Bool.not_true, Bool.not_false, decide_true, decide_false, g1, g2, List.zip_cons_cons, List.zip_nil_right, List.foldl_cons, List.foldl_nil,
  mIndex, mJoin, mAppend, mExtend, mGet, eMd, eDcp, gDcp, sSetA, setA, bLen, bAbs, bMax, bMin, bSum, bAll, bAny, bOrd, bRepr, bIsi, tInt, tTup, tLst, nInt, nStr, nBool, nTup, nLst, oAdd, oSub, oMul, oMod, oDiv, oPow, cEq, cNe, cLt, cLe, cGt, cGe, cIn, cNi, cIs, cIn', Option.some_or, Option.or_none, Option.none_or])
local macro_rules | `(tactic| walk_at "evh") => `(tactic| simp only [*, fnDef, fnOf, denSL, denS, den, denL, denB, denI, sSeq, sAsg, sRet, sRetN, sEx, sIf, sFor, sPar, sSet, sPass, sBrk, sCnt, bndS, bnd, Wn.ret, stuck, opt, eVar, eCst, eOp, eCall, eChain, bTru, bNot, bAnd, bOr, eOr, eAnd, eNot, eIf, lNil, lCons, eTup, eLst, eCell, eMt, eMl, eSl, oNo, oAt, eNeg, eLc, lcRun, fnDo, startE, fin, Tg.put, TgL.puts, isS_ite, if_le_sz, lstX_lst, lstOf_lst, add_int, sub_int, eq_int, ne_int, le_int, lt_int, gt_int, ge_int, is_non, isnot_non, isNon, asTru, truD, iArg, wipeE,
  List.map_cons, List.map_nil, List.length_cons, List.length_nil, List.getElem?_cons_zero, List.getElem?_cons_succ, List.set_cons_zero, List.set_cons_succ, List.getD_cons_zero, List.getD_cons_succ, List.cons_append, List.nil_append, List.replicate_succ, List.replicate_zero, Nat.zero_add, Nat.sub_self, Nat.add_one_sub_one, Nat.reduceAdd, Nat.reduceSub, Nat.reduceLeDiff, Nat.reduceEqDiff, if_true, if_false, Bool.false_eq_true, Bool.not_true, Bool.not_false, decide_true, decide_false, g1, g2, List.zip_cons_cons, List.zip_nil_right, List.foldl_cons, List.foldl_nil,
  mIndex, mJoin, mAppend, mExtend, mGet, eMd, eDcp, gDcp, sSetA, setA, bLen, bAbs, bMax, bMin, bSum, bAll, bAny, bOrd, bRepr, bIsi, tInt, tTup, tLst, nInt, nStr, nBool, nTup, nLst, oAdd, oSub, oMul, oMod, oDiv, oPow, cEq, cNe, cLt, cLe, cGt, cGe, cIn, cNi, cIs, cIn', Option.some_or, Option.or_none, Option.none_or])
/-! ### the law's own reader: what a page is told as -/
theorem ev_law_code_unlike {vs ps : List Nat} {M : Mem} (hc : Cells vs) (hp : Cells ps) (hl : vs.length = 256) (hq : ps.length = 256) : F_law_code_unlike [.str (cs vs), .str (cs ps)] M = .ok (.lst ((unlAll vs ps).map fun a => D.int ((a : Nat) : Int))) M := by
  have e1 : ∀ M, fRng1 [.int 256] M = .ok ((List.range 256).map fun a => D.int ((a : Nat) : Int)) M := fun M => by
    have : rng 0 256 = (List.range 256).map fun a => D.int ((a : Nat) : Int) := by
      unfold rng
      congr 1
      funext k
      congr 1
      omega
    rw [← this]
    exact fRng1_nat (n := 256) (by omega)
  have hz : ((List.range 256).map fun a => D.int ((a : Nat) : Int)).length ≤ 1000 := by rw [List.length_map, List.length_range]; omega
  have e2 : ∀ M, lcGo (.nm 2) (bTru (eOp gNe (eOp (fun M a b => (gIx M a b).or (gIxD M a b)) (eVar 0) (eVar 2)) (eOp (fun M a b => (gIx M a b).or (gIxD M a b)) (eVar 1) (eVar 2)))) (den [] X1_law_code_unlike) [some (.str (cs vs)), some (.str (cs ps)), none] ((List.range 256).map fun a => D.int ((a : Nat) : Int)) M = .ok ((unlAll vs ps).map fun a => D.int ((a : Nat) : Int)) M := fun M => by
    rw [lc_filter (p := fun d => match d with | .int i => !decide (vs.getD i.toNat 0 = ps.getD i.toNat 0) | _ => false) (fun d hd => ?_) (fun d hd => ?_), filter_map (q := fun a => !decide (vs.getD a 0 = ps.getD a 0))]
    · rfl
    · intro a _
      simp only [Int.toNat_natCast]
    · obtain ⟨a, ha, rfl⟩ := List.mem_map.mp hd
      have h1 := List.mem_range.mp ha
      have i1 : ∀ M, gIx M (.str (cs vs)) (.int ((a : Nat) : Int)) = some (.str (cs [vs.getD a 0])) := fun M => by
        rw [← cell1]; exact cs_ix (by omega) (getD_get (by omega))
      have i2 : ∀ M, gIx M (.str (cs ps)) (.int ((a : Nat) : Int)) = some (.str (cs [ps.getD a 0])) := fun M => by
        rw [← cell1]; exact cs_ix (by omega) (getD_get (by omega))
      have i3 : ∀ M, gNe M (.str (cs [vs.getD a 0])) (.str (cs [ps.getD a 0])) = some (.bl (!decide (vs.getD a 0 = ps.getD a 0))) := fun M => by
        rw [gNe_cs (by intro v hv; rw [List.mem_singleton] at hv; subst hv; exact getD_cell hc a) (by intro v hv; rw [List.mem_singleton] at hv; subst hv; exact getD_cell hp a)]
        congr 3
        simp
      clear hd ha h1 hc hp hl hq e1 hz
      simp only [Int.toNat_natCast]
      walk_at "evh"
    · obtain ⟨a, ha, rfl⟩ := List.mem_map.mp hd
      clear hd ha hc hp hl hq e1 hz
      unfold X1_law_code_unlike
      walk_at "evh"
  clear hc hp hl hq
  unfold F_law_code_unlike B_law_code_unlike
  walk_at "evh"
def optN : Option Nat → D
  | some a => .int (a : Nat)
  | none => .non
theorem unlAll_lt {vs ps : List Nat} : ∀ a ∈ unlAll vs ps, a < 256 := fun a ha => List.mem_range.mp (List.mem_filter.mp ha).1
theorem gLt_cell {M : Mem} {v w : Nat} (hv : v < 16) (hw : w < 16) : gLt M (.str (st [hexc v])) (.str (st [hexc w])) = some (.bl (decide (v < w))) := by
  have key : ∀ v, v < 16 → ∀ w, w < 16 → decide ([hexc v] < [hexc w]) = decide (v < w) := by decide +kernel
  show some (D.bl (decide ((st [hexc v]).cps.toList < (st [hexc w]).cps.toList))) = _
  rw [st_tl, st_tl, key v hv w hw]
theorem ev_law_code_fallen {vs ps : List Nat} {M : Mem} (hc : Cells vs) (hp : Cells ps) (hl : vs.length = 256) (hq : ps.length = 256) : F_law_code_fallen [.str (cs vs), .str (cs ps)] M = .ok (optN (ownFell vs ps)) M := by
  have e1 : ∀ M, F_law_code_unlike [.str (cs vs), .str (cs ps)] M = .ok (.lst ((unlAll vs ps).map fun a => D.int ((a : Nat) : Int))) M := fun M => ev_law_code_unlike hc hp hl hq
  have hin := unlAll_lt (vs := vs) (ps := ps)
  unfold ownFell
  have hu : (unlAll vs ps).length ≤ 256 := by
    refine Nat.le_trans (List.length_filter_le _ _) ?_
    rw [List.length_range]; omega
  generalize unlAll vs ps = u at *
  match u, hin with
  | [], _ =>
    have e9 : ∀ M, fLen M (.lst []) = some (.int 0) := fun M => rfl
    have n1 : ((0 : Int) = 1) = False := by simp
    have f : optN none = .non := rfl
    clear hc hp hl hq hin hu
    unfold F_law_code_fallen B_law_code_fallen
    walk_at "evh"
  | [a], hin =>
    have ha : a < 256 := hin a (List.mem_singleton.mpr rfl)
    have e9 : ∀ M, fLen M (.lst [.int (a : Nat)]) = some (.int 1) := fun M => rfl
    have n1 : ((1 : Int) = 1) = True := by simp
    have i1 : ∀ M, gIx M (.str (cs vs)) (.int ((a : Nat) : Int)) = some (.str (st [hexc (vs.getD a 0)])) := fun M => cs_ix (by omega) (getD_get (by omega))
    have i2 : ∀ M, gIx M (.str (cs ps)) (.int ((a : Nat) : Int)) = some (.str (st [hexc (ps.getD a 0)])) := fun M => cs_ix (by omega) (getD_get (by omega))
    have i3 : ∀ M, gLt M (.str (st [hexc (vs.getD a 0)])) (.str (st [hexc (ps.getD a 0)])) = some (.bl (decide (vs.getD a 0 < ps.getD a 0))) := fun M => gLt_cell (getD_cell hc a) (getD_cell hp a)
    have i5 : ∀ M, gIx M (.lst [.int (a : Nat)]) (.int 0) = some (.int (a : Nat)) := fun M => rfl
    have f1 : optN none = .non := rfl
    have f2 : optN (some a) = .int (a : Nat) := rfl
    show _ = Res.ok (optN (if vs.getD a 0 < ps.getD a 0 then some a else none)) M
    by_cases c : vs.getD a 0 < ps.getD a 0
    · have c' : (vs.getD a 0 < ps.getD a 0) = True := eq_true c
      clear hc hp hl hq hin hu c
      unfold F_law_code_fallen B_law_code_fallen
      walk_at "evh"
    · have c' : (vs.getD a 0 < ps.getD a 0) = False := eq_false c
      clear hc hp hl hq hin hu c
      unfold F_law_code_fallen B_law_code_fallen
      walk_at "evh"
  | a :: b :: u, _ =>
    have e9 : ∀ M, fLen M (.lst (.int (a : Nat) :: .int (b : Nat) :: u.map fun a => D.int ((a : Nat) : Int))) = some (.int ((u.length + 2 : Nat) : Int)) := fun M => by
      show some (D.int (((_ : List D).length : Nat) : Int)) = _
      rw [List.length_cons, List.length_cons, List.length_map]
    have n1 : (((u.length + 2 : Nat) : Int) = 1) = False := by simp; omega
    have f : optN none = .non := rfl
    show _ = Res.ok (optN none) M
    clear hc hp hl hq hin hu
    unfold F_law_code_fallen B_law_code_fallen
    walk_at "evh"
/-- the first two sums, as far as they are told -/
def told2S (vs : List Nat) : Option (Nat × Nat) := match toldOne vs 226 3, toldOne vs 232 5 with
  | some p, some q => some (p, q)
  | _, _ => none
def optL2 : Option (Nat × Nat) → D
  | some p => .lst [.int (p.1 : Nat), .int (p.2 : Nat)]
  | none => .non
theorem clo_optL2 {n : Nat} : ∀ {o : Option (Nat × Nat)}, clo n (optL2 o) = true
  | none => rfl
  | some _ => rfl
theorem own_told_turn {M : Mem} {vs : List Nat} (hc : Cells vs) (hl : vs.length ≤ 1000) (a w : Nat) (acc : List Nat) (x : Option D) (hw : w ≤ 10) (ha : a ≤ 1000) (hacc : acc.length ≤ 100) :
    ∃ acc' : List Nat, denSL [F_law_code_number, F_law_code_turned] L1_law_code_told [some (.str (cs vs)), some (.ref M.length), some (.int (a : Nat)), some (.int (w : Nat)), x] (M ++ [.lst (inD acc)]) =
      match toldOne vs a w with
      | some n => .nx [some (.str (cs vs)), some (.ref M.length), some (.int (a : Nat)), some (.int (w : Nat)), some (.str (cs ((vs.drop a).take w)))] (M ++ [.lst (inD (acc ++ [n]))])
      | none => .rt .non (M ++ [.lst (inD acc')]) := by
  have ht : Cells ((vs.drop a).take w) := fun v h => hc v (List.mem_of_mem_drop (List.mem_of_mem_take h))
  have htl : ((vs.drop a).take w).length ≤ 10 := by rw [List.length_take]; omega
  refine ⟨acc ++ [hexval 0 ((vs.drop a).take w)], ?_⟩
  have a1 : ((a : Nat) : Int) + ((w : Nat) : Int) = ((a + w : Nat) : Int) := by omega
  have s1 : ∀ M, gSl M (.str (cs vs)) (some ((a : Nat) : Int)) (some ((a + w : Nat) : Int)) = some (.str (cs ((vs.drop a).take w))) := fun M => by
    rw [gSl_cs (by unfold sizeLine; omega), cutD_both, show a + w - a = w by omega]
  have n1 : ∀ M, F_law_code_number [.str (cs ((vs.drop a).take w))] M = .ok (.int (hexval 0 ((vs.drop a).take w) : Nat)) M := fun M => ev_law_code_number ht (hexval_big ht (by omega))
  have n2 : ∀ M, F_law_code_turned [.str (cs ((vs.drop a).take w))] M = .ok (.str (cs (turned ((vs.drop a).take w)))) M := fun M => by
    rw [own_turned]; exact ev_contrary ht (by omega)
  have m1 : ∀ M, gMul M (.int 2) (.int (w : Nat)) = some (.int ((2 * w : Nat) : Int)) := fun M => by
    rw [mul_ok (by
      show Nat.log2 2 + w.log2 < 1000000
      have : Nat.log2 2 = 1 := by decide
      have := log_small (a := w) (by omega)
      omega)]; rfl
  have a2 : ((a : Nat) : Int) + ((2 * w : Nat) : Int) = ((a + 2 * w : Nat) : Int) := by omega
  have s2 : ∀ M, gSl M (.str (cs vs)) (some ((a + w : Nat) : Int)) (some ((a + 2 * w : Nat) : Int)) = some (.str (cs ((vs.drop (a + w)).take w))) := fun M => by
    rw [gSl_cs (by unfold sizeLine; omega), cutD_both, show a + 2 * w - (a + w) = w by omega]
  have q1 : ∀ M, gNe M (.str (cs ((vs.drop (a + w)).take w))) (.str (cs (turned ((vs.drop a).take w)))) = some (.bl (!decide ((vs.drop (a + w)).take w = turned ((vs.drop a).take w)))) := fun M => gNe_cs (fun v h => hc v (List.mem_of_mem_drop (List.mem_of_mem_take h))) (turned_cells _)
  have p1 : isL (M ++ [.lst (inD acc)]) (.ref M.length) = true := isL_ref get_end
  have p2 : fAppend (.ref M.length) [.int (hexval 0 ((vs.drop a).take w) : Nat)] (M ++ [.lst (inD acc)]) = .ok .non (M ++ [.lst (inD (acc ++ [hexval 0 ((vs.drop a).take w)]))]) := by
    rw [append_ok get_end (by unfold inD; rw [List.length_map]; unfold sizeLine; omega), set_end]
    unfold inD
    rw [List.map_append]; rfl
  have p3 : noErr (.ok .non (M ++ [.lst (inD (acc ++ [hexval 0 ((vs.drop a).take w)]))]) : Res D) = .ok .non (M ++ [.lst (inD (acc ++ [hexval 0 ((vs.drop a).take w)]))]) := rfl
  unfold toldOne
  by_cases c : turned ((vs.drop a).take w) = (vs.drop (a + w)).take w
  · have c1 : ((vs.drop (a + w)).take w = turned ((vs.drop a).take w)) = True := by simp [c]
    rw [if_pos c]
    simp only
    clear hc hl hw ha hacc ht htl c
    unfold L1_law_code_told
    walk_at "evh"
  · have c1 : ((vs.drop (a + w)).take w = turned ((vs.drop a).take w)) = False := by simp; exact fun z => c z.symm
    rw [if_neg c]
    simp only
    clear hc hl hw ha hacc ht htl c
    unfold L1_law_code_told
    walk_at "evh"
end Lw
end

section
set_option Elab.async false
set_option linter.all false
set_option maxRecDepth 100000
set_option maxHeartbeats 4000000
namespace Lw
open PySem Wn
local macro_rules | `(tactic| walk_at "ev") => `(tactic| simp only [fnDef, fnOf, denSL, denS, den, denL, denB, denI, sSeq, sAsg, sRet, sRetN, sEx, sIf, sFor, sPar, sSet, sPass, sBrk, sCnt, bndS, bnd, Wn.ret, stuck, opt, eVar, eCst, eOp, eCall, eChain, bTru, bNot, bAnd, bOr, eOr, eAnd, eNot, eIf, lNil, lCons, eTup, eLst, eCell, eMt, eMl, eSl, oNo, oAt, eNeg, eLc, lcRun, fnDo, startE, fin, Tg.put, TgL.puts, isS_ite, if_le_sz, lstX_lst, lstOf_lst, add_int, sub_int, eq_int, ne_int, le_int, lt_int, gt_int, ge_int, is_non, isnot_non, isNon, asTru, truD, iArg, wipeE,
  List.map_cons, List.map_nil, List.length_cons, List.length_nil, List.getElem?_cons_zero, List.getElem?_cons_succ, List.set_cons_zero, List.set_cons_succ, List.getD_cons_zero, List.getD_cons_succ, List.cons_append, List.nil_append, List.replicate_succ, List.replicate_zero, Nat.zero_add, Nat.sub_self, Nat.add_one_sub_one, Nat.reduceAdd, Nat.reduceSub, Nat.reduceLeDiff, Nat.reduceEqDiff, if_true, if_false, Bool.false_eq_true, Bool.not_true, Bool.not_false, decide_true, decide_false, g1, g2, List.zip_cons_cons, List.zip_nil_right, List.foldl_cons, List.foldl_nil,
  mIndex, mJoin, mAppend, mExtend, mGet, eMd, eDcp, gDcp, sSetA, setA, bLen, bAbs, bMax, bMin, bSum, bAll, bAny, bOrd, bRepr, bIsi, tInt, tTup, tLst, nInt, nStr, nBool, nTup, nLst, oAdd, oSub, oMul, oMod, oDiv, oPow, cEq, cNe, cLt, cLe, cGt, cGe, cIn, cNi, cIs, cIn', Option.some_or, Option.or_none, Option.none_or])
local macro_rules | `(tactic| walk_at "evh") => `(tactic| simp only [*, fnDef, fnOf, denSL, denS, den, denL, denB, denI, sSeq, sAsg, sRet, sRetN, sEx, sIf, sFor, sPar, sSet, sPass, sBrk, sCnt, bndS, bnd, Wn.ret, stuck, opt, eVar, eCst, eOp, eCall, eChain, bTru, bNot, bAnd, bOr, eOr, eAnd, eNot, eIf, lNil, lCons, eTup, eLst, eCell, eMt, eMl, eSl, oNo, oAt, eNeg, eLc, lcRun, fnDo, startE, fin, Tg.put, TgL.puts, isS_ite, if_le_sz, lstX_lst, lstOf_lst, add_int, sub_int, eq_int, ne_int, le_int, lt_int, gt_int, ge_int, is_non, isnot_non, isNon, asTru, truD, iArg, wipeE,
  List.map_cons, List.map_nil, List.length_cons, List.length_nil, List.getElem?_cons_zero, List.getElem?_cons_succ, List.set_cons_zero, List.set_cons_succ, List.getD_cons_zero, List.getD_cons_succ, List.cons_append, List.nil_append, List.replicate_succ, List.replicate_zero, Nat.zero_add, Nat.sub_self, Nat.add_one_sub_one, Nat.reduceAdd, Nat.reduceSub, Nat.reduceLeDiff, Nat.reduceEqDiff, if_true, if_false, Bool.false_eq_true, Bool.not_true, Bool.not_false, decide_true, decide_false, g1, g2, List.zip_cons_cons, List.zip_nil_right, List.foldl_cons, List.foldl_nil,
  mIndex, mJoin, mAppend, mExtend, mGet, eMd, eDcp, gDcp, sSetA, setA, bLen, bAbs, bMax, bMin, bSum, bAll, bAny, bOrd, bRepr, bIsi, tInt, tTup, tLst, nInt, nStr, nBool, nTup, nLst, oAdd, oSub, oMul, oMod, oDiv, oPow, cEq, cNe, cLt, cLe, cGt, cGe, cIn, cNi, cIs, cIn', Option.some_or, Option.or_none, Option.none_or])
/-! ### the law's own reader: the two sums that are told, the page lifted -/
theorem frz_one5 {M : Mem} {ds : List D} {a b c d : Option D} : sFrz 1 [a, some (.ref M.length), b, c, d] (M ++ [.lst ds]) = .nx [a, some (.lst ds), b, c, d] (M ++ [.dead]) := by
  unfold sFrz
  simp only [List.getElem?_cons_succ, List.getElem?_cons_zero, get_end, set_end, List.set_cons_succ, List.set_cons_zero]
theorem for_rt {t : Tg} {b : Fs} {d : D} {ds : List D} {δ δ1 : Wn.Env} {M M2 : Mem} {x : D} (h1 : t.put M d δ = some δ1) (h2 : b δ1 M = .rt x M2) : forGo t b (d :: ds) δ M = .rt x M2 := by
  rw [forGo_cons, h1]
  simp only [h2]
theorem for_nx23 {b : Fs} {x y : D} {a0 a1 a2 a3 a4 : Option D} {ds : List D} {δ2 : Wn.Env} {M M2 : Mem} (h2 : b [a0, a1, some x, some y, a4] M = .nx δ2 M2) : forGo (.tp (.cons (.nm 2) (.cons (.nm 3) .nil))) b (.tup [x, y] :: ds) [a0, a1, a2, a3, a4] M = forGo (.tp (.cons (.nm 2) (.cons (.nm 3) .nil))) b ds δ2 M2 := for_nx rfl h2
theorem for_rt23 {b : Fs} {x y z : D} {a0 a1 a2 a3 a4 : Option D} {ds : List D} {M M2 : Mem} (h2 : b [a0, a1, some x, some y, a4] M = .rt z M2) : forGo (.tp (.cons (.nm 2) (.cons (.nm 3) .nil))) b (.tup [x, y] :: ds) [a0, a1, a2, a3, a4] M = .rt z M2 := for_rt rfl h2
theorem ev_law_code_told {vs : List Nat} {M : Mem} (hc : Cells vs) (hl : vs.length ≤ 1000) : F_law_code_told [.str (cs vs)] M = .ok (optL2 (told2S vs)) M := by
  have key : ∃ M', fin (sSeq (sFor (fun δ => bnd (lCons (eTup (lCons (eTup (lCons (eCst (.int 226)) (lCons (eCst (.int 3)) lNil))) (lCons (eTup (lCons (eCst (.int 232)) (lCons (eCst (.int 5)) lNil))) lNil))) lNil δ) fun ds M => match ds with | [d] => itT d M | _ => .bad) (.tp (.cons (.nm 2) (.cons (.nm 3) .nil))) (denSL [F_law_code_number, F_law_code_turned] L1_law_code_told)) (sSeq (sFrz 1) (sSeq (sRet (eVar 1)) sPass)) [some (.str (cs vs)), some (.ref M.length), none, none, none] (M ++ [.lst []])) = .ok (optL2 (told2S vs)) (M ++ [M']) := by
    obtain ⟨acc1, t1⟩ := own_told_turn (M := M) hc hl 226 3 [] none (by omega) (by omega) (by simp)
    have hz : ∀ (α : Type) (a b : α), (if 2 ≤ sizeLine then a else b) = a := fun _ a b => if_pos (by decide)
    have st0 : forGo (.tp (.cons (.nm 2) (.cons (.nm 3) .nil))) (denSL [F_law_code_number, F_law_code_turned] L1_law_code_told) [.tup [.int 226, .int 3], .tup [.int 232, .int 5]] [some (.str (cs vs)), some (.ref M.length), none, none, none] (M ++ [.lst []]) = match told2S vs with
      | some (p, q) => .nx [some (.str (cs vs)), some (.ref M.length), some (.int 232), some (.int 5), some (.str (cs ((vs.drop 232).take 5)))] (M ++ [.lst [.int (p : Nat), .int (q : Nat)]])
      | none => forGo (.tp (.cons (.nm 2) (.cons (.nm 3) .nil))) (denSL [F_law_code_number, F_law_code_turned] L1_law_code_told) [.tup [.int 226, .int 3], .tup [.int 232, .int 5]] [some (.str (cs vs)), some (.ref M.length), none, none, none] (M ++ [.lst []]) := by
      unfold told2S
      cases h1 : toldOne vs 226 3 with
      | none => rfl
      | some p =>
        rw [h1] at t1
        obtain ⟨acc2, t2⟩ := own_told_turn (M := M) hc hl 232 5 [p] (some (.str (cs ((vs.drop 226).take 3)))) (by omega) (by omega) (by simp)
        cases h2 : toldOne vs 232 5 with
        | none => rfl
        | some q =>
          rw [h2] at t2
          simp only
          refine (for_nx23 t1).trans ?_
          exact (for_nx23 t2).trans rfl
    have st1 : told2S vs = none → ∃ acc, forGo (.tp (.cons (.nm 2) (.cons (.nm 3) .nil))) (denSL [F_law_code_number, F_law_code_turned] L1_law_code_told) [.tup [.int 226, .int 3], .tup [.int 232, .int 5]] [some (.str (cs vs)), some (.ref M.length), none, none, none] (M ++ [.lst []]) = .rt .non (M ++ [.lst (inD acc)]) := by
      unfold told2S
      intro hn
      cases h1 : toldOne vs 226 3 with
      | none =>
        rw [h1] at t1
        exact ⟨acc1, for_rt23 t1⟩
      | some p =>
        rw [h1] at t1
        obtain ⟨acc2, t2⟩ := own_told_turn (M := M) hc hl 232 5 [p] (some (.str (cs ((vs.drop 226).take 3)))) (by omega) (by omega) (by simp)
        cases h2 : toldOne vs 232 5 with
        | some q => rw [h1, h2] at hn; cases hn
        | none =>
          rw [h2] at t2
          refine ⟨acc2, ?_⟩
          refine (for_nx23 t1).trans ?_
          exact for_rt23 t2
    have e1 : ∀ N : Mem, (bnd (lCons (eTup (lCons (eTup (lCons (eCst (.int 226)) (lCons (eCst (.int 3)) lNil))) (lCons (eTup (lCons (eCst (.int 232)) (lCons (eCst (.int 5)) lNil))) lNil))) lNil [some (.str (cs vs)), some (.ref M.length), none, none, none]) fun ds M => match ds with | [d] => itT d M | _ => .bad) N = .ok [.tup [.int 226, .int 3], .tup [.int 232, .int 5]] N := fun N => by
      simp only [bnd, lCons, eTup, eCst, Wn.ret, lNil, List.length_cons, List.length_nil, Nat.zero_add, Nat.reduceAdd, hz, itT]
    cases hd : told2S vs with
    | none =>
      obtain ⟨acc, h⟩ := st1 hd
      refine ⟨.lst (inD acc), ?_⟩
      simp only [sSeq, sFor, bndS, e1, h, fin]
      rfl
    | some p =>
      obtain ⟨p, q⟩ := p
      rw [hd] at st0
      refine ⟨.dead, ?_⟩
      simp only [sSeq, sFor, bndS, e1, st0, frz_one5, sRet, eVar, List.getElem?_cons_succ, List.getElem?_cons_zero, Wn.ret, fin]
      rfl
  obtain ⟨M', h⟩ := key
  have htr : trim M (.ok (optL2 (told2S vs)) (M ++ [M'])) = .ok (optL2 (told2S vs)) M := trim_same clo_optL2
  rw [← h] at htr
  exact htr
def optC (vs : List Nat) : Option (Nat × Nat) → D
  | some p => .str (cs (setAt vs p.1 p.2))
  | none => .non
theorem ev_law_code_lifted {vs : List Nat} {M : Mem} (hc : Cells vs) (hl : vs.length = 256) : F_law_code_lifted [.str (cs vs)] M = .ok (optC vs (ownLift vs)) M := by
  have e1 : ∀ M, F_law_code_told [.str (cs vs)] M = .ok (optL2 (told2S vs)) M := fun M => ev_law_code_told hc (by omega)
  have e2 : ∀ M, F_law_code_sums [.str (cs vs)] M = .ok (tup3 (sums3 0 (vs.take 226) (0, 0, 0))) M := fun M => ev_law_code_sums hc (by omega)
  have e8 : ownLift vs = match told2S vs with
    | none => none
    | some p => if ¬ (1 ≤ ((sums3 0 (vs.take 226) (0, 0, 0)).1 : Int) - p.1 ∧ ((sums3 0 (vs.take 226) (0, 0, 0)).1 : Int) - p.1 ≤ 15) then none
      else if ¬ (0 ≤ (((sums3 0 (vs.take 226) (0, 0, 0)).2.1 : Int) - p.2) / (((sums3 0 (vs.take 226) (0, 0, 0)).1 : Int) - p.1) - 1 ∧ (((sums3 0 (vs.take 226) (0, 0, 0)).2.1 : Int) - p.2) / (((sums3 0 (vs.take 226) (0, 0, 0)).1 : Int) - p.1) - 1 < 226) then none
      else if (((sums3 0 (vs.take 226) (0, 0, 0)).2.1 : Int) - p.2) ≠ (((sums3 0 (vs.take 226) (0, 0, 0)).1 : Int) - p.1) * ((((sums3 0 (vs.take 226) (0, 0, 0)).2.1 : Int) - p.2) / (((sums3 0 (vs.take 226) (0, 0, 0)).1 : Int) - p.1) - 1 + 1) then none
      else if (15 : Int) < (vs.getD ((((sums3 0 (vs.take 226) (0, 0, 0)).2.1 : Int) - p.2) / (((sums3 0 (vs.take 226) (0, 0, 0)).1 : Int) - p.1) - 1).toNat 0 : Nat) + (((sums3 0 (vs.take 226) (0, 0, 0)).1 : Int) - p.1) then none
      else some (((((sums3 0 (vs.take 226) (0, 0, 0)).2.1 : Int) - p.2) / (((sums3 0 (vs.take 226) (0, 0, 0)).1 : Int) - p.1) - 1).toNat, ((vs.getD ((((sums3 0 (vs.take 226) (0, 0, 0)).2.1 : Int) - p.2) / (((sums3 0 (vs.take 226) (0, 0, 0)).1 : Int) - p.1) - 1).toNat 0 : Nat) + (((sums3 0 (vs.take 226) (0, 0, 0)).1 : Int) - p.1)).toNat) := by
    unfold ownLift told2S
    cases toldOne vs 226 3 with
    | none => rfl
    | some p => cases toldOne vs 232 5 <;> rfl
  rw [e8]
  have f0 : optC vs none = .non := rfl
  cases ht : told2S vs with
  | none =>
    rw [ht] at e1
    have e4 : optL2 none = .non := rfl
    clear hc hl ht e8
    unfold F_law_code_lifted B_law_code_lifted
    walk_at "evh"
  | some t =>
    rw [ht] at e1
    have htm : t.1 < 16 ^ 8 ∧ t.2 < 16 ^ 8 := by
      unfold told2S at ht
      split at ht
      · rename_i p q h1 h2
        cases ht
        exact ⟨Nat.lt_of_lt_of_le (toldOne_lt hc h1) (by decide), Nat.lt_of_lt_of_le (toldOne_lt hc h2) (by decide)⟩
      · cases ht
    have hsm := sums3_small vs
    generalize hs : sums3 0 (vs.take 226) (0, 0, 0) = s at *
    obtain ⟨s1, s2, s3⟩ := s
    obtain ⟨t1, t2⟩ := t
    have e4 : optL2 (some (t1, t2)) = .lst [.int (t1 : Nat), .int (t2 : Nat)] := rfl
    have e5 : tup3 (s1, s2, s3) = .tup [.int (s1 : Nat), .int (s2 : Nat), .int (s3 : Nat)] := rfl
    have i1 : ∀ M, gIx M (.lst [.int (t1 : Nat), .int (t2 : Nat)]) (.int 0) = some (.int (t1 : Nat)) := fun _ => rfl
    have i2 : ∀ M, gIx M (.lst [.int (t1 : Nat), .int (t2 : Nat)]) (.int 1) = some (.int (t2 : Nat)) := fun _ => rfl
    have i3 : ∀ M, gIx M (.tup [.int (s1 : Nat), .int (s2 : Nat), .int (s3 : Nat)]) (.int 0) = some (.int (s1 : Nat)) := fun _ => rfl
    have i4 : ∀ M, gIx M (.tup [.int (s1 : Nat), .int (s2 : Nat), .int (s3 : Nat)]) (.int 1) = some (.int (s2 : Nat)) := fun _ => rfl
    simp only at hsm htm
    simp only
    generalize hm : ((s1 : Nat) : Int) - ((t1 : Nat) : Int) = more
    generalize hp : ((s2 : Nat) : Int) - ((t2 : Nat) : Int) = placed
    have b1 : more.natAbs < 16000000000 := by omega
    have b2 : placed.natAbs < 16000000000 := by omega
    by_cases c1 : 1 ≤ more
    rotate_left
    · rw [if_pos (fun z => c1 z.1)]
      have c1' : ((1 : Int) ≤ more) = False := eq_false c1
      clear hc hl ht hs hsm htm e8 b1 b2 hp c1
      unfold F_law_code_lifted B_law_code_lifted
      walk_at "evh"
    have c1' : ((1 : Int) ≤ more) = True := eq_true c1
    by_cases c2 : more ≤ 15
    rotate_left
    · rw [if_pos (fun z => c2 z.2)]
      have c2' : (more ≤ 15) = False := eq_false c2
      clear hc hl ht hs hsm htm e8 b1 b2 hp c1 c2
      unfold F_law_code_lifted B_law_code_lifted
      walk_at "evh"
    rw [if_neg (fun z => z ⟨c1, c2⟩)]
    have c2' : (more ≤ 15) = True := eq_true c2
    have d2 : ∀ M, gDiv M (.int placed) (.int more) = some (.int (placed / more)) := fun M => div_ok (by omega) (by
      have := log2_le (a := more.natAbs) (n := 40) (by omega)
      omega)
    generalize ha : placed / more - 1 = a
    by_cases c3 : 0 ≤ a ∧ a < 226
    rotate_left
    · rw [if_pos c3]
      by_cases c4 : 0 ≤ a
      · have c3' : (0 ≤ a) = True := by simp [c4]
        have c4' : (a < 226) = False := by simp; omega
        clear hc hl ht hs hsm htm e8 b1 b2 c1 c2 c3 c4
        unfold F_law_code_lifted B_law_code_lifted
        walk_at "evh"
      · have c3' : (0 ≤ a) = False := by simp; omega
        clear hc hl ht hs hsm htm e8 b1 b2 c1 c2 c3 c4
        unfold F_law_code_lifted B_law_code_lifted
        walk_at "evh"
    rw [if_neg (by simpa using c3)]
    have c3' : (0 ≤ a) = True := by simp [c3.1]
    have c4' : (a < 226) = True := by simp [c3.2]
    have d3 : ∀ M, gMul M (.int more) (.int (a + 1)) = some (.int (more * (a + 1))) := fun M => mul_ok (by
      have := log2_le (a := more.natAbs) (n := 40) (by omega)
      have := log2_le (a := (a + 1).natAbs) (n := 40) (by omega)
      omega)
    by_cases c5 : placed = more * (a + 1)
    rotate_left
    · rw [if_pos c5]
      have c5' : (placed = more * (a + 1)) = False := by simp [c5]
      clear hc hl ht hs hsm htm e8 b1 b2 c1 c2 c3 c5
      unfold F_law_code_lifted B_law_code_lifted
      walk_at "evh"
    rw [if_neg (by simpa using c5)]
    obtain ⟨pm, hpm⟩ : ∃ pm, more * (a + 1) = pm := ⟨_, rfl⟩
    rw [hpm] at c5
    simp only [hpm] at d3
    have c5' : (placed = pm) = True := eq_true c5
    obtain ⟨n, rfl⟩ : ∃ n : Nat, a = (n : Nat) := ⟨a.toNat, by omega⟩
    rw [Int.toNat_natCast]
    have hn : n < 226 := by omega
    have hv : vs[n]? = some (vs.getD n 0) := getD_get (by omega)
    generalize hvv : vs.getD n 0 = v at hv
    have hv16 : v < 16 := hc v (List.mem_of_getElem? hv)
    have d4 : ∀ M, gIx M (.str (cs vs)) (.int (n : Nat)) = some (.str (st [hexc v])) := fun M => cs_ix (by omega) hv
    have d5 : ∀ M, F_law_code_worth [.str (st [hexc v])] M = .ok (.int (v : Nat)) M := fun M => ev_law_code_worth hv16
    by_cases c6 : (15 : Int) < (v : Nat) + more
    · rw [if_pos c6]
      have c6' : ((15 : Int) < (v : Nat) + more) = True := by simp [c6]
      clear hc hl ht hs hsm htm e8 b1 b2 c1 c2 c3 c5 c6 hv hvv hv16 hn hpm
      unfold F_law_code_lifted B_law_code_lifted
      walk_at "evh"
    rw [if_neg c6]
    have c6' : ((15 : Int) < (v : Nat) + more) = False := by simp; omega
    obtain ⟨u, hu⟩ : ∃ u : Nat, ((v : Nat) : Int) + more = (u : Nat) := ⟨(((v : Nat) : Int) + more).toNat, by omega⟩
    have hu16 : u < 16 := by omega
    have d6 : ∀ M, gIx M (.str CS) (.int (u : Nat)) = some (.str (cs [u])) := fun M => cs_at hu16
    unfold CS at d6
    have d7 : ∀ M, gSl M (.str (cs vs)) none (some (n : Nat)) = some (.str (cs (vs.take n))) := fun M => by rw [gSl_cs (by unfold sizeLine; omega), cutD_hi]
    have hn1 : ((n : Nat) : Int) + 1 = ((n + 1 : Nat) : Int) := by omega
    have d8 : ∀ M, gSl M (.str (cs vs)) (some ((n + 1 : Nat) : Int)) none = some (.str (cs (vs.drop (n + 1)))) := fun M => by rw [gSl_cs (by unfold sizeLine; omega), cutD_lo]
    have d9 : ∀ M, gAdd M (.str (cs (vs.take n))) (.str (cs [u])) = some (.str (cs (vs.take n ++ [u]))) := fun M => gAdd_cs (by rw [List.length_take, List.length_singleton]; unfold sizeLine; omega)
    have d10 : ∀ M, gAdd M (.str (cs (vs.take n ++ [u]))) (.str (cs (vs.drop (n + 1)))) = some (.str (cs (setAt vs n u))) := fun M => gAdd_cs (by rw [List.length_append, List.length_take, List.length_singleton, List.length_drop]; unfold sizeLine; omega)
    rw [hu, Int.toNat_natCast]
    simp only [hu] at c6'
    simp only [hn1] at d3
    have f3 : optC vs (some (n, u)) = .str (cs (setAt vs n u)) := rfl
    clear hc hl ht hs hsm htm e8 b1 b2 c1 c2 c3 c5 c6 hv hvv hv16 hn hu16 hpm
    unfold F_law_code_lifted B_law_code_lifted
    walk_at "evh"
end Lw
end

section
set_option Elab.async false
set_option linter.all false
set_option maxRecDepth 100000
set_option maxHeartbeats 4000000
namespace Lw
open PySem Wn
local macro_rules | `(tactic| walk_at "ev") => `(tactic| simp only [fnDef, fnOf, denSL, denS, den, denL, denB, denI, sSeq, sAsg, sRet, sRetN, sEx, sIf, sFor, sPar, sSet, sPass, sBrk, sCnt, bndS, bnd, Wn.ret, stuck, opt, eVar, eCst, eOp, eCall, eChain, bTru, bNot, bAnd, bOr, eOr, eAnd, eNot, eIf, lNil, lCons, eTup, eLst, eCell, eMt, eMl, eSl, oNo, oAt, eNeg, eLc, lcRun, fnDo, startE, fin, Tg.put, TgL.puts, isS_ite, if_le_sz, lstX_lst, lstOf_lst, add_int, sub_int, eq_int, ne_int, le_int, lt_int, gt_int, ge_int, is_non, isnot_non, isNon, asTru, truD, iArg, wipeE,
  List.map_cons, List.map_nil, List.length_cons, List.length_nil, List.getElem?_cons_zero, List.getElem?_cons_succ, List.set_cons_zero, List.set_cons_succ, List.getD_cons_zero, List.getD_cons_succ, List.cons_append, List.nil_append, List.replicate_succ, List.replicate_zero, Nat.zero_add, Nat.sub_self, Nat.add_one_sub_one, Nat.reduceAdd, Nat.reduceSub, Nat.reduceLeDiff, Nat.reduceEqDiff, if_true, if_false, Bool.false_eq_true, Bool.not_true, Bool.not_false, decide_true, decide_false, g1, g2, List.zip_cons_cons, List.zip_nil_right, List.foldl_cons, List.foldl_nil,
  mIndex, mJoin, mAppend, mExtend, mGet, eMd, eDcp, gDcp, sSetA, setA, bLen, bAbs, bMax, bMin, bSum, bAll, bAny, bOrd, bRepr, bIsi, tInt, tTup, tLst, nInt, nStr, nBool, nTup, nLst, oAdd, oSub, oMul, oMod, oDiv, oPow, cEq, cNe, cLt, cLe, cGt, cGe, cIn, cNi, cIs, cIn', Option.some_or, Option.or_none, Option.none_or])
local macro_rules | `(tactic| walk_at "evh") => `(tactic| simp only [*, fnDef, fnOf, denSL, denS, den, denL, denB, denI, sSeq, sAsg, sRet, sRetN, sEx, sIf, sFor, sPar, sSet, sPass, sBrk, sCnt, bndS, bnd, Wn.ret, stuck, opt, eVar, eCst, eOp, eCall, eChain, bTru, bNot, bAnd, bOr, eOr, eAnd, eNot, eIf, lNil, lCons, eTup, eLst, eCell, eMt, eMl, eSl, oNo, oAt, eNeg, eLc, lcRun, fnDo, startE, fin, Tg.put, TgL.puts, isS_ite, if_le_sz, lstX_lst, lstOf_lst, add_int, sub_int, eq_int, ne_int, le_int, lt_int, gt_int, ge_int, is_non, isnot_non, isNon, asTru, truD, iArg, wipeE,
  List.map_cons, List.map_nil, List.length_cons, List.length_nil, List.getElem?_cons_zero, List.getElem?_cons_succ, List.set_cons_zero, List.set_cons_succ, List.getD_cons_zero, List.getD_cons_succ, List.cons_append, List.nil_append, List.replicate_succ, List.replicate_zero, Nat.zero_add, Nat.sub_self, Nat.add_one_sub_one, Nat.reduceAdd, Nat.reduceSub, Nat.reduceLeDiff, Nat.reduceEqDiff, if_true, if_false, Bool.false_eq_true, Bool.not_true, Bool.not_false, decide_true, decide_false, g1, g2, List.zip_cons_cons, List.zip_nil_right, List.foldl_cons, List.foldl_nil,
  mIndex, mJoin, mAppend, mExtend, mGet, eMd, eDcp, gDcp, sSetA, setA, bLen, bAbs, bMax, bMin, bSum, bAll, bAny, bOrd, bRepr, bIsi, tInt, tTup, tLst, nInt, nStr, nBool, nTup, nLst, oAdd, oSub, oMul, oMod, oDiv, oPow, cEq, cNe, cLt, cLe, cGt, cGe, cIn, cNi, cIs, cIn', Option.some_or, Option.or_none, Option.none_or])
/-! ### the law's own reader as a whole -/
def tldD : Tld → D
  | .whole l => .tup [.str "whole", .str (st l)]
  | .mend l a => .tup [.str "mended", .str (st l), .int (a : Nat)]
  | .torn => .tup [.str "torn"]
theorem openD_prg (vs : List Nat) : openD vs = if vs = blank then .tup [.str "empty"] else tldD (prgTell vs) := by
  unfold openD prgTell
  by_cases h : vs = blank
  · rw [if_pos h, if_pos h]
  · rw [if_neg h, if_neg h]
    cases wholeOf vs with
    | some l => rfl
    | none =>
      simp only
      cases mendOf vs <;> rfl
theorem opened_turn {vs h : List Nat} {M : Mem} {lf : D} {x y : Option D} (hc : Cells vs) (hl : vs.length = 256) (hh : Cells h) (hhl : h.length = 226) :
    ∃ x' y', denSL [F_law_code_lifted, F_law_code_text, F_law_code_sealed, F_law_code_fallen] L1_law_code_opened [some (.str (cs vs)), some lf, some (.str (cs h)), x, y] M = match ownTry vs (codeText h) with
      | some t => .rt (tldD t) M
      | none => .nx [some (.str (cs vs)), some lf, some (.str (cs h)), x', y'] M := by
  have e0 : (.str (Str.ofString "") : D) = .str (cs []) := rfl
  have e1 : ∀ M, gNe M (.str (cs h)) (.str (Str.ofString "")) = some (.bl true) := fun M => by
    rw [e0, gNe_cs hh (by intro v hv; cases hv)]
    have : h ≠ [] := fun z => by rw [z] at hhl; cases hhl
    simp [this]
  have e2 : ∀ M, F_law_code_text [.str (cs h)] M = .ok (optS (codeText h)) M := fun M => ev_law_code_text hh hhl
  cases ht : codeText h with
  | none =>
    rw [ht] at e2
    have f1 : optS none = .non := rfl
    refine ⟨some .non, some .non, ?_⟩
    simp only [ownTry]
    clear hc hl hh hhl ht e0
    unfold L1_law_code_opened
    walk_at "evh"
  | some l =>
    rw [ht] at e2
    obtain ⟨ok, _⟩ := code_some hhl hh ht
    have f1 : optS (some l) = .str (st l) := rfl
    have e3 : ∀ M, F_law_code_sealed [.str (st l)] M = .ok (.str (cs (sealedC l))) M := fun M => ev_law_code_sealed ok
    have e4 : ∀ M, gEq M (.str (cs (sealedC l))) (.str (cs vs)) = some (.bl (decide (sealedC l = vs))) := fun M => gEq_cs (sealedC_cells l) hc
    have e5 : ∀ M, F_law_code_fallen [.str (cs vs), .str (cs (sealedC l))] M = .ok (optN (ownFell vs (sealedC l))) M := fun M => ev_law_code_fallen hc (sealedC_cells l) hl (sealedC_len ok)
    refine ⟨some (.str (st l)), some .non, ?_⟩
    simp only [ownTry]
    by_cases c : sealedC l = vs
    · have c' : (sealedC l = vs) = True := eq_true c
      rw [if_pos c]
      simp only [tldD]
      clear hc hl hh hhl ht ok e0 c
      unfold L1_law_code_opened
      walk_at "evh"
      all_goals rfl
    · have c' : (sealedC l = vs) = False := eq_false c
      rw [if_neg c]
      cases hf : ownFell vs (sealedC l) with
      | none =>
        rw [hf] at e5
        have f2 : optN none = .non := rfl
        simp only [Option.map_none]
        clear hc hl hh hhl ht ok e0 c hf
        unfold L1_law_code_opened
        walk_at "evh"
      | some a =>
        rw [hf] at e5
        have f2 : optN (some a) = .int (a : Nat) := rfl
        simp only [Option.map_some, tldD]
        clear hc hl hh hhl ht ok e0 c hf
        unfold L1_law_code_opened
        walk_at "evh"
        all_goals rfl
theorem opened_none {vs : List Nat} {M : Mem} {lf : D} {x y : Option D} :
    ∃ x' y', denSL [F_law_code_lifted, F_law_code_text, F_law_code_sealed, F_law_code_fallen] L1_law_code_opened [some (.str (cs vs)), some lf, some (.str (Str.ofString "")), x, y] M = .nx [some (.str (cs vs)), some lf, some (.str (Str.ofString "")), x', y'] M := by
  have e1 : ∀ M, gNe M (.str (Str.ofString "")) (.str (Str.ofString "")) = some (.bl false) := fun M => by
    have e0 : (.str (Str.ofString "") : D) = .str (cs []) := rfl
    rw [e0, gNe_cs (by intro v hv; cases hv) (by intro v hv; cases hv)]
    simp
  refine ⟨some .non, some .non, ?_⟩
  unfold L1_law_code_opened
  walk_at "evh"
theorem setAt_cells {vs : List Nat} {a v : Nat} (hc : Cells vs) (hv : v < 16) : Cells (setAt vs a v) := by
  intro w hw
  unfold setAt at hw
  simp only [List.mem_append, List.mem_singleton] at hw
  rcases hw with (hw | hw) | hw
  · exact hc w (List.mem_of_mem_take hw)
  · omega
  · exact hc w (List.mem_of_mem_drop hw)
theorem ev_law_code_opened {vs : List Nat} {M : Mem} (hc : Cells vs) (hl : vs.length = 256) : F_law_code_opened [.str (cs vs)] M = .ok (openD vs) M := by
  rw [openD_prg, ← own_prg hl hc]
  have e3 : ∀ M, gMul M (.str (Str.ofString "f")) (.int 256) = some (.str (cs blank)) := fun M => by
    have e0 : (.str (Str.ofString "f") : D) = .str (st [102]) := rfl
    have e1 : (.int 256 : D) = .int ((256 : Nat) : Int) := rfl
    rw [e0, e1, gMul_st (by omega)]
    congr 2
  have e4 : ∀ M, gEq M (.str (cs vs)) (.str (cs blank)) = some (.bl (decide (vs = blank))) := fun M => gEq_cs hc blank_cells
  by_cases hb : vs = blank
  · have hb' : (vs = blank) = True := eq_true hb
    rw [if_pos hb]
    clear hc hl hb
    unfold F_law_code_opened B_law_code_opened
    walk_at "evh"
    all_goals rfl
  have hb' : (vs = blank) = False := eq_false hb
  rw [if_neg hb]
  have e5 : ∀ M, F_law_code_lifted [.str (cs vs)] M = .ok (optC vs (ownLift vs)) M := fun M => ev_law_code_lifted hc hl
  have e6 : ∀ M, gSl M (.str (cs vs)) none (some 226) = some (.str (cs (vs.take 226))) := fun M => by
    rw [gSl_cs (by unfold sizeLine; omega), show (226 : Int) = ((226 : Nat) : Int) from rfl, cutD_hi]
  have h1 : Cells (vs.take 226) := fun v hv => hc v (List.mem_of_mem_take hv)
  have h2 : (vs.take 226).length = 226 := by rw [List.length_take]; omega
  have h2z : ∀ (α : Type) (a b : α), (if 2 ≤ sizeLine then a else b) = a := fun _ a b => if_pos (by decide)
  unfold ownTell ownTwo
  have hI : ∀ (ds : List D) M, itT (.tup ds) M = .ok ds M := fun _ _ => rfl
  cases hL : ownLift vs with
  | none =>
    rw [hL] at e5
    have f0 : optC vs none = .non := rfl
    obtain ⟨x1, y1, t1⟩ := opened_turn (M := M) (lf := .non) (x := none) (y := none) hc hl h1 h2
    obtain ⟨x2, y2, t2⟩ := opened_none (vs := vs) (M := M) (lf := .non) (x := x1) (y := y1)
    have key : forGo (.nm 2) (denSL [F_law_code_lifted, F_law_code_text, F_law_code_sealed, F_law_code_fallen] L1_law_code_opened) [.str (cs (vs.take 226)), .str (Str.ofString "")] [some (.str (cs vs)), some .non, none, none, none] M = match ownTry vs (codeText (vs.take 226)) with
        | some t => .rt (tldD t) M
        | none => .nx [some (.str (cs vs)), some .non, some (.str (Str.ofString "")), x2, y2] M := by
      cases hT : ownTry vs (codeText (vs.take 226)) with
      | some t => rw [hT] at t1; exact for_rt rfl t1
      | none => rw [hT] at t1; exact (for_nx rfl t1).trans (for_nx rfl t2)
    cases hT : ownTry vs (codeText (vs.take 226)) with
    | some t =>
      rw [hT] at key
      simp only
      clear hc hl hb h1 h2 t1 t2 hT hL
      unfold F_law_code_opened B_law_code_opened
      walk_at "evh"
    | none =>
      rw [hT] at key
      have f3 : tldD ((none : Option Tld).getD .torn) = .tup [.str "torn"] := rfl
      simp only [f3]
      clear hc hl hb h1 h2 t1 t2 hT hL f3
      unfold F_law_code_opened B_law_code_opened
      walk_at "evh"
      all_goals rfl
  | some p =>
    rw [hL] at e5
    have f0 : optC vs (some p) = .str (cs (setAt vs p.1 p.2)) := rfl
    obtain ⟨_, _, a, d, _, _, hd, ha, hv, _, _, rfl⟩ := ownLift_some hL
    have hsl : (setAt vs a (vs.getD a 0 + d)).length = 256 := by rw [setAt_set (by omega), List.length_set, hl]
    have hsc := setAt_cells (a := a) (v := vs.getD a 0 + d) hc (by omega)
    have h3 : Cells ((setAt vs a (vs.getD a 0 + d)).take 226) := fun v hv => hsc v (List.mem_of_mem_take hv)
    have h4 : ((setAt vs a (vs.getD a 0 + d)).take 226).length = 226 := by rw [List.length_take]; omega
    have e7 : ∀ M, gSl M (.str (cs (setAt vs a (vs.getD a 0 + d)))) none (some 226) = some (.str (cs ((setAt vs a (vs.getD a 0 + d)).take 226))) := fun M => by
      rw [gSl_cs (by unfold sizeLine; omega), show (226 : Int) = ((226 : Nat) : Int) from rfl, cutD_hi]
    obtain ⟨x1, y1, t1⟩ := opened_turn (M := M) (lf := .str (cs (setAt vs a (vs.getD a 0 + d)))) (x := none) (y := none) hc hl h1 h2
    obtain ⟨x2, y2, t2⟩ := opened_turn (M := M) (lf := .str (cs (setAt vs a (vs.getD a 0 + d)))) (x := x1) (y := y1) hc hl h3 h4
    simp only at f0 ⊢
    generalize setAt vs a (vs.getD a 0 + d) = W at *
    have key : forGo (.nm 2) (denSL [F_law_code_lifted, F_law_code_text, F_law_code_sealed, F_law_code_fallen] L1_law_code_opened) [.str (cs (vs.take 226)), .str (cs (W.take 226))] [some (.str (cs vs)), some (.str (cs W)), none, none, none] M = match ownTry vs (codeText (vs.take 226)) with
        | some t => .rt (tldD t) M
        | none => match ownTry vs (codeText (W.take 226)) with
          | some t => .rt (tldD t) M
          | none => .nx [some (.str (cs vs)), some (.str (cs W)), some (.str (cs (W.take 226))), x2, y2] M := by
      cases hT : ownTry vs (codeText (vs.take 226)) with
      | some t => rw [hT] at t1; exact for_rt rfl t1
      | none =>
        rw [hT] at t1
        cases hU : ownTry vs (codeText (W.take 226)) with
        | some t => rw [hU] at t2; exact (for_nx rfl t1).trans (for_rt rfl t2)
        | none => rw [hU] at t2; exact (for_nx rfl t1).trans (for_nx rfl t2)
    cases hT : ownTry vs (codeText (vs.take 226)) with
    | some t =>
      rw [hT] at key
      simp only
      clear hc hl hb h1 h2 t1 t2 hT hL h3 h4 hsl hsc hd ha hv
      unfold F_law_code_opened B_law_code_opened
      walk_at "evh"
    | none =>
      rw [hT] at key
      cases hU : ownTry vs (codeText (W.take 226)) with
      | some t =>
        rw [hU] at key
        simp only [Option.getD_some]
        clear hc hl hb h1 h2 t1 t2 hT hL h3 h4 hsl hsc hd ha hv hU
        unfold F_law_code_opened B_law_code_opened
        walk_at "evh"
      | none =>
        rw [hU] at key
        have f3 : tldD ((none : Option Tld).getD .torn) = .tup [.str "torn"] := rfl
        simp only [f3]
        clear hc hl hb h1 h2 t1 t2 hT hL h3 h4 hsl hsc hd ha hv hU f3
        unfold F_law_code_opened B_law_code_opened
        walk_at "evh"
        all_goals rfl
end Lw
end

section
set_option Elab.async false
set_option linter.all false
set_option maxRecDepth 100000
set_option maxHeartbeats 4000000
namespace Lw
open PySem Wn
local macro_rules | `(tactic| walk_at "ev") => `(tactic| simp only [fnDef, fnOf, denSL, denS, den, denL, denB, denI, sSeq, sAsg, sRet, sRetN, sEx, sIf, sFor, sPar, sSet, sPass, sBrk, sCnt, bndS, bnd, Wn.ret, stuck, opt, eVar, eCst, eOp, eCall, eChain, bTru, bNot, bAnd, bOr, eOr, eAnd, eNot, eIf, lNil, lCons, eTup, eLst, eCell, eMt, eMl, eSl, oNo, oAt, eNeg, eLc, lcRun, fnDo, startE, fin, Tg.put, TgL.puts, isS_ite, if_le_sz, lstX_lst, lstOf_lst, add_int, sub_int, eq_int, ne_int, le_int, lt_int, gt_int, ge_int, is_non, isnot_non, isNon, asTru, truD, iArg, wipeE,
  List.map_cons, List.map_nil, List.length_cons, List.length_nil, List.getElem?_cons_zero, List.getElem?_cons_succ, List.set_cons_zero, List.set_cons_succ, List.getD_cons_zero, List.getD_cons_succ, List.cons_append, List.nil_append, List.replicate_succ, List.replicate_zero, Nat.zero_add, Nat.sub_self, Nat.add_one_sub_one, Nat.reduceAdd, Nat.reduceSub, Nat.reduceLeDiff, Nat.reduceEqDiff, if_true, if_false, Bool.false_eq_true, Bool.not_true, Bool.not_false, decide_true, decide_false, g1, g2, List.zip_cons_cons, List.zip_nil_right, List.foldl_cons, List.foldl_nil,
  mIndex, mJoin, mAppend, mExtend, mGet, eMd, eDcp, gDcp, sSetA, setA, bLen, bAbs, bMax, bMin, bSum, bAll, bAny, bOrd, bRepr, bIsi, tInt, tTup, tLst, nInt, nStr, nBool, nTup, nLst, oAdd, oSub, oMul, oMod, oDiv, oPow, cEq, cNe, cLt, cLe, cGt, cGe, cIn, cNi, cIs, cIn', Option.some_or, Option.or_none, Option.none_or])
local macro_rules | `(tactic| walk_at "evh") => `(tactic| simp only [*, fnDef, fnOf, denSL, denS, den, denL, denB, denI, sSeq, sAsg, sRet, sRetN, sEx, sIf, sFor, sPar, sSet, sPass, sBrk, sCnt, bndS, bnd, Wn.ret, stuck, opt, eVar, eCst, eOp, eCall, eChain, bTru, bNot, bAnd, bOr, eOr, eAnd, eNot, eIf, lNil, lCons, eTup, eLst, eCell, eMt, eMl, eSl, oNo, oAt, eNeg, eLc, lcRun, fnDo, startE, fin, Tg.put, TgL.puts, isS_ite, if_le_sz, lstX_lst, lstOf_lst, add_int, sub_int, eq_int, ne_int, le_int, lt_int, gt_int, ge_int, is_non, isnot_non, isNon, asTru, truD, iArg, wipeE,
  List.map_cons, List.map_nil, List.length_cons, List.length_nil, List.getElem?_cons_zero, List.getElem?_cons_succ, List.set_cons_zero, List.set_cons_succ, List.getD_cons_zero, List.getD_cons_succ, List.cons_append, List.nil_append, List.replicate_succ, List.replicate_zero, Nat.zero_add, Nat.sub_self, Nat.add_one_sub_one, Nat.reduceAdd, Nat.reduceSub, Nat.reduceLeDiff, Nat.reduceEqDiff, if_true, if_false, Bool.false_eq_true, Bool.not_true, Bool.not_false, decide_true, decide_false, g1, g2, List.zip_cons_cons, List.zip_nil_right, List.foldl_cons, List.foldl_nil,
  mIndex, mJoin, mAppend, mExtend, mGet, eMd, eDcp, gDcp, sSetA, setA, bLen, bAbs, bMax, bMin, bSum, bAll, bAny, bOrd, bRepr, bIsi, tInt, tTup, tLst, nInt, nStr, nBool, nTup, nLst, oAdd, oSub, oMul, oMod, oDiv, oPow, cEq, cNe, cLt, cLe, cGt, cGe, cIn, cNi, cIs, cIn', Option.some_or, Option.or_none, Option.none_or])
/-! ### what opened tells shows itself -/
theorem word_st : ("whole" : Str) = st [119, 104, 111, 108, 101] ∧ ("mended" : Str) = st [109, 101, 110, 100, 101, 100] ∧ ("empty" : Str) = st [101, 109, 112, 116, 121] ∧ ("torn" : Str) = st [116, 111, 114, 110] := by decide
theorem nice_text {l : List Nat} (h : okText l = true) : Nice 0 2000 (.str (st l)) := by
  have h1 := okText_len h
  exact (nice_str fun c hc => okSign_lt (okText_all h c hc)).mono (Nat.le_refl _) (by omega)
theorem nice_word {l : List Nat} (h : ∀ c ∈ l, c < 127) (hl : l.length ≤ 100) : Nice 0 2000 (.str (st l)) := (nice_str h).mono (Nat.le_refl _) (by omega)
theorem wholeOf_ok {vs l : List Nat} (h : wholeOf vs = some l) : okText l = true := by
  unfold wholeOf at h
  cases hs : signsIn vs with
  | none => rw [hs] at h; cases h
  | some m =>
    rw [hs] at h
    simp only at h
    split at h
    · cases h; exact signsIn_ok hs
    · cases h
theorem fallenText_ok {vs : List Nat} {p : List Nat × Nat} (h : fallenText vs = some p) : okText p.1 = true ∧ p.2 < 226 := by
  unfold fallenText at h
  cases ht : toldS vs with
  | none => rw [ht] at h; cases h
  | some t =>
    rw [ht] at h
    simp only at h
    cases hf : fallAt vs (sums3 0 (vs.take 226) (0, 0, 0)) t with
    | none => rw [hf] at h; cases h
    | some r =>
      rw [hf] at h
      obtain ⟨l, hs, rfl⟩ := Option.map_eq_some_iff.mp h
      obtain ⟨a, d, _, ha, _, _, _, _, rfl⟩ := fallAt_some hf
      exact ⟨signsIn_ok hs, ha⟩
theorem fallenSums_ok {vs : List Nat} {p : List Nat × Nat} (h : fallenSums vs = some p) : okText p.1 = true ∧ p.2 < 256 := by
  unfold fallenSums at h
  cases hs : signsIn vs with
  | none => rw [hs] at h; cases h
  | some m =>
    rw [hs] at h
    simp only at h
    split at h
    · rename_i a hu
      split at h
      · cases h
      · cases h
        have : a ∈ unl vs (sealedC m) := by rw [hu]; exact List.mem_singleton.mpr rfl
        have := (tails_mem.mp (List.mem_filter.mp this).1).2
        exact ⟨signsIn_ok hs, this⟩
    · cases h
theorem mendOf_ok {vs : List Nat} {p : List Nat × Nat} (h : mendOf vs = some p) : okText p.1 = true ∧ p.2 < 256 := by
  unfold mendOf at h
  cases ht : fallenText vs with
  | some q =>
    rw [ht] at h
    cases h
    obtain ⟨h1, h2⟩ := fallenText_ok ht
    exact ⟨h1, by omega⟩
  | none => rw [ht] at h; exact fallenSums_ok h
theorem shows_open (vs : List Nat) : Shows (openD vs) := by
  obtain ⟨w1, w2, w3, w4⟩ := word_st
  unfold openD
  rw [w1, w2, w3, w4]
  have go1 : ∀ l : List Nat, (∀ c ∈ l, c < 127) → l.length ≤ 100 → Shows (.tup [.str (st l)]) := fun l h hl => (nice_tuple (k := 0) (B := 2000) (ps := [.str (st l)]) (by
    intro p hp
    rw [List.mem_singleton.mp hp]
    exact nice_word h hl)).shows (by omega) (by simp) rfl rfl
  split
  · exact go1 _ (by decide) (by decide)
  · split
    · rename_i l hl
      have ok := wholeOf_ok hl
      exact (nice_tuple (k := 0) (B := 2000) (ps := [.str (st [119, 104, 111, 108, 101]), .str (st l)]) (by
        intro p hp
        simp only [List.mem_cons, List.not_mem_nil, or_false] at hp
        rcases hp with rfl | rfl
        · exact nice_word (by decide) (by decide)
        · exact nice_text ok)).shows (by omega) (by simp) rfl rfl
    · split
      · rename_i p hp
        obtain ⟨ok, hlt⟩ := mendOf_ok hp
        exact (nice_tuple (k := 0) (B := 2000) (ps := [.str (st [109, 101, 110, 100, 101, 100]), .str (st p.1), .int (p.2 : Nat)]) (by
          intro q hq
          simp only [List.mem_cons, List.not_mem_nil, or_false] at hq
          rcases hq with rfl | rfl | rfl
          · exact nice_word (by decide) (by decide)
          · exact nice_text ok
          · exact (nice_nat (Nat.lt_trans hlt (by decide +kernel))).mono (Nat.le_refl _) (by omega))).shows (by omega) (by simp) rfl rfl
      · exact go1 _ (by decide) (by decide)
end Lw
end

section
set_option Elab.async false
set_option linter.all false
set_option maxRecDepth 100000
set_option maxHeartbeats 4000000
namespace Lw
open PySem Wn
local macro_rules | `(tactic| walk_at "ev") => `(tactic| simp only [fnDef, fnOf, denSL, denS, den, denL, denB, denI, sSeq, sAsg, sRet, sRetN, sEx, sIf, sFor, sPar, sSet, sPass, sBrk, sCnt, bndS, bnd, Wn.ret, stuck, opt, eVar, eCst, eOp, eCall, eChain, bTru, bNot, bAnd, bOr, eOr, eAnd, eNot, eIf, lNil, lCons, eTup, eLst, eCell, eMt, eMl, eSl, oNo, oAt, eNeg, eLc, lcRun, fnDo, startE, fin, Tg.put, TgL.puts, isS_ite, if_le_sz, lstX_lst, lstOf_lst, add_int, sub_int, eq_int, ne_int, le_int, lt_int, gt_int, ge_int, is_non, isnot_non, isNon, asTru, truD, iArg, wipeE,
  List.map_cons, List.map_nil, List.length_cons, List.length_nil, List.getElem?_cons_zero, List.getElem?_cons_succ, List.set_cons_zero, List.set_cons_succ, List.getD_cons_zero, List.getD_cons_succ, List.cons_append, List.nil_append, List.replicate_succ, List.replicate_zero, Nat.zero_add, Nat.sub_self, Nat.add_one_sub_one, Nat.reduceAdd, Nat.reduceSub, Nat.reduceLeDiff, Nat.reduceEqDiff, if_true, if_false, Bool.false_eq_true, Bool.not_true, Bool.not_false, decide_true, decide_false, g1, g2, List.zip_cons_cons, List.zip_nil_right, List.foldl_cons, List.foldl_nil,
  mIndex, mJoin, mAppend, mExtend, mGet, eMd, eDcp, gDcp, sSetA, setA, bLen, bAbs, bMax, bMin, bSum, bAll, bAny, bOrd, bRepr, bIsi, tInt, tTup, tLst, nInt, nStr, nBool, nTup, nLst, oAdd, oSub, oMul, oMod, oDiv, oPow, cEq, cNe, cLt, cLe, cGt, cGe, cIn, cNi, cIs, cIn', Option.some_or, Option.or_none, Option.none_or])
local macro_rules | `(tactic| walk_at "evh") => `(tactic| simp only [*, fnDef, fnOf, denSL, denS, den, denL, denB, denI, sSeq, sAsg, sRet, sRetN, sEx, sIf, sFor, sPar, sSet, sPass, sBrk, sCnt, bndS, bnd, Wn.ret, stuck, opt, eVar, eCst, eOp, eCall, eChain, bTru, bNot, bAnd, bOr, eOr, eAnd, eNot, eIf, lNil, lCons, eTup, eLst, eCell, eMt, eMl, eSl, oNo, oAt, eNeg, eLc, lcRun, fnDo, startE, fin, Tg.put, TgL.puts, isS_ite, if_le_sz, lstX_lst, lstOf_lst, add_int, sub_int, eq_int, ne_int, le_int, lt_int, gt_int, ge_int, is_non, isnot_non, isNon, asTru, truD, iArg, wipeE,
  List.map_cons, List.map_nil, List.length_cons, List.length_nil, List.getElem?_cons_zero, List.getElem?_cons_succ, List.set_cons_zero, List.set_cons_succ, List.getD_cons_zero, List.getD_cons_succ, List.cons_append, List.nil_append, List.replicate_succ, List.replicate_zero, Nat.zero_add, Nat.sub_self, Nat.add_one_sub_one, Nat.reduceAdd, Nat.reduceSub, Nat.reduceLeDiff, Nat.reduceEqDiff, if_true, if_false, Bool.false_eq_true, Bool.not_true, Bool.not_false, decide_true, decide_false, g1, g2, List.zip_cons_cons, List.zip_nil_right, List.foldl_cons, List.foldl_nil,
  mIndex, mJoin, mAppend, mExtend, mGet, eMd, eDcp, gDcp, sSetA, setA, bLen, bAbs, bMax, bMin, bSum, bAll, bAny, bOrd, bRepr, bIsi, tInt, tTup, tLst, nInt, nStr, nBool, nTup, nLst, oAdd, oSub, oMul, oMod, oDiv, oPow, cEq, cNe, cLt, cLe, cGt, cGe, cIn, cNi, cIs, cIn', Option.some_or, Option.or_none, Option.none_or])
/-! ### places that are drawn, cells less -/
theorem get_app {M : Mem} {n : Nat} {c d : Cell} (h : M[n]? = some c) : (M ++ [d])[n]? = some c := by
  rw [List.getElem?_append_left (List.getElem?_eq_some_iff.mp h).1]; exact h
theorem get_appL {M J : Mem} {n : Nat} {c : Cell} (h : M[n]? = some c) : (M ++ J)[n]? = some c := by
  rw [List.getElem?_append_left (List.getElem?_eq_some_iff.mp h).1]; exact h
theorem set_appL {M J : Mem} {n : Nat} {c e : Cell} (h : M[n]? = some c) : (M ++ J).set n e = M.set n e ++ J := by
  rw [List.set_append_left _ _ (List.getElem?_eq_some_iff.mp h).1]
theorem get_mid {M J : Mem} {c : Cell} : (M ++ c :: J)[M.length]? = some c := by
  rw [List.getElem?_append_right (Nat.le_refl _), Nat.sub_self]; rfl
theorem set_mid {M J : Mem} {c d : Cell} : (M ++ c :: J).set M.length d = M ++ d :: J := by
  rw [List.set_append_right _ _ (Nat.le_refl _), Nat.sub_self]; rfl
theorem ext_ok {M : Mem} {m q : Nat} {ds es : List D} (h : M[m]? = some (.lst ds)) (h2 : M[q]? = some (.lst es)) (hz : ds.length + es.length ≤ sizeLine) : fExtend (.ref m) [.ref q] M = .ok .non (M.set m (.lst (ds ++ es))) := by
  unfold fExtend
  simp only [h, h2]
  rw [if_pos hz]
theorem all_ints {P : Nat → Prop} : ∀ {xs : List D}, (∀ x ∈ xs, ∃ a : Nat, P a ∧ x = .int (a : Nat)) → ∃ as : List Nat, (∀ a ∈ as, P a) ∧ xs = inD as
  | [], _ => ⟨[], (by intro v h; cases h), rfl⟩
  | x :: xs, h => by
    obtain ⟨v, hv, rfl⟩ := h x (List.mem_cons_self ..)
    obtain ⟨vs, hc, rfl⟩ := all_ints fun y hy => h y (List.mem_cons_of_mem _ hy)
    refine ⟨v :: vs, ?_, rfl⟩
    intro w hw
    rcases List.mem_cons.mp hw with rfl | hw
    · exact hv
    · exact hc w hw
theorem inD_len (l : List Nat) : (inD l).length = l.length := by simp [inD]
theorem inD_app (a b : List Nat) : inD (a ++ b) = inD a ++ inD b := by simp [inD]
theorem clos_inD {m : Nat} : ∀ {l : List Nat}, clos m (inD l) = true
  | [] => rfl
  | a :: l => by
    show (clo m (D.int ((a : Nat) : Int)) && clos m (inD l)) = true
    rw [clos_inD]; rfl
theorem clos_pot {m k : Nat} {p : List D} (h : Pot k p) : clos m p = true := by
  obtain ⟨a, b, c, rfl, _⟩ := h
  rfl
theorem places_turn {k n lo hi : Nat} {M J : Mem} {c0 : Cell} {p : List D} {as : List Nat} {pg lw : D} (h0 : M[n]? = some c0) (hp : Pot k p) (hk : k < 90000) (hlo : lo < hi) (hhi : hi ≤ 256) (has : as.length ≤ 1000) :
    ∃ (as2 : List Nat) (p' : List D) (J' : Mem), (∀ a ∈ as2, a < 256) ∧ as2.length = 2 ∧ Pot (k + 2) p' ∧ denSL [F_law_take] L1_law_places [some (.ref n), some pg, some lw, some (.ref M.length), some (.int (lo : Nat)), some (.int (hi : Nat)), none, none] (M.set n (.lst p) ++ .lst (inD as) :: J)
      = .nx [some (.ref n), some pg, some lw, some (.ref M.length), some (.int (lo : Nat)), some (.int (hi : Nat)), none, none] (M.set n (.lst p') ++ .lst (inD (as ++ as2)) :: J') := by
  have hl : ∀ c : Cell, (M.set n c).length = M.length := fun c => List.length_set
  have hN : (M.set n (.lst p) ++ .lst (inD as) :: J)[n]? = some (.lst p) := get_appL (get_set h0)
  have r1 : isL (M.set n (.lst p) ++ .lst (inD as) :: J) (.ref M.length) = true := isL_ref (ds := inD as) (by rw [← hl (.lst p)]; exact get_mid)
  have a1 : ((hi : Nat) : Int) - ((lo : Nat) : Int) = ((hi - lo : Nat) : Int) := by omega
  obtain ⟨xs, p3, l3, s3, q4, t3⟩ := draws (i := 7) (n := n) (B := 99999) (e := den [F_law_take] X1_law_places) (δ := [some (.ref n), some pg, some lw, some (.ref M.length), some (.int (lo : Nat)), some (.int (hi : Nat)), none, none]) (S := fun x => ∃ a : Nat, a < 256 ∧ x = .int (a : Nat)) (fun M p k d hM hp hk => by
    obtain ⟨r, p', hr, hp', e⟩ := ev_take (u := hi - lo) hM hp (by omega) (by omega) (by omega)
    have a2 : ((lo : Nat) : Int) + ((r : Nat) : Int) = ((lo + r : Nat) : Int) := by omega
    refine ⟨.int ((lo + r : Nat) : Int), p', ⟨lo + r, by omega, rfl⟩, hp', ?_⟩
    clear hM hp hk hr hp' h0 hlo hhi has hl hN r1
    unfold X1_law_places
    walk_at "evh") (rng 0 2) _ p k hN hp (by rw [rng_len]; omega)
  rw [rng_len] at q4 l3
  rw [set_appL (get_set h0), List.set_set] at t3
  obtain ⟨as2, h2, rfl⟩ := all_ints s3
  rw [inD_len] at l3
  have e0 : ∀ M, fRng1 [.int 2] M = .ok (rng 0 2) M := fun M => fRng1_nat (n := 2) (by omega)
  have q3 : (rng 0 2).length ≤ 1000 := by rw [rng_len]; omega
  have r3 : fExtend (.ref M.length) [.ref (M.set n (.lst p3) ++ .lst (inD as) :: J).length] ((M.set n (.lst p3) ++ .lst (inD as) :: J) ++ [.lst (inD as2)]) = .ok .non (M.set n (.lst p3) ++ .lst (inD (as ++ as2)) :: (J ++ [.lst (inD as2)])) := by
    rw [ext_ok (ds := inD as) (es := inD as2) (get_app (by rw [← hl (.lst p3)]; exact get_mid)) get_end (by rw [inD_len, inD_len, l3]; unfold sizeLine; omega)]
    congr 1
    rw [inD_app, List.append_assoc, ← hl (.lst p3), List.cons_append, set_mid]
  refine ⟨as2, p3, J ++ [.lst (inD as2)], h2, l3, q4, ?_⟩
  have b5 : ∀ (d : D) (M : Mem), noErr (.ok d M : Res D) = .ok d M := fun _ _ => rfl
  generalize M.set n (.lst p3) ++ .lst (inD (as ++ as2)) :: (J ++ [.lst (inD as2)]) = N3 at *
  generalize M.set n (.lst p3) ++ .lst (inD as) :: J = N2 at *
  generalize M.set n (.lst p) ++ .lst (inD as) :: J = N1 at *
  clear h0 hp hk hlo hhi has hl hN s3 q4 l3 h2
  unfold L1_law_places
  have u1 : ∀ it t vs c e, eLcC it t vs c e = fun δ => bnd (lcRun it t vs c e δ) fun xs M => .ok (.ref M.length) (M ++ [.lst xs]) := fun _ _ _ _ _ => rfl
  walk_at "evh"
theorem places_loop {n : Nat} {M : Mem} {c0 : Cell} {pg lw : D} (h0 : M[n]? = some c0) : ∀ (ls : List (Nat × Nat)) (k : Nat) (p : List D) (as : List Nat) (J : Mem) (x y : Option D), Pot k p → k + 2 * ls.length < 80000 → (∀ l ∈ ls, l.1 < l.2 ∧ l.2 ≤ 256) → as.length + 2 * ls.length ≤ 900 → (∀ a ∈ as, a < 256) →
    ∃ (as2 : List Nat) (p' : List D) (J' : Mem) (x' y' : Option D), (∀ a ∈ as2, a < 256) ∧ as2.length ≤ as.length + 2 * ls.length ∧ Pot (k + 2 * ls.length) p' ∧ forGo (.tp (.cons (.nm 4) (.cons (.nm 5) .nil))) (denSL [F_law_take] L1_law_places) (ls.map fun l => D.tup [.int (l.1 : Nat), .int (l.2 : Nat)]) [some (.ref n), some pg, some lw, some (.ref M.length), x, y, none, none] (M.set n (.lst p) ++ .lst (inD as) :: J)
      = .nx [some (.ref n), some pg, some lw, some (.ref M.length), x', y', none, none] (M.set n (.lst p') ++ .lst (inD as2) :: J')
  | [], k, p, as, J, x, y, hp, _, _, _, ha => ⟨as, p, J, x, y, ha, by simp, hp, rfl⟩
  | l :: ls, k, p, as, J, x, y, hp, hk, hls, hl, ha => by
    rw [List.length_cons] at hk hl
    obtain ⟨h1, h2⟩ := hls l (List.mem_cons_self ..)
    obtain ⟨as2, p2, J2, ha2, hl2, q2, t2⟩ := places_turn (pg := pg) (lw := lw) (J := J) h0 hp (by omega) h1 h2 (show as.length ≤ 1000 by omega)
    obtain ⟨as3, p3, J3, x3, y3, ha3, hl3, q3, t3⟩ := places_loop h0 ls (k + 2) p2 (as ++ as2) J2 (some (.int (l.1 : Nat))) (some (.int (l.2 : Nat))) q2 (by omega) (fun m hm => hls m (List.mem_cons_of_mem _ hm)) (by rw [List.length_append]; omega) (by
      intro a h
      rcases List.mem_append.mp h with h | h
      · exact ha a h
      · exact ha2 a h)
    rw [List.length_append, hl2] at hl3
    refine ⟨as3, p3, J3, x3, y3, ha3, by rw [List.length_cons]; omega, by rw [List.length_cons, show k + 2 * (ls.length + 1) = k + 2 + 2 * ls.length by omega]; exact q3, ?_⟩
    rw [List.map_cons]
    exact (for_nx rfl t2).trans t3
def lowsL : List (Nat × Nat) := [(0, 8), (0, 226), (200, 226), (226, 229), (229, 232), (232, 237), (237, 242), (242, 249), (249, 256)]
theorem zero_st : Str.ofString "0" = st [hexc 0] := by decide
theorem ev_places {k n : Nat} {M : Mem} {p : List D} {vs : List Nat} (hM : M[n]? = some (.lst p)) (hp : Pot k p) (hk : k < 70000) (hc : Cells vs) (hl : vs.length = 256) :
    ∃ (as : List Nat) (p' : List D), (∀ a ∈ as, a < 256 ∧ vs.getD a 0 ≠ 0) ∧ as.length ≤ 18 ∧ Pot (k + 18) p' ∧ F_law_places [.ref n, .str (cs vs)] M = .ok (.lst (inD as)) (M.set n (.lst p')) := by
  obtain ⟨as, p', J, x', y', ha, hal, q, t⟩ := places_loop (pg := .str (cs vs)) (lw := .lst (lowsL.map fun l => D.tup [.int (l.1 : Nat), .int (l.2 : Nat)])) hM lowsL k p [] [] none none hp (by simp [lowsL]; omega) (by decide) (by decide) (by intro a h; cases h)
  have hal : as.length ≤ 18 := by simpa [lowsL] using hal
  have q : Pot (k + 18) p' := q
  have hll : ∀ c : Cell, (M.set n c).length = M.length := fun c => List.length_set
  have e1 : ∀ (a b c d e f g : Option D), sFrz 3 [a, b, c, some (.ref M.length), d, e, f, g] (M.set n (.lst p') ++ .lst (inD as) :: J) = .nx [a, b, c, some (.lst (inD as)), d, e, f, g] (M.set n (.lst p') ++ .dead :: J) := fun a b c d e f g => by
    unfold sFrz
    simp only [List.getElem?_cons_succ, List.getElem?_cons_zero, List.set_cons_succ, List.set_cons_zero]
    have : (M.set n (.lst p') ++ .lst (inD as) :: J)[M.length]? = some (.lst (inD as)) := by rw [← hll (.lst p')]; exact get_mid
    simp only [this]
    rw [← hll (.lst p'), set_mid]
  have e2 : ∀ (a b c d : Option D) M, lcGo (.nm 6) (bTru (eOp gNe (eOp (fun M a b => (gIx M a b).or (gIxD M a b)) (eVar 1) (eVar 6)) (eCst (.str (Str.ofString "0"))))) (den [F_law_take] X2_law_places) [a, some (.str (cs vs)), b, c, d, y', none, none] (inD as) M = .ok (inD (as.filter fun a => !decide (vs.getD a 0 = 0))) M := fun a b c d M => by
    unfold inD
    rw [lc_filter (p := fun d => match d with | .int i => !decide (vs.getD i.toNat 0 = 0) | _ => false) (fun d hd => ?_) (fun d hd => ?_), filter_map (q := fun a => !decide (vs.getD a 0 = 0))]
    · intro a _
      simp only [Int.toNat_natCast]
    · obtain ⟨a, ha', rfl⟩ := List.mem_map.mp hd
      have h1 := ha a ha'
      have i1 : ∀ M, gIx M (.str (cs vs)) (.int ((a : Nat) : Int)) = some (.str (cs [vs.getD a 0])) := fun M => by
        rw [← cell1]; exact cs_ix (by omega) (getD_get (by omega))
      have i2 : ∀ M, gNe M (.str (cs [vs.getD a 0])) (.str (Str.ofString "0")) = some (.bl (!decide (vs.getD a 0 = 0))) := fun M => by
        have e0 : (.str (Str.ofString "0") : D) = .str (cs [0]) := rfl
        rw [e0, gNe_cs (by intro v hv; rw [List.mem_singleton] at hv; subst hv; exact getD_cell hc a) (by intro v hv; rw [List.mem_singleton] at hv; omega)]
        congr 3
        simp
      clear hd ha' h1 hc hl ha hM hp hk t q e1 hal hll
      simp only [Int.toNat_natCast]
      walk_at "evh"
    · obtain ⟨a, ha', rfl⟩ := List.mem_map.mp hd
      rfl
  have hz : (inD as).length ≤ 1000 := by rw [inD_len]; omega
  have e3 : ∀ (ds : List D) M, itL (.lst ds) M = .ok ds M := fun _ _ => rfl
  have htr : trim M (.ok (.lst (inD (as.filter fun a => !decide (vs.getD a 0 = 0)))) (M.set n (.lst p') ++ .dead :: J)) = .ok (.lst (inD (as.filter fun a => !decide (vs.getD a 0 = 0)))) (M.set n (.lst p')) := trim_set clos_inD (clos_pot q)
  have hs : M.set n (.lst p) = M := set_same hM
  rw [hs] at t
  refine ⟨as.filter fun a => !decide (vs.getD a 0 = 0), p', fun a h => ?_, Nat.le_trans (List.length_filter_le _ _) hal, q, ?_⟩
  · obtain ⟨h1, h2⟩ := List.mem_filter.mp h
    exact ⟨ha a h1, by simpa using h2⟩
  · have t' : forGo (.tp (.cons (.nm 4) (.cons (.nm 5) .nil))) (denSL [F_law_take] L1_law_places) [.tup [.int 0, .int 8], .tup [.int 0, .int 226], .tup [.int 200, .int 226], .tup [.int 226, .int 229], .tup [.int 229, .int 232], .tup [.int 232, .int 237], .tup [.int 237, .int 242], .tup [.int 242, .int 249], .tup [.int 249, .int 256]] [some (.ref n), some (.str (cs vs)), some (.lst [.tup [.int 0, .int 8], .tup [.int 0, .int 226], .tup [.int 200, .int 226], .tup [.int 226, .int 229], .tup [.int 229, .int 232], .tup [.int 232, .int 237], .tup [.int 237, .int 242], .tup [.int 242, .int 249], .tup [.int 249, .int 256]]), some (.ref M.length), none, none, none, none] (M ++ [.lst []]) = .nx [some (.ref n), some (.str (cs vs)), some (.lst [.tup [.int 0, .int 8], .tup [.int 0, .int 226], .tup [.int 200, .int 226], .tup [.int 226, .int 229], .tup [.int 229, .int 232], .tup [.int 232, .int 237], .tup [.int 237, .int 242], .tup [.int 242, .int 249], .tup [.int 249, .int 256]]), some (.ref M.length), x', y', none, none] (M.set n (.lst p') ++ .lst (inD as) :: J) := t
    clear hM hp hk hc hl ha hal q t hll hs
    unfold F_law_places B_law_places
    walk_at "evh"
theorem atI_last {l : List Nat} {v : Nat} (h : l.getLast? = some v) : L2.atI l (-1) = some v := by
  have hne : l ≠ [] := fun z => by rw [z] at h; cases h
  have hpos := List.length_pos_iff.mpr hne
  unfold L2.atI L2.ixN
  rw [if_neg (by omega), if_pos (by omega)]
  show ((some _).bind fun j => l[j]?) = _
  show l[_]? = _
  rw [show ((-1 : Int) + (l.length : Int)).toNat = l.length - 1 by omega, ← List.getLast?_eq_getElem?, h]
theorem ev_lower {k n v : Nat} {M : Mem} {p : List D} (hM : M[n]? = some (.lst p)) (hp : Pot k p) (hk : k < 90000) (h0 : 0 < v) (hv : v < 16) :
    ∃ w p', w < v ∧ Pot (k + 1) p' ∧ F_law_lower [.ref n, .str (st [hexc v])] M = .ok (.lst [.str (st [hexc 0]), .str (st [hexc (v - 1)]), .str (st [hexc w])]) (M.set n (.lst p')) := by
  obtain ⟨x, hx, p', q, t⟩ := ev_of (ds := csDs (List.range v)) hM hp (by omega) (by
    intro z
    have := congrArg List.length z
    simp [csDs] at this
    omega) (by simp [csDs]; omega)
  obtain ⟨w, hw, rfl⟩ := List.mem_map.mp hx
  have hw := List.mem_range.mp hw
  have e1 : ∀ M, F_law_code_worth [.str (st [hexc v])] M = .ok (.int (v : Nat)) M := fun M => ev_law_code_worth hv
  have e2 : ∀ M, gSl M (.str (Str.ofString "0123456789abcdef")) none (some (v : Nat)) = some (.str (cs (List.range v))) := fun M => by
    have e : Str.ofString "0123456789abcdef" = cs (List.range 16) := by decide
    rw [e, gSl_cs (by simp; decide), cutD_hi, List.take_range, Nat.min_eq_left (by omega)]
  have e3 : ∀ M, gIx M (.str (cs (List.range v))) (.int 0) = some (.str (st [hexc 0])) := fun M => cs_ix (a := 0) (by simp; omega) (by rw [List.getElem?_range h0])
  have e4 : ∀ M, gIx M (.str (cs (List.range v))) (.int (-1)) = some (.str (st [hexc (v - 1)])) := fun M => by
    show (if (cs (List.range v)).length ≤ sizeLine then (L2.atI (cs (List.range v)).cps.toList (-1)).map fun c => D.str ⟨#[c]⟩ else none) = _
    rw [if_pos (by rw [cs_len, List.length_range]; unfold sizeLine; omega)]
    unfold cs
    rw [st_tl, atI_last (v := hexc (v - 1))]
    · rfl
    · rw [List.getLast?_map, List.getLast?_range, if_neg (by omega)]; rfl
  have e5 : ∀ M, fList M (.str (cs (List.range v))) = some (.lst (csDs (List.range v))) := fun M => by
    rw [list_str (by rw [cs_len, List.length_range]; unfold sizeLine; omega), cs_sgn]; rfl
  have e6 : gNeg (.int 1) = fun M => .ok (.int (-1)) M := rfl
  refine ⟨w, p', hw, q, ?_⟩
  clear hM hp hk h0 hv hx hw q
  unfold F_law_lower B_law_lower
  walk_at "evh"
end Lw
end

section
set_option Elab.async false
set_option linter.all false
set_option maxRecDepth 100000
set_option maxHeartbeats 4000000
namespace Lw
open PySem Wn
local macro_rules | `(tactic| walk_at "ev") => `(tactic| simp only [fnDef, fnOf, denSL, denS, den, denL, denB, denI, sSeq, sAsg, sRet, sRetN, sEx, sIf, sFor, sPar, sSet, sPass, sBrk, sCnt, bndS, bnd, Wn.ret, stuck, opt, eVar, eCst, eOp, eCall, eChain, bTru, bNot, bAnd, bOr, eOr, eAnd, eNot, eIf, lNil, lCons, eTup, eLst, eCell, eMt, eMl, eSl, oNo, oAt, eNeg, eLc, lcRun, fnDo, startE, fin, Tg.put, TgL.puts, isS_ite, if_le_sz, lstX_lst, lstOf_lst, add_int, sub_int, eq_int, ne_int, le_int, lt_int, gt_int, ge_int, is_non, isnot_non, isNon, asTru, truD, iArg, wipeE,
  List.map_cons, List.map_nil, List.length_cons, List.length_nil, List.getElem?_cons_zero, List.getElem?_cons_succ, List.set_cons_zero, List.set_cons_succ, List.getD_cons_zero, List.getD_cons_succ, List.cons_append, List.nil_append, List.replicate_succ, List.replicate_zero, Nat.zero_add, Nat.sub_self, Nat.add_one_sub_one, Nat.reduceAdd, Nat.reduceSub, Nat.reduceLeDiff, Nat.reduceEqDiff, if_true, if_false, Bool.false_eq_true, Bool.not_true, Bool.not_false, decide_true, decide_false, g1, g2, List.zip_cons_cons, List.zip_nil_right, List.foldl_cons, List.foldl_nil,
  mIndex, mJoin, mAppend, mExtend, mGet, eMd, eDcp, gDcp, sSetA, setA, bLen, bAbs, bMax, bMin, bSum, bAll, bAny, bOrd, bRepr, bIsi, tInt, tTup, tLst, nInt, nStr, nBool, nTup, nLst, oAdd, oSub, oMul, oMod, oDiv, oPow, cEq, cNe, cLt, cLe, cGt, cGe, cIn, cNi, cIs, cIn', Option.some_or, Option.or_none, Option.none_or])
local macro_rules | `(tactic| walk_at "evh") => `(tactic| simp only [*, fnDef, fnOf, denSL, denS, den, denL, denB, denI, sSeq, sAsg, sRet, sRetN, sEx, sIf, sFor, sPar, sSet, sPass, sBrk, sCnt, bndS, bnd, Wn.ret, stuck, opt, eVar, eCst, eOp, eCall, eChain, bTru, bNot, bAnd, bOr, eOr, eAnd, eNot, eIf, lNil, lCons, eTup, eLst, eCell, eMt, eMl, eSl, oNo, oAt, eNeg, eLc, lcRun, fnDo, startE, fin, Tg.put, TgL.puts, isS_ite, if_le_sz, lstX_lst, lstOf_lst, add_int, sub_int, eq_int, ne_int, le_int, lt_int, gt_int, ge_int, is_non, isnot_non, isNon, asTru, truD, iArg, wipeE,
  List.map_cons, List.map_nil, List.length_cons, List.length_nil, List.getElem?_cons_zero, List.getElem?_cons_succ, List.set_cons_zero, List.set_cons_succ, List.getD_cons_zero, List.getD_cons_succ, List.cons_append, List.nil_append, List.replicate_succ, List.replicate_zero, Nat.zero_add, Nat.sub_self, Nat.add_one_sub_one, Nat.reduceAdd, Nat.reduceSub, Nat.reduceLeDiff, Nat.reduceEqDiff, if_true, if_false, Bool.false_eq_true, Bool.not_true, Bool.not_false, decide_true, decide_false, g1, g2, List.zip_cons_cons, List.zip_nil_right, List.foldl_cons, List.foldl_nil,
  mIndex, mJoin, mAppend, mExtend, mGet, eMd, eDcp, gDcp, sSetA, setA, bLen, bAbs, bMax, bMin, bSum, bAll, bAny, bOrd, bRepr, bIsi, tInt, tTup, tLst, nInt, nStr, nBool, nTup, nLst, oAdd, oSub, oMul, oMod, oDiv, oPow, cEq, cNe, cLt, cLe, cGt, cGe, cIn, cNi, cIs, cIn', Option.some_or, Option.or_none, Option.none_or])
/-! ### one cell less is mended -/
theorem whole_set {vs : List Nat} {a : Nat} (h : a < vs.length) : vs.set a (vs.getD a 0) = vs := by
  refine List.ext_getElem? fun i => ?_
  by_cases e : a = i
  · subst e
    rw [List.getElem?_set_self h, getD_get h]
  · rw [List.getElem?_set_ne e]
theorem less_head {l : List Nat} {a v : Nat} (hl : okText l = true) (ha : a < 226) (hv : v < (sealedC l).getD a 0) : wholeOf ((sealedC l).set a v) = none ∧ fallenText ((sealedC l).set a v) = some (l, a) := by
  have hP := sealedC_len hl
  have hc := sealedC_cells l
  have hx := getD_cell hc a
  have hsig := sealed_signs hl
  have htl := sealed_tail hl
  have hhd := sealed_text hl
  have hb := sums3_bound (textC l) (by rw [textC_len (okText_len hl)]; omega)
  generalize sealedC l = P at *
  have hWl : (P.set a v).length = 256 := by rw [List.length_set, hP]
  have hWa : (P.set a v).getD a 0 = v := getD_set_self (by omega)
  have hback : (P.set a v).set a (v + (P.getD a 0 - v)) = P := by
    rw [List.set_set, show v + (P.getD a 0 - v) = P.getD a 0 by omega, whole_set (by omega)]
  have ht : toldS (P.set a v) = some (sums3 0 (textC l) (0, 0, 0)) := told_tail (by rw [drop_set ha, htl]) hb.1 hb.2.1 hb.2.2
  have hs := sums_less (vs := P.set a v) (a := a) (d := P.getD a 0 - v) hWl ha (by rw [hWa]; omega)
  rw [hWa, hback, hhd] at hs
  constructor
  · unfold wholeOf
    cases hm : signsIn (P.set a v) with
    | none => rfl
    | some m =>
      simp only
      rw [if_neg]
      intro q
      obtain ⟨ok, ht2⟩ := signs_some hm
      have hb2 := sums3_bound (textC m) (by rw [textC_len (okText_len ok)]; omega)
      have ht3 := told_tail (sealed_tail ok) hb2.1 hb2.2.1 hb2.2.2
      rw [q, ht, ht2] at ht3
      have := Option.some.inj ht3
      have h1 := hs.1
      rw [← this] at h1
      omega
  · unfold fallenText
    rw [ht]
    simp only
    rw [fallAt_of (d := P.getD a 0 - v) (by omega) ha (by rw [hWa]; omega) hs.1 hs.2.1 hs.2.2]
    simp only
    rw [setAt_set (by omega), hWa, hback, hsig]
    rfl
theorem less_tail {l : List Nat} {a v : Nat} (hl : okText l = true) (h1 : 226 ≤ a) (ha : a < 256) (hv : v < (sealedC l).getD a 0) : wholeOf ((sealedC l).set a v) = none ∧ fallenText ((sealedC l).set a v) = none ∧ fallenSums ((sealedC l).set a v) = some (l, a) := by
  have hP := sealedC_len hl
  have hc := sealedC_cells l
  have hx := getD_cell hc a
  have hhd := sealed_text hl
  have hb := sums3_bound (textC l) (by rw [textC_len (okText_len hl)]; omega)
  have hcon := con_told hP (told_tail (sealed_tail hl) hb.1 hb.2.1 hb.2.2)
  generalize hPP : sealedC l = P at *
  have hWl : (P.set a v).length = 256 := by rw [List.length_set, hP]
  have hWc : Cells (P.set a v) := cells_set hc (by omega)
  have hWa : (P.set a v).getD a 0 = v := getD_set_self (by omega)
  have htk : (P.set a v).take 226 = textC l := by rw [List.take_set, List.set_eq_of_length_le (by rw [List.length_take]; omega), hhd]
  have hsg := signs_of hl htk
  have hno : toldS (P.set a v) = none := by
    cases ht : toldS (P.set a v) with
    | none => rfl
    | some t =>
      have := con_two (con_told hWl ht) hcon hWc hc h1 ha fun b _ _ hb => getD_set_ne fun z => hb z.symm
      rw [hWa] at this
      omega
  refine ⟨?_, ?_, ?_⟩
  · unfold wholeOf
    rw [hsg]
    simp only
    rw [if_neg]
    intro q
    rw [hPP] at q
    rw [← q] at hWa
    omega
  · unfold fallenText
    rw [hno]
  · unfold fallenSums
    rw [hsg]
    simp only
    have hu : unl (P.set a v) P = [a] := by
      rw [← unl_head (by rw [htk, hhd])]
      have e : (P.set a v).set a (P.getD a 0) = P := by rw [List.set_set, whole_set (by omega)]
      have := unl_set (vs := P.set a v) (a := a) (v := P.getD a 0) hWl ha (by rw [hWa]; omega)
      rw [e] at this
      exact this
    rw [hPP, hu]
    simp only
    rw [hWa, if_neg (by omega)]
def mendD (l : List Nat) (a : Nat) : D := .tup [.str (Str.ofString "mended"), .str (st l), .int (a : Nat)]
theorem open_less {l : List Nat} {a v : Nat} (hl : okText l = true) (ha : a < 256) (hv : v < (sealedC l).getD a 0) : openD ((sealedC l).set a v) = mendD l a := by
  have hP := sealedC_len hl
  have hx := getD_cell (sealedC_cells l) a
  have hb : (sealedC l).set a v ≠ blank := fun q => by
    have e : ((sealedC l).set a v).getD a 0 = v := getD_set_self (by omega)
    rw [q] at e
    have : blank.getD a 0 = 15 := by
      unfold blank
      rw [List.getD_eq_getElem?_getD, List.getElem?_replicate, if_pos (by omega)]; rfl
    omega
  have hm : wholeOf ((sealedC l).set a v) = none ∧ mendOf ((sealedC l).set a v) = some (l, a) := by
    by_cases c : a < 226
    · obtain ⟨h1, h2⟩ := less_head hl c hv
      refine ⟨h1, ?_⟩
      unfold mendOf
      rw [h2]
    · obtain ⟨h1, h2, h3⟩ := less_tail hl (by omega) ha hv
      refine ⟨h1, ?_⟩
      unfold mendOf
      rw [h2]
      exact h3
  unfold openD
  rw [if_neg hb, hm.1]
  simp only
  rw [hm.2]
  rfl
end Lw
end

section
set_option Elab.async false
set_option linter.all false
set_option maxRecDepth 100000
set_option maxHeartbeats 4000000
namespace Lw
open PySem Wn
local macro_rules | `(tactic| walk_at "ev") => `(tactic| simp only [fnDef, fnOf, denSL, denS, den, denL, denB, denI, sSeq, sAsg, sRet, sRetN, sEx, sIf, sFor, sPar, sSet, sPass, sBrk, sCnt, bndS, bnd, Wn.ret, stuck, opt, eVar, eCst, eOp, eCall, eChain, bTru, bNot, bAnd, bOr, eOr, eAnd, eNot, eIf, lNil, lCons, eTup, eLst, eCell, eMt, eMl, eSl, oNo, oAt, eNeg, eLc, lcRun, fnDo, startE, fin, Tg.put, TgL.puts, isS_ite, if_le_sz, lstX_lst, lstOf_lst, add_int, sub_int, eq_int, ne_int, le_int, lt_int, gt_int, ge_int, is_non, isnot_non, isNon, asTru, truD, iArg, wipeE,
  List.map_cons, List.map_nil, List.length_cons, List.length_nil, List.getElem?_cons_zero, List.getElem?_cons_succ, List.set_cons_zero, List.set_cons_succ, List.getD_cons_zero, List.getD_cons_succ, List.cons_append, List.nil_append, List.replicate_succ, List.replicate_zero, Nat.zero_add, Nat.sub_self, Nat.add_one_sub_one, Nat.reduceAdd, Nat.reduceSub, Nat.reduceLeDiff, Nat.reduceEqDiff, if_true, if_false, Bool.false_eq_true, Bool.not_true, Bool.not_false, decide_true, decide_false, g1, g2, List.zip_cons_cons, List.zip_nil_right, List.foldl_cons, List.foldl_nil,
  mIndex, mJoin, mAppend, mExtend, mGet, eMd, eDcp, gDcp, sSetA, setA, bLen, bAbs, bMax, bMin, bSum, bAll, bAny, bOrd, bRepr, bIsi, tInt, tTup, tLst, nInt, nStr, nBool, nTup, nLst, oAdd, oSub, oMul, oMod, oDiv, oPow, cEq, cNe, cLt, cLe, cGt, cGe, cIn, cNi, cIs, cIn', Option.some_or, Option.or_none, Option.none_or])
local macro_rules | `(tactic| walk_at "evh") => `(tactic| simp only [*, fnDef, fnOf, denSL, denS, den, denL, denB, denI, sSeq, sAsg, sRet, sRetN, sEx, sIf, sFor, sPar, sSet, sPass, sBrk, sCnt, bndS, bnd, Wn.ret, stuck, opt, eVar, eCst, eOp, eCall, eChain, bTru, bNot, bAnd, bOr, eOr, eAnd, eNot, eIf, lNil, lCons, eTup, eLst, eCell, eMt, eMl, eSl, oNo, oAt, eNeg, eLc, lcRun, fnDo, startE, fin, Tg.put, TgL.puts, isS_ite, if_le_sz, lstX_lst, lstOf_lst, add_int, sub_int, eq_int, ne_int, le_int, lt_int, gt_int, ge_int, is_non, isnot_non, isNon, asTru, truD, iArg, wipeE,
  List.map_cons, List.map_nil, List.length_cons, List.length_nil, List.getElem?_cons_zero, List.getElem?_cons_succ, List.set_cons_zero, List.set_cons_succ, List.getD_cons_zero, List.getD_cons_succ, List.cons_append, List.nil_append, List.replicate_succ, List.replicate_zero, Nat.zero_add, Nat.sub_self, Nat.add_one_sub_one, Nat.reduceAdd, Nat.reduceSub, Nat.reduceLeDiff, Nat.reduceEqDiff, if_true, if_false, Bool.false_eq_true, Bool.not_true, Bool.not_false, decide_true, decide_false, g1, g2, List.zip_cons_cons, List.zip_nil_right, List.foldl_cons, List.foldl_nil,
  mIndex, mJoin, mAppend, mExtend, mGet, eMd, eDcp, gDcp, sSetA, setA, bLen, bAbs, bMax, bMin, bSum, bAll, bAny, bOrd, bRepr, bIsi, tInt, tTup, tLst, nInt, nStr, nBool, nTup, nLst, oAdd, oSub, oMul, oMod, oDiv, oPow, cEq, cNe, cLt, cLe, cGt, cGe, cIn, cNi, cIs, cIn', Option.some_or, Option.or_none, Option.none_or])
/-! ### the law body -/
theorem setAt_app {vs : List Nat} {a v : Nat} {M : Mem} (hl : vs.length ≤ 1000) : (∀ M, gSl M (.str (cs vs)) none (some (a : Nat)) = some (.str (cs (vs.take a)))) ∧ (∀ M, gSl M (.str (cs vs)) (some ((a + 1 : Nat) : Int)) none = some (.str (cs (vs.drop (a + 1))))) ∧
    (∀ M, gAdd M (.str (cs (vs.take a))) (.str (st [hexc v])) = some (.str (cs (vs.take a ++ [v])))) ∧ ∀ M, gAdd M (.str (cs (vs.take a ++ [v]))) (.str (cs (vs.drop (a + 1)))) = some (.str (cs (setAt vs a v))) := by
  refine ⟨fun M => by rw [gSl_cs (by unfold sizeLine; omega), cutD_hi], fun M => by rw [gSl_cs (by unfold sizeLine; omega), cutD_lo], fun M => ?_, fun M => gAdd_cs (by rw [List.length_append, List.length_take, List.length_singleton, List.length_drop]; unfold sizeLine; omega)⟩
  rw [cell1]
  exact gAdd_cs (by rw [List.length_take, List.length_singleton]; unfold sizeLine; omega)
theorem right_turn {k n a : Nat} {M : Mem} {p : List D} {l as : List Nat} {b : D} {x6 x7 x8 x9 x10 : Option D} (hM : M[n]? = some (.lst p)) (hp : Pot k p) (hk : k < 50000) (hl : okText l = true) (ha : a < 256 ∧ (sealedC l).getD a 0 ≠ 0) (has : ∀ a ∈ as, a < 256 ∧ (sealedC l).getD a 0 ≠ 0) (h0 : as ≠ []) (hal : as.length ≤ 18) :
    ∃ (p' : List D) (y6 y7 y8 y9 y10 : Option D), Pot (k + 10) p' ∧ denSL [F_law_text_drawn, F_law_code_sealed, F_law_places, F_law_of, F_law_lower, F_opened, F_law_code_opened] L1_law_right [some (.ref n), some b, some (.str (st l)), some (.str (cs (sealedC l))), some (.lst (inD as)), some (.int (a : Nat)), x6, x7, x8, x9, x10] M = .nx [some (.ref n), some b, some (.str (st l)), some (.str (cs (sealedC l))), some (.lst (inD as)), some (.int (a : Nat)), y6, y7, y8, y9, y10] (M.set n (.lst p')) := by
  obtain ⟨ha1, ha2⟩ := ha
  have hPl := sealedC_len hl
  have hPc := sealedC_cells l
  have hopen := fun v (hv : v < (sealedC l).getD a 0) => open_less hl ha1 hv
  generalize sealedC l = P at *
  have i1 : ∀ M, gIx M (.str (cs P)) (.int (a : Nat)) = some (.str (st [hexc (P.getD a 0)])) := fun M => cs_ix (by omega) (getD_get (by omega))
  obtain ⟨w, p1, hw, q1, t1⟩ := ev_lower hM hp (by omega) (show 0 < P.getD a 0 by omega) (getD_cell hPc a)
  have hM1 := get_set (d := .lst p1) hM
  obtain ⟨x, hx, p2, q2, t2⟩ := ev_of hM1 q1 (by omega) (ds := [.str (st [hexc 0]), .str (st [hexc (P.getD a 0 - 1)]), .str (st [hexc w])]) (by simp) (by simp)
  rw [List.set_set] at t2
  have hM2 := get_set (d := .lst p2) hM
  have hxx : ∃ u, u < P.getD a 0 ∧ x = .str (st [hexc u]) := by
    simp only [List.mem_cons, List.not_mem_nil, or_false] at hx
    rcases hx with rfl | rfl | rfl
    · exact ⟨0, by omega, rfl⟩
    · exact ⟨_, by omega, rfl⟩
    · exact ⟨w, hw, rfl⟩
  obtain ⟨u, hu, rfl⟩ := hxx
  have hu16 : u < 16 := Nat.lt_trans hu (getD_cell hPc a)
  obtain ⟨g1, g2, g3, g4⟩ := setAt_app (vs := P) (a := a) (v := u) (M := M) (by omega)
  have a1 : ((a : Nat) : Int) + 1 = ((a + 1 : Nat) : Int) := by omega
  have hset : setAt P a u = P.set a u := setAt_set (by omega)
  have hWl : (setAt P a u).length = 256 := by rw [hset, List.length_set, hPl]
  have hWc : Cells (setAt P a u) := setAt_cells hPc hu16
  have e1 : ∀ M, F_opened [.str (cs (setAt P a u))] M = .ok (mendD l a) M := fun M => by
    rw [ev_opened hWc hWl, hset, hopen u hu]
  have hsh : Shows (mendD l a) := by
    have := shows_open (P.set a u)
    rw [hopen u hu] at this
    exact this
  obtain ⟨r1, s1, s2⟩ := hsh
  have md : D.tup [.str (Str.ofString "mended"), .str (st l), .int (a : Nat)] = mendD l a := rfl
  obtain ⟨y, hy, p3, q3, t3⟩ := ev_of hM2 q2 (by omega) (ds := inD as) (by simp [inD, h0]) (by rw [inD_len]; omega)
  rw [List.set_set] at t3
  have hM3 := get_set (d := .lst p3) hM
  obtain ⟨o, ho, rfl⟩ := List.mem_map.mp hy
  obtain ⟨ho1, ho2⟩ := has o ho
  generalize setAt P a u = W at *
  by_cases c : o = a
  · have c' : (((o : Nat) : Int) = ((a : Nat) : Int)) = True := by simp [c]
    refine ⟨p3, some (.str (st [hexc u])), some (.str (cs W)), some (.int (o : Nat)), x9, x10, q3.mono (by omega), ?_⟩
    clear hM hp hk hl hPl hPc hopen hw q1 hM1 hx q2 hM2 hu hu16 hset hWl hWc q3 hM3 hy ho ho1 ho2 has h0 hal ha1 ha2 c
    unfold L1_law_right
    walk_at "evh"
  · have c' : (((o : Nat) : Int) = ((a : Nat) : Int)) = False := by simp; omega
    have i2 : ∀ M, gIx M (.str (cs P)) (.int (o : Nat)) = some (.str (st [hexc (P.getD o 0)])) := fun M => cs_ix (by omega) (getD_get (by omega))
    obtain ⟨w2, p4, hw2, q4, t4⟩ := ev_lower hM3 q3 (by omega) (show 0 < P.getD o 0 by omega) (getD_cell hPc o)
    rw [List.set_set] at t4
    have i3 : ∀ M, gIx M (.lst [.str (st [hexc 0]), .str (st [hexc (P.getD o 0 - 1)]), .str (st [hexc w2])]) (.int 2) = some (.str (st [hexc w2])) := fun M => rfl
    have hw16 : w2 < 16 := Nat.lt_trans hw2 (getD_cell hPc o)
    obtain ⟨k1, k2, k3, k4⟩ := setAt_app (vs := W) (a := o) (v := w2) (M := M) (by omega)
    have a2 : ((o : Nat) : Int) + 1 = ((o + 1 : Nat) : Int) := by omega
    have hVl : (setAt W o w2).length = 256 := by rw [setAt_set (by omega), List.length_set, hWl]
    have hVc : Cells (setAt W o w2) := setAt_cells hWc hw16
    have e2 : ∀ M, F_opened [.str (cs (setAt W o w2))] M = .ok (openD (setAt W o w2)) M := fun M => ev_opened hVc hVl
    have e3 : ∀ M, F_law_code_opened [.str (cs (setAt W o w2))] M = .ok (openD (setAt W o w2)) M := fun M => ev_law_code_opened hVc hVl
    obtain ⟨r2, s3, s4⟩ := shows_open (setAt W o w2)
    refine ⟨p4, some (.str (st [hexc u])), some (.str (cs W)), some (.int (o : Nat)), some (.str (cs (setAt W o w2))), some (openD (setAt W o w2)), q4.mono (by omega), ?_⟩
    generalize setAt W o w2 = V at *
    generalize openD V = ov at *
    clear hM hp hk hl hPl hPc hopen hw q1 hM1 hx q2 hM2 hu hu16 hset hWl hWc q3 hM3 hy ho ho1 ho2 has h0 hal ha1 ha2 c hw2 q4 hw16 hVl hVc
    unfold L1_law_right
    walk_at "evh"
theorem right_loop {n : Nat} {l as : List Nat} {b : D} (hl : okText l = true) (has : ∀ a ∈ as, a < 256 ∧ (sealedC l).getD a 0 ≠ 0) (hal : as.length ≤ 18) : ∀ (bs : List Nat) (k : Nat) (M : Mem) (p : List D) (x5 x6 x7 x8 x9 x10 : Option D), M[n]? = some (.lst p) → Pot k p → k + 10 * bs.length < 50000 → (∀ a ∈ bs, a ∈ as) →
    ∃ (p' : List D) (y5 y6 y7 y8 y9 y10 : Option D), Pot (k + 10 * bs.length) p' ∧ forGo (.nm 5) (denSL [F_law_text_drawn, F_law_code_sealed, F_law_places, F_law_of, F_law_lower, F_opened, F_law_code_opened] L1_law_right) (inD bs) [some (.ref n), some b, some (.str (st l)), some (.str (cs (sealedC l))), some (.lst (inD as)), x5, x6, x7, x8, x9, x10] M = .nx [some (.ref n), some b, some (.str (st l)), some (.str (cs (sealedC l))), some (.lst (inD as)), y5, y6, y7, y8, y9, y10] (M.set n (.lst p'))
  | [], k, M, p, x5, x6, x7, x8, x9, x10, hM, hp, _, _ => ⟨p, x5, x6, x7, x8, x9, x10, hp, by rw [set_same hM]; rfl⟩
  | a :: bs, k, M, p, x5, x6, x7, x8, x9, x10, hM, hp, hk, hb => by
    rw [List.length_cons] at hk
    have ha := hb a (List.mem_cons_self ..)
    obtain ⟨p1, y6, y7, y8, y9, y10, q1, t1⟩ := right_turn (b := b) (x6 := x6) (x7 := x7) (x8 := x8) (x9 := x9) (x10 := x10) hM hp (by omega) hl (has a ha) has (by intro z; rw [z] at ha; cases ha) hal
    obtain ⟨p2, z5, z6, z7, z8, z9, z10, q2, t2⟩ := right_loop hl has hal bs (k + 10) (M.set n (.lst p1)) p1 (some (.int (a : Nat))) y6 y7 y8 y9 y10 (get_set hM) q1 (by omega) fun c hc => hb c (List.mem_cons_of_mem _ hc)
    rw [List.set_set] at t2
    refine ⟨p2, z5, z6, z7, z8, z9, z10, by rw [List.length_cons, show k + 10 * (bs.length + 1) = k + 10 + 10 * bs.length by omega]; exact q2, ?_⟩
    show forGo _ _ (D.int (a : Nat) :: inD bs) _ _ = _
    exact (for_nx rfl t1).trans t2
theorem lap_turn {k n : Nat} {M : Mem} {p : List D} {b : D} {x2 x3 x4 x5 x6 x7 x8 x9 x10 : Option D} (hM : M[n]? = some (.lst p)) (hp : Pot k p) (hk : k < 20000) :
    ∃ (p' : List D) (y2 y3 y4 y5 y6 y7 y8 y9 y10 : Option D), Pot (k + 400) p' ∧ denSL [F_law_text_drawn, F_law_code_sealed, F_law_places, F_law_of, F_law_lower, F_opened, F_law_code_opened] L2_law_right [some (.ref n), some b, x2, x3, x4, x5, x6, x7, x8, x9, x10] M = .nx [some (.ref n), some b, y2, y3, y4, y5, y6, y7, y8, y9, y10] (M.set n (.lst p')) := by
  obtain ⟨l, p1, hl, q1, t1⟩ := ev_text_drawn hM hp (by omega)
  have hM1 := get_set (d := .lst p1) hM
  have e1 : ∀ M, F_law_code_sealed [.str (st l)] M = .ok (.str (cs (sealedC l))) M := fun M => ev_law_code_sealed hl
  obtain ⟨as, p2, has, hal, q2, t2⟩ := ev_places hM1 q1 (by omega) (sealedC_cells l) (sealedC_len hl)
  rw [List.set_set] at t2
  have hM2 := get_set (d := .lst p2) hM
  obtain ⟨p3, y5, y6, y7, y8, y9, y10, q3, t3⟩ := right_loop (b := b) hl has hal as (k + 115 + 18) (M.set n (.lst p2)) p2 x5 x6 x7 x8 x9 x10 hM2 q2 (by omega) fun _ h => h
  rw [List.set_set] at t3
  have e2 : ∀ (ds : List D) M, itL (.lst ds) M = .ok ds M := fun _ _ => rfl
  refine ⟨p3, some (.str (st l)), some (.str (cs (sealedC l))), some (.lst (inD as)), y5, y6, y7, y8, y9, y10, q3.mono (by omega), ?_⟩
  clear hM hp hk hl q1 hM1 has hal q2 hM2 q3
  unfold L2_law_right
  walk_at "evh"
theorem lap_loop {n : Nat} : ∀ (ds : List D) (k : Nat) (M : Mem) (p : List D) (b x2 x3 x4 x5 x6 x7 x8 x9 x10 : Option D), M[n]? = some (.lst p) → Pot k p → k + 400 * ds.length < 20000 →
    ∃ (p' : List D) (c y2 y3 y4 y5 y6 y7 y8 y9 y10 : Option D), forGo (.nm 1) (denSL [F_law_text_drawn, F_law_code_sealed, F_law_places, F_law_of, F_law_lower, F_opened, F_law_code_opened] L2_law_right) ds [some (.ref n), b, x2, x3, x4, x5, x6, x7, x8, x9, x10] M = .nx [some (.ref n), c, y2, y3, y4, y5, y6, y7, y8, y9, y10] (M.set n (.lst p'))
  | [], k, M, p, b, x2, x3, x4, x5, x6, x7, x8, x9, x10, hM, hp, _ => ⟨p, b, x2, x3, x4, x5, x6, x7, x8, x9, x10, by rw [set_same hM]; rfl⟩
  | d :: ds, k, M, p, b, x2, x3, x4, x5, x6, x7, x8, x9, x10, hM, hp, hk => by
    rw [List.length_cons] at hk
    obtain ⟨p1, y2, y3, y4, y5, y6, y7, y8, y9, y10, q1, t1⟩ := lap_turn (b := d) (x2 := x2) (x3 := x3) (x4 := x4) (x5 := x5) (x6 := x6) (x7 := x7) (x8 := x8) (x9 := x9) (x10 := x10) hM hp (by omega)
    obtain ⟨p2, c, z2, z3, z4, z5, z6, z7, z8, z9, z10, t2⟩ := lap_loop (n := n) ds (k + 400) (M.set n (.lst p1)) p1 (some d) y2 y3 y4 y5 y6 y7 y8 y9 y10 (get_set hM) q1 (by omega)
    rw [List.set_set] at t2
    exact ⟨p2, c, z2, z3, z4, z5, z6, z7, z8, z9, z10, (for_nx rfl t1).trans t2⟩
theorem ev_right {n : Nat} {M : Mem} {p : List D} (hM : M[n]? = some (.lst p)) (hp : Pot 0 p) : ∃ p', F_law_right [.ref n] M = .ok (.bl true) (M.set n (.lst p')) := by
  obtain ⟨p2, c, z2, z3, z4, z5, z6, z7, z8, z9, z10, t2⟩ := lap_loop (n := n) (rng 0 2) 0 M p none none none none none none none none none none hM hp (by rw [rng_len]; omega)
  have e0 : fRng1 [.int 2] M = .ok (rng 0 2) M := fRng1_nat (n := 2) (by omega)
  refine ⟨p2, ?_⟩
  clear hM hp
  unfold F_law_right B_law_right
  walk_at "evh"
end Lw
end

section
set_option Elab.async false
set_option linter.all false
set_option maxRecDepth 100000
set_option maxHeartbeats 4000000
namespace Lw
open PySem Wn
local macro_rules | `(tactic| walk_at "ev") => `(tactic| simp only [fnDef, fnOf, denSL, denS, den, denL, denB, denI, sSeq, sAsg, sRet, sRetN, sEx, sIf, sFor, sPar, sSet, sPass, sBrk, sCnt, bndS, bnd, Wn.ret, stuck, opt, eVar, eCst, eOp, eCall, eChain, bTru, bNot, bAnd, bOr, eOr, eAnd, eNot, eIf, lNil, lCons, eTup, eLst, eCell, eMt, eMl, eSl, oNo, oAt, eNeg, eLc, lcRun, fnDo, startE, fin, Tg.put, TgL.puts, isS_ite, if_le_sz, lstX_lst, lstOf_lst, add_int, sub_int, eq_int, ne_int, le_int, lt_int, gt_int, ge_int, is_non, isnot_non, isNon, asTru, truD, iArg, wipeE,
  List.map_cons, List.map_nil, List.length_cons, List.length_nil, List.getElem?_cons_zero, List.getElem?_cons_succ, List.set_cons_zero, List.set_cons_succ, List.getD_cons_zero, List.getD_cons_succ, List.cons_append, List.nil_append, List.replicate_succ, List.replicate_zero, Nat.zero_add, Nat.sub_self, Nat.add_one_sub_one, Nat.reduceAdd, Nat.reduceSub, Nat.reduceLeDiff, Nat.reduceEqDiff, if_true, if_false, Bool.false_eq_true, Bool.not_true, Bool.not_false, decide_true, decide_false, g1, g2, List.zip_cons_cons, List.zip_nil_right, List.foldl_cons, List.foldl_nil,
  mIndex, mJoin, mAppend, mExtend, mGet, eMd, eDcp, gDcp, sSetA, setA, bLen, bAbs, bMax, bMin, bSum, bAll, bAny, bOrd, bRepr, bIsi, tInt, tTup, tLst, nInt, nStr, nBool, nTup, nLst, oAdd, oSub, oMul, oMod, oDiv, oPow, cEq, cNe, cLt, cLe, cGt, cGe, cIn, cNi, cIs, cIn', Option.some_or, Option.or_none, Option.none_or])
local macro_rules | `(tactic| walk_at "evh") => `(tactic| simp only [*, fnDef, fnOf, denSL, denS, den, denL, denB, denI, sSeq, sAsg, sRet, sRetN, sEx, sIf, sFor, sPar, sSet, sPass, sBrk, sCnt, bndS, bnd, Wn.ret, stuck, opt, eVar, eCst, eOp, eCall, eChain, bTru, bNot, bAnd, bOr, eOr, eAnd, eNot, eIf, lNil, lCons, eTup, eLst, eCell, eMt, eMl, eSl, oNo, oAt, eNeg, eLc, lcRun, fnDo, startE, fin, Tg.put, TgL.puts, isS_ite, if_le_sz, lstX_lst, lstOf_lst, add_int, sub_int, eq_int, ne_int, le_int, lt_int, gt_int, ge_int, is_non, isnot_non, isNon, asTru, truD, iArg, wipeE,
  List.map_cons, List.map_nil, List.length_cons, List.length_nil, List.getElem?_cons_zero, List.getElem?_cons_succ, List.set_cons_zero, List.set_cons_succ, List.getD_cons_zero, List.getD_cons_succ, List.cons_append, List.nil_append, List.replicate_succ, List.replicate_zero, Nat.zero_add, Nat.sub_self, Nat.add_one_sub_one, Nat.reduceAdd, Nat.reduceSub, Nat.reduceLeDiff, Nat.reduceEqDiff, if_true, if_false, Bool.false_eq_true, Bool.not_true, Bool.not_false, decide_true, decide_false, g1, g2, List.zip_cons_cons, List.zip_nil_right, List.foldl_cons, List.foldl_nil,
  mIndex, mJoin, mAppend, mExtend, mGet, eMd, eDcp, gDcp, sSetA, setA, bLen, bAbs, bMax, bMin, bSum, bAll, bAny, bOrd, bRepr, bIsi, tInt, tTup, tLst, nInt, nStr, nBool, nTup, nLst, oAdd, oSub, oMul, oMod, oDiv, oPow, cEq, cNe, cLt, cLe, cGt, cGe, cIn, cNi, cIs, cIn', Option.some_or, Option.or_none, Option.none_or])
theorem law_each {ns : List Int} {δ : Wn.Env} (hδ : δ = [some (.scr (ns.map .int)), none]) : ∀ (is : List Nat) (M : Mem), (∀ i ∈ is, i < 2) → ∃ M', lcGo (.nm 1) bYes (den [F_law_cells, F_law_right, F_law_pot] X1_law) δ (is.map fun i => D.int ((i : Nat) : Int)) M = .ok (is.map fun _ => D.bl true) M'
  | [], M, _ => ⟨M, rfl⟩
  | i :: is, M, h => by
    obtain ⟨a, b, hb, e1⟩ := ev_pot (M := M) (ns := ns) (h i (List.mem_cons_self ..))
    obtain ⟨p', e2⟩ := ev_right (n := M.length) (M := M ++ [Cell.lst (potD a b 0)]) (p := potD a b 0) get_end ⟨a, b, 0, rfl, Nat.le_refl _, hb⟩
    obtain ⟨M', ih⟩ := law_each hδ is ((M ++ [Cell.lst (potD a b 0)]).set M.length (Cell.lst p')) fun j hj => h j (List.mem_cons_of_mem _ hj)
    refine ⟨M', ?_⟩
    subst hδ
    have e3 : den [F_law_cells, F_law_right, F_law_pot] X1_law [some (.scr (ns.map .int)), some (.int (i : Nat))] M = .ok (.bl true) ((M ++ [Cell.lst (potD a b 0)]).set M.length (Cell.lst p')) := by
      clear ih h
      unfold X1_law
      walk_at "evh"
    rw [List.map_cons, lcGo_cons]
    simp only [Tg.put, bYes_ok, List.set_cons_succ, List.set_cons_zero, e3, ih]
    rfl
theorem hl (ns : List Int) : ∃ M', F_law [.scr (ns.map D.int)] [] = .ok (.bl true) M' := by
  have e0 : ∃ m : Nat, m ≤ 2 ∧ ∀ M, F_law_cells [.scr (ns.map .int), .int 2] M = .ok (.lst ((List.range m).map fun i => D.int ((i : Nat) : Int))) M := by
    have e1 : ∀ M, fLen M (.scr (ns.map .int)) = some (.int (ns.length : Nat)) := fun M => by
      show some (D.int (((ns.map D.int).length : Nat) : Int)) = _
      rw [List.length_map]
    obtain ⟨m, hm, h⟩ : ∃ m : Nat, m ≤ 2 ∧ (if (if ((ns.length : Nat) : Int) < 2 then ((ns.length : Nat) : Int) else 2) > 1 then (if ((ns.length : Nat) : Int) < 2 then ((ns.length : Nat) : Int) else 2) else 1) = (m : Nat) := by
      refine ⟨(if (if ((ns.length : Nat) : Int) < 2 then ((ns.length : Nat) : Int) else 2) > 1 then (if ((ns.length : Nat) : Int) < 2 then ((ns.length : Nat) : Int) else 2) else 1).toNat, ?_, ?_⟩ <;> (split <;> split <;> omega)
    refine ⟨m, hm, fun M => ?_⟩
    have e2 : ∀ M, fMin2 M (.int 2) (.int (ns.length : Nat)) = some (.int (if ((ns.length : Nat) : Int) < 2 then ((ns.length : Nat) : Int) else 2)) := fun _ => rfl
    have e3 : ∀ M, fMax2 M (.int 1) (.int (if ((ns.length : Nat) : Int) < 2 then ((ns.length : Nat) : Int) else 2)) = some (.int (m : Nat)) := fun _ => by rw [← h]; rfl
    have e4 : ∀ M, gLr (.int 0) (.int (m : Nat)) M = .ok (.lst (rng 0 m)) M := fun M => by
      show (if (0 : Int).natAbs < 2 ^ 62 ∧ ((m : Nat) : Int).natAbs < 2 ^ 62 ∧ (((m : Nat) : Int) - 0).toNat ≤ 2 ^ 24 then Res.ok (D.lst (rng 0 (((m : Nat) : Int) - 0).toNat)) M else .bad) = _
      rw [if_pos ⟨by omega, by omega, by omega⟩, show (((m : Nat) : Int) - 0).toNat = m by omega]
    have e5 : rng 0 m = (List.range m).map fun i => D.int ((i : Nat) : Int) := by
      unfold rng
      congr 1
      funext k
      congr 1
      omega
    have e6 : ∀ a δ, eLr1 a δ = bnd (a δ) fun d => gLr (.int 0) d := fun _ _ => rfl
    rw [← e5]
    clear h hm e5
    unfold F_law_cells B_law_cells
    walk_at "evh"
  obtain ⟨m, hm, e0⟩ := e0
  obtain ⟨M', e1⟩ := law_each (ns := ns) rfl (List.range m) [] fun i hi => by have := List.mem_range.mp hi; omega
  have e2 : ∀ M ds, itL (D.lst ds) M = .ok ds M := fun _ _ => rfl
  have e3 : ((List.range m).map fun i => D.int ((i : Nat) : Int)).length ≤ 1000 := by rw [List.length_map, List.length_range]; omega
  have e4 : ∀ M, fAll M (.lst ((List.range m).map fun _ => D.bl true)) = some (.bl true) := fun M => by
    rw [all_map (fun _ => true) (List.range m)]; simp
  refine ⟨M', ?_⟩
  clear hm
  unfold F_law B_law
  walk_at "evh"
end Lw
end

section
set_option Elab.async false
set_option linter.all false
set_option maxRecDepth 100000
set_option maxHeartbeats 0
namespace Lw
open PySem PySem.Spec PyProof.Rows L2 Wn
def top (i : Nat) : Stmt := PySem.Challenge.pw_worneven_k07_whole_one_fallen_cell_is_me.main.body.getD i (.Pass ⟨0, 0, 0, 0⟩)
def loose : List Str := (["FEED", "CELLS", "LOW_SIGNS", "HIGH_SIGNS", "CELLS_A_PAGE", "MOST_PAGE_SIGNS", "are_cells", "is_page", "is_page_text", "FlashError", "BadCells", "EMPTY", "WHOLE", "MENDED", "TORN", "TOP", "SIXTEEN", "PAIR", "FALLEN", "CELLS_OF_TEXT", "FEED_NUMBER", "LOW_NUMBER", "HIGH_NUMBER", "WIDTHS", "cell_number", "number_in_cells", "cells_of_number", "contrary", "sums_of", "sum_cells"] : List Str) ++ (["sign_number", "sign_of", "text_cells", "signs_in", "sealed_page", "told_sums", "fallen_in_text", "fallen_in_sums", "opened", "_law_pot", "_law_take", "_law_of", "_law_cells", "_law_code_worth", "_law_code_sums", "_law_code_figures", "_law_code_number", "_law_code_turned", "_law_code_tail", "_law_code_signs", "_law_code_sealed", "_law_code_by_numbers", "_law_code_text", "_law_code_unlike", "_law_code_fallen", "_law_code_told", "_law_code_lifted", "_law_code_opened", "_law_text_drawn", "_law_places"] : List Str) ++ (["_law_lower", "_law_right"] : List Str)
def cons : List (Str × D) := ([("FEED", .str "\n"), ("CELLS", .str "0123456789abcdef"), ("LOW_SIGNS", .str " !\"#$"), ("HIGH_SIGNS", .str "&'()*+,-./0123456789:;<=>?@ABCDEFGHIJKLMNOPQRSTUVWXYZ[\\]^_`abcdefghijklmnopqrstuvwxyz{|}~"), ("CELLS_A_PAGE", .int 256), ("MOST_PAGE_SIGNS", .int 113), ("EMPTY", .str "empty"), ("WHOLE", .str "whole"), ("MENDED", .str "mended"), ("TORN", .str "torn"), ("TOP", .int 15), ("SIXTEEN", .int 16), ("PAIR", .int 2), ("FALLEN", .str "f"), ("CELLS_OF_TEXT", .int 226), ("FEED_NUMBER", .int 10), ("LOW_NUMBER", .int 32), ("HIGH_NUMBER", .int 38), ("WIDTHS", .tup [.int 3, .int 5, .int 7])] : List (Str × D))
def blts : List Str := ["dict", "len", "abs", "max", "min", "sum", "all", "any", "ord", "repr", "isinstance", "int", "tuple", "list", "str", "bool", "range", "enumerate", "zip"]
def fns : List Str := (["are_cells", "is_page", "is_page_text", "cell_number", "number_in_cells", "cells_of_number", "contrary", "sums_of", "sum_cells", "sign_number", "sign_of", "text_cells", "signs_in", "sealed_page", "told_sums", "fallen_in_text", "fallen_in_sums", "opened", "_law_pot", "_law_take", "_law_of", "_law_cells", "_law_code_worth", "_law_code_sums", "_law_code_figures", "_law_code_number", "_law_code_turned", "_law_code_tail", "_law_code_signs", "_law_code_sealed"] : List Str) ++ (["_law_code_by_numbers", "_law_code_text", "_law_code_unlike", "_law_code_fallen", "_law_code_told", "_law_code_lifted", "_law_code_opened", "_law_text_drawn", "_law_places", "_law_lower", "_law_right", "law"] : List Str)
def d_are_cells : He.DefD := ⟨("are_cells", none), "are_cells", "are_cells", defArgs (top 7), defBody (top 7), defScope (top 7), [], []⟩
def d_is_page : He.DefD := ⟨("is_page", none), "is_page", "is_page", defArgs (top 8), defBody (top 8), defScope (top 8), [], []⟩
def d_is_page_text : He.DefD := ⟨("is_page_text", none), "is_page_text", "is_page_text", defArgs (top 9), defBody (top 9), defScope (top 9), [], []⟩
def d_cell_number : He.DefD := ⟨("cell_number", none), "cell_number", "cell_number", defArgs (top 27), defBody (top 27), defScope (top 27), [], []⟩
def d_number_in_cells : He.DefD := ⟨("number_in_cells", none), "number_in_cells", "number_in_cells", defArgs (top 28), defBody (top 28), defScope (top 28), [], []⟩
def d_cells_of_number : He.DefD := ⟨("cells_of_number", none), "cells_of_number", "cells_of_number", defArgs (top 29), defBody (top 29), defScope (top 29), [], []⟩
def d_contrary : He.DefD := ⟨("contrary", none), "contrary", "contrary", defArgs (top 30), defBody (top 30), defScope (top 30), [], []⟩
def d_sums_of : He.DefD := ⟨("sums_of", none), "sums_of", "sums_of", defArgs (top 31), defBody (top 31), defScope (top 31), [], []⟩
def d_sum_cells : He.DefD := ⟨("sum_cells", none), "sum_cells", "sum_cells", defArgs (top 32), defBody (top 32), defScope (top 32), [], []⟩
def d_sign_number : He.DefD := ⟨("sign_number", none), "sign_number", "sign_number", defArgs (top 33), defBody (top 33), defScope (top 33), [], []⟩
def d_sign_of : He.DefD := ⟨("sign_of", none), "sign_of", "sign_of", defArgs (top 34), defBody (top 34), defScope (top 34), [], []⟩
def d_text_cells : He.DefD := ⟨("text_cells", none), "text_cells", "text_cells", defArgs (top 35), defBody (top 35), defScope (top 35), [], []⟩
def d_signs_in : He.DefD := ⟨("signs_in", none), "signs_in", "signs_in", defArgs (top 36), defBody (top 36), defScope (top 36), [], []⟩
def d_sealed_page : He.DefD := ⟨("sealed_page", none), "sealed_page", "sealed_page", defArgs (top 37), defBody (top 37), defScope (top 37), [], []⟩
def d_told_sums : He.DefD := ⟨("told_sums", none), "told_sums", "told_sums", defArgs (top 38), defBody (top 38), defScope (top 38), [], []⟩
def d_fallen_in_text : He.DefD := ⟨("fallen_in_text", none), "fallen_in_text", "fallen_in_text", defArgs (top 39), defBody (top 39), defScope (top 39), [], []⟩
def d_fallen_in_sums : He.DefD := ⟨("fallen_in_sums", none), "fallen_in_sums", "fallen_in_sums", defArgs (top 40), defBody (top 40), defScope (top 40), [], []⟩
def d_opened : He.DefD := ⟨("opened", none), "opened", "opened", defArgs (top 41), defBody (top 41), defScope (top 41), [], []⟩
def d_law_pot : He.DefD := ⟨("_law_pot", none), "_law_pot", "_law_pot", defArgs (top 43), defBody (top 43), defScope (top 43), [], []⟩
def d_law_take : He.DefD := ⟨("_law_take", none), "_law_take", "_law_take", defArgs (top 44), defBody (top 44), defScope (top 44), [], []⟩
def d_law_of : He.DefD := ⟨("_law_of", none), "_law_of", "_law_of", defArgs (top 45), defBody (top 45), defScope (top 45), [], []⟩
def d_law_cells : He.DefD := ⟨("_law_cells", none), "_law_cells", "_law_cells", defArgs (top 46), defBody (top 46), defScope (top 46), [], []⟩
def d_law_code_worth : He.DefD := ⟨("_law_code_worth", none), "_law_code_worth", "_law_code_worth", defArgs (top 47), defBody (top 47), defScope (top 47), [], []⟩
def d_law_code_sums : He.DefD := ⟨("_law_code_sums", none), "_law_code_sums", "_law_code_sums", defArgs (top 48), defBody (top 48), defScope (top 48), [], []⟩
def d_law_code_figures : He.DefD := ⟨("_law_code_figures", none), "_law_code_figures", "_law_code_figures", defArgs (top 49), defBody (top 49), defScope (top 49), [], []⟩
def d_law_code_number : He.DefD := ⟨("_law_code_number", none), "_law_code_number", "_law_code_number", defArgs (top 50), defBody (top 50), defScope (top 50), [], []⟩
def d_law_code_turned : He.DefD := ⟨("_law_code_turned", none), "_law_code_turned", "_law_code_turned", defArgs (top 51), defBody (top 51), defScope (top 51), [], []⟩
def d_law_code_tail : He.DefD := ⟨("_law_code_tail", none), "_law_code_tail", "_law_code_tail", defArgs (top 52), defBody (top 52), defScope (top 52), [], []⟩
def d_law_code_signs : He.DefD := ⟨("_law_code_signs", none), "_law_code_signs", "_law_code_signs", defArgs (top 53), defBody (top 53), defScope (top 53), [], []⟩
def d_law_code_sealed : He.DefD := ⟨("_law_code_sealed", none), "_law_code_sealed", "_law_code_sealed", defArgs (top 54), defBody (top 54), defScope (top 54), [], []⟩
def d_law_code_by_numbers : He.DefD := ⟨("_law_code_by_numbers", none), "_law_code_by_numbers", "_law_code_by_numbers", defArgs (top 55), defBody (top 55), defScope (top 55), [], []⟩
def d_law_code_text : He.DefD := ⟨("_law_code_text", none), "_law_code_text", "_law_code_text", defArgs (top 56), defBody (top 56), defScope (top 56), [], []⟩
def d_law_code_unlike : He.DefD := ⟨("_law_code_unlike", none), "_law_code_unlike", "_law_code_unlike", defArgs (top 57), defBody (top 57), defScope (top 57), [], []⟩
def d_law_code_fallen : He.DefD := ⟨("_law_code_fallen", none), "_law_code_fallen", "_law_code_fallen", defArgs (top 58), defBody (top 58), defScope (top 58), [], []⟩
def d_law_code_told : He.DefD := ⟨("_law_code_told", none), "_law_code_told", "_law_code_told", defArgs (top 59), defBody (top 59), defScope (top 59), [], []⟩
def d_law_code_lifted : He.DefD := ⟨("_law_code_lifted", none), "_law_code_lifted", "_law_code_lifted", defArgs (top 60), defBody (top 60), defScope (top 60), [], []⟩
def d_law_code_opened : He.DefD := ⟨("_law_code_opened", none), "_law_code_opened", "_law_code_opened", defArgs (top 61), defBody (top 61), defScope (top 61), [], []⟩
def d_law_text_drawn : He.DefD := ⟨("_law_text_drawn", none), "_law_text_drawn", "_law_text_drawn", defArgs (top 62), defBody (top 62), defScope (top 62), [], []⟩
def d_law_places : He.DefD := ⟨("_law_places", none), "_law_places", "_law_places", defArgs (top 63), defBody (top 63), defScope (top 63), [], []⟩
def d_law_lower : He.DefD := ⟨("_law_lower", none), "_law_lower", "_law_lower", defArgs (top 64), defBody (top 64), defScope (top 64), [], []⟩
def d_law_right : He.DefD := ⟨("_law_right", none), "_law_right", "_law_right", defArgs (top 65), defBody (top 65), defScope (top 65), [], []⟩
def d_law : He.DefD := ⟨("law", none), "law", "law", defArgs (top 66), defBody (top 66), defScope (top 66), [], []⟩
def fn : List He.DefD := [d_are_cells, d_is_page, d_is_page_text, d_cell_number, d_number_in_cells, d_cells_of_number, d_contrary, d_sums_of, d_sum_cells, d_sign_number, d_sign_of, d_text_cells, d_signs_in, d_sealed_page, d_told_sums, d_fallen_in_text, d_fallen_in_sums, d_opened, d_law_pot, d_law_take, d_law_of, d_law_cells, d_law_code_worth, d_law_code_sums, d_law_code_figures, d_law_code_number, d_law_code_turned, d_law_code_tail, d_law_code_signs, d_law_code_sealed, d_law_code_by_numbers, d_law_code_text, d_law_code_unlike, d_law_code_fallen, d_law_code_told, d_law_code_lifted, d_law_code_opened, d_law_text_drawn, d_law_places, d_law_lower, d_law_right, d_law]
abbrev R : PySem.W.OpenRow := PySem.W.OpenLaw.row PySem.Challenge.rw_worneven_k07_whole_one_fallen_cell_is_me
abbrev hk : PySem.W.Hook := hookW 4 fn (exW cons blts fns)
def ob (s : PySem.W.SharedT) : AlW := obsW 4 fn (exW cons blts fns) (HandSHeadRun.getT s)
theorem ob_eq (s : PySem.W.SharedT) : ob s = hk.obs s.abs := obsW_eq (HandSHeadRun.getT_eq s)
theorem run (w : World) : HandSHeadRun.RunEq R (PySem.W.view R.prog [66]) hk ob 4000 loose w := by
  intro os
  kernel_rfl
section
variable {P : Program} {w : World} {K : PySem.W.Frag} {mg : Str → Option Value} {base h : Heap}
theorem p_are_cells (KX : K.In h) (G : h.Ns mainGlobals mg) (sd : He.SaysD [] fn K) (e : exW cons blts fns K = true) : Prm (fun _ _ _ _ _ => False) P w K mg base 1 "are_cells" ["value", "low", "high"] F_are_cells :=
  row_def (i := 0) (ps := ["value", "low", "high"]) (N := N_are_cells) (calls := []) KX G sd e rfl (by kernel_rfl) (fun _ _ _ _ _ _ us hl => match us, hl with | [_, _, _], _ => rfl) (fun _ _ _ _ _ _ us hl => match us, hl with | [_, _, _], _ => rfl) (by kernel_rfl) (by kernel_rfl) (.nil)
theorem p_is_page (KX : K.In h) (G : h.Ns mainGlobals mg) (sd : He.SaysD [] fn K) (e : exW cons blts fns K = true) : Prm (fun _ _ _ _ _ => False) P w K mg base 2 "is_page" ["value"] F_is_page :=
  row_def (i := 1) (ps := ["value"]) (N := N_is_page) (calls := [("are_cells", ["value", "low", "high"])]) KX G sd e rfl (by kernel_rfl) (fun _ _ _ _ _ _ us hl => match us, hl with | [_], _ => rfl) (fun _ _ _ _ _ _ us hl => match us, hl with | [_], _ => rfl) (by kernel_rfl) (by kernel_rfl) (.cons (p_are_cells KX G sd e) (by decide) (.nil))
theorem p_is_page_text (KX : K.In h) (G : h.Ns mainGlobals mg) (sd : He.SaysD [] fn K) (e : exW cons blts fns K = true) : Prm (fun _ _ _ _ _ => False) P w K mg base 1 "is_page_text" ["value"] F_is_page_text :=
  row_def (i := 2) (ps := ["value"]) (N := N_is_page_text) (calls := []) KX G sd e rfl (by kernel_rfl) (fun _ _ _ _ _ _ us hl => match us, hl with | [_], _ => rfl) (fun _ _ _ _ _ _ us hl => match us, hl with | [_], _ => rfl) (by kernel_rfl) (by kernel_rfl) (.nil)
theorem p_cell_number (KX : K.In h) (G : h.Ns mainGlobals mg) (sd : He.SaysD [] fn K) (e : exW cons blts fns K = true) : Prm (fun _ _ _ _ _ => False) P w K mg base 1 "cell_number" ["cell"] F_cell_number :=
  row_def (i := 3) (ps := ["cell"]) (N := N_cell_number) (calls := []) KX G sd e rfl (by kernel_rfl) (fun _ _ _ _ _ _ us hl => match us, hl with | [_], _ => rfl) (fun _ _ _ _ _ _ us hl => match us, hl with | [_], _ => rfl) (by kernel_rfl) (by kernel_rfl) (.nil)
theorem p_number_in_cells (KX : K.In h) (G : h.Ns mainGlobals mg) (sd : He.SaysD [] fn K) (e : exW cons blts fns K = true) : Prm (fun _ _ _ _ _ => False) P w K mg base 2 "number_in_cells" ["cells"] F_number_in_cells :=
  row_def (i := 4) (ps := ["cells"]) (N := N_number_in_cells) (calls := [("cell_number", ["cell"])]) KX G sd e rfl (by kernel_rfl) (fun _ _ _ _ _ _ us hl => match us, hl with | [_], _ => rfl) (fun _ _ _ _ _ _ us hl => match us, hl with | [_], _ => rfl) (by kernel_rfl) (by kernel_rfl) (.cons (p_cell_number KX G sd e) (by decide) (.nil))
theorem p_cells_of_number (KX : K.In h) (G : h.Ns mainGlobals mg) (sd : He.SaysD [] fn K) (e : exW cons blts fns K = true) : Prm (fun _ _ _ _ _ => False) P w K mg base 1 "cells_of_number" ["number", "width"] F_cells_of_number :=
  row_def (i := 5) (ps := ["number", "width"]) (N := N_cells_of_number) (calls := []) KX G sd e rfl (by kernel_rfl) (fun _ _ _ _ _ _ us hl => match us, hl with | [_, _], _ => rfl) (fun _ _ _ _ _ _ us hl => match us, hl with | [_, _], _ => rfl) (by kernel_rfl) (by kernel_rfl) (.nil)
theorem p_contrary (KX : K.In h) (G : h.Ns mainGlobals mg) (sd : He.SaysD [] fn K) (e : exW cons blts fns K = true) : Prm (fun _ _ _ _ _ => False) P w K mg base 2 "contrary" ["cells"] F_contrary :=
  row_def (i := 6) (ps := ["cells"]) (N := N_contrary) (calls := [("cell_number", ["cell"])]) KX G sd e rfl (by kernel_rfl) (fun _ _ _ _ _ _ us hl => match us, hl with | [_], _ => rfl) (fun _ _ _ _ _ _ us hl => match us, hl with | [_], _ => rfl) (by kernel_rfl) (by kernel_rfl) (.cons (p_cell_number KX G sd e) (by decide) (.nil))
theorem p_sums_of (KX : K.In h) (G : h.Ns mainGlobals mg) (sd : He.SaysD [] fn K) (e : exW cons blts fns K = true) : Prm (fun _ _ _ _ _ => False) P w K mg base 2 "sums_of" ["cells"] F_sums_of :=
  row_def (i := 7) (ps := ["cells"]) (N := N_sums_of) (calls := [("cell_number", ["cell"])]) KX G sd e rfl (by kernel_rfl) (fun _ _ _ _ _ _ us hl => match us, hl with | [_], _ => rfl) (fun _ _ _ _ _ _ us hl => match us, hl with | [_], _ => rfl) (by kernel_rfl) (by kernel_rfl) (.cons (p_cell_number KX G sd e) (by decide) (.nil))
theorem p_sum_cells (KX : K.In h) (G : h.Ns mainGlobals mg) (sd : He.SaysD [] fn K) (e : exW cons blts fns K = true) : Prm (fun _ _ _ _ _ => False) P w K mg base 3 "sum_cells" ["three"] F_sum_cells :=
  row_def (i := 8) (ps := ["three"]) (N := N_sum_cells) (calls := [("cells_of_number", ["number", "width"]), ("contrary", ["cells"])]) KX G sd e rfl (by kernel_rfl) (fun _ _ _ _ _ _ us hl => match us, hl with | [_], _ => rfl) (fun _ _ _ _ _ _ us hl => match us, hl with | [_], _ => rfl) (by kernel_rfl) (by kernel_rfl) (.cons (p_cells_of_number KX G sd e) (by decide) (.cons (p_contrary KX G sd e) (by decide) (.nil)))
theorem p_sign_number (KX : K.In h) (G : h.Ns mainGlobals mg) (sd : He.SaysD [] fn K) (e : exW cons blts fns K = true) : Prm (fun _ _ _ _ _ => False) P w K mg base 1 "sign_number" ["sign"] F_sign_number :=
  row_def (i := 9) (ps := ["sign"]) (N := N_sign_number) (calls := []) KX G sd e rfl (by kernel_rfl) (fun _ _ _ _ _ _ us hl => match us, hl with | [_], _ => rfl) (fun _ _ _ _ _ _ us hl => match us, hl with | [_], _ => rfl) (by kernel_rfl) (by kernel_rfl) (.nil)
theorem p_sign_of (KX : K.In h) (G : h.Ns mainGlobals mg) (sd : He.SaysD [] fn K) (e : exW cons blts fns K = true) : Prm (fun _ _ _ _ _ => False) P w K mg base 1 "sign_of" ["number"] F_sign_of :=
  row_def (i := 10) (ps := ["number"]) (N := N_sign_of) (calls := []) KX G sd e rfl (by kernel_rfl) (fun _ _ _ _ _ _ us hl => match us, hl with | [_], _ => rfl) (fun _ _ _ _ _ _ us hl => match us, hl with | [_], _ => rfl) (by kernel_rfl) (by kernel_rfl) (.nil)
theorem p_text_cells (KX : K.In h) (G : h.Ns mainGlobals mg) (sd : He.SaysD [] fn K) (e : exW cons blts fns K = true) : Prm (fun _ _ _ _ _ => False) P w K mg base 2 "text_cells" ["text"] F_text_cells :=
  row_def (i := 11) (ps := ["text"]) (N := N_text_cells) (calls := [("cells_of_number", ["number", "width"]), ("sign_number", ["sign"])]) KX G sd e rfl (by kernel_rfl) (fun _ _ _ _ _ _ us hl => match us, hl with | [_], _ => rfl) (fun _ _ _ _ _ _ us hl => match us, hl with | [_], _ => rfl) (by kernel_rfl) (by kernel_rfl) (.cons (p_cells_of_number KX G sd e) (by decide) (.cons (p_sign_number KX G sd e) (by decide) (.nil)))
theorem p_signs_in (KX : K.In h) (G : h.Ns mainGlobals mg) (sd : He.SaysD [] fn K) (e : exW cons blts fns K = true) : Prm (fun _ _ _ _ _ => False) P w K mg base 3 "signs_in" ["cells"] F_signs_in :=
  row_def (i := 12) (ps := ["cells"]) (N := N_signs_in) (calls := [("sign_of", ["number"]), ("number_in_cells", ["cells"]), ("text_cells", ["text"]), ("is_page_text", ["value"])]) KX G sd e rfl (by kernel_rfl) (fun _ _ _ _ _ _ us hl => match us, hl with | [_], _ => rfl) (fun _ _ _ _ _ _ us hl => match us, hl with | [_], _ => rfl) (by kernel_rfl) (by kernel_rfl) (.cons (p_sign_of KX G sd e) (by decide) (.cons (p_number_in_cells KX G sd e) (by decide) (.cons (p_text_cells KX G sd e) (by decide) (.cons (p_is_page_text KX G sd e) (by decide) (.nil)))))
theorem p_sealed_page (KX : K.In h) (G : h.Ns mainGlobals mg) (sd : He.SaysD [] fn K) (e : exW cons blts fns K = true) : Prm (fun _ _ _ _ _ => False) P w K mg base 4 "sealed_page" ["text"] F_sealed_page :=
  row_def (i := 13) (ps := ["text"]) (N := N_sealed_page) (calls := [("text_cells", ["text"]), ("sum_cells", ["three"]), ("sums_of", ["cells"])]) KX G sd e rfl (by kernel_rfl) (fun _ _ _ _ _ _ us hl => match us, hl with | [_], _ => rfl) (fun _ _ _ _ _ _ us hl => match us, hl with | [_], _ => rfl) (by kernel_rfl) (by kernel_rfl) (.cons (p_text_cells KX G sd e) (by decide) (.cons (p_sum_cells KX G sd e) (by decide) (.cons (p_sums_of KX G sd e) (by decide) (.nil))))
theorem p_told_sums (KX : K.In h) (G : h.Ns mainGlobals mg) (sd : He.SaysD [] fn K) (e : exW cons blts fns K = true) : Prm (fun _ _ _ _ _ => False) P w K mg base 3 "told_sums" ["cells"] F_told_sums :=
  row_def (i := 14) (ps := ["cells"]) (N := N_told_sums) (calls := [("contrary", ["cells"]), ("number_in_cells", ["cells"])]) KX G sd e rfl (by kernel_rfl) (fun _ _ _ _ _ _ us hl => match us, hl with | [_], _ => rfl) (fun _ _ _ _ _ _ us hl => match us, hl with | [_], _ => rfl) (by kernel_rfl) (by kernel_rfl) (.cons (p_contrary KX G sd e) (by decide) (.cons (p_number_in_cells KX G sd e) (by decide) (.nil)))
theorem p_fallen_in_text (KX : K.In h) (G : h.Ns mainGlobals mg) (sd : He.SaysD [] fn K) (e : exW cons blts fns K = true) : Prm (fun _ _ _ _ _ => False) P w K mg base 4 "fallen_in_text" ["cells"] F_fallen_in_text :=
  row_def (i := 15) (ps := ["cells"]) (N := N_fallen_in_text) (calls := [("told_sums", ["cells"]), ("sums_of", ["cells"]), ("cell_number", ["cell"]), ("signs_in", ["cells"])]) KX G sd e rfl (by kernel_rfl) (fun _ _ _ _ _ _ us hl => match us, hl with | [_], _ => rfl) (fun _ _ _ _ _ _ us hl => match us, hl with | [_], _ => rfl) (by kernel_rfl) (by kernel_rfl) (.cons (p_told_sums KX G sd e) (by decide) (.cons (p_sums_of KX G sd e) (by decide) (.cons (p_cell_number KX G sd e) (by decide) (.cons (p_signs_in KX G sd e) (by decide) (.nil)))))
theorem p_fallen_in_sums (KX : K.In h) (G : h.Ns mainGlobals mg) (sd : He.SaysD [] fn K) (e : exW cons blts fns K = true) : Prm (fun _ _ _ _ _ => False) P w K mg base 5 "fallen_in_sums" ["cells"] F_fallen_in_sums :=
  row_def (i := 16) (ps := ["cells"]) (N := N_fallen_in_sums) (calls := [("signs_in", ["cells"]), ("sealed_page", ["text"]), ("cell_number", ["cell"])]) KX G sd e rfl (by kernel_rfl) (fun _ _ _ _ _ _ us hl => match us, hl with | [_], _ => rfl) (fun _ _ _ _ _ _ us hl => match us, hl with | [_], _ => rfl) (by kernel_rfl) (by kernel_rfl) (.cons (p_signs_in KX G sd e) (by decide) (.cons (p_sealed_page KX G sd e) (by decide) (.cons (p_cell_number KX G sd e) (by decide) (.nil))))
theorem p_opened (KX : K.In h) (G : h.Ns mainGlobals mg) (sd : He.SaysD [] fn K) (e : exW cons blts fns K = true) : Prm (fun _ _ _ _ _ => False) P w K mg base 6 "opened" ["cells"] F_opened :=
  row_def (i := 17) (ps := ["cells"]) (N := N_opened) (calls := [("is_page", ["value"]), ("signs_in", ["cells"]), ("sealed_page", ["text"]), ("fallen_in_sums", ["cells"]), ("fallen_in_text", ["cells"])]) KX G sd e rfl (by kernel_rfl) (fun _ _ _ _ _ _ us hl => match us, hl with | [_], _ => rfl) (fun _ _ _ _ _ _ us hl => match us, hl with | [_], _ => rfl) (by kernel_rfl) (by kernel_rfl) (.cons (p_is_page KX G sd e) (by decide) (.cons (p_signs_in KX G sd e) (by decide) (.cons (p_sealed_page KX G sd e) (by decide) (.cons (p_fallen_in_sums KX G sd e) (by decide) (.cons (p_fallen_in_text KX G sd e) (by decide) (.nil))))))
theorem p_law_pot (KX : K.In h) (G : h.Ns mainGlobals mg) (sd : He.SaysD [] fn K) (e : exW cons blts fns K = true) : Prm (fun _ _ _ _ _ => False) P w K mg base 1 "_law_pot" ["script", "place"] F_law_pot :=
  row_def (i := 18) (ps := ["script", "place"]) (N := N_law_pot) (calls := []) KX G sd e rfl (by kernel_rfl) (fun _ _ _ _ _ _ us hl => match us, hl with | [_, _], _ => rfl) (fun _ _ _ _ _ _ us hl => match us, hl with | [_, _], _ => rfl) (by kernel_rfl) (by kernel_rfl) (.nil)
theorem p_law_take (KX : K.In h) (G : h.Ns mainGlobals mg) (sd : He.SaysD [] fn K) (e : exW cons blts fns K = true) : Prm (fun _ _ _ _ _ => False) P w K mg base 1 "_law_take" ["pot", "upto"] F_law_take :=
  row_def (i := 19) (ps := ["pot", "upto"]) (N := N_law_take) (calls := []) KX G sd e rfl (by kernel_rfl) (fun _ _ _ _ _ _ us hl => match us, hl with | [_, _], _ => rfl) (fun _ _ _ _ _ _ us hl => match us, hl with | [_, _], _ => rfl) (by kernel_rfl) (by kernel_rfl) (.nil)
theorem p_law_of (KX : K.In h) (G : h.Ns mainGlobals mg) (sd : He.SaysD [] fn K) (e : exW cons blts fns K = true) : Prm (fun _ _ _ _ _ => False) P w K mg base 2 "_law_of" ["pot", "some"] F_law_of :=
  row_def (i := 20) (ps := ["pot", "some"]) (N := N_law_of) (calls := [("_law_take", ["pot", "upto"])]) KX G sd e rfl (by kernel_rfl) (fun _ _ _ _ _ _ us hl => match us, hl with | [_, _], _ => rfl) (fun _ _ _ _ _ _ us hl => match us, hl with | [_, _], _ => rfl) (by kernel_rfl) (by kernel_rfl) (.cons (p_law_take KX G sd e) (by decide) (.nil))
theorem p_law_cells (KX : K.In h) (G : h.Ns mainGlobals mg) (sd : He.SaysD [] fn K) (e : exW cons blts fns K = true) : Prm (fun _ _ _ _ _ => False) P w K mg base 1 "_law_cells" ["script", "most"] F_law_cells :=
  row_def (i := 21) (ps := ["script", "most"]) (N := N_law_cells) (calls := []) KX G sd e rfl (by kernel_rfl) (fun _ _ _ _ _ _ us hl => match us, hl with | [_, _], _ => rfl) (fun _ _ _ _ _ _ us hl => match us, hl with | [_, _], _ => rfl) (by kernel_rfl) (by kernel_rfl) (.nil)
theorem p_law_code_worth (KX : K.In h) (G : h.Ns mainGlobals mg) (sd : He.SaysD [] fn K) (e : exW cons blts fns K = true) : Prm (fun _ _ _ _ _ => False) P w K mg base 1 "_law_code_worth" ["sign"] F_law_code_worth :=
  row_def (i := 22) (ps := ["sign"]) (N := N_law_code_worth) (calls := []) KX G sd e rfl (by kernel_rfl) (fun _ _ _ _ _ _ us hl => match us, hl with | [_], _ => rfl) (fun _ _ _ _ _ _ us hl => match us, hl with | [_], _ => rfl) (by kernel_rfl) (by kernel_rfl) (.nil)
theorem p_law_code_sums (KX : K.In h) (G : h.Ns mainGlobals mg) (sd : He.SaysD [] fn K) (e : exW cons blts fns K = true) : Prm (fun _ _ _ _ _ => False) P w K mg base 2 "_law_code_sums" ["cells"] F_law_code_sums :=
  row_def (i := 23) (ps := ["cells"]) (N := N_law_code_sums) (calls := [("_law_code_worth", ["sign"])]) KX G sd e rfl (by kernel_rfl) (fun _ _ _ _ _ _ us hl => match us, hl with | [_], _ => rfl) (fun _ _ _ _ _ _ us hl => match us, hl with | [_], _ => rfl) (by kernel_rfl) (by kernel_rfl) (.cons (p_law_code_worth KX G sd e) (by decide) (.nil))
theorem p_law_code_figures (KX : K.In h) (G : h.Ns mainGlobals mg) (sd : He.SaysD [] fn K) (e : exW cons blts fns K = true) : Prm (fun _ _ _ _ _ => False) P w K mg base 1 "_law_code_figures" ["number", "many"] F_law_code_figures :=
  row_def (i := 24) (ps := ["number", "many"]) (N := N_law_code_figures) (calls := []) KX G sd e rfl (by kernel_rfl) (fun _ _ _ _ _ _ us hl => match us, hl with | [_, _], _ => rfl) (fun _ _ _ _ _ _ us hl => match us, hl with | [_, _], _ => rfl) (by kernel_rfl) (by kernel_rfl) (.nil)
theorem p_law_code_number (KX : K.In h) (G : h.Ns mainGlobals mg) (sd : He.SaysD [] fn K) (e : exW cons blts fns K = true) : Prm (fun _ _ _ _ _ => False) P w K mg base 2 "_law_code_number" ["cells"] F_law_code_number :=
  row_def (i := 25) (ps := ["cells"]) (N := N_law_code_number) (calls := [("_law_code_worth", ["sign"])]) KX G sd e rfl (by kernel_rfl) (fun _ _ _ _ _ _ us hl => match us, hl with | [_], _ => rfl) (fun _ _ _ _ _ _ us hl => match us, hl with | [_], _ => rfl) (by kernel_rfl) (by kernel_rfl) (.cons (p_law_code_worth KX G sd e) (by decide) (.nil))
theorem p_law_code_turned (KX : K.In h) (G : h.Ns mainGlobals mg) (sd : He.SaysD [] fn K) (e : exW cons blts fns K = true) : Prm (fun _ _ _ _ _ => False) P w K mg base 2 "_law_code_turned" ["cells"] F_law_code_turned :=
  row_def (i := 26) (ps := ["cells"]) (N := N_law_code_turned) (calls := [("_law_code_worth", ["sign"])]) KX G sd e rfl (by kernel_rfl) (fun _ _ _ _ _ _ us hl => match us, hl with | [_], _ => rfl) (fun _ _ _ _ _ _ us hl => match us, hl with | [_], _ => rfl) (by kernel_rfl) (by kernel_rfl) (.cons (p_law_code_worth KX G sd e) (by decide) (.nil))
theorem p_law_code_tail (KX : K.In h) (G : h.Ns mainGlobals mg) (sd : He.SaysD [] fn K) (e : exW cons blts fns K = true) : Prm (fun _ _ _ _ _ => False) P w K mg base 3 "_law_code_tail" ["cells"] F_law_code_tail :=
  row_def (i := 27) (ps := ["cells"]) (N := N_law_code_tail) (calls := [("_law_code_sums", ["cells"]), ("_law_code_figures", ["number", "many"]), ("_law_code_turned", ["cells"])]) KX G sd e rfl (by kernel_rfl) (fun _ _ _ _ _ _ us hl => match us, hl with | [_], _ => rfl) (fun _ _ _ _ _ _ us hl => match us, hl with | [_], _ => rfl) (by kernel_rfl) (by kernel_rfl) (.cons (p_law_code_sums KX G sd e) (by decide) (.cons (p_law_code_figures KX G sd e) (by decide) (.cons (p_law_code_turned KX G sd e) (by decide) (.nil))))
theorem p_law_code_signs (KX : K.In h) (G : h.Ns mainGlobals mg) (sd : He.SaysD [] fn K) (e : exW cons blts fns K = true) : Prm (fun _ _ _ _ _ => False) P w K mg base 1 "_law_code_signs" [] F_law_code_signs :=
  row_def (i := 28) (ps := []) (N := N_law_code_signs) (calls := []) KX G sd e rfl (by kernel_rfl) (fun _ _ _ _ _ _ us hl => match us, hl with | [], _ => rfl) (fun _ _ _ _ _ _ us hl => match us, hl with | [], _ => rfl) (by kernel_rfl) (by kernel_rfl) (.nil)
theorem p_law_code_sealed (KX : K.In h) (G : h.Ns mainGlobals mg) (sd : He.SaysD [] fn K) (e : exW cons blts fns K = true) : Prm (fun _ _ _ _ _ => False) P w K mg base 4 "_law_code_sealed" ["text"] F_law_code_sealed :=
  row_def (i := 29) (ps := ["text"]) (N := N_law_code_sealed) (calls := [("_law_code_figures", ["number", "many"]), ("_law_code_tail", ["cells"])]) KX G sd e rfl (by kernel_rfl) (fun _ _ _ _ _ _ us hl => match us, hl with | [_], _ => rfl) (fun _ _ _ _ _ _ us hl => match us, hl with | [_], _ => rfl) (by kernel_rfl) (by kernel_rfl) (.cons (p_law_code_figures KX G sd e) (by decide) (.cons (p_law_code_tail KX G sd e) (by decide) (.nil)))
theorem p_law_code_by_numbers (KX : K.In h) (G : h.Ns mainGlobals mg) (sd : He.SaysD [] fn K) (e : exW cons blts fns K = true) : Prm (fun _ _ _ _ _ => False) P w K mg base 2 "_law_code_by_numbers" [] F_law_code_by_numbers :=
  row_def (i := 30) (ps := []) (N := N_law_code_by_numbers) (calls := [("_law_code_signs", [])]) KX G sd e rfl (by kernel_rfl) (fun _ _ _ _ _ _ us hl => match us, hl with | [], _ => rfl) (fun _ _ _ _ _ _ us hl => match us, hl with | [], _ => rfl) (by kernel_rfl) (by kernel_rfl) (.cons (p_law_code_signs KX G sd e) (by decide) (.nil))
theorem p_law_code_text (KX : K.In h) (G : h.Ns mainGlobals mg) (sd : He.SaysD [] fn K) (e : exW cons blts fns K = true) : Prm (fun _ _ _ _ _ => False) P w K mg base 3 "_law_code_text" ["head"] F_law_code_text :=
  row_def (i := 31) (ps := ["head"]) (N := N_law_code_text) (calls := [("_law_code_number", ["cells"]), ("_law_code_by_numbers", [])]) KX G sd e rfl (by kernel_rfl) (fun _ _ _ _ _ _ us hl => match us, hl with | [_], _ => rfl) (fun _ _ _ _ _ _ us hl => match us, hl with | [_], _ => rfl) (by kernel_rfl) (by kernel_rfl) (.cons (p_law_code_number KX G sd e) (by decide) (.cons (p_law_code_by_numbers KX G sd e) (by decide) (.nil)))
theorem p_law_code_unlike (KX : K.In h) (G : h.Ns mainGlobals mg) (sd : He.SaysD [] fn K) (e : exW cons blts fns K = true) : Prm (fun _ _ _ _ _ => False) P w K mg base 1 "_law_code_unlike" ["one", "other"] F_law_code_unlike :=
  row_def (i := 32) (ps := ["one", "other"]) (N := N_law_code_unlike) (calls := []) KX G sd e rfl (by kernel_rfl) (fun _ _ _ _ _ _ us hl => match us, hl with | [_, _], _ => rfl) (fun _ _ _ _ _ _ us hl => match us, hl with | [_, _], _ => rfl) (by kernel_rfl) (by kernel_rfl) (.nil)
theorem p_law_code_fallen (KX : K.In h) (G : h.Ns mainGlobals mg) (sd : He.SaysD [] fn K) (e : exW cons blts fns K = true) : Prm (fun _ _ _ _ _ => False) P w K mg base 2 "_law_code_fallen" ["cells", "page"] F_law_code_fallen :=
  row_def (i := 33) (ps := ["cells", "page"]) (N := N_law_code_fallen) (calls := [("_law_code_unlike", ["one", "other"])]) KX G sd e rfl (by kernel_rfl) (fun _ _ _ _ _ _ us hl => match us, hl with | [_, _], _ => rfl) (fun _ _ _ _ _ _ us hl => match us, hl with | [_, _], _ => rfl) (by kernel_rfl) (by kernel_rfl) (.cons (p_law_code_unlike KX G sd e) (by decide) (.nil))
theorem p_law_code_told (KX : K.In h) (G : h.Ns mainGlobals mg) (sd : He.SaysD [] fn K) (e : exW cons blts fns K = true) : Prm (fun _ _ _ _ _ => False) P w K mg base 3 "_law_code_told" ["cells"] F_law_code_told :=
  row_def (i := 34) (ps := ["cells"]) (N := N_law_code_told) (calls := [("_law_code_number", ["cells"]), ("_law_code_turned", ["cells"])]) KX G sd e rfl (by kernel_rfl) (fun _ _ _ _ _ _ us hl => match us, hl with | [_], _ => rfl) (fun _ _ _ _ _ _ us hl => match us, hl with | [_], _ => rfl) (by kernel_rfl) (by kernel_rfl) (.cons (p_law_code_number KX G sd e) (by decide) (.cons (p_law_code_turned KX G sd e) (by decide) (.nil)))
theorem p_law_code_lifted (KX : K.In h) (G : h.Ns mainGlobals mg) (sd : He.SaysD [] fn K) (e : exW cons blts fns K = true) : Prm (fun _ _ _ _ _ => False) P w K mg base 4 "_law_code_lifted" ["cells"] F_law_code_lifted :=
  row_def (i := 35) (ps := ["cells"]) (N := N_law_code_lifted) (calls := [("_law_code_sums", ["cells"]), ("_law_code_told", ["cells"]), ("_law_code_worth", ["sign"])]) KX G sd e rfl (by kernel_rfl) (fun _ _ _ _ _ _ us hl => match us, hl with | [_], _ => rfl) (fun _ _ _ _ _ _ us hl => match us, hl with | [_], _ => rfl) (by kernel_rfl) (by kernel_rfl) (.cons (p_law_code_sums KX G sd e) (by decide) (.cons (p_law_code_told KX G sd e) (by decide) (.cons (p_law_code_worth KX G sd e) (by decide) (.nil))))
theorem p_law_code_opened (KX : K.In h) (G : h.Ns mainGlobals mg) (sd : He.SaysD [] fn K) (e : exW cons blts fns K = true) : Prm (fun _ _ _ _ _ => False) P w K mg base 5 "_law_code_opened" ["cells"] F_law_code_opened :=
  row_def (i := 36) (ps := ["cells"]) (N := N_law_code_opened) (calls := [("_law_code_lifted", ["cells"]), ("_law_code_text", ["head"]), ("_law_code_sealed", ["text"]), ("_law_code_fallen", ["cells", "page"])]) KX G sd e rfl (by kernel_rfl) (fun _ _ _ _ _ _ us hl => match us, hl with | [_], _ => rfl) (fun _ _ _ _ _ _ us hl => match us, hl with | [_], _ => rfl) (by kernel_rfl) (by kernel_rfl) (.cons (p_law_code_lifted KX G sd e) (by decide) (.cons (p_law_code_text KX G sd e) (by decide) (.cons (p_law_code_sealed KX G sd e) (by decide) (.cons (p_law_code_fallen KX G sd e) (by decide) (.nil)))))
theorem p_law_text_drawn (KX : K.In h) (G : h.Ns mainGlobals mg) (sd : He.SaysD [] fn K) (e : exW cons blts fns K = true) : Prm (fun _ _ _ _ _ => False) P w K mg base 3 "_law_text_drawn" ["pot"] F_law_text_drawn :=
  row_def (i := 37) (ps := ["pot"]) (N := N_law_text_drawn) (calls := [("_law_of", ["pot", "some"])]) KX G sd e rfl (by kernel_rfl) (fun _ _ _ _ _ _ us hl => match us, hl with | [_], _ => rfl) (fun _ _ _ _ _ _ us hl => match us, hl with | [_], _ => rfl) (by kernel_rfl) (by kernel_rfl) (.cons (p_law_of KX G sd e) (by decide) (.nil))
theorem p_law_places (KX : K.In h) (G : h.Ns mainGlobals mg) (sd : He.SaysD [] fn K) (e : exW cons blts fns K = true) : Prm (fun _ _ _ _ _ => False) P w K mg base 2 "_law_places" ["pot", "page"] F_law_places :=
  row_def (i := 38) (ps := ["pot", "page"]) (N := N_law_places) (calls := [("_law_take", ["pot", "upto"])]) KX G sd e rfl (by kernel_rfl) (fun _ _ _ _ _ _ us hl => match us, hl with | [_, _], _ => rfl) (fun _ _ _ _ _ _ us hl => match us, hl with | [_, _], _ => rfl) (by kernel_rfl) (by kernel_rfl) (.cons (p_law_take KX G sd e) (by decide) (.nil))
theorem p_law_lower (KX : K.In h) (G : h.Ns mainGlobals mg) (sd : He.SaysD [] fn K) (e : exW cons blts fns K = true) : Prm (fun _ _ _ _ _ => False) P w K mg base 3 "_law_lower" ["pot", "sign"] F_law_lower :=
  row_def (i := 39) (ps := ["pot", "sign"]) (N := N_law_lower) (calls := [("_law_code_worth", ["sign"]), ("_law_of", ["pot", "some"])]) KX G sd e rfl (by kernel_rfl) (fun _ _ _ _ _ _ us hl => match us, hl with | [_, _], _ => rfl) (fun _ _ _ _ _ _ us hl => match us, hl with | [_, _], _ => rfl) (by kernel_rfl) (by kernel_rfl) (.cons (p_law_code_worth KX G sd e) (by decide) (.cons (p_law_of KX G sd e) (by decide) (.nil)))
theorem p_law_right (KX : K.In h) (G : h.Ns mainGlobals mg) (sd : He.SaysD [] fn K) (e : exW cons blts fns K = true) : Prm (fun _ _ _ _ _ => False) P w K mg base 7 "_law_right" ["pot"] F_law_right :=
  row_def (i := 40) (ps := ["pot"]) (N := N_law_right) (calls := [("_law_text_drawn", ["pot"]), ("_law_code_sealed", ["text"]), ("_law_places", ["pot", "page"]), ("_law_of", ["pot", "some"]), ("_law_lower", ["pot", "sign"]), ("opened", ["cells"]), ("_law_code_opened", ["cells"])]) KX G sd e rfl (by kernel_rfl) (fun _ _ _ _ _ _ us hl => match us, hl with | [_], _ => rfl) (fun _ _ _ _ _ _ us hl => match us, hl with | [_], _ => rfl) (by kernel_rfl) (by kernel_rfl) (.cons (p_law_text_drawn KX G sd e) (by decide) (.cons (p_law_code_sealed KX G sd e) (by decide) (.cons (p_law_places KX G sd e) (by decide) (.cons (p_law_of KX G sd e) (by decide) (.cons (p_law_lower KX G sd e) (by decide) (.cons (p_opened KX G sd e) (by decide) (.cons (p_law_code_opened KX G sd e) (by decide) (.nil))))))))
theorem p_law (KX : K.In h) (G : h.Ns mainGlobals mg) (sd : He.SaysD [] fn K) (e : exW cons blts fns K = true) : Prm (fun _ _ _ _ _ => False) P w K mg base 8 "law" ["script"] F_law :=
  row_def (i := 41) (ps := ["script"]) (N := N_law) (calls := [("_law_cells", ["script", "most"]), ("_law_right", ["pot"]), ("_law_pot", ["script", "place"])]) KX G sd e rfl (by kernel_rfl) (fun _ _ _ _ _ _ us hl => match us, hl with | [_], _ => rfl) (fun _ _ _ _ _ _ us hl => match us, hl with | [_], _ => rfl) (by kernel_rfl) (by kernel_rfl) (.cons (p_law_cells KX G sd e) (by decide) (.cons (p_law_right KX G sd e) (by decide) (.cons (p_law_pot KX G sd e) (by decide) (.nil))))
end
end Lw
end

section
set_option Elab.async false
set_option linter.all false
set_option maxRecDepth 100000
set_option maxHeartbeats 0
open PySem PySem.W PySem.Calls PyProof.Rows
theorem Lw.ends (hl : ∀ ns : List Int, ns.length ≤ 63 → (∀ i ∈ ns, Builtin.Int.intBits i ≤ 1048576) → ∃ M', Lw.F_law [.scr (ns.map Wn.D.int)] [] = .ok (.bl true) M') : PySem.Challenge.rw_worneven_k07_whole_one_fallen_cell_is_me.Holds := by
  w_on; o_law
  refine HandSHeadRun.head_any (r := OpenLaw.row PySem.Challenge.rw_worneven_k07_whole_one_fallen_cell_is_me) (q := view (OpenLaw.row PySem.Challenge.rw_worneven_k07_whole_one_fallen_cell_is_me).prog [66]) (H := Lw.hk) (ob := Lw.ob) (M := 4000) (loose := Lw.loose) (d := HandSHeadRun.topDef (OpenLaw.row PySem.Challenge.rw_worneven_k07_whole_one_fallen_cell_is_me).prog 66) (kwd := []) Lw.ob_eq
    (by kernel_rfl) (fun s => by kernel_rfl) Lw.run (by kernel_rfl) (by kernel_rfl) (by kernel_rfl) (by rfl) (by first | assumption | decide +kernel) (by decide +kernel) ⟨rfl, rfl, rfl, rfl, rfl, by decide +kernel⟩ ?hw ?hc
  case hw => w_witness2
  case hc =>
    refine Wn.walk_law (l := PySem.Challenge.rw_worneven_k07_whole_one_fallen_cell_is_me) (n := 63) (k := 8) (F := Lw.F_law) (er := fun _ _ _ _ _ => False) rfl (by decide) (by kernel_rfl) ⟨rfl, by decide, by decide⟩ ?hF hl
    intro w mg h Y G
    obtain ⟨K, KX, sd, e⟩ := Y
    refine ⟨K, KX, fun base _ _ => ⟨("script" : PySem.Str), ?_⟩⟩
    have e1 : (HandSHeadRun.topDef (OpenLaw.row PySem.Challenge.rw_worneven_k07_whole_one_fallen_cell_is_me).prog 66).name = ("law" : PySem.Str) := by kernel_rfl
    rw [e1]
    exact Lw.p_law KX G sd e
end

theorem PySem.Challenge.cw_worneven_k07_whole_one_fallen_cell_is_me_holds : PySem.Challenge.rw_worneven_k07_whole_one_fallen_cell_is_me.Holds := by
  exact Lw.ends fun ns _ _ => Lw.hl ns
