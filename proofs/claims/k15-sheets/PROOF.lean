import PyProof.Rows.All
import PySem.Challenge.RW_worneven_k15_whole_sheets_and_page_texts
import Wide.All
import OpenK.AllK
import Wide.FinOn
import HandS.ForMost
import HandS.ForExc
import HandS.IsInst
import HandS.Wide
import HandS.TupAny
import HandS.Conv
import HandS.Replace
import HandS.NoneIn
import HandS.Zip
import PyProof.ListStr
import HandS.Flow
import HandS.Walk
import HandS.Style
import HandS.SetFor
import HandS.SetTxt0
import HandS.StrSplit
import HandS.RaiseMore
import KE.KDictZip
import HandS.Star
import KE.KStateDown
import HandS.More
import HandS.Words
import HandS.WordsExc
import HandS.Defaults
import HandS.Head0
import HandS.Head1
import HandS.Head2
import HandS.HeadEnd
import HandS.HeadHook1
import HandS.HeadHook2
import HandS.EndBits
import KE.IntTextText
import KE.KIntText
import KE.IntTextLaws
import HandS.Codes
section
set_option Elab.async false
set_option linter.all false
set_option maxRecDepth 100000
/-! Wn: values as trees, a mirror heap, how they stand in the layer's abstract heap. -/
namespace Wn
open PySem PySem.Spec PyProof.Rows L2

/-- a value as a tree; what is changed later is a cell of the mirror heap -/
inductive D where
  | non | bl (b : Bool) | int (i : Int) | str (x : Str) | tup (ds : List D) | lst (ds : List D) | scr (ds : List D) | ref (n : Nat) | ty (n : String)
/-- a cell of the mirror heap -/
inductive Cell where
  | lst (ds : List D) | dct (kvs : List (L2.Key × D)) | dead
abbrev Mem := List Cell
inductive Res (α : Type) where
  | ok (a : α) (M : Mem) | err (e : D) (M : Mem) | bad
abbrev Env := List (Option D)
abbrev St := L2.St

/-- a list that is never written any more -/
def FzL (H : Hp) (a : Addr) (xs : List V) : Prop := ∃ o, H a = some (.frz o (.lst xs))
/-- the script: it is known to the object, or one of the module's own -/
def ScL (K : PySem.W.Frag) (H : Hp) (a : Addr) (xs : List V) : Prop :=
  (∃ o, H a = some (.frz o (.lst xs))) ∨
    ∃ (o : Obj) (its : Array Value) (n : Nat), K.lookup a = some o ∧ o.cls = .type "list" ∧ o.dict = none ∧ o.data = .seq its n ∧ its.size ≤ sizeLine ∧ Vals xs its.toList
theorem FzL.sql {K : PySem.W.Frag} {H : Hp} {a : Addr} {xs : List V} (h : FzL H a xs) : SqL K H a xs := .inl (.inr h)
theorem ScL.sql {K : PySem.W.Frag} {H : Hp} {a : Addr} {xs : List V} (h : ScL K H a xs) : SqL K H a xs := by
  rcases h with h | h
  · exact .inl (.inr h)
  · exact .inr h

section
variable (K : PySem.W.Frag) (H : Hp) (r : List Addr)
mutual
def Rep : D → V → Prop
  | .non, v => v = .non
  | .bl b, v => v = .bl b
  | .int i, v => v = .int i
  | .str x, v => v = .str x
  | .tup ds, v => ∃ a vs, v = .ref a ∧ SqT K H a vs ∧ Reps ds vs
  | .lst ds, v => ∃ a vs, v = .ref a ∧ FzL H a vs ∧ Reps ds vs
  | .scr ds, v => ∃ a vs, v = .ref a ∧ ScL K H a vs ∧ Reps ds vs
  | .ref n, v => ∃ a, v = .ref a ∧ r[n]? = some a
  | .ty n, v => v = .ty n
def Reps : List D → List V → Prop
  | [], vs => vs = []
  | d :: ds, vs => ∃ v ws, vs = v :: ws ∧ Rep d v ∧ Reps ds ws
end
def CellRep (a : Addr) : Cell → Prop
  | .lst ds => ∃ vs, H a = some (.lst vs) ∧ Reps K H r ds vs
  | .dct kvs => ∃ ps : List (L2.Key × V), H a = some (.dK ps) ∧ ps.map (·.1) = kvs.map (·.1) ∧ Reps K H r (kvs.map (·.2)) (ps.map (·.2))
  | .dead => ∃ o, H a = some o
structure Sim (M : Mem) : Prop where
  len : r.length = M.length
  inj : ∀ (i j : Nat) a, r[i]? = some a → r[j]? = some a → i = j
  cell : ∀ (n : Nat) a c, r[n]? = some a → M[n]? = some c → CellRep K H r a c
end
/-- a cell that may still be written -/
def Live (M : Mem) (n : Nat) : Prop := ∃ c : Cell, M[n]? = some c ∧ c ≠ Cell.dead
/-- what a step leaves as it was -/
structure Ext (H : Hp) (r : List Addr) (M : Mem) (H' : Hp) (r' : List Addr) (M' : Mem) : Prop where
  pre : ∃ t, r' = r ++ t
  keep : ∀ b o, H b = some o → (∀ n : Nat, r[n]? = some b → ¬ Live M n) → H' b = some o
  fresh : ∀ (n : Nat) b, r.length ≤ n → r'[n]? = some b → H b = none
  dead : ∀ (n : Nat), M[n]? = some Cell.dead → M'[n]? = some Cell.dead

section
variable {K : PySem.W.Frag} {H H1 H2 H' : Hp} {r r1 r2 r' : List Addr} {M M1 M2 M' : Mem}
theorem Ext.refl : Ext H r M H r M :=
  ⟨⟨[], by simp⟩, fun _ _ e _ => e, fun n b h e => (by rw [List.getElem?_eq_none h] at e; cases e), fun _ h => h⟩
theorem Ext.get (e : Ext H r M H' r' M') {n : Nat} {a : Addr} (h : r[n]? = some a) : r'[n]? = some a := by
  obtain ⟨t, rfl⟩ := e.pre
  obtain ⟨hl, _⟩ := List.getElem?_eq_some_iff.mp h
  rw [List.getElem?_append_left hl]
  exact h
theorem Ext.len (e : Ext H r M H' r' M') : r.length ≤ r'.length := by
  obtain ⟨t, rfl⟩ := e.pre
  simp
theorem Sim.here (S : Sim K H r M) {n : Nat} {a : Addr} (h : r[n]? = some a) : ∃ c, M[n]? = some c ∧ CellRep K H r a c := by
  have hl : n < M.length := by rw [← S.len]; exact (List.getElem?_eq_some_iff.mp h).1
  exact ⟨M[n], List.getElem?_eq_getElem hl, S.cell n a _ h (List.getElem?_eq_getElem hl)⟩
theorem Sim.addr (S : Sim K H r M) {n : Nat} {c : Cell} (h : M[n]? = some c) : ∃ a, r[n]? = some a ∧ CellRep K H r a c := by
  have hl : n < r.length := by rw [S.len]; exact (List.getElem?_eq_some_iff.mp h).1
  exact ⟨r[n], List.getElem?_eq_getElem hl, S.cell n _ c (List.getElem?_eq_getElem hl) h⟩
theorem CellRep.there {a : Addr} {c : Cell} (h : CellRep K H r a c) : ∃ o, H a = some o := by
  cases c with
  | lst ds => obtain ⟨vs, e, _⟩ := h; exact ⟨_, e⟩
  | dct kvs => obtain ⟨vs, e, _⟩ := h; exact ⟨_, e⟩
  | dead => exact h
theorem Ext.trans (S : Sim K H r M) (S1 : Sim K H1 r1 M1) (a : Ext H r M H1 r1 M1) (b : Ext H1 r1 M1 H2 r2 M2) : Ext H r M H2 r2 M2 := by
  refine ⟨?_, fun c o e n => ?_, fun n c hn e => ?_, fun n h => b.dead n (a.dead n h)⟩
  · obtain ⟨t, rfl⟩ := a.pre
    obtain ⟨u, rfl⟩ := b.pre
    exact ⟨t ++ u, by rw [List.append_assoc]⟩
  · refine b.keep c o (a.keep c o e n) fun m hm hl => ?_
    by_cases hmr : m < r.length
    · have h0 : r[m]? = some c := by
        obtain ⟨t, rfl⟩ := a.pre
        rw [List.getElem?_append_left hmr] at hm
        exact hm
      obtain ⟨c0, h1, _⟩ := S.here h0
      have hd : c0 = .dead := Classical.byContradiction fun z => n m h0 ⟨c0, h1, z⟩
      subst hd
      obtain ⟨c1, h2, h3⟩ := hl
      rw [a.dead m h1] at h2
      cases h2
      exact h3 rfl
    · rw [a.fresh m c (Nat.le_of_not_lt hmr) hm] at e
      cases e
  · by_cases hmr : n < r1.length
    · refine a.fresh n c hn ?_
      obtain ⟨u, rfl⟩ := b.pre
      rw [List.getElem?_append_left hmr] at e
      exact e
    · have h1 := b.fresh n c (Nat.le_of_not_lt hmr) e
      cases q : H c with
      | none => rfl
      | some o =>
        by_cases hk : ∀ m, r[m]? = some c → ¬ Live M m
        · rw [a.keep c o q hk] at h1
          cases h1
        · obtain ⟨m, hm⟩ := Classical.not_forall.mp hk
          have h0 : r[m]? = some c := Classical.byContradiction fun z => hm fun w => absurd w z
          obtain ⟨c1, _, h3⟩ := S1.here (a.get h0)
          obtain ⟨o1, h4⟩ := h3.there
          rw [h4] at h1
          cases h1
/-- frozen things and tuples of the heap stay -/
structure Stay (H : Hp) (r : List Addr) (H' : Hp) (r' : List Addr) : Prop where
  tup : ∀ b xs, H b = some (.tup xs) → H' b = some (.tup xs)
  frz : ∀ b o u, H b = some (.frz o u) → H' b = some (.frz o u)
  get : ∀ (n : Nat) a, r[n]? = some a → r'[n]? = some a
theorem Sim.notLive (S : Sim K H r M) {b : Addr} {o : HO} (e : H b = some o) (hn : ∀ xs, o ≠ .lst xs) (hn2 : ∀ xs, o ≠ .dK xs) : ∀ n : Nat, r[n]? = some b → ¬ Live M n := fun n h ⟨c, hc, hd⟩ => by
  have q := S.cell n b c h hc
  cases c with
  | lst ds =>
    obtain ⟨vs, e2, _⟩ := q
    rw [e] at e2
    cases e2
    exact hn _ rfl
  | dct kvs =>
    obtain ⟨vs, e2, _⟩ := q
    rw [e] at e2
    cases e2
    exact hn2 _ rfl
  | dead => exact hd rfl
theorem Ext.stay (S : Sim K H r M) (e : Ext H r M H' r' M') : Stay H r H' r' :=
  ⟨fun b xs q => e.keep b _ q (S.notLive q (fun _ z => nomatch z) fun _ z => nomatch z), fun b o u q => e.keep b _ q (S.notLive q (fun _ z => nomatch z) fun _ z => nomatch z), fun _ _ h => e.get h⟩
theorem Stay.refl : Stay H r H r := ⟨fun _ _ h => h, fun _ _ _ h => h, fun _ _ h => h⟩
theorem Stay.sqt (e : Stay H r H' r') {a : Addr} {xs : List V} (h : SqT K H a xs) : SqT K H' a xs := by
  rcases h with (h | ⟨o, h⟩) | h
  · exact .inl (.inl (e.tup _ _ h))
  · exact .inl (.inr ⟨o, e.frz _ _ _ h⟩)
  · exact .inr h
theorem Stay.fzl (e : Stay H r H' r') {a : Addr} {xs : List V} (h : FzL H a xs) : FzL H' a xs := by
  obtain ⟨o, h⟩ := h
  exact ⟨o, e.frz _ _ _ h⟩
theorem Stay.scl (e : Stay H r H' r') {a : Addr} {xs : List V} (h : ScL K H a xs) : ScL K H' a xs := by
  rcases h with ⟨o, h⟩ | h
  · exact .inl ⟨o, e.frz _ _ _ h⟩
  · exact .inr h
mutual
theorem Rep.stay (e : Stay H r H' r') : ∀ {d : D} {v : V}, Rep K H r d v → Rep K H' r' d v
  | .non, _, h => h
  | .bl _, _, h => h
  | .int _, _, h => h
  | .str _, _, h => h
  | .tup ds, _, ⟨a, vs, e1, h1, h2⟩ => ⟨a, vs, e1, e.sqt h1, Reps.stay e h2⟩
  | .lst ds, _, ⟨a, vs, e1, h1, h2⟩ => ⟨a, vs, e1, e.fzl h1, Reps.stay e h2⟩
  | .scr ds, _, ⟨a, vs, e1, h1, h2⟩ => ⟨a, vs, e1, e.scl h1, Reps.stay e h2⟩
  | .ref n, _, ⟨a, e1, h1⟩ => ⟨a, e1, e.get _ _ h1⟩
  | .ty _, _, h => h
theorem Reps.stay (e : Stay H r H' r') : ∀ {ds : List D} {vs : List V}, Reps K H r ds vs → Reps K H' r' ds vs
  | [], _, h => h
  | _ :: _, _, ⟨v, ws, e1, h1, h2⟩ => ⟨v, ws, e1, Rep.stay e h1, Reps.stay e h2⟩
end
theorem Rep.ext {d : D} {v : V} (h : Rep K H r d v) (S : Sim K H r M) (e : Ext H r M H' r' M') : Rep K H' r' d v := h.stay (e.stay S)
theorem Reps.ext {d : List D} {v : List V} (h : Reps K H r d v) (S : Sim K H r M) (e : Ext H r M H' r' M') : Reps K H' r' d v := h.stay (e.stay S)
theorem Reps.length : ∀ {ds : List D} {vs : List V}, Reps K H r ds vs → ds.length = vs.length
  | [], _, h => by cases h; rfl
  | _ :: _, _, ⟨v, ws, e1, h1, h2⟩ => by cases e1; simp [Reps.length h2]
theorem Reps.get : ∀ {ds : List D} {vs : List V} {i : Nat} {d : D}, Reps K H r ds vs → ds[i]? = some d → ∃ v, vs[i]? = some v ∧ Rep K H r d v
  | [], _, _, _, _, e => by simp at e
  | _ :: _, _, 0, _, ⟨v, ws, e1, h1, h2⟩, e => by cases e1; simp at e; subst e; exact ⟨v, rfl, h1⟩
  | _ :: _, _, i + 1, d, ⟨v, ws, e1, h1, h2⟩, e => by
    cases e1
    obtain ⟨x, a, b⟩ := Reps.get (i := i) (d := d) h2 (by simpa using e)
    exact ⟨x, by simpa using a, b⟩
theorem Reps.append : ∀ {ds es : List D} {vs ws : List V}, Reps K H r ds vs → Reps K H r es ws → Reps K H r (ds ++ es) (vs ++ ws)
  | [], _, _, _, h, h' => by cases h; exact h'
  | _ :: _, _, _, _, ⟨v, xs, e1, h1, h2⟩, h' => by cases e1; exact ⟨v, _, rfl, h1, Reps.append h2 h'⟩
theorem Reps.one {d : D} {v : V} (h : Rep K H r d v) : Reps K H r [d] [v] := ⟨v, [], rfl, h, rfl⟩
theorem Reps.set : ∀ {ds : List D} {vs : List V} {d : D} {v : V} (i : Nat), Reps K H r ds vs → Rep K H r d v → Reps K H r (ds.set i d) (vs.set i v)
  | [], _, _, _, _, h, _ => by cases h; rfl
  | _ :: _, _, _, _, 0, ⟨v, ws, e1, h1, h2⟩, h => by cases e1; exact ⟨_, _, rfl, h, h2⟩
  | _ :: _, _, _, _, i + 1, ⟨v, ws, e1, h1, h2⟩, h => by cases e1; exact ⟨_, _, rfl, h1, Reps.set i h2 h⟩
theorem Reps.take : ∀ {ds : List D} {vs : List V} (n : Nat), Reps K H r ds vs → Reps K H r (ds.take n) (vs.take n)
  | [], _, n, h => by cases h; simp; rfl
  | _ :: _, _, 0, _ => rfl
  | _ :: _, _, n + 1, ⟨v, ws, e1, h1, h2⟩ => by cases e1; exact ⟨v, _, rfl, h1, Reps.take n h2⟩
theorem Reps.drop : ∀ {ds : List D} {vs : List V} (n : Nat), Reps K H r ds vs → Reps K H r (ds.drop n) (vs.drop n)
  | [], _, n, h => by cases h; simp; rfl
  | _ :: _, _, 0, h => h
  | _ :: _, _, n + 1, ⟨v, ws, e1, h1, h2⟩ => by cases e1; exact Reps.drop n h2
theorem Reps.none_of {ds : List D} {vs : List V} {i : Nat} (h : Reps K H r ds vs) (e : ds[i]? = none) : vs[i]? = none := by
  have := h.length
  rw [List.getElem?_eq_none_iff] at e ⊢
  omega
end
end Wn
end

section
set_option Elab.async false
set_option linter.all false
set_option maxRecDepth 100000
namespace Wn
open PySem PySem.Spec PyProof.Rows L2

/-- what is wanted of an exception -/
abbrev ZK := D → Hp → List Addr → Mem → Prop
abbrev ZS := St → ZK
def bnd {α β : Type} (m : Mem → Res α) (k : α → Mem → Res β) : Mem → Res β := fun M => match m M with
  | .ok a M1 => k a M1
  | .err e M1 => .err e M1
  | .bad => .bad
def ret {α : Type} (a : α) : Mem → Res α := fun M => .ok a M
def stuck {α : Type} : Mem → Res α := fun _ => .bad
def opt (o : Option D) : Mem → Res D := fun M => match o with
  | some d => .ok d M
  | none => .bad
def Aft (K : PySem.W.Frag) (Z : ZK) (H : Hp) (r : List Addr) (M : Mem) (res : Res D) (Q : VK) : Prop := match res with
  | .ok d M' => ∀ v H' r', Ext H r M H' r' M' → Sim K H' r' M' → Rep K H' r' d v → Q v H'
  | .err e M' => ∀ H' r', Ext H r M H' r' M' → Sim K H' r' M' → Z e H' r' M'
  | .bad => False
def AftB (K : PySem.W.Frag) (Z : ZK) (H : Hp) (r : List Addr) (M : Mem) (res : Res Bool) (Q : Bool → Hp → Prop) : Prop := match res with
  | .ok d M' => ∀ H' r', Ext H r M H' r' M' → Sim K H' r' M' → Q d H'
  | .err e M' => ∀ H' r', Ext H r M H' r' M' → Sim K H' r' M' → Z e H' r' M'
  | .bad => False
def AftL (K : PySem.W.Frag) (Z : ZK) (H : Hp) (r : List Addr) (M : Mem) (res : Res (List D)) (Q : List V → Hp → Prop) : Prop := match res with
  | .ok d M' => ∀ v H' r', Ext H r M H' r' M' → Sim K H' r' M' → Reps K H' r' d v → Q v H'
  | .err e M' => ∀ H' r', Ext H r M H' r' M' → Sim K H' r' M' → Z e H' r' M'
  | .bad => False
/-- the slots -/
def EnvRep (K : PySem.W.Frag) (H : Hp) (r : List Addr) (σ : St) (δ : Env) : Prop :=
  σ.length = δ.length ∧ ∀ (i : Nat) d, δ[i]? = some (some d) → ∃ v, σ[i]? = some (some v) ∧ Rep K H r d v
def tM (K : PySem.W.Frag) (Z : ZS) (f : Env → Mem → Res D) : TE := fun σ H Q => ∃ δ r M, EnvRep K H r σ δ ∧ Sim K H r M ∧ Aft K (Z σ) H r M (f δ M) Q
def tB (K : PySem.W.Frag) (Z : ZS) (f : Env → Mem → Res Bool) : TT := fun σ H Q => ∃ δ r M, EnvRep K H r σ δ ∧ Sim K H r M ∧ AftB K (Z σ) H r M (f δ M) Q
def tL (K : PySem.W.Frag) (Z : ZS) (f : Env → Mem → Res (List D)) : TA := fun σ H Q => ∃ δ r M, EnvRep K H r σ δ ∧ Sim K H r M ∧ AftL K (Z σ) H r M (f δ M) Q

section
variable {K : PySem.W.Frag} {Z : ZK} {H H1 H2 H' : Hp} {r r1 r2 r' : List Addr} {M M1 M2 M' : Mem} {σ : St} {δ : Env}
theorem EnvRep.ext (h : EnvRep K H r σ δ) (S : Sim K H r M) (e : Ext H r M H' r' M') : EnvRep K H' r' σ δ :=
  ⟨h.1, fun i d q => let ⟨v, a, b⟩ := h.2 i d q; ⟨v, a, b.ext S e⟩⟩
theorem EnvRep.set {i : Nat} {d : D} {v : V} (h : EnvRep K H r σ δ) (q : Rep K H r d v) : EnvRep K H r (σ.set i (some v)) (δ.set i (some d)) := by
  refine ⟨by simp [h.1], fun j e hj => ?_⟩
  by_cases hij : i = j
  · subst hij
    by_cases hl : i < δ.length
    · rw [List.getElem?_set_self hl] at hj
      cases hj
      exact ⟨v, by rw [List.getElem?_set_self (by rw [h.1]; exact hl)], q⟩
    · rw [List.getElem?_eq_none (by simpa using hl)] at hj
      cases hj
  · rw [List.getElem?_set_ne hij] at hj ⊢
    exact h.2 j e hj
theorem EnvRep.unset {i : Nat} (h : EnvRep K H r σ δ) : EnvRep K H r (σ.set i none) (δ.set i none) := by
  refine ⟨by simp [h.1], fun j e hj => ?_⟩
  by_cases hij : i = j
  · subst hij
    by_cases hl : i < δ.length
    · rw [List.getElem?_set_self hl] at hj
      cases hj
    · rw [List.getElem?_eq_none (by simpa using hl)] at hj
      cases hj
  · rw [List.getElem?_set_ne hij] at hj ⊢
    exact h.2 j e hj
theorem Aft.step {res : Res D} {Q : VK} (S : Sim K H r M) (S1 : Sim K H1 r1 M1) (e : Ext H r M H1 r1 M1) (h : Aft K Z H r M res Q) : Aft K Z H1 r1 M1 res Q := by
  cases res with
  | ok d M' => exact fun v H' r' x s q => h v H' r' (e.trans S S1 x) s q
  | err d M' => exact fun H' r' x s => h H' r' (e.trans S S1 x) s
  | bad => exact h
theorem AftB.step {res : Res Bool} {Q : Bool → Hp → Prop} (S : Sim K H r M) (S1 : Sim K H1 r1 M1) (e : Ext H r M H1 r1 M1) (h : AftB K Z H r M res Q) : AftB K Z H1 r1 M1 res Q := by
  cases res with
  | ok d M' => exact fun H' r' x s => h H' r' (e.trans S S1 x) s
  | err d M' => exact fun H' r' x s => h H' r' (e.trans S S1 x) s
  | bad => exact h
theorem AftL.step {res : Res (List D)} {Q : List V → Hp → Prop} (S : Sim K H r M) (S1 : Sim K H1 r1 M1) (e : Ext H r M H1 r1 M1) (h : AftL K Z H r M res Q) : AftL K Z H1 r1 M1 res Q := by
  cases res with
  | ok d M' => exact fun v H' r' x s q => h v H' r' (e.trans S S1 x) s q
  | err d M' => exact fun H' r' x s => h H' r' (e.trans S S1 x) s
  | bad => exact h
/-- the first part, and what is wanted behind it -/
theorem Aft.bind {m : Mem → Res D} {k : D → Mem → Res D} {Q : VK} (S : Sim K H r M) (h : Aft K Z H r M (bnd m k M) Q) :
    Aft K Z H r M (m M) (fun v H1 => ∃ d1 M1 r1, m M = .ok d1 M1 ∧ Ext H r M H1 r1 M1 ∧ Sim K H1 r1 M1 ∧ Rep K H1 r1 d1 v ∧ Aft K Z H1 r1 M1 (k d1 M1) Q) := by
  unfold bnd at h
  cases e : m M with
  | ok d M' =>
    rw [e] at h
    exact fun v H' r' x s q => ⟨d, M', r', rfl, x, s, q, Aft.step S s x h⟩
  | err d M' => rw [e] at h; exact h
  | bad => rw [e] at h; exact h
theorem AftB.bind {m : Mem → Res D} {k : D → Mem → Res Bool} {Q : Bool → Hp → Prop} (S : Sim K H r M) (h : AftB K Z H r M (bnd m k M) Q) :
    Aft K Z H r M (m M) (fun v H1 => ∃ d1 M1 r1, m M = .ok d1 M1 ∧ Ext H r M H1 r1 M1 ∧ Sim K H1 r1 M1 ∧ Rep K H1 r1 d1 v ∧ AftB K Z H1 r1 M1 (k d1 M1) Q) := by
  unfold bnd at h
  cases e : m M with
  | ok d M' =>
    rw [e] at h
    exact fun v H' r' x s q => ⟨d, M', r', rfl, x, s, q, AftB.step S s x h⟩
  | err d M' => rw [e] at h; exact h
  | bad => rw [e] at h; exact h
theorem AftL.bind {m : Mem → Res D} {k : D → Mem → Res (List D)} {Q : List V → Hp → Prop} (S : Sim K H r M) (h : AftL K Z H r M (bnd m k M) Q) :
    Aft K Z H r M (m M) (fun v H1 => ∃ d1 M1 r1, m M = .ok d1 M1 ∧ Ext H r M H1 r1 M1 ∧ Sim K H1 r1 M1 ∧ Rep K H1 r1 d1 v ∧ AftL K Z H1 r1 M1 (k d1 M1) Q) := by
  unfold bnd at h
  cases e : m M with
  | ok d M' =>
    rw [e] at h
    exact fun v H' r' x s q => ⟨d, M', r', rfl, x, s, q, AftL.step S s x h⟩
  | err d M' => rw [e] at h; exact h
  | bad => rw [e] at h; exact h
theorem Aft.bindL {m : Mem → Res (List D)} {k : List D → Mem → Res D} {Q : VK} (S : Sim K H r M) (h : Aft K Z H r M (bnd m k M) Q) :
    AftL K Z H r M (m M) (fun v H1 => ∃ d1 M1 r1, m M = .ok d1 M1 ∧ Ext H r M H1 r1 M1 ∧ Sim K H1 r1 M1 ∧ Reps K H1 r1 d1 v ∧ Aft K Z H1 r1 M1 (k d1 M1) Q) := by
  unfold bnd at h
  cases e : m M with
  | ok d M' =>
    rw [e] at h
    exact fun v H' r' x s q => ⟨d, M', r', rfl, x, s, q, Aft.step S s x h⟩
  | err d M' => rw [e] at h; exact h
  | bad => rw [e] at h; exact h
theorem AftL.bindL {m : Mem → Res (List D)} {k : List D → Mem → Res (List D)} {Q : List V → Hp → Prop} (S : Sim K H r M) (h : AftL K Z H r M (bnd m k M) Q) :
    AftL K Z H r M (m M) (fun v H1 => ∃ d1 M1 r1, m M = .ok d1 M1 ∧ Ext H r M H1 r1 M1 ∧ Sim K H1 r1 M1 ∧ Reps K H1 r1 d1 v ∧ AftL K Z H1 r1 M1 (k d1 M1) Q) := by
  unfold bnd at h
  cases e : m M with
  | ok d M' =>
    rw [e] at h
    exact fun v H' r' x s q => ⟨d, M', r', rfl, x, s, q, AftL.step S s x h⟩
  | err d M' => rw [e] at h; exact h
  | bad => rw [e] at h; exact h
theorem Aft.bindB {m : Mem → Res Bool} {k : Bool → Mem → Res D} {Q : VK} (S : Sim K H r M) (h : Aft K Z H r M (bnd m k M) Q) :
    AftB K Z H r M (m M) (fun v H1 => ∃ M1 r1, m M = .ok v M1 ∧ Ext H r M H1 r1 M1 ∧ Sim K H1 r1 M1 ∧ Aft K Z H1 r1 M1 (k v M1) Q) := by
  unfold bnd at h
  cases e : m M with
  | ok d M' =>
    rw [e] at h
    exact fun H' r' x s => ⟨M', r', rfl, x, s, Aft.step S s x h⟩
  | err d M' => rw [e] at h; exact h
  | bad => rw [e] at h; exact h
theorem AftB.bindB {m : Mem → Res Bool} {k : Bool → Mem → Res Bool} {Q : Bool → Hp → Prop} (S : Sim K H r M) (h : AftB K Z H r M (bnd m k M) Q) :
    AftB K Z H r M (m M) (fun v H1 => ∃ M1 r1, m M = .ok v M1 ∧ Ext H r M H1 r1 M1 ∧ Sim K H1 r1 M1 ∧ AftB K Z H1 r1 M1 (k v M1) Q) := by
  unfold bnd at h
  cases e : m M with
  | ok d M' =>
    rw [e] at h
    exact fun H' r' x s => ⟨M', r', rfl, x, s, AftB.step S s x h⟩
  | err d M' => rw [e] at h; exact h
  | bad => rw [e] at h; exact h
theorem Aft.opt {o : Option D} {Q : VK} (h : Aft K Z H r M (opt o M) Q) : ∃ d, o = some d ∧ ∀ v H' r', Ext H r M H' r' M → Sim K H' r' M → Rep K H' r' d v → Q v H' := by
  cases o with
  | none => exact h.elim
  | some d => exact ⟨d, rfl, h⟩
/-! ### new things -/
theorem ext_new {p : Addr} {o : HO} (S : Sim K H r M) (hp : H p = none) : Ext H r M (upd H p o) r M :=
  ⟨⟨[], by simp⟩, fun b u e _ => (by rw [upd_ne (ne_of_none e hp)]; exact e), fun n b h e => (by rw [List.getElem?_eq_none h] at e; cases e), fun _ h => h⟩
theorem stay_new {p : Addr} {o : HO} (hp : H p = none) : Stay H r (upd H p o) r :=
  ⟨fun b u e => (by rw [upd_ne (ne_of_none e hp)]; exact e), fun b u x e => (by rw [upd_ne (ne_of_none e hp)]; exact e), fun _ _ h => h⟩
theorem CellRep.stay {a : Addr} {c : Cell} (e : Stay H r H' r') (h : CellRep K H r a c) (k : ∀ o, H a = some o → H' a = some o) : CellRep K H' r' a c := by
  cases c with
  | lst ds => obtain ⟨vs, e1, h1⟩ := h; exact ⟨vs, k _ e1, h1.stay e⟩
  | dct kvs => obtain ⟨vs, e1, h0, h1⟩ := h; exact ⟨vs, k _ e1, h0, h1.stay e⟩
  | dead => obtain ⟨o, e1⟩ := h; exact ⟨o, k _ e1⟩
theorem sim_new {p : Addr} {o : HO} (S : Sim K H r M) (hp : H p = none) : Sim K (upd H p o) r M :=
  ⟨S.len, S.inj, fun n a c h1 h2 => (S.cell n a c h1 h2).stay (stay_new hp) fun u e => by rw [upd_ne (ne_of_none e hp)]; exact e⟩
/-- a new tuple -/
theorem Aft.tup {p : Addr} {ds : List D} {vs : List V} {Q : VK} (S : Sim K H r M) (hp : H p = none) (q : Reps K H r ds vs) (h : Aft K Z H r M (.ok (.tup ds) M) Q) : Q (.ref p) (upd H p (.tup vs)) :=
  h _ _ r (ext_new S hp) (sim_new S hp) ⟨p, vs, rfl, .of upd_same, q.stay (stay_new hp)⟩
/-- a new list, frozen at once -/
theorem Aft.fzl {p : Addr} {o : Obj} {ds : List D} {vs : List V} {Q : VK} (S : Sim K H r M) (hp : H p = none) (q : Reps K H r ds vs) (h : Aft K Z H r M (.ok (.lst ds) M) Q) : Q (.ref p) (upd H p (.frz o (.lst vs))) :=
  h _ _ r (ext_new S hp) (sim_new S hp) ⟨p, vs, rfl, ⟨o, upd_same⟩, q.stay (stay_new hp)⟩
end

/-! ### freezing: a step of the abstract heap alone -/
section
variable {X : Cx} {pins : List (Addr × Obj)} {σ : St} {H : Hp} {s : Shared}
theorem inv_freeze {a : Addr} {xs : List V} (I : Inv X pins σ H s) (h : H a = some (.lst xs)) : ∃ o, Inv X pins σ (upd H a (.frz o (.lst xs))) s := by
  obtain ⟨hz, its, n, rv, e⟩ : xs.length ≤ sizeLine ∧ ∃ (its : List Value) (n : Nat), Vals xs its ∧ s.heap.get? a = some { cls := .type "list", data := .seq its.toArray n } := I.hok a _ h
  have hn : ∀ b, H b = none → b ≠ a := fun b q z => by rw [z, h] at q; cases q
  have hnt : ∀ b (u : HO), H b = some u → (∀ ys, u ≠ .lst ys) → b ≠ a := fun b u q z w => by rw [w, h] at q; cases q; exact z _ rfl
  have J := I.un (h' := s.heap) (t' := s.toks) (H' := upd H a (.frz { cls := .type "list", data := .seq its.toArray n } (.lst xs)))
    ⟨fun b o q _ _ _ => q, fun b o q _ _ _ => ⟨o.slots, q⟩, fun b o _ q _ => (by rw [upd_ne (hn b q)]; exact q), fun b o q _ => ⟨o, q⟩,
      fun b ys q => (by rw [upd_ne (hnt b _ q fun _ z => nomatch z)]; exact q), fun b o ys q => (by rw [upd_ne (hnt b _ q fun _ z => nomatch z)]; exact q),
      fun b ps q => ⟨#[], by rw [upd_ne (hnt b _ q fun _ z => nomatch z), q]; simp⟩⟩
    (fun b u q => by
      by_cases hb : b = a
      · subst hb
        rw [upd_same] at q
        cases q
        exact ⟨e, hz, its, n, rv, e⟩
      · rw [upd_ne hb] at q
        exact (I.hok b u q).stay (fun c v _ z => z) (fun c z => by rw [upd_ne (hnt c _ z fun _ w => nomatch w)]; exact z) fun c xs z => by rw [upd_ne (hnt c _ z fun _ w => nomatch w)]; exact z)
  exact ⟨_, J⟩
/-- what gives a new list gives a frozen one -/
theorem EP.freeze {Q : VK} {u : Value} {s' : Shared} (h : EP X pins σ (fun v H1 => ∃ a xs, v = .ref a ∧ H1 a = some (.lst xs) ∧ ∀ o, Q v (upd H1 a (.frz o (.lst xs)))) u s') : EP X pins σ Q u s' := by
  obtain ⟨v, H1, I, rv, a, xs, ev, ha, q⟩ := h
  obtain ⟨o, J⟩ := inv_freeze I ha
  exact ⟨v, _, J, rv, q o⟩
end
end Wn
end

section
set_option Elab.async false
set_option linter.all false
set_option maxRecDepth 100000
set_option maxHeartbeats 4000000
namespace Wn
open PySem PySem.Spec PyProof.Rows L2

/-- what is wanted of a value behind a step that leaves the mirror heap -/
abbrev Wnt (K : PySem.W.Frag) (H : Hp) (r : List Addr) (M : Mem) (d : D) (Q : VK) : Prop := ∀ v H' r', Ext H r M H' r' M → Sim K H' r' M → Rep K H' r' d v → Q v H'
/-- a two-place operation by values -/
def Op2 (X : Cx) (f : Value → Value → Sem Value) (g : Mem → D → D → Option D) : Prop :=
  ∀ (pins : List (Addr × Obj)) (s : Shared) (σ : St) (H : Hp) (r : List Addr) (M : Mem) (x y : V) (v u : Value) (dx dy d : D) (Q : VK), Inv X pins σ H s → RelV x v → RelV y u → Sim X.K H r M → Rep X.K H r dx x → Rep X.K H r dy y → g M dx dy = some d →
    Wnt X.K H r M d Q → wpAny (model X.prog X.w) X.A (f v u) (EP X pins σ Q) X.xe s
/-- a call of a value that is known -/
def CallS (X : Cx) (f : Value) (g : Mem → List D → Option D) : Prop :=
  ∀ (pins : List (Addr × Obj)) (s : Shared) (σ : St) (H : Hp) (r : List Addr) (M : Mem) (xs : List V) (us : List Value) (ds : List D) (d : D) (Q : VK), Inv X pins σ H s → Vals xs us → Sim X.K H r M → Reps X.K H r ds xs → g M ds = some d →
    Wnt X.K H r M d Q → wpAny (model X.prog X.w) X.A (call f us) (EP X pins σ Q) X.xe s
section
variable {K : PySem.W.Frag} {H : Hp} {r : List Addr} {M : Mem} {d : D} {Q : VK}
theorem Wnt.here (S : Sim K H r M) (h : Wnt K H r M d Q) {v : V} (q : Rep K H r d v) : Q v H := h v H r Ext.refl S q
theorem Wnt.tup (S : Sim K H r M) {ds : List D} {vs : List V} (h : Wnt K H r M (.tup ds) Q) (q : Reps K H r ds vs) : ∀ p, H p = none → Q (.ref p) (upd H p (.tup vs)) :=
  fun p hp => Aft.tup (Z := fun _ _ _ _ => True) S hp q h
/-- what is wanted of a new list that is frozen at once -/
def QFz (Q : VK) : VK := fun v H1 => ∃ a xs, v = .ref a ∧ H1 a = some (.lst xs) ∧ ∀ o, Q v (upd H1 a (.frz o (.lst xs)))
theorem Wnt.fzl (S : Sim K H r M) {ds : List D} {vs : List V} (h : Wnt K H r M (.lst ds) Q) (q : Reps K H r ds vs) : ∀ p, H p = none → QFz Q (.ref p) (upd H p (.lst vs)) :=
  fun p hp => ⟨p, vs, rfl, upd_same, fun o => by rw [upd_upd]; exact Aft.fzl (Z := fun _ _ _ _ => True) S hp q h⟩
end
theorem Op2.of {X : Cx} {f : Value → Value → Sem Value} {g : Mem → D → D → Option D} {rr : R2} (h : OpR X f rr)
    (hr : ∀ (H : Hp) (r : List Addr) (M : Mem) (x y : V) (dx dy d : D) (Q : VK), Sim X.K H r M → Rep X.K H r dx x → Rep X.K H r dy y → g M dx dy = some d → Wnt X.K H r M d Q → rr x y H Q) : Op2 X f g :=
  fun pins s σ H r M x y v u dx dy d Q I rx ry S qx qy e w => h pins s σ H x y v u Q I rx ry (hr H r M x y dx dy d Q S qx qy e w)
theorem Op2.or {X : Cx} {f : Value → Value → Sem Value} {g g' : Mem → D → D → Option D} (h : Op2 X f g) (h' : Op2 X f g') : Op2 X f (fun M a b => (g M a b).or (g' M a b)) :=
  fun pins s σ H r M x y v u dx dy d Q I rx ry S qx qy e w => by
    cases q : g M dx dy with
    | some d' =>
      have e' : (g M dx dy).or (g' M dx dy) = some d := e
      rw [q] at e'
      cases e'
      exact h pins s σ H r M x y v u dx dy _ Q I rx ry S qx qy q w
    | none =>
      have e' : (g M dx dy).or (g' M dx dy) = some d := e
      rw [q] at e'
      exact h' pins s σ H r M x y v u dx dy d Q I rx ry S qx qy e' w
theorem Op2.congr {X : Cx} {f : Value → Value → Sem Value} {g g' : Mem → D → D → Option D} (h : Op2 X f g) (e : ∀ M a b d, g' M a b = some d → g M a b = some d) : Op2 X f g' :=
  fun pins s σ H r M x y v u dx dy d Q I rx ry S qx qy q w => h pins s σ H r M x y v u dx dy d Q I rx ry S qx qy (e _ _ _ _ q) w
theorem CallS.of {X : Cx} {f : Value} {g : Mem → List D → Option D} {rr : List V → Hp → VK → Prop} (h : CallR X f rr)
    (hr : ∀ (H : Hp) (r : List Addr) (M : Mem) (xs : List V) (ds : List D) (d : D) (Q : VK), Sim X.K H r M → Reps X.K H r ds xs → g M ds = some d → Wnt X.K H r M d Q → rr xs H Q) : CallS X f g :=
  fun pins s σ H r M xs us ds d Q I rx S qx e w => h pins s σ H xs us Q I rx (hr H r M xs ds d Q S qx e w)
theorem CallS.ofF {X : Cx} {f : Value} {g : Mem → List D → Option D} {rr : List V → Hp → VK → Prop} (h : CallR X f rr)
    (hr : ∀ (H : Hp) (r : List Addr) (M : Mem) (xs : List V) (ds : List D) (d : D) (Q : VK), Sim X.K H r M → Reps X.K H r ds xs → g M ds = some d → Wnt X.K H r M d Q → rr xs H (QFz Q)) : CallS X f g :=
  fun pins s σ H r M xs us ds d Q I rx S qx e w => thn (h pins s σ H xs us (QFz Q) I rx (hr H r M xs ds d Q S qx e w)) fun u s' q => EP.freeze q
theorem CallS.or {X : Cx} {f : Value} {g g' : Mem → List D → Option D} (h : CallS X f g) (h' : CallS X f g') : CallS X f (fun M a => (g M a).or (g' M a)) :=
  fun pins s σ H r M xs us ds d Q I rx S qx e w => by
    cases q : g M ds with
    | some d' =>
      have e' : (g M ds).or (g' M ds) = some d := e
      rw [q] at e'
      cases e'
      exact h pins s σ H r M xs us ds _ Q I rx S qx q w
    | none =>
      have e' : (g M ds).or (g' M ds) = some d := e
      rw [q] at e'
      exact h' pins s σ H r M xs us ds d Q I rx S qx e' w
theorem CallS.congr {X : Cx} {f : Value} {g g' : Mem → List D → Option D} (h : CallS X f g) (e : ∀ M a d, g' M a = some d → g M a = some d) : CallS X f g' :=
  fun pins s σ H r M xs us ds d Q I rx S qx q w => h pins s σ H r M xs us ds d Q I rx S qx (e _ _ _ q) w

/-! ### lists that are read: frozen ones, cells -/
def lstX (M : Mem) : D → Option (List D)
  | .lst ds => some ds
  | .ref n => match M[n]? with
    | some (.lst ds) => some ds
    | _ => none
  | _ => none
/-- a list that lies as the abstract heap says -/
def XL (H : Hp) (a : Addr) (vs : List V) : Prop := H a = some (.lst vs) ∨ FzL H a vs
theorem XL.sql {K : PySem.W.Frag} {H : Hp} {a : Addr} {xs : List V} (h : XL H a xs) : SqL K H a xs := by
  rcases h with h | h
  · exact .of h
  · exact h.sql
theorem lstX_rep {K : PySem.W.Frag} {H : Hp} {r : List Addr} {M : Mem} {d : D} {ds : List D} {v : V} (S : Sim K H r M) (h : Rep K H r d v) (e : lstX M d = some ds) : ∃ a vs, v = .ref a ∧ XL H a vs ∧ Reps K H r ds vs := by
  cases d with
  | lst es =>
    cases e
    obtain ⟨a, vs, e1, h1, h2⟩ := h
    exact ⟨a, vs, e1, .inr h1, h2⟩
  | ref n =>
    obtain ⟨a, e1, h1⟩ := h
    have e' : (match M[n]? with | some (.lst ds) => some ds | _ => none) = some ds := e
    cases q : M[n]? with
    | none => rw [q] at e'; cases e'
    | some c =>
      rw [q] at e'
      cases c with
      | dead => cases e'
      | dct _ => cases e'
      | lst es =>
        cases e'
        obtain ⟨vs, h2, h3⟩ := S.cell n a _ h1 q
        exact ⟨a, vs, e1, .inl h2, h3⟩
  | _ => cases e
theorem XL.at {X : Cx} {pins : List (Addr × Obj)} {σ : St} {H : Hp} {s : Shared} {l : Addr} {xs : List V} (I : Inv X pins σ H s) (h : XL H l xs) :
    xs.length ≤ sizeLine ∧ ∃ (its : List Value) (n : Nat), Vals xs its ∧ xs.length = its.length ∧ s.heap.get? l = some { cls := .type "list", data := .seq its.toArray n } := by
  rcases h with h | ⟨o, h⟩
  · obtain ⟨z, its, n, q, e⟩ : xs.length ≤ sizeLine ∧ ∃ (its : List Value) (n : Nat), Vals xs its ∧ s.heap.get? l = some { cls := .type "list", data := .seq its.toArray n } := I.hok l _ h
    exact ⟨z, its, n, q, q.length, e⟩
  · obtain ⟨_, z, its, n, q, e⟩ : s.heap.get? l = some o ∧ xs.length ≤ sizeLine ∧ ∃ (its : List Value) (n : Nat), Vals xs its ∧ s.heap.get? l = some { cls := .type "list", data := .seq its.toArray n } := I.hok l _ h
    exact ⟨z, its, n, q, q.length, e⟩
def lstOf (M : Mem) : D → Option (List D)
  | .lst ds => some ds
  | .scr ds => some ds
  | .ref n => match M[n]? with
    | some (.lst ds) => some ds
    | _ => none
  | _ => none
theorem lstOf_rep {K : PySem.W.Frag} {H : Hp} {r : List Addr} {M : Mem} {d : D} {ds : List D} {v : V} (S : Sim K H r M) (h : Rep K H r d v) (e : lstOf M d = some ds) : ∃ a vs, v = .ref a ∧ SqL K H a vs ∧ Reps K H r ds vs := by
  cases d with
  | lst es =>
    cases e
    obtain ⟨a, vs, e1, h1, h2⟩ := h
    exact ⟨a, vs, e1, h1.sql, h2⟩
  | scr es =>
    cases e
    obtain ⟨a, vs, e1, h1, h2⟩ := h
    exact ⟨a, vs, e1, h1.sql, h2⟩
  | ref n =>
    obtain ⟨a, e1, h1⟩ := h
    have e' : (match M[n]? with | some (.lst ds) => some ds | _ => none) = some ds := e
    cases q : M[n]? with
    | none => rw [q] at e'; cases e'
    | some c =>
      rw [q] at e'
      cases c with
      | dead => cases e'
      | dct _ => cases e'
      | lst es =>
        cases e'
        obtain ⟨vs, h2, h3⟩ := S.cell n a _ h1 q
        exact ⟨a, vs, e1, .of h2, h3⟩
  | _ => cases e
/-! ### data as a whole -/
mutual
def toPy : D → Option PyData
  | .non => some .none
  | .bl b => some (.bool b)
  | .int i => some (.int i)
  | .str x => some (.str x)
  | .tup ds => (toPys ds).map .tuple
  | .lst ds => (toPys ds).map .list
  | .scr _ => none
  | .ref _ => none
  | .ty _ => none
def toPys : List D → Option (List PyData)
  | [] => some []
  | d :: ds => match toPy d, toPys ds with
    | some p, some ps => some (p :: ps)
    | _, _ => none
end
def toPyM (M : Mem) (d : D) : Option PyData := match d with
  | .ref n => (match M[n]? with
    | some (.lst ds) => (toPys ds).map .list
    | _ => none)
  | d => toPy d
section
variable {K : PySem.W.Frag} {H : Hp} {r : List Addr} {M : Mem}
mutual
theorem dp_of : ∀ {d : D} {v : V} {p : PyData}, Rep K H r d v → toPy d = some p → Dp K H v p
  | .non, _, _, h, e => by cases h; cases e; exact .non
  | .bl b, _, _, h, e => by cases h; cases e; exact .bl b
  | .int i, _, _, h, e => by cases h; cases e; exact .int i
  | .str x, _, _, h, e => by cases h; cases e; exact .str x
  | .tup ds, _, _, h, e => by
    obtain ⟨a, vs, rfl, h1, h2⟩ := h
    have e' : (toPys ds).map PyData.tuple = some _ := e
    obtain ⟨ps, e1, rfl⟩ := Option.map_eq_some_iff.mp e'
    exact .tup h1 (dps_of h2 e1)
  | .lst ds, _, _, h, e => by
    obtain ⟨a, vs, rfl, h1, h2⟩ := h
    have e' : (toPys ds).map PyData.list = some _ := e
    obtain ⟨ps, e1, rfl⟩ := Option.map_eq_some_iff.mp e'
    exact .lst h1.sql (dps_of h2 e1)
  | .scr _, _, _, _, e => by cases e
  | .ref _, _, _, _, e => by cases e
  | .ty _, _, _, _, e => by cases e
theorem dps_of : ∀ {ds : List D} {vs : List V} {ps : List PyData}, Reps K H r ds vs → toPys ds = some ps → DpAll K H vs ps
  | [], _, _, h, e => by cases h; cases e; exact .nil
  | d :: ds, _, _, h, e => by
    obtain ⟨v, ws, rfl, h1, h2⟩ := h
    have e' : (match toPy d, toPys ds with | some p, some ps => some (p :: ps) | _, _ => none) = some _ := e
    cases q1 : toPy d with
    | none => rw [q1] at e'; cases e'
    | some p =>
      cases q2 : toPys ds with
      | none => rw [q1, q2] at e'; cases e'
      | some ps =>
        rw [q1, q2] at e'
        cases e'
        exact .cons (dp_of h1 q1) (dps_of h2 q2)
end
theorem dpM_of {d : D} {v : V} {p : PyData} (S : Sim K H r M) (h : Rep K H r d v) (e : toPyM M d = some p) : Dp K H v p := by
  cases d with
  | ref n =>
    obtain ⟨a, rfl, h1⟩ := h
    have e' : (match M[n]? with | some (.lst ds) => (toPys ds).map PyData.list | _ => none) = some p := e
    cases q : M[n]? with
    | none => rw [q] at e'; cases e'
    | some c =>
      rw [q] at e'
      cases c with
      | dead => cases e'
      | dct _ => cases e'
      | lst es =>
        obtain ⟨ps, e1, rfl⟩ := Option.map_eq_some_iff.mp e'
        obtain ⟨vs, h2, h3⟩ := S.cell n a _ h1 q
        exact .lst (.of h2) (dps_of h3 e1)
  | non => exact dp_of h e
  | bl b => exact dp_of h e
  | int i => exact dp_of h e
  | str x => exact dp_of h e
  | tup ds => exact dp_of h e
  | lst ds => exact dp_of h e
  | scr ds => exact dp_of h e
  | ty n => exact dp_of h e
end

/-! ### the operators -/
def gAdd : Mem → D → D → Option D := fun _ x y => match x, y with
  | .int i, .int j => some (.int (i + j))
  | .str a, .str b => if a.length + b.length ≤ sizeLine then some (.str (a ++ b)) else none
  | .tup a, .tup b => if a.length + b.length ≤ sizeLine then some (.tup (a ++ b)) else none
  | _, _ => none
def gAddL : Mem → D → D → Option D := fun M x y => match lstX M x, lstX M y with
  | some a, some b => if a.length + b.length ≤ sizeLine then some (.lst (a ++ b)) else none
  | _, _ => none
def gSub : Mem → D → D → Option D := fun _ x y => match x, y with
  | .int i, .int j => some (.int (i - j))
  | _, _ => none
def gMul : Mem → D → D → Option D := fun _ x y => match x, y with
  | .int i, .int j => if i.natAbs.log2 + j.natAbs.log2 < 1000000 then some (.int (i * j)) else none
  | .str a, .int j => if a.length ≤ 16 ∧ j.natAbs ≤ 1048576 then some (.str (Txt.mul a j)) else none
  | _, _ => none
def gMod : Mem → D → D → Option D := fun _ x y => match x, y with
  | .int i, .int j => if 0 < j then some (.int (i % j)) else none
  | _, _ => none
def gDiv : Mem → D → D → Option D := fun _ x y => match x, y with
  | .int i, .int j => if 0 < j ∧ j.natAbs.log2 < 9000 then some (.int (i / j)) else none
  | _, _ => none
def gPow : Mem → D → D → Option D := fun _ x y => match x, y with
  | .int i, .int j => if 0 ≤ j ∧ j.natAbs ≤ 1000 ∧ i.natAbs.log2 < 10000 then some (.int (i ^ j.toNat)) else none
  | _, _ => none
section
variable {X : Cx}
theorem o2_add : Op2 X (binaryOp .Add) gAdd := by
  intro pins s σ H r M x y v u dx dy d Q I rx ry S qx qy e w
  cases dx <;> cases dy <;> first
    | (cases e; done)
    | skip
  · cases qx; cases qy; cases e
    exact op_add pins s σ H _ _ v u Q I rx ry ⟨_, _, rfl, rfl, w.here S rfl⟩
  · rename_i a b
    cases qx; cases qy
    have e' : (if a.length + b.length ≤ sizeLine then some (D.str (a ++ b)) else none) = some d := e
    by_cases c : a.length + b.length ≤ sizeLine
    · rw [if_pos c] at e'
      cases e'
      exact op_add_str pins s σ H _ _ v u Q I rx ry ⟨_, _, rfl, rfl, c, w.here S rfl⟩
    · rw [if_neg c] at e'
      cases e'
  · rename_i a b
    have e' : (if a.length + b.length ≤ sizeLine then some (D.tup (a ++ b)) else none) = some d := e
    by_cases c : a.length + b.length ≤ sizeLine
    · rw [if_pos c] at e'
      cases e'
      obtain ⟨p, vs, rfl, h1, h2⟩ := qx
      obtain ⟨p', vs', rfl, h1', h2'⟩ := qy
      have l1 := h2.length
      have l2 := h2'.length
      refine op_catA pins s σ H _ _ v u Q I rx ry ⟨_, _, _, _, rfl, rfl, h1, h1', by omega, fun z => ?_, fun z z2 => ?_, fun _ _ => w.tup S (h2.append h2')⟩
      · subst z
        have ea : a = [] := List.length_eq_zero_iff.mp l1
        subst ea
        exact w.here S ⟨_, _, rfl, h1', h2'⟩
      · subst z2
        have eb : b = [] := List.length_eq_zero_iff.mp l2
        subst eb
        rw [List.append_nil] at w
        exact w.here S ⟨_, _, rfl, h1, h2⟩
    · rw [if_neg c] at e'
      cases e'
theorem o2_sub : Op2 X (binaryOp .Sub) gSub := by
  intro pins s σ H r M x y v u dx dy d Q I rx ry S qx qy e w
  cases dx <;> cases dy <;> first
    | (cases e; done)
    | skip
  cases qx; cases qy; cases e
  exact op_sub pins s σ H _ _ v u Q I rx ry ⟨_, _, rfl, rfl, w.here S rfl⟩
theorem o2_mul : Op2 X (binaryOp .Mult) gMul := by
  intro pins s σ H r M x y v u dx dy d Q I rx ry S qx qy e w
  cases dx <;> cases dy <;> first
    | (cases e; done)
    | skip
  · rename_i i j
    cases qx; cases qy
    have e' : (if i.natAbs.log2 + j.natAbs.log2 < 1000000 then some (D.int (i * j)) else none) = some d := e
    by_cases c : i.natAbs.log2 + j.natAbs.log2 < 1000000
    · rw [if_pos c] at e'
      cases e'
      exact op_mulW pins s σ H _ _ v u Q I rx ry ⟨_, _, rfl, rfl, c, w.here S rfl⟩
    · rw [if_neg c] at e'
      cases e'
  · rename_i a j
    cases qx; cases qy
    have e' : (if a.length ≤ 16 ∧ j.natAbs ≤ 1048576 then some (D.str (Txt.mul a j)) else none) = some d := e
    by_cases c : a.length ≤ 16 ∧ j.natAbs ≤ 1048576
    · rw [if_pos c] at e'
      cases e'
      obtain ⟨t, rfl⟩ := rx
      obtain ⟨t', rfl⟩ := ry
      exact SB.mul (mulOk_of 16 1048576 c.1 (by omega) (by omega) (by decide) (by decide)) fun t' k => ⟨.str _, H, I.tok _, ⟨_, rfl⟩, w.here S rfl⟩
    · rw [if_neg c] at e'
      cases e'
theorem o2_mod : Op2 X (binaryOp .Mod) gMod := by
  intro pins s σ H r M x y v u dx dy d Q I rx ry S qx qy e w
  cases dx <;> cases dy <;> first
    | (cases e; done)
    | skip
  rename_i i j
  cases qx; cases qy
  have e' : (if 0 < j then some (D.int (i % j)) else none) = some d := e
  by_cases c : 0 < j
  · rw [if_pos c] at e'
    cases e'
    exact op_mod pins s σ H _ _ v u Q I rx ry ⟨_, _, rfl, rfl, c, w.here S rfl⟩
  · rw [if_neg c] at e'
    cases e'
theorem o2_div : Op2 X (binaryOp .FloorDiv) gDiv := by
  intro pins s σ H r M x y v u dx dy d Q I rx ry S qx qy e w
  cases dx <;> cases dy <;> first
    | (cases e; done)
    | skip
  rename_i i j
  cases qx; cases qy
  have e' : (if 0 < j ∧ j.natAbs.log2 < 9000 then some (D.int (i / j)) else none) = some d := e
  by_cases c : 0 < j ∧ j.natAbs.log2 < 9000
  · rw [if_pos c] at e'
    cases e'
    exact op_fdivW pins s σ H _ _ v u Q I rx ry ⟨_, _, rfl, rfl, c, w.here S rfl⟩
  · rw [if_neg c] at e'
    cases e'
theorem o2_pow : Op2 X (binaryOp .Pow) gPow := by
  intro pins s σ H r M x y v u dx dy d Q I rx ry S qx qy e w
  cases dx <;> cases dy <;> first
    | (cases e; done)
    | skip
  rename_i i j
  cases qx; cases qy
  have e' : (if 0 ≤ j ∧ j.natAbs ≤ 1000 ∧ i.natAbs.log2 < 10000 then some (D.int (i ^ j.toNat)) else none) = some d := e
  by_cases c : 0 ≤ j ∧ j.natAbs ≤ 1000 ∧ i.natAbs.log2 < 10000
  · rw [if_pos c] at e'
    cases e'
    obtain ⟨t, rfl⟩ := rx
    obtain ⟨t', rfl⟩ := ry
    have b : Builtin.Int.intBits i ≤ i.natAbs.log2 + 1 := by
      unfold Builtin.Int.intBits
      split <;> omega
    refine pow_int c.1 ?_ ⟨.int _, H, I.tok _, ⟨_, rfl⟩, w.here S rfl⟩
    have h1 : (Builtin.Int.intBits i : Int) ≤ 10000 := by omega
    have h2 : (Builtin.Int.intBits i : Int) * j ≤ 10000 * 1000 := Int.mul_le_mul h1 (by omega) c.1 (by decide)
    exact Int.le_trans h2 (by decide)
  · rw [if_neg c] at e'
    cases e'
theorem o2_addL : Op2 X (binaryOp .Add) gAddL := by
  intro pins s σ H r M x y v u dx dy d Q I rx ry S qx qy e w
  have e' : (match lstX M dx, lstX M dy with | some a, some b => if a.length + b.length ≤ sizeLine then some (D.lst (a ++ b)) else none | _, _ => none) = some d := e
  cases q1 : lstX M dx with
  | none => rw [q1] at e'; cases e'
  | some as =>
    cases q2 : lstX M dy with
    | none => rw [q1, q2] at e'; cases e'
    | some bs =>
      rw [q1, q2] at e'
      have e2 : (if as.length + bs.length ≤ sizeLine then some (D.lst (as ++ bs)) else none) = some d := e'
      by_cases c : as.length + bs.length ≤ sizeLine
      · rw [if_pos c] at e2
        cases e2
        obtain ⟨a, vs, rfl, h1, h2⟩ := lstX_rep S qx q1
        obtain ⟨b, ws, rfl, h1', h2'⟩ := lstX_rep S qy q2
        have l1 := h2.length
        have l2 := h2'.length
        cases rx
        cases ry
        obtain ⟨z, its, n, q, hl, e⟩ := h1.at I
        obtain ⟨z2, its2, n2, qq, hl2, e2⟩ := h1'.at I
        refine thn (Q := EP X pins σ (QFz Q)) (PySem.P.add_list e e2 ?_ (by rw [List.size_toArray, List.size_toArray]; omega)) fun u s' q => EP.freeze q
        have ea : its.toArray ++ its2.toArray = (its ++ its2).toArray := by simp
        rw [ea]
        exact ⟨.ref _, _, I.lnew (t' := s.toks) (q.append qq) (by rw [List.length_append]; omega), rfl, w.fzl S (h2.append h2') _ I.fresh⟩
      · rw [if_neg c] at e2
        cases e2
end
end Wn
end

section
set_option Elab.async false
set_option linter.all false
set_option maxRecDepth 100000
set_option maxHeartbeats 4000000
namespace Wn
open PySem PySem.Spec PyProof.Rows L2

/-! ### comparisons -/
def opt2 {α β γ : Type} (a : Option α) (b : Option β) (f : α → β → Option γ) : Option γ := a.bind fun x => b.bind fun y => f x y
theorem of_opt2 {α β γ : Type} {a : Option α} {b : Option β} {f : α → β → Option γ} {d : γ} (h : opt2 a b f = some d) : ∃ x y, a = some x ∧ b = some y ∧ f x y = some d := by
  obtain ⟨x, e1, h⟩ := Option.bind_eq_some_iff.mp h
  obtain ⟨y, e2, h⟩ := Option.bind_eq_some_iff.mp h
  exact ⟨x, y, e1, e2, h⟩
def gEq : Mem → D → D → Option D := fun M x y => opt2 (toPyM M x) (toPyM M y) fun p q => if SeqAt.shaped p = true ∧ SeqAt.shaped q = true then some (.bl (PyData.eqv p q)) else none
def gNe : Mem → D → D → Option D := fun M x y => opt2 (toPyM M x) (toPyM M y) fun p q => if SeqAt.shaped p = true ∧ SeqAt.shaped q = true then some (.bl (!PyData.eqv p q)) else none
def gLt : Mem → D → D → Option D := fun _ x y => match x, y with
  | .int i, .int j => some (.bl (decide (i < j)))
  | .str a, .str b => some (.bl (decide (a.cps.toList < b.cps.toList)))
  | _, _ => none
def gLe : Mem → D → D → Option D := fun _ x y => match x, y with
  | .int i, .int j => some (.bl (decide (i ≤ j)))
  | .str a, .str b => some (.bl (!decide (b.cps.toList < a.cps.toList)))
  | _, _ => none
def gGt : Mem → D → D → Option D := fun _ x y => match x, y with
  | .int i, .int j => some (.bl (decide (j < i)))
  | .str a, .str b => some (.bl (decide (b.cps.toList < a.cps.toList)))
  | _, _ => none
def gGe : Mem → D → D → Option D := fun _ x y => match x, y with
  | .int i, .int j => some (.bl (decide (j ≤ i)))
  | .str a, .str b => some (.bl (!decide (a.cps.toList < b.cps.toList)))
  | _, _ => none
def strIn (a b : Str) : Bool := !(Builtin.Str.occurrences b a 0 b.length 1).isEmpty
def seqOf (M : Mem) : D → Option (List D)
  | .tup ds => some ds
  | .lst ds => some ds
  | .ref n => (match M[n]? with
    | some (.lst ds) => some ds
    | _ => none)
  | _ => none
def gIn : Mem → D → D → Option D := fun M x y => match x, y with
  | .str a, .str b => some (.bl (strIn a b))
  | x, y => opt2 (toPy x) ((seqOf M y).bind toPys) fun p ps => if SeqAt.shaped p = true ∧ PyData.canLayAll0 ps = true then some (.bl (ps.any fun q => PyData.eqv q p)) else none
def gNotIn : Mem → D → D → Option D := fun M x y => match gIn M x y with
  | some (.bl b) => some (.bl (!b))
  | _ => none
def isNon : D → Bool
  | .non => true
  | _ => false
def gIs : Mem → D → D → Option D := fun _ x y => match y with
  | .non => some (.bl (isNon x))
  | _ => none
def gIsNot : Mem → D → D → Option D := fun _ x y => match y with
  | .non => some (.bl (!isNon x))
  | _ => none
theorem isNon_rep {K : PySem.W.Frag} {H : Hp} {r : List Addr} {d : D} {v : V} (h : Rep K H r d v) : decide (v = .non) = isNon d := by
  cases d with
  | non => cases h; rfl
  | bl b => cases h; rfl
  | int i => cases h; rfl
  | str x => cases h; rfl
  | tup ds => obtain ⟨a, vs, rfl, _⟩ := h; rfl
  | lst ds => obtain ⟨a, vs, rfl, _⟩ := h; rfl
  | scr ds => obtain ⟨a, vs, rfl, _⟩ := h; rfl
  | ref n => obtain ⟨a, rfl, _⟩ := h; rfl
  | ty n => cases h; rfl
theorem of_ite {α : Type} {c : Prop} [Decidable c] {x d : α} (h : (if c then some x else none) = some d) : c ∧ x = d := by
  by_cases e : c
  · rw [if_pos e] at h
    exact ⟨e, Option.some.inj h⟩
  · rw [if_neg e] at h
    cases h
section
variable {X : Cx}
theorem o2_eq (hu : X.A.units + 64 < cLine) : Op2 X (compareOp .Eq) gEq := Op2.of (op_eqD hu) fun H r M x y dx dy d Q S qx qy e w => by
  obtain ⟨p, q, e1, e2, e3⟩ := of_opt2 e
  obtain ⟨c, rfl⟩ := of_ite e3
  exact ⟨p, q, dpM_of S qx e1, dpM_of S qy e2, c.1, c.2, w.here S rfl⟩
theorem o2_ne (hu : X.A.units + 64 < cLine) : Op2 X (compareOp .NotEq) gNe := Op2.of (op_neD hu) fun H r M x y dx dy d Q S qx qy e w => by
  obtain ⟨p, q, e1, e2, e3⟩ := of_opt2 e
  obtain ⟨c, rfl⟩ := of_ite e3
  exact ⟨p, q, dpM_of S qx e1, dpM_of S qy e2, c.1, c.2, w.here S rfl⟩
theorem o2_lt : Op2 X (compareOp .Lt) gLt := by
  intro pins s σ H r M x y v u dx dy d Q I rx ry S qx qy e w
  cases dx <;> cases dy <;> first
    | (cases e; done)
    | skip
  · cases qx; cases qy; cases e
    exact op_lt pins s σ H _ _ v u Q I rx ry ⟨_, _, rfl, rfl, w.here S rfl⟩
  · cases qx; cases qy; cases e
    exact op_lt_str pins s σ H _ _ v u Q I rx ry ⟨_, _, rfl, rfl, w.here S rfl⟩
theorem o2_le : Op2 X (compareOp .LtE) gLe := by
  intro pins s σ H r M x y v u dx dy d Q I rx ry S qx qy e w
  cases dx <;> cases dy <;> first
    | (cases e; done)
    | skip
  · cases qx; cases qy; cases e
    exact op_le pins s σ H _ _ v u Q I rx ry ⟨_, _, rfl, rfl, w.here S rfl⟩
  · cases qx; cases qy; cases e
    exact op_le_str pins s σ H _ _ v u Q I rx ry ⟨_, _, rfl, rfl, w.here S rfl⟩
theorem o2_gt : Op2 X (compareOp .Gt) gGt := by
  intro pins s σ H r M x y v u dx dy d Q I rx ry S qx qy e w
  cases dx <;> cases dy <;> first
    | (cases e; done)
    | skip
  · cases qx; cases qy; cases e
    exact op_gt pins s σ H _ _ v u Q I rx ry ⟨_, _, rfl, rfl, w.here S rfl⟩
  · cases qx; cases qy; cases e
    exact op_gt_str pins s σ H _ _ v u Q I rx ry ⟨_, _, rfl, rfl, w.here S rfl⟩
theorem o2_ge : Op2 X (compareOp .GtE) gGe := by
  intro pins s σ H r M x y v u dx dy d Q I rx ry S qx qy e w
  cases dx <;> cases dy <;> first
    | (cases e; done)
    | skip
  · cases qx; cases qy; cases e
    exact op_ge pins s σ H _ _ v u Q I rx ry ⟨_, _, rfl, rfl, w.here S rfl⟩
  · cases qx; cases qy; cases e
    exact op_ge_str pins s σ H _ _ v u Q I rx ry ⟨_, _, rfl, rfl, w.here S rfl⟩
theorem o2_is : Op2 X (compareOp .Is) gIs := Op2.of op_isN fun H r M x y dx dy d Q S qx qy e w => by
  cases dy <;> first
    | (cases e; done)
    | skip
  cases qy; cases e
  exact ⟨rfl, w.here S (by rw [isNon_rep qx]; rfl)⟩
theorem o2_isNot : Op2 X (compareOp .IsNot) gIsNot := Op2.of op_notN fun H r M x y dx dy d Q S qx qy e w => by
  cases dy <;> first
    | (cases e; done)
    | skip
  cases qy; cases e
  exact ⟨rfl, w.here S (by rw [isNon_rep qx]; rfl)⟩
end
/-- a sequence that is asked for an item -/
theorem seqOf_dp {K : PySem.W.Frag} {H : Hp} {r : List Addr} {M : Mem} {d : D} {ds : List D} {ps : List PyData} {v : V} (S : Sim K H r M) (h : Rep K H r d v) (e : seqOf M d = some ds) (e2 : toPys ds = some ps) : Dp K H v (.tuple ps) ∨ Dp K H v (.list ps) := by
  cases d with
  | tup es =>
    cases e
    obtain ⟨a, vs, rfl, h1, h2⟩ := h
    exact .inl (.tup h1 (dps_of h2 e2))
  | lst es =>
    cases e
    obtain ⟨a, vs, rfl, h1, h2⟩ := h
    exact .inr (.lst h1.sql (dps_of h2 e2))
  | ref n =>
    obtain ⟨a, rfl, h1⟩ := h
    have e' : (match M[n]? with | some (.lst ds) => some ds | _ => none) = some ds := e
    cases q : M[n]? with
    | none => rw [q] at e'; cases e'
    | some c =>
      rw [q] at e'
      cases c with
      | dead => cases e'
      | dct _ => cases e'
      | lst es =>
        cases e'
        obtain ⟨vs, h2, h3⟩ := S.cell n a _ h1 q
        exact .inr (.lst (.of h2) (dps_of h3 e2))
  | _ => cases e
section
variable {X : Cx}
theorem gIn_seq {M : Mem} {x y d : D} (e : gIn M x y = some d) : (∃ a b, x = .str a ∧ y = .str b ∧ d = .bl (strIn a b)) ∨
    ∃ p ds ps, toPy x = some p ∧ seqOf M y = some ds ∧ toPys ds = some ps ∧ SeqAt.shaped p = true ∧ PyData.canLayAll0 ps = true ∧ d = .bl (ps.any fun q => PyData.eqv q p) := by
  have go : ∀ {x y : D}, opt2 (toPy x) ((seqOf M y).bind toPys) (fun p ps => if SeqAt.shaped p = true ∧ PyData.canLayAll0 ps = true then some (D.bl (ps.any fun q => PyData.eqv q p)) else none) = some d → ∃ p ds ps, toPy x = some p ∧ seqOf M y = some ds ∧ toPys ds = some ps ∧ SeqAt.shaped p = true ∧ PyData.canLayAll0 ps = true ∧ d = .bl (ps.any fun q => PyData.eqv q p) := by
    intro x y e
    obtain ⟨p, ps, e1, e2, e3⟩ := of_opt2 e
    obtain ⟨c, rfl⟩ := of_ite e3
    obtain ⟨ds, e4, e5⟩ := Option.bind_eq_some_iff.mp e2
    exact ⟨p, ds, ps, e1, e4, e5, c.1, c.2, rfl⟩
  cases x with
  | str a =>
    cases y with
    | str b => cases e; exact .inl ⟨a, b, rfl, rfl, rfl⟩
    | _ => exact .inr (go e)
  | _ => exact .inr (go e)
theorem depth_in {A : Around} {p : PyData} {ps : List PyData} (h : SeqAt.shaped p = true) (hu : A.units + 65 < cLine) : A.units + 1 + min (PyData.depthAll ps) p.depth < cLine := by
  have h1 := SeqAt.depth_of_shaped h
  have h2 : min (PyData.depthAll ps) p.depth ≤ p.depth := Nat.min_le_right _ _
  omega
theorem o2_in (hu : X.A.units + 65 < cLine) : Op2 X (compareOp .In) gIn := by
  intro pins s σ H r M x y v u dx dy d Q I rx ry S qx qy e w
  rcases gIn_seq e with ⟨a, b, rfl, rfl, rfl⟩ | ⟨p, ds, ps, e1, e2, e3, c1, c2, rfl⟩
  · cases qx; cases qy
    exact op_in_str pins s σ H _ _ v u Q I rx ry ⟨_, _, rfl, rfl, w.here S rfl⟩
  · obtain ⟨as, r1⟩ := Dp.reads I _ _ _ (dp_of qx e1) rx
    rcases seqOf_dp S qy e2 e3 with z | z
    · obtain ⟨bs, r2⟩ := Dp.reads I _ _ _ z ry
      exact SeqAt.in_tuple_reads r2 r1 c2 (SeqAt.canLay_of_shaped c1) (depth_in c1 hu) ⟨.bl _, H, I, rfl, w.here S rfl⟩
    · obtain ⟨bs, r2⟩ := Dp.reads I _ _ _ z ry
      exact SeqAt.in_list_reads r2 r1 c2 (SeqAt.canLay_of_shaped c1) (depth_in c1 hu) ⟨.bl _, H, I, rfl, w.here S rfl⟩
theorem o2_notIn (hu : X.A.units + 65 < cLine) : Op2 X (compareOp .NotIn) gNotIn := by
  intro pins s σ H r M x y v u dx dy d Q I rx ry S qx qy e w
  have e' : (match gIn M dx dy with | some (.bl b) => some (D.bl (!b)) | _ => none) = some d := e
  cases q : gIn M dx dy with
  | none => rw [q] at e'; cases e'
  | some z =>
    rw [q] at e'
    cases z with
    | bl b0 =>
      cases e'
      rcases gIn_seq q with ⟨a, b, rfl, rfl, e4⟩ | ⟨p, ds, ps, e1, e2, e3, c1, c2, e4⟩
      · cases qx; cases qy; cases e4
        exact op_notin_str pins s σ H _ _ v u Q I rx ry ⟨_, _, rfl, rfl, w.here S rfl⟩
      · cases e4
        obtain ⟨as, r1⟩ := Dp.reads I _ _ _ (dp_of qx e1) rx
        rcases seqOf_dp S qy e2 e3 with z | z
        · obtain ⟨bs, r2⟩ := Dp.reads I _ _ _ z ry
          exact SeqAt.notIn_tuple_reads r2 r1 c2 (SeqAt.canLay_of_shaped c1) (depth_in c1 hu) ⟨.bl _, H, I, rfl, w.here S rfl⟩
        · obtain ⟨bs, r2⟩ := Dp.reads I _ _ _ z ry
          exact SeqAt.notIn_list_reads r2 r1 c2 (SeqAt.canLay_of_shaped c1) (depth_in c1 hu) ⟨.bl _, H, I, rfl, w.here S rfl⟩
    | _ => cases e'
end

/-! ### places and slices -/
theorem Reps.atI {K : PySem.W.Frag} {H : Hp} {r : List Addr} {ds : List D} {vs : List V} {i : Int} {d : D} (h : Reps K H r ds vs) (e : L2.atI ds i = some d) : ∃ v, L2.atI vs i = some v ∧ Rep K H r d v := by
  unfold L2.atI at e ⊢
  rw [← h.length]
  obtain ⟨j, e1, e2⟩ := Option.bind_eq_some_iff.mp e
  obtain ⟨v, a, b⟩ := h.get e2
  exact ⟨v, by rw [e1]; exact a, b⟩
def gIx : Mem → D → D → Option D := fun M x y => match x, y with
  | .str z, .int i => if z.length ≤ sizeLine then (atI z.cps.toList i).map fun c => .str ⟨#[c]⟩ else none
  | .tup ds, .int i => atI ds i
  | x, .int i => (lstOf M x).bind fun ds => atI ds i
  | _, _ => none
def cutD {α : Type} (xs : List α) (lo hi : Option Int) : List α := (xs.drop (HT.sIx xs.length 0 lo)).take (HT.sIx xs.length xs.length hi - HT.sIx xs.length 0 lo)
theorem Reps.cut {K : PySem.W.Frag} {H : Hp} {r : List Addr} {ds : List D} {vs : List V} {lo hi : Option Int} (h : Reps K H r ds vs) : Reps K H r (cutD ds lo hi) (cutV vs lo hi) := by
  unfold cutD cutV
  rw [h.length]
  exact (h.drop _).take _
/-- a[b] by values -/
def IxS (X : Cx) (g : Mem → D → D → Option D) : Prop :=
  ∀ (value slice : Expr) (pins : List (Addr × Obj)) (s : Shared) (σ : St) (H : Hp) (r : List Addr) (M : Mem) (x y : V) (v u : Value) (dx dy d : D) (Q : VK), Inv X pins σ H s → RelV x v → RelV y u → Sim X.K H r M → Rep X.K H r dx x → Rep X.K H r dy y → g M dx dy = some d → Wnt X.K H r M d Q →
    subscripted slice false v u = operate [v, u] (getItem v u) → wpAny (model X.prog X.w) X.A (subscriptTail value slice v u) (EP X pins σ Q) X.xe s
section
variable {X : Cx}
theorem ixs : IxS X gIx := by
  intro value slice pins s σ H r M x y v u dx dy d Q I rx ry S qx qy e w hs
  have lst : ∀ {i : Int} {ds : List D}, dy = .int i → lstOf M dx = some ds → atI ds i = some d → wpAny (model X.prog X.w) X.A (subscriptTail value slice v u) (EP X pins σ Q) X.xe s := by
    intro i ds e0 e1 e2
    subst e0
    cases qy
    obtain ⟨a, vs, rfl, h1, h2⟩ := lstOf_rep S qx e1
    obtain ⟨z, a1, a2⟩ := h2.atI e2
    exact ix_list value slice pins s σ H _ _ v u Q I rx ry ⟨a, vs, i, z, rfl, rfl, h1, a1, w.here S a2⟩ hs
  cases dy <;> first
    | (cases dx <;> cases e; done)
    | skip
  rename_i i
  cases dx with
  | str z =>
    cases qx; cases qy
    have e' : (if z.length ≤ sizeLine then (atI z.cps.toList i).map fun c => D.str ⟨#[c]⟩ else none) = some d := e
    by_cases c : z.length ≤ sizeLine
    · rw [if_pos c] at e'
      obtain ⟨k, e1, rfl⟩ := Option.map_eq_some_iff.mp e'
      exact ix_str value slice pins s σ H _ _ v u Q I rx ry ⟨z, i, k, rfl, rfl, c, e1, w.here S rfl⟩ hs
    · rw [if_neg c] at e'
      cases e'
  | tup ds =>
    cases qy
    obtain ⟨a, vs, rfl, h1, h2⟩ := qx
    obtain ⟨z, a1, a2⟩ := h2.atI e
    exact ix_tup value slice pins s σ H _ _ v u Q I rx ry ⟨a, vs, i, z, rfl, rfl, h1, a1, w.here S a2⟩ hs
  | lst ds => exact lst rfl rfl e
  | scr ds => exact lst rfl rfl e
  | ref n =>
    obtain ⟨es, e1, e2⟩ := Option.bind_eq_some_iff.mp e
    exact lst rfl e1 e2
  | _ => cases e
end
end Wn
end

section
set_option Elab.async false
set_option linter.all false
set_option maxRecDepth 100000
set_option maxHeartbeats 4000000
namespace Wn
open PySem PySem.Spec PyProof.Rows L2

/-! ### slices -/
def gSl : Mem → D → Option Int → Option Int → Option D := fun M x lo hi => match x with
  | .str z => if z.length ≤ sizeLine then some (.str (cutS z lo hi)) else none
  | .tup ds => some (.tup (cutD ds lo hi))
  | x => (lstOf M x).map fun ds => .lst (cutD ds lo hi)
def SlS (X : Cx) (g : Mem → D → Option Int → Option Int → Option D) : Prop :=
  ∀ (pins : List (Addr × Obj)) (s : Shared) (σ : St) (H : Hp) (r : List Addr) (M : Mem) (x : V) (v vl vu : Value) (lo hi : Option Int) (sl : Addr) (dx d : D) (Q : VK), Inv X pins σ H s → RelV x v → s.heap.IsSliceOf sl vl vu .none → IsPart vl lo → IsPart vu hi → Sim X.K H r M → Rep X.K H r dx x →
    g M dx lo hi = some d → Wnt X.K H r M d Q → ∃ T id, typeLookup (.type T) "__getitem__" = pure (some (.builtin id)) ∧ s.TypeIs v T ∧ wpAny (model X.prog X.w) X.A (getItem v (.ref sl)) (EP X pins σ Q) X.xe s
theorem cutD_whole {α : Type} {xs : List α} {lo hi : Option Int} (h : HT.sIx xs.length 0 lo = 0 ∧ HT.sIx xs.length xs.length hi = xs.length) : cutD xs lo hi = xs := by
  unfold cutD
  rw [h.1, h.2]
  simp
section
variable {X : Cx}
theorem sls : SlS X gSl := by
  intro pins s σ H r M x v vl vu lo hi sl dx d Q I rx hs pl pu S qx e w
  have lst : ∀ {ds : List D}, lstOf M dx = some ds → d = .lst (cutD ds lo hi) → ∃ T id, typeLookup (.type T) "__getitem__" = pure (some (.builtin id)) ∧ s.TypeIs v T ∧ wpAny (model X.prog X.w) X.A (getItem v (.ref sl)) (EP X pins σ Q) X.xe s := by
    intro ds e1 e2
    subst e2
    obtain ⟨a, vs, rfl, h1, h2⟩ := lstOf_rep S qx e1
    obtain ⟨T, id, a1, a2, a3⟩ := sl_list pins s σ H _ v vl vu lo hi sl (QFz Q) I rx hs pl pu ⟨a, vs, rfl, h1, w.fzl S h2.cut⟩
    exact ⟨T, id, a1, a2, thn a3 fun u s' q => EP.freeze q⟩
  cases dx with
  | str z =>
    cases qx
    obtain ⟨c, rfl⟩ := of_ite (show (if z.length ≤ sizeLine then some (D.str (cutS z lo hi)) else none) = some d from e)
    exact sl_str pins s σ H _ v vl vu lo hi sl Q I rx hs pl pu ⟨z, rfl, c, w.here S rfl⟩
  | tup ds =>
    cases e
    obtain ⟨a, vs, rfl, h1, h2⟩ := qx
    have hl := h2.length
    refine sl_tupA pins s σ H _ v vl vu lo hi sl Q I rx hs pl pu ⟨a, vs, rfl, h1, fun z => ?_, fun _ => w.tup S h2.cut⟩
    rw [← hl] at z
    rw [cutD_whole z] at w
    exact w.here S ⟨a, vs, rfl, h1, h2⟩
  | lst ds => exact lst rfl (Option.some.inj e).symm
  | scr ds => exact lst rfl (Option.some.inj e).symm
  | ref n =>
    obtain ⟨ds, e1, e2⟩ := Option.map_eq_some_iff.mp (show (lstOf M (.ref n)).map (fun ds => D.lst (cutD ds lo hi)) = some d from e)
    exact lst e1 e2.symm
  | _ => cases e
end

/-! ### typed lists -/
def dInts : List D → Option (List Int)
  | [] => some []
  | .int i :: r => (dInts r).map (i :: ·)
  | _ => none
def dBools : List D → Option (List Bool)
  | [] => some []
  | .bl i :: r => (dBools r).map (i :: ·)
  | _ => none
def dStrs : List D → Option (List Str)
  | [] => some []
  | .str i :: r => (dStrs r).map (i :: ·)
  | _ => none
section
variable {K : PySem.W.Frag} {H : Hp} {r : List Addr}
theorem dInts_rep : ∀ {ds : List D} {vs : List V} {is : List Int}, Reps K H r ds vs → dInts ds = some is → vs = is.map V.int
  | [], _, _, h, e => by cases h; cases e; rfl
  | d :: ds, _, _, h, e => by
    obtain ⟨v, ws, rfl, h1, h2⟩ := h
    cases d with
    | int i =>
      obtain ⟨is, e1, rfl⟩ := Option.map_eq_some_iff.mp e
      rw [show v = V.int i from h1, dInts_rep h2 e1]
      rfl
    | _ => cases e
theorem dBools_rep : ∀ {ds : List D} {vs : List V} {is : List Bool}, Reps K H r ds vs → dBools ds = some is → vs = is.map V.bl
  | [], _, _, h, e => by cases h; cases e; rfl
  | d :: ds, _, _, h, e => by
    obtain ⟨v, ws, rfl, h1, h2⟩ := h
    cases d with
    | bl i =>
      obtain ⟨is, e1, rfl⟩ := Option.map_eq_some_iff.mp e
      rw [show v = V.bl i from h1, dBools_rep h2 e1]
      rfl
    | _ => cases e
theorem dStrs_rep : ∀ {ds : List D} {vs : List V} {is : List Str}, Reps K H r ds vs → dStrs ds = some is → vs = is.map V.str
  | [], _, _, h, e => by cases h; cases e; rfl
  | d :: ds, _, _, h, e => by
    obtain ⟨v, ws, rfl, h1, h2⟩ := h
    cases d with
    | str i =>
      obtain ⟨is, e1, rfl⟩ := Option.map_eq_some_iff.mp e
      rw [show v = V.str i from h1, dStrs_rep h2 e1]
      rfl
    | _ => cases e
theorem reps1 {ds : List D} {vs : List V} {d : D} (h : Reps K H r ds vs) (e : ds = [d]) : ∃ v, vs = [v] ∧ Rep K H r d v := by
  subst e
  obtain ⟨v, ws, rfl, h1, h2⟩ := h
  cases h2
  exact ⟨v, rfl, h1⟩
theorem reps2 {ds : List D} {vs : List V} {d e : D} (h : Reps K H r ds vs) (q : ds = [d, e]) : ∃ v u, vs = [v, u] ∧ Rep K H r d v ∧ Rep K H r e u := by
  subst q
  obtain ⟨v, ws, rfl, h1, h2⟩ := h
  obtain ⟨u, z, rfl, h3, h4⟩ := h2
  cases h4
  exact ⟨v, u, rfl, h1, h3⟩
end

/-! ### builtins by values -/
def g1 (f : Mem → D → Option D) : Mem → List D → Option D := fun M ds => match ds with
  | [d] => f M d
  | _ => none
def g2 (f : Mem → D → D → Option D) : Mem → List D → Option D := fun M ds => match ds with
  | [d, e] => f M d e
  | _ => none
theorem of_g1 {f : Mem → D → Option D} {M : Mem} {ds : List D} {d : D} (h : g1 f M ds = some d) : ∃ x, ds = [x] ∧ f M x = some d := by
  unfold g1 at h
  split at h
  · exact ⟨_, rfl, h⟩
  · cases h
theorem of_g2 {f : Mem → D → D → Option D} {M : Mem} {ds : List D} {d : D} (h : g2 f M ds = some d) : ∃ x y, ds = [x, y] ∧ f M x y = some d := by
  unfold g2 at h
  split at h
  · exact ⟨_, _, rfl, h⟩
  · cases h
def fLen : Mem → D → Option D := fun M x => match x with
  | .str z => if z.length ≤ sizeLine then some (.int z.length) else none
  | .tup ds => some (.int ds.length)
  | x => (lstOf M x).map fun ds => .int ds.length
def fAbs : Mem → D → Option D := fun _ x => match x with
  | .int i => some (.int (if i < 0 then -i else i))
  | _ => none
def fInt : Mem → D → Option D := fun _ x => match x with
  | .int i => some (.int i)
  | .bl b => some (.int (if b then 1 else 0))
  | _ => none
def fMax2 : Mem → D → D → Option D := fun _ x y => match x, y with
  | .int i, .int j => some (.int (if j > i then j else i))
  | _, _ => none
def fMin2 : Mem → D → D → Option D := fun _ x y => match x, y with
  | .int i, .int j => some (.int (if j < i then j else i))
  | _, _ => none
def fSum : Mem → D → Option D := fun M x => ((lstOf M x).bind dInts).map fun is => .int is.sum
def fAll : Mem → D → Option D := fun M x => ((lstOf M x).bind dBools).map fun is => .bl (is.all id)
def fAny : Mem → D → Option D := fun M x => ((lstOf M x).bind dBools).map fun is => .bl (is.any id)
def sgn (x : Str) : List D := x.cps.toList.map fun c => .str ⟨#[c]⟩
def fList : Mem → D → Option D := fun M x => match x with
  | .tup ds => some (.lst ds)
  | .str z => if z.length ≤ sizeLine then some (.lst (sgn z)) else none
  | x => (lstOf M x).map .lst
def fTuple : Mem → D → Option D := fun M x => match x with
  | .tup ds => some (.tup ds)
  | x => (lstOf M x).map .tup
def fOrd : Mem → D → Option D := fun _ x => match x with
  | .str z => if z.length = 1 then some (.int (z.cps.getD 0 0 : Nat)) else none
  | _ => none
def fStr : Mem → D → Option D := fun _ x => match x with
  | .int i => if i.natAbs.log2 < 1920 then some (.str (toString i)) else none
  | .str z => some (.str z)
  | _ => none
section
variable {X : Cx}
theorem c_len : CallS X (.builtin "len") (g1 fLen) := CallS.of call_len fun H r M xs ds d Q S qx e w => by
  obtain ⟨x, rfl, e1⟩ := of_g1 e
  clear e
  have e := e1
  clear e1
  obtain ⟨v, rfl, qv⟩ := reps1 qx rfl
  have lst : ∀ {es : List D}, lstOf M x = some es → d = .int es.length → ∃ x n, [v] = [x] ∧ LenV X.K x H n ∧ Q (.int n) H := by
    intro es e1 e2
    subst e2
    obtain ⟨a, vs, rfl, h1, h2⟩ := lstOf_rep S qv e1
    exact ⟨_, vs.length, rfl, .inl ⟨vs, h1, rfl⟩, w.here S (by rw [h2.length]; rfl)⟩
  cases x with
  | str z =>
    cases qv
    obtain ⟨c, rfl⟩ := of_ite (show (if z.length ≤ sizeLine then some (D.int z.length) else none) = some d from e)
    exact ⟨_, z.length, rfl, ⟨c, rfl⟩, w.here S rfl⟩
  | tup es =>
    cases e
    obtain ⟨a, vs, rfl, h1, h2⟩ := qv
    exact ⟨_, vs.length, rfl, .inr ⟨vs, h1, rfl⟩, w.here S (by rw [h2.length]; rfl)⟩
  | lst es => exact lst rfl (Option.some.inj e).symm
  | scr es => exact lst rfl (Option.some.inj e).symm
  | ref n =>
    obtain ⟨es, e1, e2⟩ := Option.map_eq_some_iff.mp (show (lstOf M (.ref n)).map (fun es => D.int es.length) = some d from e)
    exact lst e1 e2.symm
  | _ => cases e
theorem c_abs : CallS X (.builtin "abs") (g1 fAbs) := CallS.of call_abs fun H r M xs ds d Q S qx e w => by
  obtain ⟨x, rfl, e1⟩ := of_g1 e
  clear e
  have e := e1
  clear e1
  obtain ⟨v, rfl, qv⟩ := reps1 qx rfl
  cases x <;> first
    | (cases e; done)
    | skip
  cases qv; cases e
  exact ⟨_, rfl, w.here S rfl⟩
theorem c_int : CallS X (.type "int") (g1 fInt) := CallS.of call_int1 fun H r M xs ds d Q S qx e w => by
  obtain ⟨x, rfl, e1⟩ := of_g1 e
  clear e
  have e := e1
  clear e1
  obtain ⟨v, rfl, qv⟩ := reps1 qx rfl
  cases x <;> first
    | (cases e; done)
    | skip
  · cases qv; cases e
    exact .inr ⟨_, rfl, w.here S rfl⟩
  · cases qv; cases e
    exact .inl ⟨_, rfl, w.here S rfl⟩
theorem c_max2 (hc : X.calm = true) : CallS X (.builtin "max") (g2 fMax2) := CallS.of (call_max2 hc) fun H r M xs ds d Q S qx e w => by
  obtain ⟨x, y, rfl, e1⟩ := of_g2 e
  clear e
  have e := e1
  clear e1
  obtain ⟨v, u, rfl, qv, qu⟩ := reps2 qx rfl
  cases x <;> cases y <;> first
    | (cases e; done)
    | skip
  cases qv; cases qu; cases e
  exact ⟨_, _, rfl, w.here S rfl⟩
theorem c_min2 (hc : X.calm = true) : CallS X (.builtin "min") (g2 fMin2) := CallS.of (call_min2 hc) fun H r M xs ds d Q S qx e w => by
  obtain ⟨x, y, rfl, e1⟩ := of_g2 e
  clear e
  have e := e1
  clear e1
  obtain ⟨v, u, rfl, qv, qu⟩ := reps2 qx rfl
  cases x <;> cases y <;> first
    | (cases e; done)
    | skip
  cases qv; cases qu; cases e
  exact ⟨_, _, rfl, w.here S rfl⟩
theorem c_sum (hc : X.calm = true) : CallS X (.builtin "sum") (g1 fSum) := CallS.of (cr_sum hc) fun H r M xs ds d Q S qx e w => by
  obtain ⟨x, rfl, e1⟩ := of_g1 e
  clear e
  have e := e1
  clear e1
  obtain ⟨v, rfl, qv⟩ := reps1 qx rfl
  obtain ⟨is, e1, rfl⟩ := Option.map_eq_some_iff.mp e
  obtain ⟨es, e2, e3⟩ := Option.bind_eq_some_iff.mp e1
  obtain ⟨a, vs, rfl, h1, h2⟩ := lstOf_rep S qv e2
  rw [dInts_rep h2 e3] at h1
  exact ⟨a, is, rfl, h1, w.here S rfl⟩
theorem c_all (hc : X.calm = true) : CallS X (.builtin "all") (g1 fAll) := CallS.of (cr_all hc) fun H r M xs ds d Q S qx e w => by
  obtain ⟨x, rfl, e1⟩ := of_g1 e
  clear e
  have e := e1
  clear e1
  obtain ⟨v, rfl, qv⟩ := reps1 qx rfl
  obtain ⟨is, e1, rfl⟩ := Option.map_eq_some_iff.mp e
  obtain ⟨es, e2, e3⟩ := Option.bind_eq_some_iff.mp e1
  obtain ⟨a, vs, rfl, h1, h2⟩ := lstOf_rep S qv e2
  rw [dBools_rep h2 e3] at h1
  exact ⟨a, is, rfl, h1, w.here S rfl⟩
theorem c_any (hc : X.calm = true) : CallS X (.builtin "any") (g1 fAny) := CallS.of (cr_any hc) fun H r M xs ds d Q S qx e w => by
  obtain ⟨x, rfl, e1⟩ := of_g1 e
  clear e
  have e := e1
  clear e1
  obtain ⟨v, rfl, qv⟩ := reps1 qx rfl
  obtain ⟨is, e1, rfl⟩ := Option.map_eq_some_iff.mp e
  obtain ⟨es, e2, e3⟩ := Option.bind_eq_some_iff.mp e1
  obtain ⟨a, vs, rfl, h1, h2⟩ := lstOf_rep S qv e2
  rw [dBools_rep h2 e3] at h1
  exact ⟨a, is, rfl, h1, w.here S rfl⟩
theorem c_ord : CallS X (.builtin "ord") (g1 fOrd) := CallS.of call_ord fun H r M xs ds d Q S qx e w => by
  obtain ⟨x, rfl, e1⟩ := of_g1 e
  clear e
  have e := e1
  clear e1
  obtain ⟨v, rfl, qv⟩ := reps1 qx rfl
  cases x <;> first
    | (cases e; done)
    | skip
  rename_i z
  cases qv
  obtain ⟨c, rfl⟩ := of_ite (show (if z.length = 1 then some (D.int (z.cps.getD 0 0 : Nat)) else none) = some d from e)
  exact ⟨_, rfl, c, w.here S rfl⟩
theorem c_tuple : CallS X (.type "tuple") (g1 fTuple) := CallS.of call_tuple_of fun H r M xs ds d Q S qx e w => by
  obtain ⟨x, rfl, e1⟩ := of_g1 e
  clear e
  have e := e1
  clear e1
  obtain ⟨v, rfl, qv⟩ := reps1 qx rfl
  have lst : ∀ {es : List D}, lstOf M x = some es → d = .tup es → ∃ p ys, [v] = [V.ref p] ∧ ((SqL X.K H p ys ∧ ∀ l, H l = none → Q (.ref l) (upd H l (.tup ys))) ∨ (SqT X.K H p ys ∧ Q (.ref p) H)) := by
    intro es e1 e2
    subst e2
    obtain ⟨a, vs, rfl, h1, h2⟩ := lstOf_rep S qv e1
    exact ⟨a, vs, rfl, .inl ⟨h1, w.tup S h2⟩⟩
  cases x with
  | tup es =>
    cases e
    obtain ⟨a, vs, rfl, h1, h2⟩ := qv
    exact ⟨a, vs, rfl, .inr ⟨h1, w.here S ⟨a, vs, rfl, h1, h2⟩⟩⟩
  | lst es => exact lst rfl (Option.some.inj e).symm
  | scr es => exact lst rfl (Option.some.inj e).symm
  | ref n =>
    obtain ⟨es, e1, e2⟩ := Option.map_eq_some_iff.mp (show (lstOf M (.ref n)).map D.tup = some d from e)
    exact lst e1 e2.symm
  | _ => cases e
theorem vals_signs (x : Str) (acc : Array Value) (h : ItemsOf (SignAt x) acc x.cps.size) : Vals (x.cps.toList.map fun c => V.str ⟨#[c]⟩) acc.toList := by
  refine vals_of_at (by rw [List.length_map, Array.length_toList, Array.length_toList]; exact h.1.symm) fun j v u hv hu => ?_
  obtain ⟨c, t, e1, rfl⟩ := h.2 j u (by simpa using hu)
  rw [List.getElem?_map] at hv
  have e2 : x.cps.toList[j]? = some c := by simpa using e1
  rw [e2] at hv
  cases hv
  exact ⟨t, rfl⟩
theorem c_list (hc : X.calm = true) : CallS X (.type "list") (g1 fList) := by
  intro pins s σ H r M xs us ds d Q I rx S qx e w
  obtain ⟨x, rfl, e1⟩ := of_g1 e
  clear e
  have e := e1
  clear e1
  obtain ⟨v, rfl, qv⟩ := reps1 qx rfl
  have lst : ∀ {es : List D}, lstOf M x = some es → d = .lst es → wpAny (model X.prog X.w) X.A (call (.type "list") us) (EP X pins σ Q) X.xe s := by
    intro es e1 e2
    subst e2
    obtain ⟨a, vs, rfl, h1, h2⟩ := lstOf_rep S qv e1
    exact thn (call_list_of pins s σ H _ us (QFz Q) I rx ⟨a, vs, rfl, .inl h1, w.fzl S h2⟩) fun u s' q => EP.freeze q
  cases x with
  | tup es =>
    cases e
    obtain ⟨a, vs, rfl, h1, h2⟩ := qv
    exact thn (call_list_of pins s σ H _ us (QFz Q) I rx ⟨a, vs, rfl, .inr h1, w.fzl S h2⟩) fun u s' q => EP.freeze q
  | str z =>
    cases qv
    obtain ⟨c, rfl⟩ := of_ite (show (if z.length ≤ sizeLine then some (D.lst (sgn z)) else none) = some d from e)
    obtain ⟨u, rfl, t, rfl⟩ := vals1 rx
    refine thn (Q := EP X pins σ (QFz Q)) (call_list_str (I.ok.hd hc) z t (fun h' tk acc' c' k hS hacc => ?_) c) fun u s' q => EP.freeze q
    have hv := vals_signs z acc' hacc
    have hl := hv.length
    rw [List.length_map, Array.length_toList] at hl
    have hz : z.cps.toList.length ≤ sizeLine := by rw [Array.length_toList]; exact c
    refine ⟨.ref s.heap.objs.size, _, I.laid (o := .lst (z.cps.toList.map fun c => V.str ⟨#[c]⟩)) (a := s.heap.objs.size) (t' := tk) k (Nat.le_refl _) ⟨by rw [List.length_map]; exact hz, acc'.toList, c', hv, ?_⟩, rfl, w.fzl S ?_ _ I.fresh⟩
    · rw [hS]
    · have go : ∀ l : List Nat, Reps X.K H r (l.map fun c => D.str ⟨#[c]⟩) (l.map fun c => V.str ⟨#[c]⟩) := by
        intro l
        induction l with
        | nil => rfl
        | cons c l ih => exact ⟨_, _, rfl, rfl, ih⟩
      exact go _
  | lst es => exact lst rfl (Option.some.inj e).symm
  | scr es => exact lst rfl (Option.some.inj e).symm
  | ref n =>
    obtain ⟨es, e1, e2⟩ := Option.map_eq_some_iff.mp (show (lstOf M (.ref n)).map D.lst = some d from e)
    exact lst e1 e2.symm
  | _ => cases e
end
end Wn
end

section
set_option Elab.async false
set_option linter.all false
set_option maxRecDepth 100000
set_option maxHeartbeats 4000000
namespace Wn
open PySem PySem.Spec PyProof.Rows L2

theorem PE.cons {X : Cx} {e : Expr} {t t' : TE} (h : PE X e t) (k : ∀ σ H Q, t' σ H Q → t σ H Q) : PE X e t' := ⟨fun pins s σ H Q I q => h.run pins s σ H Q I (k σ H Q q)⟩
theorem PT.cons {X : Cx} {e : Expr} {t t' : TT} (h : PT X e t) (k : ∀ σ H Q, t' σ H Q → t σ H Q) : PT X e t' := ⟨fun pins s σ H Q I q => h.run pins s σ H Q I (k σ H Q q)⟩
theorem PW.cons {X : Cx} {e : Expr} {t t' : TT} (h : PW X e t) (k : ∀ σ H Q, t' σ H Q → t σ H Q) : PW X e t' := ⟨fun wh pins s σ H Q I q => h.run wh pins s σ H Q I (k σ H Q q)⟩
theorem PA.cons {X : Cx} {e : List Expr} {t t' : TA} (h : PA X e t) (k : ∀ σ H Q, t' σ H Q → t σ H Q) : PA X e t' := ⟨fun p pins s σ H Q I q => h.run p pins s σ H Q I (k σ H Q q)⟩

/-- a value's truth -/
def truD (M : Mem) : D → Option Bool
  | .non => some false
  | .bl b => some b
  | .int i => some (i != 0)
  | .str y => if y.length ≤ sizeLine then some ((y.length : Int) != 0) else none
  | .tup ds => some (!ds.isEmpty)
  | .ty _ => none
  | d => (lstOf M d).map fun ds => !ds.isEmpty
theorem reps_isEmpty {K : PySem.W.Frag} {H : Hp} {r : List Addr} {ds : List D} {vs : List V} (h : Reps K H r ds vs) : vs.isEmpty = ds.isEmpty := by
  have := h.length
  cases ds <;> cases vs <;> first | rfl | simp at this
theorem truD_rep {K : PySem.W.Frag} {H : Hp} {r : List Addr} {M : Mem} {d : D} {v : V} {b : Bool} (S : Sim K H r M) (h : Rep K H r d v) (e : truD M d = some b) : TruV K v H b := by
  have lst : ∀ {es : List D}, lstOf M d = some es → b = !es.isEmpty → TruV K v H b := by
    intro es e1 e2
    obtain ⟨a, vs, rfl, h1, h2⟩ := lstOf_rep S h e1
    exact .inl ⟨vs, h1, by rw [e2, reps_isEmpty h2]⟩
  cases d with
  | non => cases h; cases e; rfl
  | bl c => cases h; cases e; rfl
  | int i => cases h; cases e; rfl
  | str y =>
    cases h
    obtain ⟨c, rfl⟩ := of_ite (show (if y.length ≤ sizeLine then some ((y.length : Int) != 0) else none) = some b from e)
    exact ⟨c, rfl⟩
  | tup ds =>
    cases e
    obtain ⟨a, vs, rfl, h1, h2⟩ := h
    exact .inr (.inl ⟨vs, h1, by rw [reps_isEmpty h2]⟩)
  | lst es => exact lst rfl (Option.some.inj e).symm
  | scr es => exact lst rfl (Option.some.inj e).symm
  | ref n =>
    obtain ⟨es, e1, e2⟩ := Option.map_eq_some_iff.mp (show (lstOf M (.ref n)).map (fun es => !es.isEmpty) = some b from e)
    exact lst e1 e2.symm
  | ty n => cases e
def asTru (d : D) : Mem → Res Bool := fun M => match truD M d with
  | some b => .ok b M
  | none => .bad

/-! ### semantic pieces -/
abbrev Fe := Env → Mem → Res D
abbrev Fb := Env → Mem → Res Bool
abbrev Fl := Env → Mem → Res (List D)
def eVar (i : Nat) : Fe := fun δ => match δ[i]? with
  | some (some d) => ret d
  | _ => stuck
def eCst (d : D) : Fe := fun _ => ret d
def eOp (g : Mem → D → D → Option D) (a b : Fe) : Fe := fun δ => bnd (a δ) fun x => bnd (b δ) fun y => fun M => opt (g M x y) M
def eCall (g : Mem → List D → Option D) (a : Fl) : Fe := fun δ => bnd (a δ) fun xs => fun M => opt (g M xs) M
def eChain (g g' : Mem → D → D → Option D) (a b c : Fe) : Fe := fun δ => bnd (a δ) fun x => bnd (b δ) fun y => fun M => match g M x y with
  | some (.bl true) => bnd (c δ) (fun z M => opt (g' M y z) M) M
  | some (.bl false) => .ok (.bl false) M
  | _ => .bad
def bTru (a : Fe) : Fb := fun δ => bnd (a δ) asTru
def bNot (a : Fb) : Fb := fun δ => bnd (a δ) fun c => ret (!c)
def bAnd (a b : Fb) : Fb := fun δ => bnd (a δ) fun c => if c = true then b δ else ret false
def bOr (a b : Fb) : Fb := fun δ => bnd (a δ) fun c => if c = true then ret true else b δ
def eOr (a b : Fe) : Fe := fun δ => bnd (a δ) fun x => bnd (asTru x) fun c => if c = true then ret x else b δ
def eAnd (a b : Fe) : Fe := fun δ => bnd (a δ) fun x => bnd (asTru x) fun c => if c = true then b δ else ret x
def eNot (a : Fe) : Fe := fun δ => bnd (a δ) fun x => bnd (asTru x) fun c => ret (.bl (!c))
def eIf (c : Fb) (a b : Fe) : Fe := fun δ => bnd (c δ) fun k => if k = true then a δ else b δ
def lNil : Fl := fun _ => ret []
def lCons (a : Fe) (b : Fl) : Fl := fun δ => bnd (a δ) fun x => bnd (b δ) fun xs => ret (x :: xs)
def eTup (a : Fl) : Fe := fun δ => bnd (a δ) fun xs => if xs.length ≤ sizeLine then ret (.tup xs) else stuck
def eLst (a : Fl) : Fe := fun δ => bnd (a δ) fun xs => if xs.length ≤ sizeLine then ret (.lst xs) else stuck
/-- a list that is changed later -/
def eCell (a : Fl) : Fe := fun δ => bnd (a δ) fun xs => if xs.length ≤ sizeLine then (fun M => .ok (.ref M.length) (M ++ [.lst xs])) else stuck

section
variable {X : Cx} {Z : ZS} {a b c : Expr} {fa fb fc : Fe} {es : List Expr} {fl : Fl} {pos : Pos}
theorem bind_ok {α β : Type} {m : Mem → Res α} {k : α → Mem → Res β} {M M1 : Mem} {x : α} (e : m M = .ok x M1) : bnd m k M = k x M1 := by
  unfold bnd
  rw [e]
theorem Aft.ret {Z : ZK} {K : PySem.W.Frag} {H : Hp} {r : List Addr} {M : Mem} {d : D} {Q : VK} {v : V} (S : Sim K H r M) (q : Rep K H r d v) (h : Aft K Z H r M (.ok d M) Q) : Q v H := h v H r Ext.refl S q
theorem r_var {i : Nat} {x : Str} (hN : X.N[i]? = some x) (hv : Vis X.env.scope x) (hd : (x == ("__debug__" : Str)) = false) (hcd : (x == ("__classdict__" : Str)) = false) : PE X (.Name x pos) (tM X.K Z (eVar i)) :=
  PE.cons (pe_var hN hv hd hcd) fun σ H Q ⟨δ, r, M, E, S, h⟩ => by
    unfold eVar at h
    cases e : δ[i]? with
    | none => rw [e] at h; exact h.elim
    | some o =>
      cases o with
      | none => rw [e] at h; exact h.elim
      | some d =>
        rw [e] at h
        obtain ⟨v, e1, q⟩ := E.2 i d e
        exact ⟨v, e1, Aft.ret S q h⟩
theorem r_int {i : Int} {j} : PE X (.Constant (.int i) j pos) (tM X.K Z (eCst (.int i))) := PE.cons pe_int fun σ H Q ⟨δ, r, M, E, S, h⟩ => Aft.ret (d := .int i) S rfl h
theorem r_bl {i : Bool} {j} : PE X (.Constant (.bool i) j pos) (tM X.K Z (eCst (.bl i))) := PE.cons pe_bl fun σ H Q ⟨δ, r, M, E, S, h⟩ => Aft.ret (d := .bl i) S rfl h
theorem r_non {j} : PE X (.Constant .none j pos) (tM X.K Z (eCst .non)) := PE.cons pe_non fun σ H Q ⟨δ, r, M, E, S, h⟩ => Aft.ret (d := .non) S rfl h
theorem r_str {i : Str} {j} : PE X (.Constant (.str i) j pos) (tM X.K Z (eCst (.str i))) := PE.cons pe_str fun σ H Q ⟨δ, r, M, E, S, h⟩ => Aft.ret (d := .str i) S rfl h
/-- what the module's name stands for -/
theorem r_glo {x : Str} {u : Value} {v : V} {d : D} (hg : Gl X x) (hm : X.mg x = some u) (hr : RelV v u) (q : ∀ H r, Rep X.K H r d v) (hd : (x == ("__debug__" : Str)) = false) : PE X (.Name x pos) (tM X.K Z (eCst d)) :=
  PE.cons (pe_glob hg hm hr hd) fun σ H Q ⟨δ, r, M, E, S, h⟩ => Aft.ret S (q H r) h
theorem r_ty {x : Str} {n : String} (hg : Gl X x) (hm : X.mg x = none) (hv : bootBuiltins x = some (.type n)) (hn : x ≠ "__name__") (hd : (x == ("__debug__" : Str)) = false) : PE X (.Name x pos) (tM X.K Z (eCst (.ty n))) :=
  PE.cons (pe_bltn (v := .ty n) hg hm hv rfl hn hd) fun σ H Q ⟨δ, r, M, E, S, h⟩ => Aft.ret (d := .ty n) S rfl h
/-- two parts, then an operation by values -/
theorem two {f : Value → Value → Sem Value} {g : Mem → D → D → Option D} (ho : Op2 X f g) (ha : PE X a (tM X.K Z fa)) (hb : PE X b (tM X.K Z fb)) {pins : List (Addr × Obj)} {s : Shared} {σ : St} {H : Hp} {Q : VK} (I : Inv X pins σ H s) (h : tM X.K Z (eOp g fa fb) σ H Q) :
    wpAny (model X.prog X.w) X.A (eval a X.env) (fun v s₁ => wpAny (model X.prog X.w) X.A (eval b X.env) (fun u s₂ => wpAny (model X.prog X.w) X.A (f v u) (EP X pins σ Q) X.xe s₂) X.xe s₁) X.xe s := by
  obtain ⟨δ, r, M, E, S, h⟩ := h
  refine thn (ha.run pins s σ H _ I ⟨δ, r, M, E, S, Aft.bind S h⟩) fun v s1 ⟨x, H1, I1, rx, d1, M1, r1, e1, X1, S1, q1, h1⟩ => ?_
  refine thn (hb.run pins s1 σ H1 _ I1 ⟨δ, r1, M1, E.ext S X1, S1, Aft.bind S1 h1⟩) fun u s2 ⟨y, H2, I2, ry, d2, M2, r2, e2, X2, S2, q2, h2⟩ => ?_
  obtain ⟨d, e3, w⟩ := Aft.opt h2
  exact ho pins s2 σ H2 r2 M2 x y v u d1 d2 d Q I2 rx ry S2 (q1.ext S1 X2) q2 e3 w
theorem r_bin {op : Operator} {g : Mem → D → D → Option D} (ho : Op2 X (binaryOp op) g) (ha : PE X a (tM X.K Z fa)) (hb : PE X b (tM X.K Z fb)) : PE X (.BinOp a op b pos) (tM X.K Z (eOp g fa fb)) :=
  ⟨fun pins s σ H Q I h => wpAny_BinOp (two ho ha hb I h)⟩
theorem r_cmp {op : CmpOp} {g : Mem → D → D → Option D} (ho : Op2 X (compareOp op) g) (ha : PE X a (tM X.K Z fa)) (hb : PE X b (tM X.K Z fb)) (hm : behindInMarks op b = false) : PE X (.Compare a [op] [b] pos) (tM X.K Z (eOp g fa fb)) :=
  ⟨fun pins s σ H Q I h => wpAny_Compare1 (two ho ha hb I h) hm⟩
theorem r_ix {g : Mem → D → D → Option D} (ho : IxS X g) (ha : PE X a (tM X.K Z fa)) (hb : PE X b (tM X.K Z fb)) (hs : PlainIx b) : PE X (.Subscript a b pos) (tM X.K Z (eOp g fa fb)) := by
  refine ⟨fun pins s σ H Q I h => Subscript_ ?_⟩
  obtain ⟨δ, r, M, E, S, h⟩ := h
  refine thn (ha.run pins s σ H _ I ⟨δ, r, M, E, S, Aft.bind S h⟩) fun v s1 ⟨x, H1, I1, rx, d1, M1, r1, e1, X1, S1, q1, h1⟩ => ?_
  refine thn (hb.run pins s1 σ H1 _ I1 ⟨δ, r1, M1, E.ext S X1, S1, Aft.bind S1 h1⟩) fun u s2 ⟨y, H2, I2, ry, d2, M2, r2, e2, X2, S2, q2, h2⟩ => ?_
  obtain ⟨d, e3, w⟩ := Aft.opt h2
  exact ho a b pins s2 σ H2 r2 M2 x y v u d1 d2 d Q I2 rx ry S2 (q1.ext S1 X2) q2 e3 w (hs _ _)
/-- the truth of a value, any expression of which that is asked -/
theorem tru_run {pins : List (Addr × Obj)} {s : Shared} {σ : St} {H : Hp} {r : List Addr} {M : Mem} {d : D} {v : V} {u : Value} {b : Bool} {Q : Bool → Shared → Prop} (I : Inv X pins σ H s) (S : Sim X.K H r M) (ru : RelV v u) (q : Rep X.K H r d v) (e : truD M d = some b)
    (h : ∀ s', Inv X pins σ H s' → Q b s') : wpAny (model X.prog X.w) X.A (truthy u) Q X.xe s :=
  thn (tru_ok pins s σ H v u (fun c H2 => c = b ∧ H2 = H) I ru ⟨b, truD_rep S q e, rfl, rfl⟩) fun c s' ⟨H2, I2, e1, e2⟩ => by
    subst e1 e2
    exact h s' I2
theorem of_asTru {Z : ZK} {d : D} {M : Mem} {K : PySem.W.Frag} {H : Hp} {r : List Addr} {k : Bool → Mem → Res D} {Q : VK} (h : Aft K Z H r M (bnd (asTru d) k M) Q) : ∃ b, truD M d = some b ∧ Aft K Z H r M (k b M) Q := by
  unfold bnd asTru at h
  cases e : truD M d with
  | none => rw [e] at h; exact h.elim
  | some b => rw [e] at h; exact ⟨b, rfl, h⟩
theorem of_asTruB {Z : ZK} {d : D} {M : Mem} {K : PySem.W.Frag} {H : Hp} {r : List Addr} {Q : Bool → Hp → Prop} (h : AftB K Z H r M (asTru d M) Q) : ∃ b, truD M d = some b ∧ AftB K Z H r M (.ok b M) Q := by
  unfold asTru at h
  cases e : truD M d with
  | none => rw [e] at h; exact h.elim
  | some b => rw [e] at h; exact ⟨b, rfl, h⟩
theorem t_tru (ha : PE X a (tM X.K Z fa)) (he : ∀ whole, isTrue a X.env whole = (do let v ← whole; standAt a.pos; holding [v] (truthy v))) : PT X a (tB X.K Z (bTru fa)) := by
  refine ⟨fun pins s σ H Q I ⟨δ, r, M, E, S, h⟩ => ?_⟩
  refine isTrue_plain (thn (ha.run pins s σ H _ I ⟨δ, r, M, E, S, AftB.bind S h⟩) fun v s1 ⟨x, H1, I1, rx, d1, M1, r1, e1, X1, S1, q1, h1⟩ => ?_) (he _)
  obtain ⟨b, e2, h2⟩ := of_asTruB h1
  exact tru_run I1 S1 rx q1 e2 fun s' I' => ⟨H1, I', h2 H1 r1 Ext.refl S1⟩
theorem t_cmp {op : CmpOp} {g : Mem → D → D → Option D} (ho : Op2 X (compareOp op) g) (ha : PE X a (tM X.K Z fa)) (hb : PE X b (tM X.K Z fb)) (hm : behindInMarks op b = false) : PT X (.Compare a [op] [b] pos) (tB X.K Z (bTru (eOp g fa fb))) := by
  refine ⟨fun pins s σ H Q I ⟨δ, r, M, E, S, h⟩ => ?_⟩
  have h' : tM X.K Z (eOp g fa fb) σ H (fun v H1 => ∃ d1 M1 r1, eOp g fa fb δ M = .ok d1 M1 ∧ Ext H r M H1 r1 M1 ∧ Sim X.K H1 r1 M1 ∧ Rep X.K H1 r1 d1 v ∧ AftB X.K (Z σ) H1 r1 M1 (asTru d1 M1) Q) := ⟨δ, r, M, E, S, AftB.bind S h⟩
  refine wpAny_isTrue_Compare1 (thn (two ho ha hb I h') fun v s1 h1 => thn h1 fun u s2 h2 => thn h2 fun c s3 ⟨x, H1, I1, rx, d1, M1, r1, e1, X1, S1, q1, h3⟩ => ?_) hm
  obtain ⟨b, e2, h2⟩ := of_asTruB h3
  exact tru_run I1 S1 rx q1 e2 fun s' I' => ⟨H1, I', h2 H1 r1 Ext.refl S1⟩
/-- a test's answer is wanted as the readings of the layer do -/
theorem AftB.tt {Z : ZK} {K : PySem.W.Frag} {H : Hp} {r : List Addr} {M : Mem} {m : Mem → Res Bool} {k : Bool → Mem → Res Bool} {Q : Bool → Hp → Prop} {σ : St} {t : TT} {f : Fb} {δ : Env} (E : EnvRep K H r σ δ) (S : Sim K H r M) (ht : ∀ Q', (∃ δ r M, EnvRep K H r σ δ ∧ Sim K H r M ∧ AftB K Z H r M (f δ M) Q') → t σ H Q')
    (h : AftB K Z H r M (bnd (f δ) k M) Q) : t σ H (fun c H1 => ∃ M1 r1, Ext H r M H1 r1 M1 ∧ Sim K H1 r1 M1 ∧ EnvRep K H1 r1 σ δ ∧ AftB K Z H1 r1 M1 (k c M1) Q) := by
  refine ht _ ⟨δ, r, M, E, S, ?_⟩
  have z := AftB.bindB S h
  cases q : f δ M with
  | ok c M1 => rw [q] at z; exact fun H' r' x s => let ⟨M2, r2, e1, e2, e3, e4⟩ := z H' r' x s; ⟨M2, r2, e2, e3, E.ext S e2, e4⟩
  | err e M1 => rw [q] at z; exact z
  | bad => rw [q] at z; exact z
variable {ga gb : Fb} {rest : List Expr}
theorem t_not (ha : PT X a (tB X.K Z ga)) : PT X (.UnaryOp .Not a pos) (tB X.K Z (bNot ga)) :=
  PT.cons (pt_not ha) fun σ H Q ⟨δ, r, M, E, S, h⟩ => by
    refine ⟨δ, r, M, E, S, ?_⟩
    have z := AftB.bindB S h
    cases q : ga δ M with
    | ok c M1 => rw [q] at z; exact fun H' r' x s => let ⟨M2, r2, e1, e2, e3, e4⟩ := z H' r' x s; e4 H' r2 Ext.refl e3
    | err e M1 => rw [q] at z; exact z
    | bad => rw [q] at z; exact z
theorem w_and1 (ha : PT X a (tB X.K Z ga)) : PW X (.BoolOp .And [a] pos) (tB X.K Z ga) := pw_and1 ha
theorem w_or1 (ha : PT X a (tB X.K Z ga)) : PW X (.BoolOp .Or [a] pos) (tB X.K Z ga) := pw_or1 ha
theorem w_and (ha : PT X a (tB X.K Z ga)) (hb : PW X (.BoolOp .And (b :: rest) pos) (tB X.K Z gb)) : PW X (.BoolOp .And (a :: b :: rest) pos) (tB X.K Z (bAnd ga gb)) :=
  PW.cons (pw_and ha hb) fun σ H Q ⟨δ, r, M, E, S, h⟩ => by
    refine ⟨δ, r, M, E, S, ?_⟩
    have z := AftB.bindB S h
    cases q : ga δ M with
    | ok c M1 =>
      rw [q] at z
      refine fun H' r' x s => ?_
      obtain ⟨M2, r2, e1, e2, e3, e4⟩ := z H' r' x s
      cases c with
      | true => exact ⟨δ, r2, M2, E.ext S e2, e3, e4⟩
      | false => exact e4 H' r2 Ext.refl e3
    | err e M1 => rw [q] at z; exact z
    | bad => rw [q] at z; exact z
theorem w_or (ha : PT X a (tB X.K Z ga)) (hb : PW X (.BoolOp .Or (b :: rest) pos) (tB X.K Z gb)) : PW X (.BoolOp .Or (a :: b :: rest) pos) (tB X.K Z (bOr ga gb)) :=
  PW.cons (pw_or ha hb) fun σ H Q ⟨δ, r, M, E, S, h⟩ => by
    refine ⟨δ, r, M, E, S, ?_⟩
    have z := AftB.bindB S h
    cases q : ga δ M with
    | ok c M1 =>
      rw [q] at z
      refine fun H' r' x s => ?_
      obtain ⟨M2, r2, e1, e2, e3, e4⟩ := z H' r' x s
      cases c with
      | false => exact ⟨δ, r2, M2, E.ext S e2, e3, e4⟩
      | true => exact e4 H' r2 Ext.refl e3
    | err e M1 => rw [q] at z; exact z
    | bad => rw [q] at z; exact z
theorem r_if (hc : PT X c (tB X.K Z ga)) (ha : PE X a (tM X.K Z fa)) (hb : PE X b (tM X.K Z fb)) : PE X (.IfExp c a b pos) (tM X.K Z (eIf ga fa fb)) :=
  PE.cons (pe_ifExp hc ha hb) fun σ H Q ⟨δ, r, M, E, S, h⟩ => by
    refine ⟨δ, r, M, E, S, ?_⟩
    have z := Aft.bindB S h
    cases q : ga δ M with
    | ok c M1 =>
      rw [q] at z
      refine fun H' r' x s => ?_
      obtain ⟨M2, r2, e1, e2, e3, e4⟩ := z H' r' x s
      cases c with
      | false => exact ⟨δ, r2, M2, E.ext S e2, e3, e4⟩
      | true => exact ⟨δ, r2, M2, E.ext S e2, e3, e4⟩
    | err e M1 => rw [q] at z; exact z
    | bad => rw [q] at z; exact z
theorem r_one {op} (ha : PE X a (tM X.K Z fa)) : PE X (.BoolOp op [a] pos) (tM X.K Z fa) := pe_one ha
theorem r_or (ha : PE X a (tM X.K Z fa)) (hb : PE X (.BoolOp .Or (b :: rest) pos) (tM X.K Z fb)) : PE X (.BoolOp .Or (a :: b :: rest) pos) (tM X.K Z (eOr fa fb)) :=
  PE.cons (pe_orT ha hb) fun σ H Q ⟨δ, r, M, E, S, h⟩ => by
    refine ⟨δ, r, M, E, S, ?_⟩
    have z := Aft.bind S h
    cases q : fa δ M with
    | ok d M1 =>
      rw [q] at z
      refine fun v H' r' x s qv => ?_
      obtain ⟨d1, M2, r2, e1, e2, e3, e4, e5⟩ := z v H' r' x s qv
      obtain ⟨k, e6, e7⟩ := of_asTru e5
      refine ⟨k, truD_rep e3 e4 e6, ?_⟩
      cases k with
      | true => exact e7 v H' r2 Ext.refl e3 e4
      | false => exact ⟨δ, r2, M2, E.ext S e2, e3, e7⟩
    | err e M1 => rw [q] at z; exact z
    | bad => rw [q] at z; exact z
theorem r_and (ha : PE X a (tM X.K Z fa)) (hb : PE X (.BoolOp .And (b :: rest) pos) (tM X.K Z fb)) : PE X (.BoolOp .And (a :: b :: rest) pos) (tM X.K Z (eAnd fa fb)) :=
  PE.cons (pe_andT ha hb) fun σ H Q ⟨δ, r, M, E, S, h⟩ => by
    refine ⟨δ, r, M, E, S, ?_⟩
    have z := Aft.bind S h
    cases q : fa δ M with
    | ok d M1 =>
      rw [q] at z
      refine fun v H' r' x s qv => ?_
      obtain ⟨d1, M2, r2, e1, e2, e3, e4, e5⟩ := z v H' r' x s qv
      obtain ⟨k, e6, e7⟩ := of_asTru e5
      refine ⟨k, truD_rep e3 e4 e6, ?_⟩
      cases k with
      | false => exact e7 v H' r2 Ext.refl e3 e4
      | true => exact ⟨δ, r2, M2, E.ext S e2, e3, e7⟩
    | err e M1 => rw [q] at z; exact z
    | bad => rw [q] at z; exact z
theorem r_not (ha : PE X a (tM X.K Z fa)) : PE X (.UnaryOp .Not a pos) (tM X.K Z (eNot fa)) :=
  PE.cons (pe_notT ha) fun σ H Q ⟨δ, r, M, E, S, h⟩ => by
    refine ⟨δ, r, M, E, S, ?_⟩
    have z := Aft.bind S h
    cases q : fa δ M with
    | ok d M1 =>
      rw [q] at z
      refine fun v H' r' x s qv => ?_
      obtain ⟨d1, M2, r2, e1, e2, e3, e4, e5⟩ := z v H' r' x s qv
      obtain ⟨k, e6, e7⟩ := of_asTru e5
      exact ⟨k, truD_rep e3 e4 e6, e7 _ H' r2 Ext.refl e3 rfl⟩
    | err e M1 => rw [q] at z; exact z
    | bad => rw [q] at z; exact z
end
end Wn
end

section
set_option Elab.async false
set_option linter.all false
set_option maxRecDepth 100000
set_option maxHeartbeats 4000000
namespace Wn
open PySem PySem.Spec PyProof.Rows L2

/-- what every context gives -/
structure Gd (X : Cx) : Prop where
  calm : X.calm = true
  un : X.A.units + 66 < cLine
  gua : X.A.guards = some []

section
variable {K : PySem.W.Frag} {Z : ZK} {H H1 H2 : Hp} {r r1 r2 : List Addr} {M M1 M2 : Mem} {Q : VK}
theorem AftL.ret {ds : List D} {vs : List V} {Q : List V → Hp → Prop} (S : Sim K H r M) (q : Reps K H r ds vs) (h : AftL K Z H r M (.ok ds M) Q) : Q vs H := h vs H r Ext.refl S q
/-- what is written at an address that is no cell's and was nothing at the start -/
theorem Ext.own {p : Addr} {o : HO} (e : Ext H r M H1 r1 M1) (hp : H p = none) : Ext H r M (upd H1 p o) r1 M1 :=
  ⟨e.pre, fun b u q n => (by rw [upd_ne (ne_of_none q hp)]; exact e.keep b u q n), e.fresh, e.dead⟩
/-- what may be written over -/
def MuH (H : Hp) (p : Addr) : Prop := (∃ xs, H p = some (.lst xs)) ∨ (∃ xs, H p = some (.dK xs)) ∨ H p = none
theorem stay_ownM {p : Addr} {o : HO} (hp : MuH H p) : Stay H r (upd H p o) r := by
  refine ⟨fun b u e => ?_, fun b u x e => ?_, fun _ _ h => h⟩
  · have hb : b ≠ p := fun z => by
      subst z
      rcases hp with ⟨xs, q⟩ | ⟨xs, q⟩ | q
      · rw [q] at e; cases e
      · rw [q] at e; cases e
      · rw [q] at e; cases e
    rw [upd_ne hb]; exact e
  · have hb : b ≠ p := fun z => by
      subst z
      rcases hp with ⟨xs, q⟩ | ⟨xs, q⟩ | q
      · rw [q] at e; cases e
      · rw [q] at e; cases e
      · rw [q] at e; cases e
    rw [upd_ne hb]; exact e
theorem stay_own {p : Addr} {o : HO} (hp : (∃ xs, H p = some (.lst xs)) ∨ H p = none) : Stay H r (upd H p o) r := stay_ownM (hp.elim .inl fun h => .inr (.inr h))
theorem CellRep.stay' {a : Addr} {c : Cell} (e : Stay H r H1 r1) (h : CellRep K H r a c) (k : H1 a = H a) : CellRep K H1 r1 a c := by
  cases c with
  | lst ds => obtain ⟨vs, e1, h1⟩ := h; exact ⟨vs, k.trans e1, h1.stay e⟩
  | dct kvs => obtain ⟨vs, e1, h0, h1⟩ := h; exact ⟨vs, k.trans e1, h0, h1.stay e⟩
  | dead => obtain ⟨o, e1⟩ := h; exact ⟨o, k.trans e1⟩
theorem Sim.own {p : Addr} {o : HO} (S : Sim K H r M) (hp : (∃ xs, H p = some (.lst xs)) ∨ H p = none) (hr : ∀ n : Nat, r[n]? ≠ some p) : Sim K (upd H p o) r M :=
  ⟨S.len, S.inj, fun n a c h1 h2 => (S.cell n a c h1 h2).stay' (stay_own hp) (upd_ne fun z => hr n (by rw [← z]; exact h1))⟩
/-- a new cell -/
theorem Aft.celG {p : Addr} {nc : Cell} {no : HO} (S : Sim K H r M) (hp : H p = none) (q : ∀ H' r', Stay H r H' r' → H' p = some no → CellRep K H' r' p nc) (h : Aft K Z H r M (.ok (.ref M.length) (M ++ [nc])) Q) : Q (.ref p) (upd H p no) := by
  have hr : ∀ n : Nat, r[n]? ≠ some p := fun n e => by
    obtain ⟨c, _, h3⟩ := S.here e
    obtain ⟨o, h4⟩ := h3.there
    rw [hp] at h4; cases h4
  have hs : Stay H r (upd H p no) (r ++ [p]) := by
    have := stay_own (H := H) (r := r) (o := no) (.inr hp)
    exact ⟨this.tup, this.frz, fun n a e => by rw [List.getElem?_append_left (List.getElem?_eq_some_iff.mp e).1]; exact e⟩
  refine h _ _ (r ++ [p]) ⟨⟨[p], rfl⟩, fun b u q n => (by rw [upd_ne (ne_of_none q hp)]; exact q), fun n b hn e => ?_, fun n e => ?_⟩ ⟨by simp [S.len], fun i j a h1 h2 => ?_, fun n a c h1 h2 => ?_⟩ ⟨p, rfl, ?_⟩
  · have hl := (List.getElem?_eq_some_iff.mp e).1
    rw [List.length_append, List.length_singleton] at hl
    have hn' : n = r.length := by omega
    subst hn'
    rw [List.getElem?_append_right (Nat.le_refl _)] at e
    simp at e
    rw [← e]; exact hp
  · rw [List.getElem?_append_left (List.getElem?_eq_some_iff.mp e).1]; exact e
  · have key : ∀ {i : Nat} {a : Addr}, (r ++ [p])[i]? = some a → (r[i]? = some a) ∨ (i = r.length ∧ a = p) := fun {i a} e => by
      by_cases hi : i < r.length
      · rw [List.getElem?_append_left hi] at e; exact .inl e
      · have hl := (List.getElem?_eq_some_iff.mp e).1
        rw [List.length_append, List.length_singleton] at hl
        have : i = r.length := by omega
        subst this
        rw [List.getElem?_append_right (Nat.le_refl _)] at e
        simp at e
        exact .inr ⟨rfl, e.symm⟩
    rcases key h1 with k1 | ⟨k1, k2⟩ <;> rcases key h2 with k3 | ⟨k3, k4⟩
    · exact S.inj i j a k1 k3
    · subst k4; exact absurd k1 (hr i)
    · subst k2; exact absurd k3 (hr j)
    · omega
  · by_cases hn : n < r.length
    · rw [List.getElem?_append_left hn] at h1
      rw [List.getElem?_append_left (by rw [← S.len]; exact hn)] at h2
      exact (S.cell n a c h1 h2).stay' hs (upd_ne fun z => hr n (by rw [← z]; exact h1))
    · have hl := (List.getElem?_eq_some_iff.mp h1).1
      rw [List.length_append, List.length_singleton] at hl
      have hn' : n = r.length := by omega
      subst hn'
      rw [List.getElem?_append_right (Nat.le_refl _)] at h1
      rw [List.getElem?_append_right (by rw [S.len]; exact Nat.le_refl _), S.len] at h2
      simp at h1 h2
      subst h1 h2
      exact q _ _ hs upd_same
  · rw [← S.len, List.getElem?_append_right (Nat.le_refl _)]; simp
theorem Aft.cel {p : Addr} {ds : List D} {vs : List V} (S : Sim K H r M) (hp : H p = none) (q : Reps K H r ds vs) (h : Aft K Z H r M (.ok (.ref M.length) (M ++ [.lst ds])) Q) : Q (.ref p) (upd H p (.lst vs)) :=
  Aft.celG (nc := .lst ds) (no := .lst vs) S hp (fun H' r' st e => ⟨vs, e, q.stay st⟩) h
end

/-! ### argument lists, displays -/
section
variable {X : Cx} {Z : ZS} {e : Expr} {es : List Expr} {fa : Fe} {fl : Fl} {pos : Pos}
theorem l_nil : PA X [] (tL X.K Z lNil) := PA.cons pa_nil fun σ H Q ⟨δ, r, M, E, S, h⟩ => AftL.ret (ds := []) S rfl h
theorem l_cons (ha : PE X e (tM X.K Z fa)) (hr : PA X es (tL X.K Z fl)) (hs : starEach (e :: es) X.env = (false, eval e X.env) :: starEach es X.env) : PA X (e :: es) (tL X.K Z (lCons fa fl)) :=
  PA.cons (pa_cons ha hr hs) fun σ H Q ⟨δ, r, M, E, S, h⟩ => ⟨δ, r, M, E, S, by
    have z := AftL.bind S h
    cases q : fa δ M with
    | ok d M1 =>
      rw [q] at z
      refine fun v H' r' x s qv => ?_
      obtain ⟨d1, M2, r2, e1, e2, e3, e4, e5⟩ := z v H' r' x s qv
      refine ⟨δ, r2, M2, E.ext S e2, e3, ?_⟩
      have z2 := AftL.bindL e3 e5
      cases q2 : fl δ M2 with
      | ok ds M3 =>
        rw [q2] at z2
        refine fun vs H'' r'' x2 s2 qv2 => ?_
        obtain ⟨ds1, M4, r4, f1, f2, f3, f4, f5⟩ := z2 vs H'' r'' x2 s2 qv2
        exact AftL.ret (ds := d1 :: ds1) f3 ⟨v, vs, rfl, e4.ext e3 f2, f4⟩ f5
      | err e M3 => rw [q2] at z2; exact z2
      | bad => rw [q2] at z2; exact z2
    | err e M1 => rw [q] at z; exact z
    | bad => rw [q] at z; exact z⟩
theorem of_ite' {Z : ZK} {α : Type} {c : Prop} [Decidable c] {K : PySem.W.Frag} {H : Hp} {r : List Addr} {M : Mem} {m : Mem → Res D} {Q : VK} (h : Aft K Z H r M ((if c then m else stuck) M) Q) : c ∧ Aft K Z H r M (m M) Q := by
  by_cases hc : c
  · rw [if_pos hc] at h; exact ⟨hc, h⟩
  · rw [if_neg hc] at h; exact h.elim
theorem dis {k : List D → Mem → Res D} {tt : TA → TE} (hl : PE X e (tt (tL X.K Z fl)))
    (ht : ∀ σ H Q, (∃ δ r M, EnvRep X.K H r σ δ ∧ Sim X.K H r M ∧ AftL X.K (Z σ) H r M (fl δ M) (fun vs H1 => ∃ d1 M1 r1, fl δ M = .ok d1 M1 ∧ Ext H r M H1 r1 M1 ∧ Sim X.K H1 r1 M1 ∧ Reps X.K H1 r1 d1 vs ∧ Aft X.K (Z σ) H1 r1 M1 (k d1 M1) Q)) → tt (tL X.K Z fl) σ H Q) :
    PE X e (tM X.K Z fun δ => bnd (fl δ) k) := PE.cons hl fun σ H Q ⟨δ, r, M, E, S, h⟩ => ht σ H Q ⟨δ, r, M, E, S, Aft.bindL S h⟩
theorem AftL.imp {Z : ZK} {K : PySem.W.Frag} {H : Hp} {r : List Addr} {M : Mem} {m : Res (List D)} {Q Q' : List V → Hp → Prop} (h : AftL K Z H r M m Q) (k : ∀ v H1, Q v H1 → Q' v H1) : AftL K Z H r M m Q' := by
  cases m with
  | ok d M1 => exact fun v H' r' x s q => k _ _ (h v H' r' x s q)
  | err e M1 => exact h
  | bad => exact h
theorem Aft.imp {Z : ZK} {K : PySem.W.Frag} {H : Hp} {r : List Addr} {M : Mem} {m : Res D} {Q Q' : VK} (h : Aft K Z H r M m Q) (k : ∀ v H1, Q v H1 → Q' v H1) : Aft K Z H r M m Q' := by
  cases m with
  | ok d M1 => exact fun v H' r' x s q => k _ _ (h v H' r' x s q)
  | err e M1 => exact h
  | bad => exact h
theorem AftB.imp {Z : ZK} {K : PySem.W.Frag} {H : Hp} {r : List Addr} {M : Mem} {m : Res Bool} {Q Q' : Bool → Hp → Prop} (h : AftB K Z H r M m Q) (k : ∀ v H1, Q v H1 → Q' v H1) : AftB K Z H r M m Q' := by
  cases m with
  | ok d M1 => exact fun H' r' x s => k _ _ (h H' r' x s)
  | err e M1 => exact h
  | bad => exact h
theorem r_tup {x1} (hl : PA X es (tL X.K Z fl)) : PE X (.Tuple es x1 pos) (tM X.K Z (eTup fl)) :=
  dis (pe_tup hl) fun σ H Q ⟨δ, r, M, E, S, h⟩ => ⟨δ, r, M, E, S, h.imp fun vs H1 ⟨d1, M1, r1, e1, e2, S1, q1, w⟩ => by
    obtain ⟨hz, w⟩ := of_ite' (α := D) w
    exact ⟨by rw [← q1.length]; exact hz, fun p hp => Aft.tup S1 hp q1 w⟩⟩
theorem r_lst (hl : PA X es (tL X.K Z fl)) : PE X (.List es pos) (tM X.K Z (eLst fl)) := by
  refine ⟨fun pins s σ H Q I ⟨δ, r, M, E, S, h⟩ => thn ((pe_lst hl).run pins s σ H (QFz Q) I ⟨δ, r, M, E, S, ?_⟩) fun u s' q => EP.freeze q⟩
  refine (Aft.bindL S h).imp fun vs H1 ⟨d1, M1, r1, e1, e2, S1, q1, w⟩ => ?_
  obtain ⟨hz, w⟩ := of_ite' (α := D) w
  exact ⟨by rw [← q1.length]; exact hz, fun p hp => ⟨p, vs, rfl, upd_same, fun o => by rw [upd_upd]; exact Aft.fzl S1 hp q1 w⟩⟩
theorem r_cel (hl : PA X es (tL X.K Z fl)) : PE X (.List es pos) (tM X.K Z (eCell fl)) :=
  dis (tt := tLst) (pe_lst hl) fun σ H Q ⟨δ, r, M, E, S, h⟩ => ⟨δ, r, M, E, S, h.imp fun vs H1 ⟨d1, M1, r1, e1, e2, S1, q1, w⟩ => by
    obtain ⟨hz, w⟩ := of_ite' (α := D) w
    exact ⟨by rw [← q1.length]; exact hz, fun p hp => Aft.cel S1 hp q1 w⟩⟩

/-! ### built-in functions -/
theorem AftL.call {Z : ZK} {g : Mem → List D → Option D} {K : PySem.W.Frag} {H : Hp} {r : List Addr} {M : Mem} {m : Mem → Res (List D)} {Q : VK} (S : Sim K H r M) (h : Aft K Z H r M (bnd m (fun xs M => opt (g M xs) M) M) Q) :
    AftL K Z H r M (m M) (fun vs H1 => ∃ ds d M1 r1, Sim K H1 r1 M1 ∧ Reps K H1 r1 ds vs ∧ g M1 ds = some d ∧ Wnt K H1 r1 M1 d Q) :=
  (Aft.bindL S h).imp fun vs H1 ⟨d1, M1, r1, e1, e2, S1, q1, w⟩ => let ⟨d, e3, w3⟩ := Aft.opt w; ⟨d1, d, M1, r1, S1, q1, e3, w3⟩
theorem r_callB {x : Str} {id : String} {p : Pos} {g : Mem → List D → Option D} (hc : CallS X (.builtin id) g) (hg : Gl X x) (hm : X.mg x = none) (hv : bootBuiltins x = some (.builtin id)) (ha : PA X (e :: es) (tL X.K Z fl)) (hn : x ≠ "__name__") (hdb : (x == ("__debug__" : Str)) = false)
    (he : starEach (e :: es) X.env = (false, eval e X.env) :: starEach es X.env) (hpl : (backTo pos (starEach es X.env)).any (·.1) = false) : PE X (.Call (.Name x p) (e :: es) [] pos) (tM X.K Z (eCall g fl)) := by
  refine ⟨fun pins s σ H Q I ⟨δ, r, M, E, S, h⟩ => ?_⟩
  refine wpAny_Call_Name_kw (ld_blt I hg hm hv ?_ hn hdb)
  exact PyProof.Rows.callWith_builtin1 (thn (ha.run pos pins s σ H _ I ⟨δ, r, M, E, S, AftL.call S h⟩) fun us s1 ⟨vs, H1, I1, r1, ds, d, M1, rr, S1, q1, e1, w⟩ => hc pins s1 σ H1 rr M1 vs us ds d Q I1 r1 S1 q1 e1 w) he hpl
theorem r_callT {x : Str} {T : String} {p : Pos} {g : Mem → List D → Option D} (hc : CallS X (.type T) g) (hg : Gl X x) (hm : X.mg x = none) (hv : bootBuiltins x = some (.type T)) (ha : PA X (e :: es) (tL X.K Z fl)) (hn : x ≠ "__name__") (hdb : (x == ("__debug__" : Str)) = false)
    (he : starEach (e :: es) X.env = (false, eval e X.env) :: starEach es X.env) (hpl : (backTo pos (starEach es X.env)).any (·.1) = false) : PE X (.Call (.Name x p) (e :: es) [] pos) (tM X.K Z (eCall g fl)) := by
  refine ⟨fun pins s σ H Q I ⟨δ, r, M, E, S, h⟩ => ?_⟩
  refine wpAny_Call_Name_kw (ld_blt I hg hm hv ?_ hn hdb)
  exact PyProof.Rows.callWith_type1 (thn (ha.run pos pins s σ H _ I ⟨δ, r, M, E, S, AftL.call S h⟩) fun us s1 ⟨vs, H1, I1, r1, ds, d, M1, rr, S1, q1, e1, w⟩ => hc pins s1 σ H1 rr M1 vs us ds d Q I1 r1 S1 q1 e1 w) he hpl
end

/-! ### methods of texts -/
/-- a method of a built-in type: the receiver's D, the arguments -/
def MtS1 (X : Cx) (T id : String) (g : Mem → D → List D → Option D) : Prop :=
  ∀ (pins : List (Addr × Obj)) (s : Shared) (σ : St) (H : Hp) (r : List Addr) (M : Mem) (x : V) (xs : List V) (v : Value) (us : List Value) (dx : D) (ds : List D) (d : D) (Q : VK), Inv X pins σ H s → RelV x v → Vals xs us → Sim X.K H r M → Rep X.K H r dx x → Reps X.K H r ds xs → g M dx ds = some d →
    Wnt X.K H r M d Q → wpAny (model X.prog X.w) X.A (call (.builtin id) (v :: us)) (EP X pins σ Q) X.xe s
def isS : D → Bool
  | .str _ => true
  | _ => false
/-- o.m(..) of a text -/
def eMt (g : Mem → D → List D → Option D) (a : Fe) (l : Fl) : Fe := fun δ => bnd (a δ) fun x => if isS x = true then bnd (l δ) (fun xs M => opt (g M x xs) M) else stuck
section
variable {X : Cx} {Z : ZS} {o e : Expr} {es : List Expr} {fa : Fe} {fl : Fl} {apos cpos : Pos} {id : String} {name : Str} {g : Mem → D → List D → Option D}
theorem tyV_str {K : PySem.W.Frag} {H : Hp} {r : List Addr} {d : D} {v : V} (h : isS d = true) (q : Rep K H r d v) : tyV K "str" v H := by
  cases d with
  | str x => cases q; exact rfl
  | _ => cases h
theorem r_mts (pa : PlainAttrs "str") (slot : Slot "str" name id) (hty : typeOf (.builtin id) = pure (.type "method_descriptor")) (hm : MtS1 X "str" id g) (ho : PE X o (tM X.K Z fa)) (ha : PA X (e :: es) (tL X.K Z fl))
    (hbase : attributeBase o name X.env (eval o X.env) = eval o X.env)
    (hfew : ((backTo cpos (starEach (e :: es) X.env)).all (fun x => !x.1) && (backToKw cpos (keywordEach [] X.env)).all (fun x => x.1.isSome)
      && decide ((e :: es).length + ([] : List Keyword).length + (if ([] : List Keyword).isEmpty then 0 else 1) < 30)) = true)
    (hline : (apos.endLine == cpos.line) = true) (hs : starEach (e :: es) X.env = (false, eval e X.env) :: starEach es X.env) (hplain : (backTo cpos (starEach es X.env)).any (·.1) = false) :
    PE X (.Call (.Attribute o name apos) (e :: es) [] cpos) (tM X.K Z (eMt g fa fl)) := by
  refine ⟨fun pins s σ H Q I ⟨δ, r, M, E, S, h⟩ => ?_⟩
  refine wpAny_Call_method_late hbase hfew hline rfl (thn (ho.run pins s σ H _ I ⟨δ, r, M, E, S, Aft.bind S h⟩) fun v s1 ⟨x, H1, I1, r1, d1, M1, rr, e1, X1, S1, q1, w⟩ => ?_)
  obtain ⟨hS, w⟩ := of_ite' (α := D) w
  obtain ⟨h1, h2⟩ := tyV_is I1 r1 (tyV_str hS q1)
  refine ⟨"str", id, pa, slot, hty, h1, h2, ?_⟩
  have hA := ha.run cpos pins s1 σ H1 _ I1 ⟨δ, rr, M1, E.ext S X1, S1, Aft.bindL S1 w⟩
  rw [hs] at hA ⊢
  refine Calls.callWith_builtin (by show (false || (backTo cpos (starEach es X.env)).any (·.1)) = false; rw [hplain] <;> rfl) (Calls.evalArgs_plain ?_)
  refine thn hA fun us s2 ⟨vs, H2, I2, r2, ds, M2, rr2, e2, X2, S2, q2, w2⟩ => ?_
  obtain ⟨d, e3, w3⟩ := Aft.opt w2
  exact hm pins s2 σ H2 rr2 M2 x vs v us d1 ds d Q I2 r1 r2 S2 (q1.ext S1 X2) q2 e3 w3
theorem r_mts0 (pa : PlainAttrs "str") (slot : Slot "str" name id) (hty : typeOf (.builtin id) = pure (.type "method_descriptor")) (hm : MtS1 X "str" id g) (ho : PE X o (tM X.K Z fa))
    (hbase : attributeBase o name X.env (eval o X.env) = eval o X.env) (hline : (apos.endLine == cpos.line) = true) : PE X (.Call (.Attribute o name apos) [] [] cpos) (tM X.K Z (eMt g fa lNil)) := by
  refine ⟨fun pins s σ H Q I ⟨δ, r, M, E, S, h⟩ => ?_⟩
  refine wpAny_Call_method0_late hbase hline (thn (ho.run pins s σ H _ I ⟨δ, r, M, E, S, Aft.bind S h⟩) fun v s1 ⟨x, H1, I1, r1, d1, M1, rr, e1, X1, S1, q1, w⟩ => ?_)
  obtain ⟨hS, w⟩ := of_ite' (α := D) w
  obtain ⟨h1, h2⟩ := tyV_is I1 r1 (tyV_str hS q1)
  obtain ⟨d, e3, w3⟩ := Aft.opt (show Aft X.K (Z σ) H1 rr M1 (opt (g M1 d1 []) M1) Q from w)
  exact ⟨"str", id, pa, slot, hty, h1, h2, Calls.callWith_builtin rfl (PySem.evalArgs_none (hm pins s1 σ H1 rr M1 x [] v [] d1 [] d Q I1 r1 .nil S1 q1 rfl e3 w3))⟩
end
end Wn
end

section
set_option Elab.async false
set_option linter.all false
set_option maxRecDepth 100000
set_option maxHeartbeats 4000000
namespace Wn
open PySem PySem.Spec PyProof.Rows L2

/-! ### enumerate of a text -/
/-- its signs, each in a new pair with its place -/
def Iek (x : Str) : It := ⟨fun i _ => i < x.cps.size, fun i H v H' => ∃ T c, v = .ref T ∧ H T = none ∧ H' = upd H T (.tup [.int (i : Nat), .str ⟨#[c]⟩]) ∧ x.cps[i]? = some c, fun i _ => x.cps.size ≤ i⟩
theorem draw_str {P : Program} {w : World} {A : Around} (hh : A.handled = none) (it : Addr) (x : Str) (t : Tok) (ty : String) (hty : ty = "str_ascii_iterator" ∨ ty = "str_iterator") :
    Draws P w A it [it] x.cps.size (fun i v => ∃ c u, x.cps[i]? = some c ∧ v = .str ⟨#[c]⟩ u) (fun i h => h.IsStrIter it ty x t i) := by
  rcases hty with e | e
  · rw [e]; exact Draws.strAscii hh it x t
  · rw [e]; exact Draws.strWide hh it x t
theorem turn_enumS {P : Program} {w : World} {K : PySem.W.Frag} {elts : List Expr} {kk : Nat} {tpos : Pos} (x : Str) (t : Tok) (ty : String) (hty : ty = "str_ascii_iterator" ∨ ty = "str_iterator") (e it : Addr) :
    Turn P w K (.Tuple elts kk tpos) (Iek x) [e, it] e (fun i h => (∃ old, IsEnum h e it ((i : Nat) : Int) old) ∧ h.IsStrIter it ty x t i ∧ e ≠ it) where
  mem := List.mem_cons_self ..
  obj := fun i h st b hb => by
    obtain ⟨⟨old, he⟩, ⟨o, ho, _, hd⟩, _⟩ := st
    rcases List.mem_cons.mp hb with z | z
    · subst z; exact ⟨_, he, fun v q => nomatch q⟩
    · exact ⟨o, by rw [List.mem_singleton.mp z]; exact ho, fun v q => by rw [hd] at q; cases q⟩
  keep := fun i h h' st k => by
    obtain ⟨⟨old, he⟩, ⟨o, ho, rr⟩, hne⟩ := st
    exact ⟨⟨old, k e (List.mem_cons_self ..) _ he⟩, ⟨o, k it (List.mem_cons_of_mem _ (List.mem_singleton_self _)) o ho, rr⟩, hne⟩
  item := by
    intro X hP hw hK hc i pins s σ H E I hf st hg
    subst hP hw hK
    obtain ⟨⟨old, he⟩, hit, hne⟩ := st
    have hel : e < s.heap.objs.size := Heap.lt_size he
    have hil : it < s.heap.objs.size := by obtain ⟨_, q, _⟩ := hit; exact Heap.lt_size q
    have dr := draw_str (P := X.prog) (w := X.w) (A := X.A.in1) (I.ok.hd hc) it x t ty hty
    refine wpAny_pyNext_enum_itemD dr he hit hg hne (fun z => hne (List.mem_singleton.mp z)) fun v h' tk hv ho hit' hT hsz hk => ?_
    obtain ⟨c, u, hcx, rfl⟩ := hv
    refine ⟨_, rfl, wpAny_letOwnedTupleGo_enum (s := { s with heap := h', toks := tk + 1 }) ho fun h2 he' sb => ?_⟩
    have hT2 : h2.get? s.heap.objs.size = some { cls := .type "tuple", data := .seq #[.int i tk, .str ⟨#[c]⟩ u] } := (sb.2 _ (Nat.ne_of_gt hel)).trans hT
    have new : ObjOk X.prog X.w (upd H s.heap.objs.size (.tup [.int (i : Nat), .str ⟨#[c]⟩])) h2 s.heap.objs.size (.tup [.int (i : Nat), .str ⟨#[c]⟩]) :=
      ⟨by show 2 ≤ sizeLine; decide, [.int i tk, .str ⟨#[c]⟩ u], .cons ⟨_, rfl⟩ (.cons ⟨_, rfl⟩ .nil), _, hT2, rfl, _, rfl⟩
    have I1 : Inv X pins σ (upd H s.heap.objs.size (.tup [.int (i : Nat), .str ⟨#[c]⟩])) { s with heap := h2, toks := tk + 1 } :=
      I.turnedNew (ch := [e, it]) (fun b ob hb q => (sb.2 b fun z => hb (by rw [z]; exact List.mem_cons_self ..)).trans (hk b ob (fun z => hb (by rw [z]; exact List.mem_cons_self ..)) (fun z => hb (by rw [z]; exact List.mem_cons_of_mem _ (List.mem_singleton_self _))) q)) hf (Nat.le_refl _) new
    obtain ⟨oi, f1, f2⟩ := hit'
    have ie : ((i : Nat) : Int) + 1 = ((i + 1 : Nat) : Int) := by omega
    refine ⟨.ref s.heap.objs.size, _, I1, rfl, ⟨_, c, rfl, I.hok.fresh (Nat.le_refl _), rfl, hcx⟩, ⟨⟨_, by rw [← ie]; exact he'⟩, ⟨oi, (sb.2 it (Ne.symm hne)).trans f1, f2⟩, hne⟩, fun b hb => ?_⟩
    have hb' : b < s.heap.objs.size := by
      rcases List.mem_cons.mp hb with z | z
      · rw [z]; exact hel
      · rw [List.mem_singleton.mp z]; exact hil
    rw [upd_ne (Nat.ne_of_lt hb')]
    exact (hf b hb).1
  done := by
    intro X hP hw hK hc i pins s σ H E I hf st hg
    subst hP hw hK
    obtain ⟨⟨old, he⟩, hit, hne⟩ := st
    obtain ⟨f0, f1, f2, f3, f4, f5⟩ := hf it (List.mem_cons_of_mem _ (List.mem_singleton_self _))
    have hx : x.cps[i]? = none := Array.getElem?_eq_none hg
    unfold pyNext
    have dn : ∀ (Q : Value → Shared → Prop) (E : Value → Shared → Prop), (∀ h' x, Heap.ExtBut it s.heap h' → (∃ o, h'.get? x = some o ∧ o.cls = .type "StopIteration") → E (.ref x) { s with heap := h' }) → wpAny (model X.prog X.w) X.A.in1 (Builtin.SmallTypes.nextOf (.ref it)) Q E s := fun Q E k => by
      rcases hty with z | z
      · rw [z] at hit
        exact wpAny_nextOf_ascii_end (I.ok.hd hc) hit hx fun h' x a b => k h' x a b
      · rw [z] at hit
        exact wpAny_nextOf_wide_end (I.ok.hd hc) hit hx fun h' x a b => k h' x a b
    have hT : s.TypeIs (.ref e) "enumerate" := ⟨_, he, rfl⟩
    refine wpAny_bind (wpAny_attempt (wpAny_callSpecial?_slot (name := Str.ofString "__next__") hT F.slot_enumerate_next
      (wpAny_call_entry F.slot_enumerate_next hT F.entry_enumerate_next ?_ (F.args_enumerate_next_1 _))))
    show wpAny _ _ (field (.ref e) 2 >>= _) _ _ _
    refine wpAny_bind (wpAny_field he rfl (x := .ref it) rfl ?_)
    refine wpAny_bind (dn _ _ fun h' y he' hy => ?_)
    obtain ⟨o, ho, hcl⟩ := hy
    refine wpAny_bind (wpAny_isInstance (T := "StopIteration") (b := true) ⟨o, ho, hcl⟩ isSubtype_stop ?_)
    exact wpAny_pure ⟨rfl, I.turned (t' := s.toks) (fun b o hb q => he' b o hb q) f0 f1 f3 f4 f5⟩
  self := fun A i s Q E st h => wpAny_pyIter_enum st.1.choose_spec h
theorem pi_enumK {X : Cx} {pins : List (Addr × Obj)} {σ : St} {H : Hp} {s : Shared} {R : It → Hp → Prop} {elts : List Expr} {kk : Nat} {tpos : Pos} {x : Str} {t : Tok} (I : Inv X pins σ H s) (q : R (Iek x) H) :
    wpAny (model X.prog X.w) X.A (call (.type "enumerate") [.str x t]) (fun v s1 => wpAny (model X.prog X.w) X.A (pyIter v) (PIE X pins σ (.Tuple elts kk tpos) R) X.xe s1) X.xe s := by
  refine call_enumerate_str fun h' he hit hsz hk => wpAny_pyIter_enum he ?_
  have I2 : Inv X pins σ H { s with heap := h' } := I.kept (t' := s.toks) hk
  have hty : strIterType x = "str_ascii_iterator" ∨ strIterType x = "str_iterator" := by
    unfold strIterType
    cases x.cps.all (· < 128)
    · exact .inr rfl
    · exact .inl rfl
  refine ⟨s.heap.objs.size + 1, [s.heap.objs.size + 1, s.heap.objs.size], _, _, H, rfl, I2, turn_enumS x t _ hty (s.heap.objs.size + 1) s.heap.objs.size, ⟨⟨.none, he⟩, hit, Nat.succ_ne_self _⟩, fun b hb => ?_, q⟩
  have hle : s.heap.objs.size ≤ b := by
    rcases List.mem_cons.mp hb with z | z
    · rw [z]; exact Nat.le_add_right _ _
    · rw [List.mem_singleton.mp z]; exact Nat.le_refl _
  exact I.fpOk hle (I.hok.fresh hle)

/-! ### what is walked, as data -/
/-- J walks the data ds, whatever happens to cells -/
def IterD (K : PySem.W.Frag) (J : It) (H : Hp) (r : List Addr) (M : Mem) (ds : List D) : Prop :=
  ∃ (G : Hp → Prop) (Y : Nat → Hp → V → Hp → Prop), Walk J ds.length G Y ∧ ∀ H1 r1 M1, Ext H r M H1 r1 M1 → Sim K H1 r1 M1 → G H1 ∧ ∀ i x H2, i < ds.length → Y i H1 x H2 → ∃ d, ds[i]? = some d ∧ Ext H1 r1 M1 H2 r1 M1 ∧ Sim K H2 r1 M1 ∧ Rep K H2 r1 d x
def AftI (K : PySem.W.Frag) (Z : ZK) (H : Hp) (r : List Addr) (M : Mem) (res : Res (List D)) (R : It → Hp → Prop) : Prop := match res with
  | .ok ds M' => ∀ J H' r', Ext H r M H' r' M' → Sim K H' r' M' → IterD K J H' r' M' ds → R J H'
  | .err e M' => ∀ H' r', Ext H r M H' r' M' → Sim K H' r' M' → Z e H' r' M'
  | .bad => False
def tI (K : PySem.W.Frag) (Z : ZS) (f : Env → Mem → Res (List D)) : TI := fun σ H R => ∃ δ r M, EnvRep K H r σ δ ∧ Sim K H r M ∧ AftI K (Z σ) H r M (f δ M) R
theorem PI.cons {X : Cx} {tg e : Expr} {t t' : TI} (h : PI X tg e t) (k : ∀ σ H R, t' σ H R → t σ H R) : PI X tg e t' := ⟨fun pins s σ H R I q => h.run pins s σ H R I (k σ H R q)⟩
section
variable {K : PySem.W.Frag} {Z : ZK} {H H1 : Hp} {r r1 : List Addr} {M M1 : Mem}
theorem AftI.bind {m : Mem → Res D} {k : D → Mem → Res (List D)} {R : It → Hp → Prop} (S : Sim K H r M) (h : AftI K Z H r M (bnd m k M) R) :
    Aft K Z H r M (m M) (fun v H1 => ∃ d1 M1 r1, m M = .ok d1 M1 ∧ Ext H r M H1 r1 M1 ∧ Sim K H1 r1 M1 ∧ Rep K H1 r1 d1 v ∧ AftI K Z H1 r1 M1 (k d1 M1) R) := by
  unfold bnd at h
  cases e : m M with
  | ok d M' =>
    rw [e] at h
    refine fun v H' r' x s q => ⟨d, M', r', rfl, x, s, q, ?_⟩
    replace h : AftI K Z H r M (k d M') R := h
    cases f : k d M' with
    | ok ds M2 => rw [f] at h; exact fun J H2 r2 x2 s2 i2 => h J H2 r2 (x.trans S s x2) s2 i2
    | err e M2 => rw [f] at h; exact fun H2 r2 x2 s2 => h H2 r2 (x.trans S s x2) s2
    | bad => rw [f] at h; exact h
  | err d M' => rw [e] at h; exact h
  | bad => rw [e] at h; exact h
theorem AftI.bindL {m : Mem → Res (List D)} {k : List D → Mem → Res (List D)} {R : It → Hp → Prop} (S : Sim K H r M) (h : AftI K Z H r M (bnd m k M) R) :
    AftL K Z H r M (m M) (fun v H1 => ∃ d1 M1 r1, m M = .ok d1 M1 ∧ Ext H r M H1 r1 M1 ∧ Sim K H1 r1 M1 ∧ Reps K H1 r1 d1 v ∧ AftI K Z H1 r1 M1 (k d1 M1) R) := by
  unfold bnd at h
  cases e : m M with
  | ok d M' =>
    rw [e] at h
    refine fun v H' r' x s q => ⟨d, M', r', rfl, x, s, q, ?_⟩
    replace h : AftI K Z H r M (k d M') R := h
    cases f : k d M' with
    | ok ds M2 => rw [f] at h; exact fun J H2 r2 x2 s2 i2 => h J H2 r2 (x.trans S s x2) s2 i2
    | err e M2 => rw [f] at h; exact fun H2 r2 x2 s2 => h H2 r2 (x.trans S s x2) s2
    | bad => rw [f] at h; exact h
  | err d M' => rw [e] at h; exact h
  | bad => rw [e] at h; exact h
/-- what may be walked as a list: frozen ones, the script -/
def itL : D → Mem → Res (List D)
  | .lst ds, M => .ok ds M
  | .scr ds, M => .ok ds M
  | _, _ => .bad
def itT : D → Mem → Res (List D)
  | .tup ds, M => .ok ds M
  | _, _ => .bad
def itS : D → Mem → Res (List D)
  | .str x, M => .ok (sgn x) M
  | _, _ => .bad
theorem sgn_length (x : Str) : (sgn x).length = x.cps.size := by simp [sgn]
theorem iterD_list {a : Addr} {vs : List V} {ds : List D} (S : Sim K H r M) (hq : ∀ H1 r1 M1, Ext H r M H1 r1 M1 → SqL K H1 a vs) (q : Reps K H r ds vs) : IterD K (Itl K a) H r M ds := by
  refine ⟨fun H => SqL K H a vs, YAt vs, by rw [q.length]; exact walk_list, fun H1 r1 M1 x S1 => ⟨hq H1 r1 M1 x, fun i v H2 hi y => ?_⟩⟩
  obtain ⟨e, hv⟩ := y
  subst e
  obtain ⟨v', e2, q2⟩ := (q.ext S x).get (d := ds[i]) (List.getElem?_eq_getElem hi)
  rw [hv] at e2
  cases e2
  exact ⟨ds[i], List.getElem?_eq_getElem hi, Ext.refl, S1, q2⟩
theorem iterD_tup {a : Addr} {vs : List V} {ds : List D} (S : Sim K H r M) (hq : SqT K H a vs) (q : Reps K H r ds vs) : IterD K (Itt K a) H r M ds := by
  refine ⟨fun H => SqT K H a vs, YAt vs, by rw [q.length]; exact walk_tup, fun H1 r1 M1 x S1 => ⟨(x.stay S).sqt hq, fun i v H2 hi y => ?_⟩⟩
  obtain ⟨e, hv⟩ := y
  subst e
  obtain ⟨v', e2, q2⟩ := (q.ext S x).get (d := ds[i]) (List.getElem?_eq_getElem hi)
  rw [hv] at e2
  cases e2
  exact ⟨ds[i], List.getElem?_eq_getElem hi, Ext.refl, S1, q2⟩
theorem sgn_get {x : Str} {i : Nat} {c : Nat} (h : x.cps[i]? = some c) : (sgn x)[i]? = some (.str ⟨#[c]⟩) := by
  unfold sgn
  rw [List.getElem?_map, Array.getElem?_toList, h]; rfl
theorem iterD_str {x : Str} (S : Sim K H r M) : IterD K (Its x) H r M (sgn x) := by
  refine ⟨fun _ => True, _, by rw [sgn_length]; exact walk_str, fun H1 r1 M1 e S1 => ⟨trivial, fun i v H2 hi y => ?_⟩⟩
  obtain ⟨e2, c, hc, rfl⟩ := y
  subst e2
  exact ⟨.str ⟨#[c]⟩, sgn_get hc, Ext.refl, S1, rfl⟩
def rng (lo : Int) (n : Nat) : List D := (List.range n).map fun i => .int (lo + (i : Nat))
theorem iterD_range {lo : Int} {n : Nat} (S : Sim K H r M) : IterD K (Itr lo n) H r M (rng lo n) := by
  refine ⟨fun _ => True, _, by unfold rng; rw [List.length_map, List.length_range]; exact walk_range, fun H1 r1 M1 e S1 => ⟨trivial, fun i v H2 hi y => ?_⟩⟩
  obtain ⟨e2, rfl⟩ := y
  subst e2
  have hi' : i < n := by simpa [rng] using hi
  exact ⟨.int (lo + i), by simp [rng, hi'], Ext.refl, S1, rfl⟩
/-- pairs that are made one behind another -/
def pairs : List D → List D → List D
  | a :: as, b :: bs => .tup [a, b] :: pairs as bs
  | _, _ => []
theorem pairs_length : ∀ (a b : List D), (pairs a b).length = min a.length b.length
  | [], b => by simp [pairs]
  | _ :: _, [] => by simp [pairs]
  | _ :: as, _ :: bs => by simp [pairs, pairs_length as bs]
theorem pairs_get : ∀ {a b : List D} {i : Nat} {x y : D}, a[i]? = some x → b[i]? = some y → (pairs a b)[i]? = some (.tup [x, y])
  | [], _, _, _, _, h, _ => by simp at h
  | _ :: _, [], _, _, _, _, h => by simp at h
  | _ :: as, _ :: bs, 0, x, y, h, h' => by simp at h h'; subst h h'; rfl
  | _ :: as, _ :: bs, i + 1, x, y, h, h' => by simp [pairs]; exact pairs_get (by simpa using h) (by simpa using h')
/-- a new pair at each turn -/
theorem iterD_pair {J : It} {n : Nat} {G : Hp → Prop} {xs ys : Nat → Option V} {as bs : List D} (W : Walk J n G (YPair xs ys)) (hn : n = min as.length bs.length) (S : Sim K H r M) (hG : ∀ H1 r1 M1, Ext H r M H1 r1 M1 → Sim K H1 r1 M1 → G H1)
    (hx : ∀ H1 r1 M1 i v a, Ext H r M H1 r1 M1 → xs i = some v → as[i]? = some a → Rep K H1 r1 a v) (hy : ∀ H1 r1 M1 i v a, Ext H r M H1 r1 M1 → ys i = some v → bs[i]? = some a → Rep K H1 r1 a v) : IterD K J H r M (pairs as bs) := by
  refine ⟨G, _, by rw [pairs_length, ← hn]; exact W, fun H1 r1 M1 e S1 => ⟨hG _ _ _ e S1, fun i v H2 hi y => ?_⟩⟩
  rw [pairs_length] at hi
  obtain ⟨T, x, y, rfl, hT, rfl, e1, e2⟩ := y
  have h1 : as[i]? = some as[i] := List.getElem?_eq_getElem (by omega)
  have h2 : bs[i]? = some bs[i] := List.getElem?_eq_getElem (by omega)
  refine ⟨.tup [as[i], bs[i]], pairs_get h1 h2, ext_new S1 hT, sim_new S1 hT, T, [x, y], rfl, .of upd_same, ?_⟩
  have st : Stay H1 r1 (upd H1 T (.tup [x, y])) r1 := stay_new hT
  exact ⟨x, [y], rfl, (hx _ _ _ i x _ e e1 h1).stay st, y, [], rfl, (hy _ _ _ i y _ e e2 h2).stay st, rfl⟩
def nums (n : Nat) : List D := (List.range n).map fun i => .int ((i : Nat) : Int)
theorem nums_length (n : Nat) : (nums n).length = n := by simp [nums]
theorem iterD_enumS {x : Str} (S : Sim K H r M) : IterD K (Iek x) H r M (pairs (nums (sgn x).length) (sgn x)) := by
  have W : Walk (Iek x) x.cps.size (fun _ => True) (YPair (fun i => some (.int (i : Nat))) (fun i => (x.cps[i]?).map fun c => .str ⟨#[c]⟩)) :=
    ⟨fun _ _ hi _ => hi, fun _ _ => Nat.le_refl _, fun i H v H' _ _ y => by
      obtain ⟨T, c, h1, h2, h3, h4⟩ := y
      exact ⟨T, .int (i : Nat), .str ⟨#[c]⟩, h1, h2, h3, rfl, by simp [h4]⟩⟩
  refine iterD_pair W (by rw [nums_length, sgn_length]; simp) S (fun _ _ _ _ _ => trivial) (fun H1 r1 M1 i v a _ e1 e2 => ?_) fun H1 r1 M1 i v a _ e1 e2 => ?_
  · cases e1
    by_cases hi : i < (sgn x).length
    · simp [nums, hi] at e2
      subst e2
      exact rfl
    · simp [nums, hi] at e2
  · cases q : x.cps[i]? with
    | none => rw [q] at e1; cases e1
    | some c =>
      rw [q] at e1
      cases e1
      rw [sgn_get q] at e2
      cases e2
      exact rfl
theorem iterD_enumL {a : Addr} {vs : List V} {ds : List D} (S : Sim K H r M) (hq : ∀ H1 r1 M1, Ext H r M H1 r1 M1 → SqL K H1 a vs) (q : Reps K H r ds vs) : IterD K (Ite K a) H r M (pairs (nums ds.length) ds) := by
  refine iterD_pair walk_enum (by rw [nums_length, q.length]; simp) S (fun _ _ _ e _ => hq _ _ _ e) (fun H1 r1 M1 i v a _ e1 e2 => ?_) fun H1 r1 M1 i v a e e1 e2 => ?_
  · cases e1
    by_cases hi : i < ds.length
    · simp [nums, hi] at e2
      subst e2
      exact rfl
    · simp [nums, hi] at e2
  · obtain ⟨v', e3, q3⟩ := (q.ext S e).get e2
    rw [e1] at e3
    cases e3
    exact q3
theorem walk_zipT {a b : Addr} {xs ys : List V} {n : Nat} (hn : n = min xs.length ys.length) : Walk (RZ.ItzT K a b) n (fun H => SqT K H a xs ∧ SqT K H b ys) (YPair (fun i => xs[i]?) (fun i => ys[i]?)) := by
  subst hn
  refine ⟨fun i _ hi q => ⟨xs, ys, xs[i]'(by omega), ys[i]'(by omega), q.1, q.2, List.getElem?_eq_getElem (by omega), List.getElem?_eq_getElem (by omega)⟩, fun _ q => ⟨xs, ys, q.1, q.2, by omega⟩, fun i H v H' _ q y => ?_⟩
  obtain ⟨T, x, z, h1, h2, h3, h4, h5⟩ := y
  exact ⟨T, x, z, h1, h2, h3, h4 xs q.1, h5 ys q.2⟩
theorem iterD_zipT {a b : Addr} {xs ys : List V} {as bs : List D} (S : Sim K H r M) (h1 : SqT K H a xs) (h2 : SqT K H b ys) (q1 : Reps K H r as xs) (q2 : Reps K H r bs ys) : IterD K (RZ.ItzT K a b) H r M (pairs as bs) :=
  iterD_pair (walk_zipT rfl) (by rw [q1.length, q2.length]) S (fun _ _ _ e _ => ⟨(e.stay S).sqt h1, (e.stay S).sqt h2⟩)
    (fun H1 r1 M1 i v a e e1 e2 => let ⟨v', e3, q3⟩ := (q1.ext S e).get e2; by rw [e1] at e3; cases e3; exact q3) fun H1 r1 M1 i v a e e1 e2 => let ⟨v', e3, q3⟩ := (q2.ext S e).get e2; by rw [e1] at e3; cases e3; exact q3
theorem iterD_zipL {a b : Addr} {xs ys : List V} {as bs : List D} (S : Sim K H r M) (h1 : ∀ H1 r1 M1, Ext H r M H1 r1 M1 → SqL K H1 a xs) (h2 : ∀ H1 r1 M1, Ext H r M H1 r1 M1 → SqL K H1 b ys) (q1 : Reps K H r as xs) (q2 : Reps K H r bs ys) : IterD K (Itz K a b) H r M (pairs as bs) :=
  iterD_pair (walk_zip rfl) (by rw [q1.length, q2.length]) S (fun _ _ _ e _ => ⟨h1 _ _ _ e, h2 _ _ _ e⟩)
    (fun H1 r1 M1 i v a e e1 e2 => let ⟨v', e3, q3⟩ := (q1.ext S e).get e2; by rw [e1] at e3; cases e3; exact q3) fun H1 r1 M1 i v a e e1 e2 => let ⟨v', e3, q3⟩ := (q2.ext S e).get e2; by rw [e1] at e3; cases e3; exact q3
/-- what may be walked as a list lies still -/
theorem itL_rep {d : D} {ds : List D} {v : V} (S : Sim K H r M) (h : Rep K H r d v) (e : itL d M = .ok ds M1) : M1 = M ∧ ∃ a vs, v = .ref a ∧ (∀ H1 r1 M1, Ext H r M H1 r1 M1 → SqL K H1 a vs) ∧ Reps K H r ds vs := by
  cases d with
  | lst es =>
    cases e
    obtain ⟨a, vs, rfl, h1, h2⟩ := h
    exact ⟨rfl, a, vs, rfl, fun _ _ _ x => ((x.stay S).fzl h1).sql, h2⟩
  | scr es =>
    cases e
    obtain ⟨a, vs, rfl, h1, h2⟩ := h
    exact ⟨rfl, a, vs, rfl, fun _ _ _ x => ((x.stay S).scl h1).sql, h2⟩
  | _ => cases e
end

/-! ### rules of iterables -/
def iSeq (k : D → Mem → Res (List D)) (a : Fe) : Env → Mem → Res (List D) := fun δ => bnd (a δ) k
def fRng : List D → Mem → Res (List D)
  | [.int j], M => if j.natAbs < 2 ^ 62 then .ok (rng 0 j.toNat) M else .bad
  | [.int i, .int j], M => if i.natAbs < 2 ^ 62 ∧ j.natAbs < 2 ^ 62 then .ok (rng i (j - i).toNat) M else .bad
  | _, _ => .bad
def fEnu : List D → Mem → Res (List D)
  | [.str x], M => .ok (pairs (nums (sgn x).length) (sgn x)) M
  | [d], M => bnd (itL d) (fun ds => ret (pairs (nums ds.length) ds)) M
  | _, _ => .bad
def fZip : List D → Mem → Res (List D)
  | [.tup a, .tup b], M => .ok (pairs a b) M
  | [x, y], M => bnd (itL x) (fun a => bnd (itL y) (fun b => ret (pairs a b))) M
  | _, _ => .bad
def iArg (k : List D → Mem → Res (List D)) (l : Fl) : Env → Mem → Res (List D) := fun δ => bnd (l δ) k
section
variable {X : Cx} {Z : ZS} {tg e a b : Expr} {fa : Fe} {fl : Fl} {p pos : Pos}
theorem i_list (he : PE X e (tM X.K Z fa)) : PI X tg e (tI X.K Z (iSeq itL fa)) :=
  PI.cons (pi_list he) fun σ H R ⟨δ, r, M, E, S, h⟩ => ⟨δ, r, M, E, S, (AftI.bind S h).imp fun v H1 ⟨d1, M1, r1, e1, x1, S1, q1, w⟩ => by
    cases f : itL d1 M1 with
    | bad => rw [f] at w; exact w.elim
    | err e M2 => cases d1 <;> cases f
    | ok ds M2 =>
      obtain ⟨rfl, a, vs, rfl, h2, q2⟩ := itL_rep S1 q1 f
      rw [f] at w
      exact ⟨a, rfl, ⟨vs, h2 _ _ _ Ext.refl⟩, w _ H1 r1 Ext.refl S1 (iterD_list S1 h2 q2)⟩⟩
theorem i_tup (he : PE X e (tM X.K Z fa)) : PI X tg e (tI X.K Z (iSeq itT fa)) :=
  PI.cons (pi_tup he) fun σ H R ⟨δ, r, M, E, S, h⟩ => ⟨δ, r, M, E, S, (AftI.bind S h).imp fun v H1 ⟨d1, M1, r1, e1, x1, S1, q1, w⟩ => by
    cases d1 with
    | tup ds =>
      obtain ⟨a, vs, rfl, h2, q2⟩ := q1
      exact ⟨a, rfl, ⟨vs, h2⟩, w _ H1 r1 Ext.refl S1 (iterD_tup S1 h2 q2)⟩
    | _ => exact False.elim w⟩
theorem i_str (he : PE X e (tM X.K Z fa)) : PI X tg e (tI X.K Z (iSeq itS fa)) :=
  PI.cons (pi_str he) fun σ H R ⟨δ, r, M, E, S, h⟩ => ⟨δ, r, M, E, S, (AftI.bind S h).imp fun v H1 ⟨d1, M1, r1, e1, x1, S1, q1, w⟩ => by
    cases d1 with
    | str x => cases q1; exact ⟨x, rfl, w _ H1 r1 Ext.refl S1 (iterD_str S1)⟩
    | _ => exact False.elim w⟩
theorem reps_int1 {K : PySem.W.Frag} {H : Hp} {r : List Addr} {vs : List V} {ds : List D} (q : Reps K H r ds vs) (h : ds.length = 1) : ∃ d v, ds = [d] ∧ vs = [v] ∧ Rep K H r d v := by
  cases ds with
  | nil => cases h
  | cons d ds =>
    cases ds with
    | cons _ _ => simp at h
    | nil =>
      obtain ⟨v, ws, rfl, h1, h2⟩ := q
      cases h2
      exact ⟨d, v, rfl, rfl, h1⟩
theorem reps_2 {K : PySem.W.Frag} {H : Hp} {r : List Addr} {vs : List V} {ds : List D} (q : Reps K H r ds vs) (h : ds.length = 2) : ∃ d e v w, ds = [d, e] ∧ vs = [v, w] ∧ Rep K H r d v ∧ Rep K H r e w := by
  match ds, h with
  | [d, e], _ =>
    obtain ⟨v, ws, rfl, h1, v2, ws2, rfl, h2, h3⟩ := q
    cases h3
    exact ⟨d, e, v, v2, rfl, rfl, h1, h2⟩
/-- range of one part -/
def fRng1 : List D → Mem → Res (List D) := fun l M => if l.length = 1 then fRng l M else .bad
def fRng2 : List D → Mem → Res (List D) := fun l M => if l.length = 2 then fRng l M else .bad
theorem i_range1 (hg : Gl X "range") (hm : X.mg "range" = none) (ha : PA X [a] (tL X.K Z fl)) (hs : starEach [a] X.env = [(false, eval a X.env)]) : PI X tg (.Call (.Name "range" p) [a] [] pos) (tI X.K Z (iArg fRng1 fl)) :=
  PI.cons (pi_range1 hg hm ha hs) fun σ H R ⟨δ, r, M, E, S, h⟩ => ⟨δ, r, M, E, S, (AftI.bindL S h).imp fun v H1 ⟨d1, M1, r1, e1, x1, S1, q1, w⟩ => by
    by_cases hl : d1.length = 1
    · obtain ⟨d, v, rfl, rfl, q2⟩ := reps_int1 q1 hl
      replace w : AftI X.K (Z σ) H1 r1 M1 (fRng [d] M1) R := by simpa [fRng1] using w
      cases d with
      | int j =>
        cases q2
        replace w : AftI X.K (Z σ) H1 r1 M1 (if j.natAbs < 2 ^ 62 then .ok (rng 0 j.toNat) M1 else .bad) R := w
        by_cases hj : j.natAbs < 2 ^ 62
        · rw [if_pos hj] at w
          exact ⟨j, rfl, by omega, by omega, w _ H1 r1 Ext.refl S1 (iterD_range S1)⟩
        · rw [if_neg hj] at w; exact False.elim w
      | _ => exact False.elim w
    · unfold fRng1 at w
      rw [if_neg hl] at w; exact False.elim w⟩
theorem i_range2 (hg : Gl X "range") (hm : X.mg "range" = none) (ha : PA X [a, b] (tL X.K Z fl)) (hs : starEach [a, b] X.env = [(false, eval a X.env), (false, eval b X.env)]) (hs2 : starEach [b] X.env = [(false, eval b X.env)]) : PI X tg (.Call (.Name "range" p) [a, b] [] pos) (tI X.K Z (iArg fRng2 fl)) :=
  PI.cons (pi_range2 hg hm ha hs hs2) fun σ H R ⟨δ, r, M, E, S, h⟩ => ⟨δ, r, M, E, S, (AftI.bindL S h).imp fun v H1 ⟨d1, M1, r1, e1, x1, S1, q1, w⟩ => by
    by_cases hl : d1.length = 2
    · obtain ⟨d, d', v, v', rfl, rfl, q2, q3⟩ := reps_2 q1 hl
      replace w : AftI X.K (Z σ) H1 r1 M1 (fRng [d, d'] M1) R := by simpa [fRng2] using w
      cases d with
      | int i =>
        cases d' with
        | int j =>
          cases q2
          cases q3
          replace w : AftI X.K (Z σ) H1 r1 M1 (if i.natAbs < 2 ^ 62 ∧ j.natAbs < 2 ^ 62 then .ok (rng i (j - i).toNat) M1 else .bad) R := w
          by_cases hj : i.natAbs < 2 ^ 62 ∧ j.natAbs < 2 ^ 62
          · rw [if_pos hj] at w
            exact ⟨i, j, rfl, ⟨by omega, by omega, by omega, by omega⟩, w _ H1 r1 Ext.refl S1 (iterD_range S1)⟩
          · rw [if_neg hj] at w; exact False.elim w
        | _ => exact False.elim w
      | _ => cases d' <;> exact False.elim w
    · unfold fRng2 at w
      rw [if_neg hl] at w; exact False.elim w⟩
/-- range with a step -/
def rngC (lo c : Int) (n : Nat) : List D := (List.range n).map fun k => .int (lo + (k : Nat) * c)
def fRng3 : List D → Mem → Res (List D)
  | [.int i, .int j, .int c], M => if c ≠ 0 ∧ c.natAbs < 1073741824 ∧ Builtin.Range.small i j c = true ∧ 0 ≤ Builtin.Range.rangeSize i j c then .ok (rngC i c (Builtin.Range.rangeSize i j c).toNat) M else .bad
  | _, _ => .bad
theorem iterD_rangeC {K : PySem.W.Frag} {H : Hp} {r : List Addr} {M : Mem} {lo c : Int} {n : Nat} (S : Sim K H r M) : IterD K (Itc lo c n) H r M (rngC lo c n) := by
  refine ⟨fun _ => True, _, by unfold rngC; rw [List.length_map, List.length_range]; exact walk_rangeC, fun H1 r1 M1 e S1 => ⟨trivial, fun i v H2 hi y => ?_⟩⟩
  obtain ⟨e2, rfl⟩ := y
  subst e2
  have hi' : i < n := by simpa [rngC] using hi
  exact ⟨.int (lo + (i : Nat) * c), by simp [rngC, hi'], Ext.refl, S1, rfl⟩
theorem reps_c3 {K : PySem.W.Frag} {H : Hp} {r : List Addr} {vs : List V} {i j c : Int} (q : Reps K H r [.int i, .int j, .int c] vs) : vs = [.int i, .int j, .int c] := by
  obtain ⟨_, _, rfl, rfl, _, _, rfl, rfl, _, _, rfl, rfl, h⟩ := q
  cases h
  rfl
theorem i_range3 {c : Expr} (hg : Gl X "range") (hm : X.mg "range" = none) (ha : PA X [a, b, c] (tL X.K Z fl)) (hs : starEach [a, b, c] X.env = (false, eval a X.env) :: starEach [b, c] X.env) (hpl : (backTo pos (starEach [b, c] X.env)).any (·.1) = false) : PI X tg (.Call (.Name "range" p) [a, b, c] [] pos) (tI X.K Z (iArg fRng3 fl)) :=
  PI.cons (pi_range3 hg hm ha hs hpl) fun σ H R ⟨δ, r, M, E, S, h⟩ => ⟨δ, r, M, E, S, (AftI.bindL S h).imp fun v H1 ⟨d1, M1, r1, e1, x1, S1, q1, w⟩ => by
    unfold fRng3 at w
    split at w
    · rename_i i j c
      cases reps_c3 q1
      by_cases hc : c ≠ 0 ∧ c.natAbs < 1073741824 ∧ Builtin.Range.small i j c = true ∧ 0 ≤ Builtin.Range.rangeSize i j c
      · rw [if_pos hc] at w
        exact ⟨i, j, c, _, rfl, ⟨hc.1, hc.2.1, hc.2.2.1, (Int.toNat_of_nonneg hc.2.2.2).symm⟩, w _ H1 r1 Ext.refl S1 (iterD_rangeC S1)⟩
      · rw [if_neg hc] at w; exact False.elim w
    · exact False.elim w⟩
variable {elts : List Expr} {kk : Nat} {tpos : Pos}
/-- enumerate of a text, of a list -/
def fEnu1 : List D → Mem → Res (List D) := fun l M => if l.length = 1 then fEnu l M else .bad
theorem i_enum (hg : Gl X "enumerate") (hm : X.mg "enumerate" = none) (ha : PA X [a] (tL X.K Z fl)) (hs : starEach [a] X.env = [(false, eval a X.env)]) : PI X (.Tuple elts kk tpos) (.Call (.Name "enumerate" p) [a] [] pos) (tI X.K Z (iArg fEnu1 fl)) := by
  refine ⟨fun pins s σ H R I ⟨δ, r, M, E, S, h⟩ => ?_⟩
  refine Call_ (ld_blt I hg hm boot_enumerate (PyProof.Rows.callWith_type1 (thn (ha.run pos pins s σ H _ I ⟨δ, r, M, E, S, AftI.bindL S h⟩) fun us s1 ⟨vs, H1, I1, rr, d1, M1, r1, e1, x1, S1, q1, w⟩ => ?_) hs rfl))
  by_cases hl : d1.length = 1
  · obtain ⟨d, v, rfl, rfl, q2⟩ := reps_int1 q1 hl
    obtain ⟨u, rfl, ru⟩ := Vals.one rr
    replace w : AftI X.K (Z σ) H1 r1 M1 (fEnu [d] M1) R := by simpa [fEnu1] using w
    have lst : ∀ ds, itL d M1 = .ok ds M1 → AftI X.K (Z σ) H1 r1 M1 (.ok (pairs (nums ds.length) ds) M1) R → wpAny (model X.prog X.w) X.A (call (.type "enumerate") [u]) (fun v s1 => wpAny (model X.prog X.w) X.A (pyIter v) (PIE X pins σ (.Tuple elts kk tpos) R) X.xe s1) X.xe s1 := fun ds f w => by
      obtain ⟨_, a, vs, rfl, h2, q3⟩ := itL_rep S1 q2 f
      cases ru
      obtain ⟨its, rv, p', hz⟩ := I1.list (h2 _ _ _ Ext.refl)
      refine call_enumerate_list p'.isList fun h' he hit hsz hk => wpAny_pyIter_enum he ?_
      have I2 : Inv X pins σ H1 { s1 with heap := h' } := I1.kept (t' := s1.toks) hk
      refine ⟨s1.heap.objs.size + 1, [s1.heap.objs.size + 1, s1.heap.objs.size], _, _, H1, rfl, I2, turn_enum a (s1.heap.objs.size + 1) s1.heap.objs.size, ⟨⟨.none, he⟩, hit, Nat.succ_ne_self _⟩, fun b hb => ?_, w _ H1 r1 Ext.refl S1 (iterD_enumL S1 h2 q3)⟩
      have hle : s1.heap.objs.size ≤ b := by
        rcases List.mem_cons.mp hb with z | z
        · rw [z]; exact Nat.le_add_right _ _
        · rw [List.mem_singleton.mp z]; exact Nat.le_refl _
      exact I1.fpOk hle (I1.hok.fresh hle)
    cases d with
    | str x =>
      cases q2
      obtain ⟨t, rfl⟩ := ru
      exact pi_enumK I1 (w _ H1 r1 Ext.refl S1 (iterD_enumS S1))
    | lst ds => exact lst ds rfl w
    | scr ds => exact lst ds rfl w
    | _ => exact False.elim w
  · unfold fEnu1 at w
    rw [if_neg hl] at w; exact False.elim w
def fZip2 : List D → Mem → Res (List D) := fun l M => if l.length = 2 then fZip l M else .bad
theorem itL_keep {d : D} {M M1 : Mem} {ds : List D} (e : itL d M = .ok ds M1) : M1 = M ∧ ∀ M', itL d M' = .ok ds M' := by
  cases d <;> cases e <;> exact ⟨rfl, fun _ => rfl⟩
theorem i_zip (hg : Gl X "zip") (hm : X.mg "zip" = none) (ha : PA X [a, b] (tL X.K Z fl)) (hs : starEach [a, b] X.env = (false, eval a X.env) :: starEach [b] X.env) (hpl : (backTo pos (starEach [b] X.env)).any (·.1) = false) :
    PI X (.Tuple elts kk tpos) (.Call (.Name "zip" p) [a, b] [] pos) (tI X.K Z (iArg fZip2 fl)) :=
  PI.cons (RZ.pi_zipA hg hm ha hs hpl) fun σ H R ⟨δ, r, M, E, S, h⟩ => ⟨δ, r, M, E, S, (AftI.bindL S h).imp fun v H1 ⟨d1, M1, r1, e1, x1, S1, q1, w⟩ => by
    by_cases hl : d1.length = 2
    · obtain ⟨d, d', v, v', rfl, rfl, q2, q3⟩ := reps_2 q1 hl
      replace w : AftI X.K (Z σ) H1 r1 M1 (fZip [d, d'] M1) R := by simpa [fZip2] using w
      have lst : ∀ w : AftI X.K (Z σ) H1 r1 M1 (bnd (itL d) (fun a => bnd (itL d') (fun b => ret (pairs a b))) M1) R, ∃ a b xs ys, [v, v'] = [V.ref a, V.ref b] ∧ SqL X.K H1 a xs ∧ SqL X.K H1 b ys ∧ R (Itz X.K a b) H1 := fun w => by
        unfold bnd at w
        cases f : itL d M1 with
        | bad => rw [f] at w; exact w.elim
        | err e M2 => cases d <;> cases f
        | ok ds M2 =>
          obtain ⟨rfl, a, vs, rfl, h2, q4⟩ := itL_rep S1 q2 f
          rw [f] at w
          cases f' : itL d' M2 with
          | bad => simp only [f'] at w; exact w.elim
          | err e M2 => cases d' <;> cases f'
          | ok ds' M3 =>
            obtain ⟨rfl, a', vs', rfl, h2', q4'⟩ := itL_rep S1 q3 f'
            simp only [f'] at w
            exact ⟨a, a', vs, vs', rfl, h2 _ _ _ Ext.refl, h2' _ _ _ Ext.refl, w _ H1 r1 Ext.refl S1 (iterD_zipL S1 h2 h2' q4 q4')⟩
      have go : ∀ w : AftI X.K (Z σ) H1 r1 M1 (bnd (itL d) (fun a => bnd (itL d') (fun b => ret (pairs a b))) M1) R, ∃ a b xs ys, [v, v'] = [V.ref a, V.ref b] ∧ ((SqL X.K H1 a xs ∧ SqL X.K H1 b ys ∧ R (Itz X.K a b) H1) ∨ (SqT X.K H1 a xs ∧ SqT X.K H1 b ys ∧ R (RZ.ItzT X.K a b) H1)) := fun w => by
        obtain ⟨a, b, xs, ys, z1, z2, z3, z4⟩ := lst w
        exact ⟨a, b, xs, ys, z1, .inl ⟨z2, z3, z4⟩⟩
      cases d with
      | tup ds =>
        cases d' with
        | tup ds' =>
          obtain ⟨a, vs, rfl, h2, q4⟩ := q2
          obtain ⟨a', vs', rfl, h2', q4'⟩ := q3
          exact ⟨a, a', vs, vs', rfl, .inr ⟨h2, h2', w _ H1 r1 Ext.refl S1 (iterD_zipT S1 h2 h2' q4 q4')⟩⟩
        | _ => exact go w
      | _ => exact go (by cases d' <;> exact w)
    · unfold fZip2 at w
      rw [if_neg hl] at w; exact False.elim w⟩
end
end Wn
end

section
set_option Elab.async false
set_option linter.all false
set_option maxRecDepth 100000
set_option maxHeartbeats 4000000
namespace Wn
open PySem PySem.Spec PyProof.Rows L2

/-! ### a list taken apart -/
section
variable {prog : Program} {w : World} {A : Around} {E : Value → Shared → Prop} {s : Shared}
theorem draw_lst {it l : Addr} {items : Array Value} (hne : l ≠ it) : ∀ (n i : Nat) (s : Shared) (Q : List Value → Shared → Prop), s.heap.IsListIter it l i → s.heap.IsList l items → i + n ≤ items.size →
    (∀ h', h'.IsListIter it l (i + n) → Heap.SameBut it s.heap h' → Q ((items.toList.drop i).take n) { s with heap := h' }) → wpAny (model prog w) A (draw (.ref it) n) Q E s
  | 0, i, s, Q, hit, _, _, hQ => by
    show wpAny _ _ (pure []) Q E s
    refine wpAny_pure ?_
    have z := hQ s.heap hit (Heap.SameBut.refl ..)
    rw [List.take_zero] at z
    exact z
  | n + 1, i, s, Q, hit, hl, hle, hQ => by
    have hlt : i < items.size := by omega
    have hx : items[i]? = some items[i] := by rw [Array.getElem?_eq_getElem hlt]
    show wpAny _ _ (pyNext (.ref it) >>= _) Q E s
    refine wpAny_bind (wpAny_pyNext_list_item hit hl hx fun h1 it1 sb1 => ?_)
    refine wpAny_bind (wpAny_holding (draw_lst hne n (i + 1) _ _ it1 (hl.extBut sb1.extBut hne) (by omega) fun h2 it2 sb2 => wpAny_pure ?_))
    have e : i + 1 + n = i + (n + 1) := by omega
    rw [e] at it2
    have z := hQ h2 it2 (sb1.trans sb2)
    have hd : items.toList.drop i = items[i] :: items.toList.drop (i + 1) := by rw [List.drop_eq_getElem_cons (by simpa using hlt), Array.getElem_toList]
    rw [hd, List.take_succ_cons] at z
    exact z
theorem unpackL {l : Addr} {items : Array Value} {targets : List (Bool × (Value → Sem Unit))} {Q : Unit → Shared → Prop} (hh : A.handled = none) (hl : s.heap.IsList l items)
    (hn : targets.length = items.size) (hstar : targets.findIdx? (·.1) = none)
    (h : ∀ h', Heap.ExtBut s.heap.objs.size s.heap h' → wpAny (model prog w) A (assignInOrder (targets.map (·.2)) items.toList) Q E { s with heap := h' }) :
    wpAny (model prog w) A (unpack (.ref l) targets) Q E s := by
  have hne : l ≠ s.heap.objs.size := by obtain ⟨o, ho, _⟩ := hl; exact Nat.ne_of_lt (Heap.lt_size ho)
  unfold unpack
  rw [hn, hstar]
  refine wpAny_bind (wpAny_holding ?_)
  unfold unpackItems notIterableAtAll
  refine wpAny_bind (wpAny_bind (wpAny_specialOf hl.typeIs slot_list_iter.lookup (wpAny_pure ?_)))
  rw [if_neg (by simp)]
  refine wpAny_bind (wpAny_holding (wpAny_pyIter_list hl ?_))
  refine wpAny_bind (wpAny_holding (draw_lst hne items.size 0 _ _ ⟨_, Heap.get?_push_size _ rfl, rfl, rfl⟩ (hl.push _) (by omega) fun h1 it1 sb1 => ?_))
  have hall : (items.toList.drop 0).take items.size = items.toList := by
    rw [List.drop_zero]; exact List.take_of_length_le (by simp)
  rw [hall, if_neg (by simp)]
  have hl1 : h1.IsList l items := (hl.push _).extBut sb1.extBut hne
  refine wpAny_bind (wpAny_holding (wpAny_pyNext_list_end hh it1 hl1 (by simp) fun h2 e2 => ?_))
  rw [if_neg (by simp)]
  exact wpAny_pure (h h2 fun b o hb e => e2 b o hb (sb1.extBut b o hb (Heap.get?_push_of_some _ e)))
end

/-! ### targets -/
mutual
inductive Tg where
  | nm (i : Nat) | tp (l : TgL)
inductive TgL where
  | nil | cons (t : Tg) (l : TgL)
end
mutual
def Tg.sl : Tg → List Nat
  | .nm i => [i]
  | .tp l => l.sl
def TgL.sl : TgL → List Nat
  | .nil => []
  | .cons t l => t.sl ++ l.sl
end
mutual
/-- a value given to a target -/
def Tg.put (M : Mem) : Tg → D → Env → Option Env
  | .nm i, d, δ => some (δ.set i (some d))
  | .tp l, .tup ds, δ => l.puts M ds δ
  | .tp l, d, δ => match lstX M d with
    | some ds => l.puts M ds δ
    | none => none
def TgL.puts (M : Mem) : TgL → List D → Env → Option Env
  | .nil, [], δ => some δ
  | .cons t l, d :: ds, δ => match t.put M d δ with
    | some δ1 => l.puts M ds δ1
    | none => none
  | _, _, _ => none
end
/-- the slots outside are the same -/
structure Agr (vs : List Nat) (σ σ' : St) : Prop where
  len : σ'.length = σ.length
  same : ∀ i, i ∉ vs → σ'[i]? = σ[i]?
theorem Agr.refl {vs : List Nat} {σ : St} : Agr vs σ σ := ⟨rfl, fun _ _ => rfl⟩
theorem Agr.trans {vs ws : List Nat} {σ σ1 σ2 : St} (a : Agr vs σ σ1) (b : Agr ws σ1 σ2) : Agr (vs ++ ws) σ σ2 :=
  ⟨b.len.trans a.len, fun i h => (b.same i fun z => h (List.mem_append_right _ z)).trans (a.same i fun z => h (List.mem_append_left _ z))⟩
theorem wipe_get {σ : St} {i : Nat} : ∀ {vs : List Nat}, (wipe σ vs)[i]? = if i ∈ vs then (σ[i]?).map fun _ => none else σ[i]?
  | [] => by simp [wipe]
  | v :: vs => by
    unfold wipe
    rw [List.getElem?_set, wipe_get (vs := vs), wipe_length]
    by_cases hv : v = i
    · subst hv
      by_cases hl : v < σ.length
      · simp [hl]
      · simp [hl]
    · have hv' : ¬ i = v := fun z => hv z.symm
      simp [hv, hv']
theorem Agr.wipe {vs ws : List Nat} {σ σ' : St} (a : Agr vs σ σ') (h : ∀ i ∈ vs, i ∈ ws) : L2.wipe σ' ws = L2.wipe σ ws := by
  refine List.ext_getElem? fun i => ?_
  rw [wipe_get, wipe_get]
  by_cases hi : i ∈ ws
  · rw [if_pos hi, if_pos hi]
    by_cases hl : i < σ.length
    · rw [List.getElem?_eq_getElem hl, List.getElem?_eq_getElem (by rw [a.len]; exact hl)]; rfl
    · have hl2 := a.len
      rw [List.getElem?_eq_none (l := σ) (by omega), List.getElem?_eq_none (l := σ') (by omega)]
  · rw [if_neg hi, if_neg hi]
    exact a.same i fun z => hi (h i z)
/-- what a target wants -/
def tG (K : PySem.W.Frag) (t : Tg) : TG := fun v σ H Q => ∃ δ r M d, EnvRep K H r σ δ ∧ Sim K H r M ∧ Rep K H r d v ∧ ∃ δ', t.put M d δ = some δ' ∧ ∀ σ', EnvRep K H r σ' δ' → Agr t.sl σ σ' → Q σ' H
def tGs (K : PySem.W.Frag) (t : TgL) : TGs := fun v σ H Q => ∃ δ r M d, EnvRep K H r σ δ ∧ Sim K H r M ∧ Reps K H r d v ∧ ∃ δ', t.puts M d δ = some δ' ∧ ∀ σ', EnvRep K H r σ' δ' → Agr t.sl σ σ' → Q σ' H
theorem PG.cons {X : Cx} {e : Expr} {t t' : TG} (h : PG X e t) (k : ∀ v σ H Q, t' v σ H Q → t v σ H Q) : PG X e t' := ⟨fun pins s σ H v u Q I r q => h.run pins s σ H v u Q I r (k v σ H Q q)⟩
theorem PGs.cons {X : Cx} {e : List Expr} {t t' : TGs} (h : PGs X e t) (k : ∀ v σ H Q, t' v σ H Q → t v σ H Q) : PGs X e t' := ⟨fun pins s σ H v u Q I r q => h.run pins s σ H v u Q I r (k v σ H Q q)⟩
section
variable {X : Cx} {e : Expr} {es : List Expr} {pos : Pos}
theorem g_name {i : Nat} {x : Str} (hN : X.N.Nodup) (hi : X.N[i]? = some x) (hx : Loc X.env.scope x) (hf : X.fn x = true ∨ X.env.scope.names.lookup x = some .local) : PG X (.Name x pos) (tG X.K (.nm i)) :=
  PG.cons (pg_name hN hi hx hf) fun v σ H Q ⟨δ, r, M, d, E, S, q, δ', e, h⟩ => by
    cases e
    exact h _ (E.set q) ⟨by simp, fun j hj => by rw [List.getElem?_set_ne]; exact fun z => hj (by simp [Tg.sl, z])⟩
theorem g_nil : PGs X [] (tGs X.K .nil) := PGs.cons pgs_nil fun v σ H Q ⟨δ, r, M, d, E, S, q, δ', e, h⟩ => by
  cases d with
  | nil => cases q; cases e; exact ⟨rfl, h σ E Agr.refl⟩
  | cons _ _ => cases e
theorem g_cons {t : Tg} {l : TgL} (h1 : PG X e (tG X.K t)) (h2 : PGs X es (tGs X.K l)) (hs : (assignEach (e :: es) X.env).map (·.2) = assign e X.env :: (assignEach es X.env).map (·.2)) : PGs X (e :: es) (tGs X.K (.cons t l)) :=
  PGs.cons (pgs_cons h1 h2 hs) fun v σ H Q ⟨δ, r, M, d, E, S, q, δ', e, h⟩ => by
    cases d with
    | nil => cases e
    | cons d ds =>
      obtain ⟨v, ws, rfl, q1, q2⟩ := q
      replace e : (match t.put M d δ with | some δ1 => l.puts M ds δ1 | none => none) = some δ' := e
      cases e1 : t.put M d δ with
      | none => rw [e1] at e; cases e
      | some δ1 =>
        rw [e1] at e
        exact ⟨v, ws, rfl, δ, r, M, d, E, S, q1, δ1, e1, fun σ1 E1 a1 => ⟨δ1, r, M, ds, E1, S, q2, δ', e, fun σ2 E2 a2 => h σ2 E2 (a1.trans a2)⟩⟩
theorem puts_len {M : Mem} : ∀ {l : TgL} {ds : List D} {δ δ' : Env} {es : List Expr} {env : PySem.Env}, l.puts M ds δ = some δ' → ds.length = l.sl.length ∨ True := fun _ => .inr trivial
def TgL.len : TgL → Nat
  | .nil => 0
  | .cons _ l => l.len + 1
theorem TgL.puts_len {M : Mem} : ∀ {l : TgL} {ds : List D} {δ δ' : Env}, l.puts M ds δ = some δ' → ds.length = l.len
  | .nil, [], _, _, _ => rfl
  | .nil, _ :: _, _, _, e => by cases e
  | .cons _ _, [], _, _, e => by cases e
  | .cons t l, d :: ds, δ, δ', e => by
    replace e : (match t.put M d δ with | some δ1 => l.puts M ds δ1 | none => none) = some δ' := e
    cases e1 : t.put M d δ with
    | none => rw [e1] at e; cases e
    | some δ1 => rw [e1] at e; simp [TgL.len, TgL.puts_len e]
theorem g_tup {l : TgL} {k : Nat} (hc : X.calm = true) (h : PGs X es (tGs X.K l)) (hn : (assignEach es X.env).length = l.len) (hst : (assignEach es X.env).findIdx? (·.1) = none) : PG X (.Tuple es k pos) (tG X.K (.tp l)) := by
  refine ⟨fun pins s σ H v u Q I rv ⟨δ, r, M, d, E, S, q, δ', e, hw⟩ => ?_⟩
  have lst : ∀ ds, lstX M d = some ds → l.puts M ds δ = some δ' → wpAny (model X.prog X.w) X.A (assign (.Tuple es k pos) X.env u) (fun _ s' => ∃ σ' H', Inv X pins σ' H' s' ∧ Q σ' H') X.xe s := fun ds e1 e2 => by
    obtain ⟨a, vs, rfl, h1, h2⟩ := lstX_rep S q e1
    cases rv
    obtain ⟨z, its, n, r1, hl, ea⟩ := XL.at I h1
    have hlen := TgL.puts_len e2
    have h2l := h2.length
    rw [assign_Tuple]
    refine wpAny_bind (wpAny_standAt (unpackL (items := its.toArray) (I.ok.hd hc) ⟨_, ea, rfl, n, rfl⟩ (by rw [hn]; simp; omega) hst fun h' hx => ?_))
    have I1 : Inv X pins σ H { s with heap := h' } := I.kept (t' := s.toks) fun b o e => hx b o (Nat.ne_of_lt (Heap.lt_size e)) e
    exact h.run pins _ σ H vs _ Q I1 (by simpa using r1) ⟨δ, r, M, ds, E, S, h2, δ', e2, hw⟩
  cases d with
  | tup ds =>
    obtain ⟨a, vs, rfl, h1, h2⟩ := q
    have hlen := TgL.puts_len (show l.puts M ds δ = some δ' from e)
    exact (pg_tup hc h hn hst).run pins s σ H (.ref a) u Q I rv ⟨a, vs, rfl, h1, by rw [← h2.length]; exact hlen, δ, r, M, ds, E, S, h2, δ', e, hw⟩
  | lst ds => exact lst ds rfl e
  | ref n =>
    replace e : (match lstX M (.ref n) with | some ds => l.puts M ds δ | none => none) = some δ' := e
    cases e1 : lstX M (.ref n) with
    | none => rw [e1] at e; cases e
    | some ds => rw [e1] at e; exact lst ds e1 e
  | _ => cases e
end

/-! ### comprehensions -/
def wipeE (δ : Env) : List Nat → Env
  | [] => δ
  | v :: vs => (wipeE δ vs).set v none
theorem EnvRep.wipe {K : PySem.W.Frag} {H : Hp} {r : List Addr} {σ : St} {δ : Env} (E : EnvRep K H r σ δ) : ∀ vs : List Nat, EnvRep K H r (L2.wipe σ vs) (wipeE δ vs)
  | [] => E
  | v :: vs => (EnvRep.wipe E vs).unset
/-- what a comprehension walks: the turns -/
def lcGo (t : Tg) (c : Fb) (e : Fe) (δ : Env) : List D → Mem → Res (List D)
  | [], M => .ok [] M
  | d :: ds, M => match t.put M d δ with
    | none => .bad
    | some δ1 => match c δ1 M with
      | .ok true M1 => match e δ1 M1 with
        | .ok x M2 => match lcGo t c e δ ds M2 with
          | .ok xs M3 => .ok (x :: xs) M3
          | o => o
        | _ => .bad
      | .ok false M1 => lcGo t c e δ ds M1
      | _ => .bad
/-- [e for t in it if c] as a list that is never written -/
def lcRun (it : Env → Mem → Res (List D)) (t : Tg) (vs : List Nat) (c : Fb) (e : Fe) : Env → Mem → Res (List D) := fun δ => bnd (it δ) fun ds => if ds.length ≤ sizeLine then lcGo t c e (wipeE δ vs) ds else stuck
def eLc (it : Env → Mem → Res (List D)) (t : Tg) (vs : List Nat) (c : Fb) (e : Fe) : Fe := fun δ => bnd (lcRun it t vs c e δ) fun xs => ret (.lst xs)
def eLcC (it : Env → Mem → Res (List D)) (t : Tg) (vs : List Nat) (c : Fb) (e : Fe) : Fe := fun δ => bnd (lcRun it t vs c e δ) fun xs M => .ok (.ref M.length) (M ++ [.lst xs])
def bYes : Fb := fun _ => ret true
/-- a result with the items ahead of it -/
def pre (acc : List D) : Res (List D) → Res (List D)
  | .ok xs M => .ok (acc ++ xs) M
  | o => o
theorem pre_nil (m : Res (List D)) : pre [] m = m := by cases m <;> rfl
theorem pre_pre (a b : List D) (m : Res (List D)) : pre a (pre b m) = pre (a ++ b) m := by cases m <;> simp [pre]
theorem lcGo_cons (t : Tg) (c : Fb) (e : Fe) (δ : Env) (d : D) (ds : List D) (M : Mem) : lcGo t c e δ (d :: ds) M = (match t.put M d δ with
    | none => .bad
    | some δ1 => match c δ1 M with
      | .ok true M1 => match e δ1 M1 with
        | .ok x M2 => match lcGo t c e δ ds M2 with
          | .ok xs M3 => .ok (x :: xs) M3
          | o => o
        | _ => .bad
      | .ok false M1 => lcGo t c e δ ds M1
      | _ => .bad) := rfl
section
variable {K : PySem.W.Frag} {Z : ZK} {H H1 : Hp} {r r1 : List Addr} {M M1 : Mem}
theorem lcGo_noerr {t : Tg} {c : Fb} {e : Fe} {δ : Env} : ∀ {ds : List D} {M : Mem} {x : D} {M' : Mem}, lcGo t c e δ ds M ≠ .err x M'
  | [], _, _, _ => fun h => by cases h
  | d :: ds, M, x, M' => fun h => by
    unfold lcGo at h
    cases e1 : t.put M d δ with
    | none => rw [e1] at h; cases h
    | some δ1 =>
      rw [e1] at h
      cases e2 : c δ1 M with
      | ok b M1 =>
        simp only [e2] at h
        cases b with
        | true =>
          simp only at h
          cases e3 : e δ1 M1 with
          | ok y M2 =>
            simp only [e3] at h
            cases e4 : lcGo t c e δ ds M2 with
            | ok xs M3 => simp only [e4] at h; cases h
            | err z M3 => exact lcGo_noerr e4
            | bad => simp only [e4] at h; cases h
          | err y M2 => simp only [e3] at h; cases h
          | bad => simp only [e3] at h; cases h
        | false => exact lcGo_noerr h
      | err b M1 => simp only [e2] at h; cases h
      | bad => simp only [e2] at h; cases h
/-- the turns of a comprehension in the layer -/
theorem lc_turns {J : It} {t : Tg} {c : Fb} {e : Fe} {δ : Env} {σ : St} {vs : List Nat} {ds : List D} {tt : TT} {te : TE} {Da : Addr} {Qd : Hp → Prop} (E : EnvRep K H r σ δ) (S : Sim K H r M) (hJ : IterD K J H r M ds) (hz : ds.length ≤ sizeLine) (hD : H Da = none) (hv : ∀ i ∈ t.sl, i ∈ vs)
    (ht : ∀ σ H Q, Wn.tB K (fun _ _ _ _ _ => False) c σ H Q → tt σ H Q) (he : ∀ σ H Q, tM K (fun _ _ _ _ _ => False) e σ H Q → te σ H Q)
    (hnb : lcGo t c e (wipeE δ vs) ds M ≠ .bad)
    (hd : ∀ xs M' H' r' acc, lcGo t c e (wipeE δ vs) ds M = .ok xs M' → Ext H r M H' r' M' → Sim K H' r' M' → (∀ n : Nat, r'[n]? ≠ some Da) → H' Da = some (.lst acc) → Reps K H' r' xs acc → Qd H') :
    ∃ W : Nat → Nat → Hp → Prop, (∃ m, W 0 m (upd H Da (.lst []))) ∧ ∀ i m H, W i m H →
      (J.stop i H ∧ Qd H) ∨ (J.go i H ∧ ∃ Nx : Hp → Prop, (∀ H', Nx H' → ∃ m', m' < m ∧ W (i + 1) m' H') ∧ ∀ x H', J.yld i H x H' → tG K t x (L2.wipe σ vs) H' fun σ2 H2 => L2.wipe σ2 vs = L2.wipe σ vs ∧ tt σ2 H2 fun b H3 =>
        if b = true then te σ2 H3 fun y H4 => ∃ acc, H4 Da = some (.lst acc) ∧ acc.length < sizeLine ∧ Nx (upd H4 Da (.lst (acc ++ [y]))) else Nx H3) := by
  obtain ⟨G, Y, W, hY⟩ := hJ
  have E' := E.wipe vs
  have hrD : ∀ n : Nat, r[n]? ≠ some Da := fun n e => by
    obtain ⟨c, _, h3⟩ := S.here e
    obtain ⟨o, h4⟩ := h3.there
    rw [hD] at h4; cases h4
  have hww : L2.wipe (L2.wipe σ vs) vs = L2.wipe σ vs := by
    refine List.ext_getElem? fun i => ?_
    rw [wipe_get, wipe_get]
    by_cases hi : i ∈ vs
    · simp only [if_pos hi]
      cases σ[i]? <;> rfl
    · simp only [if_neg hi]
  refine lc_it W (fun i H' => ∃ r' M' accD acc, Ext H r M H' r' M' ∧ Sim K H' r' M' ∧ (∀ n : Nat, r'[n]? ≠ some Da) ∧ H' Da = some (.lst acc) ∧ Reps K H' r' accD acc ∧ acc.length ≤ i ∧ lcGo t c e (wipeE δ vs) ds M = pre accD (lcGo t c e (wipeE δ vs) (ds.drop i) M'))
    ⟨r, M, [], [], ext_new S hD, sim_new S hD, hrD, upd_same, rfl, Nat.le_refl _, by rw [pre_nil]; rfl⟩ (fun i H' hi ⟨r', M', accD, acc, x, s, _⟩ => (hY H' r' M' x s).1) (fun i x H1 H2 hi ⟨r1, M1, accD, acc, X1, S1, hr1, hD1, q1, hl1, e1⟩ y => ?_) fun H' ⟨r', M', accD, acc, X1, S1, hr1, hD1, q1, hl1, e1⟩ => ?_
  · obtain ⟨d, hdi, X2, S2, q2⟩ := (hY H1 r1 M1 X1 S1).2 i x H2 hi y
    have hdr : ds.drop i = d :: ds.drop (i + 1) := by
      obtain ⟨hi', e'⟩ := List.getElem?_eq_some_iff.mp hdi
      rw [List.drop_eq_getElem_cons hi', e']
    rw [hdr] at e1
    have X12 := X1.trans S S1 X2
    have EE : EnvRep K H2 r1 (L2.wipe σ vs) (wipeE δ vs) := E'.ext S X12
    have hD2 : H2 Da = some (.lst acc) := X2.keep Da _ hD1 fun n hn => absurd hn (hr1 n)
    have hfin : ∀ {m : Res (List D)}, lcGo t c e (wipeE δ vs) ds M = pre accD m → m ≠ .bad := fun {m} e2 z => hnb (by rw [e2, z]; rfl)
    rw [lcGo_cons] at e1
    cases f1 : t.put M1 d (wipeE δ vs) with
    | none => simp only [f1] at e1; exact absurd rfl (hfin e1)
    | some δ1 =>
      simp only [f1] at e1
      refine ⟨wipeE δ vs, r1, M1, d, EE, S2, q2, δ1, f1, fun σ2 E2 a2 => ⟨(a2.wipe hv).trans hww, ht _ _ _ ⟨δ1, r1, M1, E2, S2, ?_⟩⟩⟩
      cases f2 : c δ1 M1 with
      | bad => simp only [f2] at e1; exact absurd rfl (hfin e1)
      | err z M3 => simp only [f2] at e1; exact absurd rfl (hfin e1)
      | ok b M3 =>
        simp only [f2] at e1
        refine fun H3 r3 X3 S3 => ?_
        have X13 := X12.trans S S2 X3
        have hD3 : H3 Da = some (.lst acc) := X3.keep Da _ hD2 fun n hn => absurd hn (hr1 n)
        have hr3 : ∀ n : Nat, r3[n]? ≠ some Da := fun n z => by
          by_cases hn : n < r1.length
          · obtain ⟨tt, rfl⟩ := X3.pre
            rw [List.getElem?_append_left hn] at z
            exact hr1 n z
          · rw [X3.fresh n Da (Nat.le_of_not_lt hn) z] at hD2; cases hD2
        cases b with
        | false =>
          dsimp only
          rw [if_neg (by simp)]
          exact ⟨r3, M3, accD, acc, X13, S3, hr3, hD3, (q1.ext S1 X2).ext S2 X3, by omega, e1⟩
        | true =>
          dsimp only
          rw [if_pos rfl]
          simp only at e1
          refine he _ _ _ ⟨δ1, r3, M3, E2.ext S2 X3, S3, ?_⟩
          cases f3 : e δ1 M3 with
          | bad => simp only [f3] at e1; exact absurd rfl (hfin e1)
          | err z M4 => simp only [f3] at e1; exact absurd rfl (hfin e1)
          | ok dy M4 =>
            simp only [f3] at e1
            refine fun y H4 r4 X4 S4 q4 => ?_
            have X14 := X13.trans S S3 X4
            have hD4 : H4 Da = some (.lst acc) := X4.keep Da _ hD3 fun n hn => absurd hn (hr3 n)
            have hr4 : ∀ n : Nat, r4[n]? ≠ some Da := fun n z => by
              by_cases hn : n < r3.length
              · obtain ⟨tt, rfl⟩ := X4.pre
                rw [List.getElem?_append_left hn] at z
                exact hr3 n z
              · rw [X4.fresh n Da (Nat.le_of_not_lt hn) z] at hD3; cases hD3
            have st : Stay H4 r4 (upd H4 Da (.lst (acc ++ [y]))) r4 := stay_own (.inl ⟨acc, hD4⟩)
            refine ⟨acc, hD4, by omega, r4, M4, accD ++ [dy], acc ++ [y], X14.own hD, S4.own (.inl ⟨acc, hD4⟩) hr4, hr4, upd_same, ((((q1.ext S1 X2).ext S2 X3).ext S3 X4).append (Reps.one q4)).stay st, by simp; omega, ?_⟩
            rw [e1, ← pre_pre]
            cases lcGo t c e (wipeE δ vs) (List.drop (i + 1) ds) M4 <;> rfl
  · rw [List.drop_eq_nil_of_le (Nat.le_refl _)] at e1
    have e2 : lcGo t c e (wipeE δ vs) ds M = .ok accD M' := by rw [e1]; simp [lcGo, pre]
    exact hd accD M' H' r' acc e2 X1 S1 hr1 hD1 q1
end
/-- the comprehension's reading from the mirror's -/
theorem lc_read {K : PySem.W.Frag} {Z : ZS} {it : Env → Mem → Res (List D)} {t : Tg} {vs : List Nat} {c : Fb} {e : Fe} {tt : TT} {te : TE} {σ : St} {H : Hp} {Q : VK} {k : List D → Mem → Res D} (hv : ∀ i ∈ t.sl, i ∈ vs)
    (ht : ∀ σ H Q, Wn.tB K (fun _ _ _ _ _ => False) c σ H Q → tt σ H Q) (he : ∀ σ H Q, tM K (fun _ _ _ _ _ => False) e σ H Q → te σ H Q) {Q' : VK}
    (hq : ∀ H1 r1 M1 xs M2 H2 r2 Da acc, Sim K H1 r1 M1 → Ext H1 r1 M1 H2 r2 M2 → Sim K H2 r2 M2 → (∀ n : Nat, r2[n]? ≠ some Da) → H1 Da = none → H2 Da = some (.lst acc) → Reps K H2 r2 xs acc → Aft K (Z σ) H1 r1 M1 (k xs M2) Q' → Q (.ref Da) H2)
    (h : tM K Z (fun δ => bnd (lcRun it t vs c e δ) k) σ H Q') : tLc (tI K Z it) (tG K t) tt te vs σ H Q := by
  obtain ⟨δ, r, M, E, S, h⟩ := h
  refine ⟨δ, r, M, E, S, ?_⟩
  have h : Aft K (Z σ) H r M (bnd (bnd (it δ) fun ds => if ds.length ≤ sizeLine then lcGo t c e (wipeE δ vs) ds else stuck) k M) Q' := h
  unfold bnd at h
  cases f : it δ M with
  | bad => rw [f] at h; exact h.elim
  | err x M1 => rw [f] at h; exact fun H' r' x s => h H' r' x s
  | ok ds M1 =>
    rw [f] at h
    refine fun J H1 r1 X1 S1 hJ Da hDa => ?_
    by_cases hz : ds.length ≤ sizeLine
    · simp only [if_pos hz] at h
      refine lc_turns (Qd := fun H' => Q (.ref Da) H') (E.ext S X1) S1 hJ hz hDa hv ht he (fun z => by rw [z] at h; exact h.elim) fun xs M' H' r' acc e1 X2 S2 hr hD q => ?_
      rw [e1] at h
      refine hq H1 r1 M1 xs M' H' r' Da acc S1 X2 S2 hr hDa hD q ?_
      replace h : Aft K (Z σ) H r M (k xs M') Q' := h
      exact Aft.step S S1 X1 h
    · simp only [if_neg hz] at h; exact h.elim
/-- an abstract list that is no cell becomes one -/
theorem Aft.cel2 {K : PySem.W.Frag} {Z : ZK} {H1 H2 : Hp} {r1 r2 : List Addr} {M1 M2 : Mem} {xs : List D} {acc : List V} {Da : Addr} {Q : VK} (S1 : Sim K H1 r1 M1) (X : Ext H1 r1 M1 H2 r2 M2) (S2 : Sim K H2 r2 M2) (hr : ∀ n : Nat, r2[n]? ≠ some Da) (h1 : H1 Da = none) (h2 : H2 Da = some (.lst acc)) (q : Reps K H2 r2 xs acc)
    (h : Aft K Z H1 r1 M1 (.ok (.ref M2.length) (M2 ++ [.lst xs])) Q) : Q (.ref Da) H2 := by
  have key : ∀ {i : Nat} {a : Addr}, (r2 ++ [Da])[i]? = some a → (r2[i]? = some a) ∨ (i = r2.length ∧ a = Da) := fun {i a} e => by
    by_cases hi : i < r2.length
    · rw [List.getElem?_append_left hi] at e; exact .inl e
    · have hl := (List.getElem?_eq_some_iff.mp e).1
      rw [List.length_append, List.length_singleton] at hl
      have : i = r2.length := by omega
      subst this
      rw [List.getElem?_append_right (Nat.le_refl _)] at e
      simp at e
      exact .inr ⟨rfl, e.symm⟩
  have hs : Stay H2 r2 H2 (r2 ++ [Da]) := ⟨fun _ _ e => e, fun _ _ _ e => e, fun n a e => by rw [List.getElem?_append_left (List.getElem?_eq_some_iff.mp e).1]; exact e⟩
  refine h (.ref Da) H2 (r2 ++ [Da]) ⟨?_, X.keep, fun n b hn e => ?_, fun n e => ?_⟩ ⟨by simp [S2.len], fun i j a e1 e2 => ?_, fun n a c e1 e2 => ?_⟩ ⟨Da, rfl, by rw [← S2.len, List.getElem?_append_right (Nat.le_refl _)]; simp⟩
  · obtain ⟨t, rfl⟩ := X.pre
    exact ⟨t ++ [Da], by simp⟩
  · rcases key e with k | ⟨_, k⟩
    · exact X.fresh n b hn k
    · rw [k]; exact h1
  · have z := X.dead n e
    rw [List.getElem?_append_left (List.getElem?_eq_some_iff.mp z).1]
    exact z
  · rcases key e1 with k1 | ⟨k1, k2⟩ <;> rcases key e2 with k3 | ⟨k3, k4⟩
    · exact S2.inj i j a k1 k3
    · subst k4; exact absurd k1 (hr i)
    · subst k2; exact absurd k3 (hr j)
    · omega
  · rcases key e1 with k | ⟨k1, k2⟩
    · have hl := (List.getElem?_eq_some_iff.mp k).1
      rw [List.getElem?_append_left (by rw [← S2.len]; exact hl)] at e2
      exact (S2.cell n a c k e2).stay' hs rfl
    · subst k1 k2
      rw [List.getElem?_append_right (by rw [S2.len]; exact Nat.le_refl _), S2.len] at e2
      simp at e2
      subst e2
      exact ⟨acc, h2, q.stay hs⟩
section
variable {X : Cx} {Z : ZS} {elt tg iter : Expr} {ifs : List Expr} {scope : Scope} {own : List (Str × Nat)} {pos : Pos} {it : Env → Mem → Res (List D)} {t : Tg} {c : Fb} {e : Fe}
/-- the parts of a comprehension -/
structure LcOk (X : Cx) (Z : ZS) (elt tg iter : Expr) (ifs : List Expr) (scope : Scope) (own : List (Str × Nat)) (it : Env → Mem → Res (List D)) (t : Tg) (c : Fb) (e : Fe) : Prop where
  calm : X.calm = true
  nd : X.N.Nodup
  it : PI X tg iter (tI X.K Z it)
  blk : BlkOk X.N X.env.scope scope own
  tg : ∀ (s : Shared) (H : Hp) (C : Addr) (cl : List (Str × Addr)) (fp : List Addr), PG (X.blk s H scope (compEnvC scope cl C X.env) fp) tg (tG X.K t)
  ifs : ∀ (s : Shared) (H : Hp) (C : Addr) (cl : List (Str × Addr)) (fp : List Addr), PTs (X.blk s H scope (compEnvC scope cl C X.env) fp) ifs (Wn.tB X.K (fun _ _ _ _ _ => False) c)
  elt : ∀ (s : Shared) (H : Hp) (C : Addr) (cl : List (Str × Addr)) (fp : List Addr), PE (X.blk s H scope (compEnvC scope cl C X.env) fp) elt (tM X.K (fun _ _ _ _ _ => False) e)
  fs : ∀ x, foldedSetIterable iter X.env x = pure x
  sl : ∀ i ∈ t.sl, i ∈ own.map (·.2)
theorem r_lc (L : LcOk X Z elt tg iter ifs scope own it t c e) : PE X (.ListComp elt [⟨tg, iter, ifs, 0⟩] scope pos) (tM X.K Z (eLc it t (own.map (·.2)) c e)) := by
  refine ⟨fun pins s σ H Q I h => thn ((pe_lc L.calm L.nd L.it L.blk L.tg L.ifs L.elt L.fs).run pins s σ H (QFz Q) I (lc_read (Q' := Q) L.sl (fun _ _ _ z => z) (fun _ _ _ z => z) (fun H1 r1 M1 xs M2 H2 r2 Da acc S1 X1 S2 hr h1 h2 q w => ?_) h)) fun u s' q => EP.freeze q⟩
  refine ⟨Da, acc, rfl, h2, fun o => ?_⟩
  have st : Stay H2 r2 (upd H2 Da (.frz o (.lst acc))) r2 := stay_own (.inl ⟨acc, h2⟩)
  exact w _ _ r2 (X1.own h1) (S2.own (.inl ⟨acc, h2⟩) hr) ⟨Da, acc, rfl, ⟨o, upd_same⟩, q.stay st⟩
theorem r_lcc (L : LcOk X Z elt tg iter ifs scope own it t c e) : PE X (.ListComp elt [⟨tg, iter, ifs, 0⟩] scope pos) (tM X.K Z (eLcC it t (own.map (·.2)) c e)) :=
  PE.cons (pe_lc L.calm L.nd L.it L.blk L.tg L.ifs L.elt L.fs) fun σ H Q h => lc_read (Q' := Q) L.sl (fun _ _ _ z => z) (fun _ _ _ z => z) (fun H1 r1 M1 xs M2 H2 r2 Da acc S1 X1 S2 hr h1 h2 q w => Aft.cel2 S1 X1 S2 hr h1 h2 q w) h
end
end Wn
end

section
set_option Elab.async false
set_option linter.all false
set_option maxRecDepth 100000
set_option maxHeartbeats 4000000
namespace Wn
open PySem PySem.Spec PyProof.Rows L2

/-- how a statement ends -/
inductive SR where
  | nx (δ : Env) (M : Mem) | rt (d : D) (M : Mem) | bk (δ : Env) (M : Mem) | ct (δ : Env) (M : Mem) | er (e : D) (δ : Env) (M : Mem) | bad
abbrev Fs := Env → Mem → SR
def AftS (K : PySem.W.Frag) (Z : ZS) (H : Hp) (r : List Addr) (M : Mem) (res : SR) (E : Ends) : Prop := match res with
  | .nx δ' M' => ∀ σ' H' r', Ext H r M H' r' M' → Sim K H' r' M' → EnvRep K H' r' σ' δ' → E.nx σ' H'
  | .bk δ' M' => ∀ σ' H' r', Ext H r M H' r' M' → Sim K H' r' M' → EnvRep K H' r' σ' δ' → E.bk σ' H'
  | .ct δ' M' => ∀ σ' H' r', Ext H r M H' r' M' → Sim K H' r' M' → EnvRep K H' r' σ' δ' → E.ct σ' H'
  | .rt d M' => ∀ v H' r', Ext H r M H' r' M' → Sim K H' r' M' → Rep K H' r' d v → E.rt v H'
  | .er e δ' M' => ∀ σ' H' r', Ext H r M H' r' M' → Sim K H' r' M' → EnvRep K H' r' σ' δ' → Z σ' e H' r' M'
  | .bad => False
def tS (K : PySem.W.Frag) (Z : ZS) (f : Fs) : TS := fun E σ H => ∃ δ r M, EnvRep K H r σ δ ∧ Sim K H r M ∧ AftS K Z H r M (f δ M) E
theorem PS.cons {X : Cx} {e : Stmt} {t t' : TS} (h : PS X e t) (k : ∀ E σ H, t' E σ H → t E σ H) : PS X e t' := ⟨fun pins s σ H E I q => h.run pins s σ H E I (k E σ H q)⟩
theorem PSs.cons {X : Cx} {e : List Stmt} {t t' : TS} (h : PSs X e t) (k : ∀ E σ H, t' E σ H → t E σ H) : PSs X e t' := ⟨fun pins s σ H E I q => h.run pins s σ H E I (k E σ H q)⟩
/-! ### semantic pieces -/
def bndS {α : Type} (δ : Env) (m : Mem → Res α) (k : α → Mem → SR) : Mem → SR := fun M => match m M with
  | .ok a M1 => k a M1
  | .err e M1 => .er e δ M1
  | .bad => .bad
def sPass : Fs := fun δ M => .nx δ M
def sBrk : Fs := fun δ M => .bk δ M
def sCnt : Fs := fun δ M => .ct δ M
def sRet (e : Fe) : Fs := fun δ => bndS δ (e δ) fun d M => .rt d M
def sRetN : Fs := fun _ M => .rt .non M
def sEx (e : Fe) : Fs := fun δ => bndS δ (e δ) fun _ M => .nx δ M
def sAsg (t : Tg) (e : Fe) : Fs := fun δ => bndS δ (e δ) fun d M => match t.put M d δ with
  | some δ' => .nx δ' M
  | none => .bad
def sIf (c : Fb) (a b : Fs) : Fs := fun δ => bndS δ (c δ) fun k => if k = true then a δ else b δ
def sSeq (a b : Fs) : Fs := fun δ M => match a δ M with
  | .nx δ' M' => b δ' M'
  | o => o
/-- a cell that is never written any more -/
def sFrz (i : Nat) : Fs := fun δ M => match δ[i]? with
  | some (some (.ref n)) => match M[n]? with
    | some (.lst ds) => .nx (δ.set i (some (.lst ds))) (M.set n .dead)
    | _ => .bad
  | _ => .bad
def forGo (t : Tg) (b : Fs) : List D → Fs
  | [], δ, M => .nx δ M
  | d :: ds, δ, M => match t.put M d δ with
    | none => .bad
    | some δ1 => match b δ1 M with
      | .nx δ2 M2 => forGo t b ds δ2 M2
      | .ct δ2 M2 => forGo t b ds δ2 M2
      | .bk δ2 M2 => .nx δ2 M2
      | o => o
def sFor (it : Env → Mem → Res (List D)) (t : Tg) (b : Fs) : Fs := fun δ => bndS δ (it δ) fun ds M => forGo t b ds δ M
def whlGo (c : Fb) (b : Fs) : Nat → Fs
  | 0, _, _ => .bad
  | n + 1, δ, M => match c δ M with
    | .ok true M1 => match b δ M1 with
      | .nx δ2 M2 => whlGo c b n δ2 M2
      | .ct δ2 M2 => whlGo c b n δ2 M2
      | .bk δ2 M2 => .nx δ2 M2
      | o => o
    | .ok false M1 => .nx δ M1
    | .err e M1 => .er e δ M1
    | .bad => .bad
def sPar (is : List Nat) (l : Fl) : Fs := fun δ => bndS δ (l δ) fun ds M => if ds.length = is.length then .nx ((is.zip ds).foldl (fun δ p => δ.set p.1 (some p.2)) δ) M else .bad
def setD (o i v : D) : Mem → Option Mem := fun M => match o, i with
  | .ref n, .int k => match M[n]? with
    | some (.lst ds) => (ixN ds.length k).map fun j => M.set n (.lst (ds.set j v))
    | _ => none
  | _, _ => none
def sSet (o i e : Fe) : Fs := fun δ => bndS δ (e δ) fun d => bndS δ (o δ) fun x => bndS δ (i δ) fun y => fun M => match setD x y d M with
  | some M' => .nx δ M'
  | none => .bad
/-! ### how it goes on -/
section
variable {K : PySem.W.Frag} {Z : ZS} {H H1 : Hp} {r r1 : List Addr} {M M1 : Mem} {E : Ends}
theorem AftS.step {res : SR} (S : Sim K H r M) (S1 : Sim K H1 r1 M1) (e : Ext H r M H1 r1 M1) (h : AftS K Z H r M res E) : AftS K Z H1 r1 M1 res E := by
  cases res with
  | nx δ M' => exact fun σ' H' r' x s q => h σ' H' r' (e.trans S S1 x) s q
  | bk δ M' => exact fun σ' H' r' x s q => h σ' H' r' (e.trans S S1 x) s q
  | ct δ M' => exact fun σ' H' r' x s q => h σ' H' r' (e.trans S S1 x) s q
  | rt d M' => exact fun v H' r' x s q => h v H' r' (e.trans S S1 x) s q
  | er d δ M' => exact fun σ' H' r' x s q => h σ' H' r' (e.trans S S1 x) s q
  | bad => exact h
theorem AftS.bind {σ : St} {δ : Env} {m : Mem → Res D} {k : D → Mem → SR} (S : Sim K H r M) (h : AftS K Z H r M (bndS δ m k M) E) (EE : EnvRep K H r σ δ) :
    Aft K (Z σ) H r M (m M) (fun v H1 => ∃ d1 M1 r1, m M = .ok d1 M1 ∧ Ext H r M H1 r1 M1 ∧ Sim K H1 r1 M1 ∧ Rep K H1 r1 d1 v ∧ AftS K Z H1 r1 M1 (k d1 M1) E) := by
  unfold bndS at h
  cases e : m M with
  | ok d M' => rw [e] at h; exact fun v H' r' x s q => ⟨d, M', r', rfl, x, s, q, AftS.step S s x h⟩
  | err d M' => rw [e] at h; exact fun H' r' x s => h σ H' r' x s (EE.ext S x)
  | bad => rw [e] at h; exact h
theorem AftS.bindL {σ : St} {δ : Env} {m : Mem → Res (List D)} {k : List D → Mem → SR} (S : Sim K H r M) (h : AftS K Z H r M (bndS δ m k M) E) (EE : EnvRep K H r σ δ) :
    AftL K (Z σ) H r M (m M) (fun v H1 => ∃ d1 M1 r1, m M = .ok d1 M1 ∧ Ext H r M H1 r1 M1 ∧ Sim K H1 r1 M1 ∧ Reps K H1 r1 d1 v ∧ AftS K Z H1 r1 M1 (k d1 M1) E) := by
  unfold bndS at h
  cases e : m M with
  | ok d M' => rw [e] at h; exact fun v H' r' x s q => ⟨d, M', r', rfl, x, s, q, AftS.step S s x h⟩
  | err d M' => rw [e] at h; exact fun H' r' x s => h σ H' r' x s (EE.ext S x)
  | bad => rw [e] at h; exact h
theorem AftS.bindB {σ : St} {δ : Env} {m : Mem → Res Bool} {k : Bool → Mem → SR} (S : Sim K H r M) (h : AftS K Z H r M (bndS δ m k M) E) (EE : EnvRep K H r σ δ) :
    AftB K (Z σ) H r M (m M) (fun v H1 => ∃ M1 r1, m M = .ok v M1 ∧ Ext H r M H1 r1 M1 ∧ Sim K H1 r1 M1 ∧ AftS K Z H1 r1 M1 (k v M1) E) := by
  unfold bndS at h
  cases e : m M with
  | ok d M' => rw [e] at h; exact fun H' r' x s => ⟨M', r', rfl, x, s, AftS.step S s x h⟩
  | err d M' => rw [e] at h; exact fun H' r' x s => h σ H' r' x s (EE.ext S x)
  | bad => rw [e] at h; exact h
theorem AftS.imp {res : SR} {E' : Ends} (h : AftS K Z H r M res E) (h1 : ∀ σ H, E.nx σ H → E'.nx σ H) (h2 : ∀ σ H, E.bk σ H → E'.bk σ H) (h3 : ∀ σ H, E.ct σ H → E'.ct σ H) (h4 : ∀ σ H, E.rt σ H → E'.rt σ H) : AftS K Z H r M res E' := by
  cases res with
  | nx δ M' => exact fun σ' H' r' x s q => h1 _ _ (h σ' H' r' x s q)
  | bk δ M' => exact fun σ' H' r' x s q => h2 _ _ (h σ' H' r' x s q)
  | ct δ M' => exact fun σ' H' r' x s q => h3 _ _ (h σ' H' r' x s q)
  | rt d M' => exact fun v H' r' x s q => h4 _ _ (h v H' r' x s q)
  | er d δ M' => exact h
  | bad => exact h
end
section
variable {X : Cx} {Z : ZS} {e : Expr} {st : Stmt} {rest body : List Stmt} {pos : Pos} {fe : Fe} {fa fb : Fs} {fc : Fb} {fl : Fl}
theorem s_pass : PS X (.Pass pos) (tS X.K Z sPass) := PS.cons ps_pass fun E σ H ⟨δ, r, M, e, S, h⟩ => h σ H r Ext.refl S e
theorem s_brk : PS X (.Break pos) (tS X.K Z sBrk) := PS.cons ps_break fun E σ H ⟨δ, r, M, e, S, h⟩ => h σ H r Ext.refl S e
theorem s_cnt : PS X (.Continue pos) (tS X.K Z sCnt) := PS.cons ps_continue fun E σ H ⟨δ, r, M, e, S, h⟩ => h σ H r Ext.refl S e
theorem s_doc {x j pos'} : PS X (.Expr (.Constant (.str x) j pos) pos') (tS X.K Z sPass) := PS.cons ps_doc fun E σ H ⟨δ, r, M, e, S, h⟩ => h σ H r Ext.refl S e
theorem s_ret (he : PE X e (tM X.K Z fe)) : PS X (.Return (some e) pos) (tS X.K Z (sRet fe)) :=
  PS.cons (ps_ret he) fun E σ H ⟨δ, r, M, e, S, h⟩ => ⟨δ, r, M, e, S, (AftS.bind S h e).imp fun v H1 ⟨d1, M1, r1, e1, x1, S1, q1, w⟩ => w v H1 r1 Ext.refl S1 q1⟩
theorem s_retN : PS X (.Return none pos) (tS X.K Z sRetN) := PS.cons ps_retN fun E σ H ⟨δ, r, M, e, S, h⟩ => h .non H r Ext.refl S rfl
theorem s_ex (he : PE X e (tM X.K Z fe)) (hs : swapsWith e none pos.line X.env = pure false) : PS X (.Expr e pos) (tS X.K Z (sEx fe)) :=
  PS.cons (ps_expr he hs) fun E σ H ⟨δ, r, M, e, S, h⟩ => ⟨δ, r, M, e, S, (AftS.bind S h e).imp fun v H1 ⟨d1, M1, r1, e1, x1, S1, q1, w⟩ => w σ H1 r1 Ext.refl S1 (e.ext S x1)⟩
theorem s_asg {tg : Expr} {t : Tg} (he : PE X e (tM X.K Z fe)) (hg : PG X tg (tG X.K t)) (hs : swapsWithSole [tg] e pos.line X.env = pure false) (hw : swappedStores [tg] e X.env = pure none)
    (h1 : (assignEach [tg] X.env).map (·.2) = [assign tg X.env]) : PS X (.Assign [tg] e pos) (tS X.K Z (sAsg t fe)) :=
  PS.cons (ps_asg he hg hs hw h1) fun E σ H ⟨δ, r, M, e, S, h⟩ => ⟨δ, r, M, e, S, (AftS.bind S h e).imp fun v H1 ⟨d1, M1, r1, e1, x1, S1, q1, w⟩ => by
    cases f : t.put M1 d1 δ with
    | none => rw [f] at w; exact w.elim
    | some δ' =>
      rw [f] at w
      exact ⟨δ, r1, M1, d1, e.ext S x1, S1, q1, δ', f, fun σ' E' _ => w σ' H1 r1 Ext.refl S1 E'⟩⟩
theorem s_if {c : Expr} {a b : List Stmt} (hc : PT X c (Wn.tB X.K Z fc)) (ha : PSs X a (tS X.K Z fa)) (hb : PSs X b (tS X.K Z fb)) : PS X (.If c a b pos) (tS X.K Z (sIf fc fa fb)) :=
  PS.cons (ps_if hc ha hb) fun E σ H ⟨δ, r, M, e, S, h⟩ => ⟨δ, r, M, e, S, (AftS.bindB S h e).imp fun k H1 ⟨M1, r1, e1, x1, S1, w⟩ => by
    cases k with
    | true => exact ⟨δ, r1, M1, e.ext S x1, S1, w⟩
    | false => exact ⟨δ, r1, M1, e.ext S x1, S1, w⟩⟩
theorem ss_nil : PSs X [] (tS X.K Z sPass) := PSs.cons pss_nil fun E σ H ⟨δ, r, M, e, S, h⟩ => h σ H r Ext.refl S e
theorem ss_cons (h1 : PS X st (tS X.K Z fa)) (h2 : PSs X rest (tS X.K Z fb)) : PSs X (st :: rest) (tS X.K Z (sSeq fa fb)) :=
  PSs.cons (pss_cons h1 h2) fun E σ H ⟨δ, r, M, e, S, h⟩ => ⟨δ, r, M, e, S, by
    replace h : AftS X.K Z H r M (match fa δ M with | .nx δ' M' => fb δ' M' | o => o) E := h
    cases q : fa δ M with
    | nx δ' M' => rw [q] at h; exact fun σ' H' r' x s e' => ⟨δ', r', M', e', s, AftS.step S s x h⟩
    | bk δ M' => rw [q] at h; exact h
    | ct δ M' => rw [q] at h; exact h
    | rt d M' => rw [q] at h; exact h
    | er d δ' M' => rw [q] at h; exact h
    | bad => rw [q] at h; exact h⟩
/-- the freezing of a cell as a step of its own -/
theorem freezeGo {pins : List (Addr × Obj)} {s : Shared} {σ : St} {H : Hp} {r : List Addr} {M : Mem} {δ : Env} {i n : Nat} {ds : List D} (I : Inv X pins σ H s) (EE : EnvRep X.K H r σ δ) (S : Sim X.K H r M) (h1 : δ[i]? = some (some (.ref n))) (h2 : M[n]? = some (.lst ds)) :
    ∃ H', Inv X pins σ H' s ∧ Ext H r M H' r (M.set n .dead) ∧ Sim X.K H' r (M.set n .dead) ∧ EnvRep X.K H' r σ (δ.set i (some (.lst ds))) := by
  obtain ⟨v, ev, a, rfl, ra⟩ := EE.2 i _ h1
  obtain ⟨vs, ha, q⟩ := S.cell n a _ ra h2
  obtain ⟨o, I'⟩ := inv_freeze I ha
  have hM : n < M.length := (List.getElem?_eq_some_iff.mp h2).1
  have st : Stay H r (upd H a (.frz o (.lst vs))) r := stay_own (.inl ⟨vs, ha⟩)
  have hx : Ext H r M (upd H a (.frz o (.lst vs))) r (M.set n .dead) := by
    refine ⟨⟨[], by simp⟩, fun b u e hn => ?_, fun m b hm e => ?_, fun m e => ?_⟩
    · have hb : b ≠ a := fun z => by
        subst z
        exact hn n ra ⟨_, h2, fun z => by cases z⟩
      rw [upd_ne hb]; exact e
    · rw [List.getElem?_eq_none (by omega)] at e; cases e
    · by_cases hmn : n = m
      · subst hmn; rw [List.getElem?_set_self hM]
      · rw [List.getElem?_set_ne hmn]; exact e
  have hS : Sim X.K (upd H a (.frz o (.lst vs))) r (M.set n .dead) := by
    refine ⟨by rw [List.length_set]; exact S.len, S.inj, fun m b c hm hc => ?_⟩
    by_cases hmn : n = m
    · subst hmn
      rw [List.getElem?_set_self hM] at hc
      cases hc
      rw [ra] at hm
      cases hm
      exact ⟨_, upd_same⟩
    · rw [List.getElem?_set_ne hmn] at hc
      have hb : b ≠ a := fun z => by
        subst z
        exact hmn (S.inj n m b ra hm)
      exact (S.cell m b c hm hc).stay' st (upd_ne hb)
  refine ⟨_, I', hx, hS, ?_⟩
  refine ⟨by rw [EE.1]; simp, fun j d hj => ?_⟩
  by_cases hij : i = j
  · subst hij
    have hl : i < δ.length := (List.getElem?_eq_some_iff.mp h1).1
    rw [List.getElem?_set_self hl] at hj
    cases hj
    exact ⟨_, ev, a, vs, rfl, ⟨o, upd_same⟩, q.stay st⟩
  · rw [List.getElem?_set_ne hij] at hj
    obtain ⟨w, e1, e2⟩ := EE.2 j d hj
    exact ⟨w, e1, e2.stay st⟩
theorem ss_frz {i : Nat} (h2 : PSs X rest (tS X.K Z fb)) : PSs X rest (tS X.K Z (sSeq (sFrz i) fb)) := by
  refine ⟨fun pins s σ H E I ⟨δ, r, M, e, S, h⟩ => ?_⟩
  replace h : AftS X.K Z H r M (match sFrz i δ M with | .nx δ' M' => fb δ' M' | o => o) E := h
  unfold sFrz at h
  cases q1 : δ[i]? with
  | none => simp only [q1] at h; exact h.elim
  | some o =>
    cases o with
    | none => simp only [q1] at h; exact h.elim
    | some d =>
      cases d with
      | ref n =>
        simp only [q1] at h
        cases q2 : M[n]? with
        | none => simp only [q2] at h; exact h.elim
        | some c =>
          cases c with
          | dead => simp only [q2] at h; exact h.elim
          | dct _ => simp only [q2] at h; exact h.elim
          | lst ds =>
            simp only [q2] at h
            obtain ⟨H', I', x', S', E'⟩ := freezeGo I e S q1 q2
            exact h2.run pins s σ H' E I' ⟨_, r, _, E', S', AftS.step S S' x' h⟩
      | _ => simp only [q1] at h; exact h.elim
/-- for -/
theorem forGo_cons (t : Tg) (b : Fs) (d : D) (ds : List D) (δ : Env) (M : Mem) : forGo t b (d :: ds) δ M = (match t.put M d δ with
    | none => .bad
    | some δ1 => match b δ1 M with
      | .nx δ2 M2 => forGo t b ds δ2 M2
      | .ct δ2 M2 => forGo t b ds δ2 M2
      | .bk δ2 M2 => .nx δ2 M2
      | o => o) := rfl
theorem s_for {tg iter : Expr} {it : Env → Mem → Res (List D)} {t : Tg} (hp : PassesOwn (model X.prog X.w) X.A X.env X.xe) (hc : X.calm = true) (hi : PI X tg iter (tI X.K Z it)) (hg : PG X tg (tG X.K t)) (hb : PSs X body (tS X.K Z fb))
    (hs : ∀ x, foldedSetIterable iter X.env x = pure x) : PS X (.For tg iter body [] pos) (tS X.K Z (sFor it t fb)) :=
  PS.cons (ps_for hp hc hi hg hb hs) fun E σ H ⟨δ, r, M, e, S, h⟩ => ⟨δ, r, M, e, S, by
    replace h : AftS X.K Z H r M (bndS δ (it δ) (fun ds M => forGo t fb ds δ M) M) E := h
    unfold bndS at h
    cases f : it δ M with
    | bad => rw [f] at h; exact h.elim
    | err x M1 => rw [f] at h; exact fun H' r' x s => h σ H' r' x s (e.ext S x)
    | ok ds M1 =>
      rw [f] at h
      refine fun J H1 r1 X1 S1 hJ => ?_
      obtain ⟨G, Y, W, hY⟩ := hJ
      have h : AftS X.K Z H1 r1 M1 (forGo t fb ds δ M1) E := AftS.step S S1 X1 h
      refine for_it W (fun i σ' H' => ∃ δ' r' M', Ext H1 r1 M1 H' r' M' ∧ Sim X.K H' r' M' ∧ EnvRep X.K H' r' σ' δ' ∧ AftS X.K Z H' r' M' (forGo t fb (ds.drop i) δ' M') E)
        ⟨δ, r1, M1, Ext.refl, S1, e.ext S X1, h⟩ (fun i σ' H' hi ⟨δ', r', M', x, s, _⟩ => (hY H' r' M' x s).1) (fun i x σ' H' H2 hi ⟨δ', r', M', X2, S2, E2, h2⟩ y => ?_) fun σ' H' ⟨δ', r', M', X2, S2, E2, h2⟩ => ?_
      · obtain ⟨d, hdi, X3, S3, q3⟩ := (hY H' r' M' X2 S2).2 i x H2 hi y
        have hdr : ds.drop i = d :: ds.drop (i + 1) := by
          obtain ⟨hi', e'⟩ := List.getElem?_eq_some_iff.mp hdi
          rw [List.drop_eq_getElem_cons hi', e']
        rw [hdr, forGo_cons] at h2
        cases f1 : t.put M' d δ' with
        | none => rw [f1] at h2; exact h2.elim
        | some δ1 =>
          rw [f1] at h2
          refine ⟨δ', r', M', d, E2.ext S2 X3, S3, q3, δ1, f1, fun σ2 E3 _ => ⟨δ1, r', M', E3, S3, ?_⟩⟩
          simp only at h2
          cases f2 : fb δ1 M' with
          | nx δ2 M2 =>
            rw [f2] at h2
            exact fun σ3 H3 r3 X4 S4 E4 => ⟨δ2, r3, M2, X2.trans S1 S2 (X3.trans S2 S3 X4), S4, E4, AftS.step S2 S4 (X3.trans S2 S3 X4) h2⟩
          | ct δ2 M2 =>
            rw [f2] at h2
            exact fun σ3 H3 r3 X4 S4 E4 => ⟨δ2, r3, M2, X2.trans S1 S2 (X3.trans S2 S3 X4), S4, E4, AftS.step S2 S4 (X3.trans S2 S3 X4) h2⟩
          | bk δ2 M2 => rw [f2] at h2; exact fun σ3 H3 r3 X4 S4 E4 => h2 σ3 H3 r3 (X3.trans S2 S3 X4) S4 E4
          | rt v M2 => rw [f2] at h2; exact fun σ3 H3 r3 X4 S4 E4 => h2 σ3 H3 r3 (X3.trans S2 S3 X4) S4 E4
          | er v δ2 M2 => rw [f2] at h2; exact fun σ3 H3 r3 X4 S4 E4 => h2 σ3 H3 r3 (X3.trans S2 S3 X4) S4 E4
          | bad => rw [f2] at h2; exact h2
      · rw [List.drop_eq_nil_of_le (Nat.le_refl _)] at h2
        exact h2 σ' H' r' Ext.refl S2 E2⟩
theorem s_while {c : Expr} {n : Nat} (hp : PassesOwn (model X.prog X.w) X.A X.env X.xe) (hc : PT X c (Wn.tB X.K Z fc)) (hb : PSs X body (tS X.K Z fb)) : PS X (.While c body [] pos) (tS X.K Z (whlGo fc fb n)) :=
  PS.cons (ps_while hp hc hb) fun E σ H ⟨δ, r, M, e, S, h⟩ => by
    refine ⟨fun m σ' H' => ∃ δ' r' M', Sim X.K H' r' M' ∧ EnvRep X.K H' r' σ' δ' ∧ AftS X.K Z H' r' M' (whlGo fc fb m δ' M') E, ⟨n, δ, r, M, S, e, h⟩, fun m σ' H' ⟨δ', r', M', S1, E1, h1⟩ => ?_⟩
    cases m with
    | zero => exact h1.elim
    | succ m =>
      replace h1 : AftS X.K Z H' r' M' (match fc δ' M' with
        | .ok true M1 => (match fb δ' M1 with
          | .nx δ2 M2 => whlGo fc fb m δ2 M2
          | .ct δ2 M2 => whlGo fc fb m δ2 M2
          | .bk δ2 M2 => .nx δ2 M2
          | o => o)
        | .ok false M1 => .nx δ' M1
        | .err e M1 => .er e δ' M1
        | .bad => .bad) E := h1
      refine ⟨δ', r', M', E1, S1, ?_⟩
      cases f : fc δ' M' with
      | bad => rw [f] at h1; exact h1
      | err x M1 => rw [f] at h1; exact fun H2 r2 X2 S2 => h1 σ' H2 r2 X2 S2 (E1.ext S1 X2)
      | ok k M1 =>
        rw [f] at h1
        cases k with
        | false => exact fun H2 r2 X2 S2 => h1 σ' H2 r2 X2 S2 (E1.ext S1 X2)
        | true =>
          simp only at h1
          refine fun H2 r2 X2 S2 => ?_
          dsimp only
          rw [if_pos rfl]
          refine ⟨fun σ3 H3 => ∃ δ3 r3 M3, Sim X.K H3 r3 M3 ∧ EnvRep X.K H3 r3 σ3 δ3 ∧ AftS X.K Z H3 r3 M3 (whlGo fc fb m δ3 M3) E, fun σ3 H3 z => ⟨m, Nat.lt_succ_self m, z⟩, δ', r2, M1, E1.ext S1 X2, S2, ?_⟩
          cases f2 : fb δ' M1 with
          | nx δ2 M2 => rw [f2] at h1; exact fun σ3 H3 r3 X4 S4 E4 => ⟨δ2, r3, M2, S4, E4, AftS.step S1 S4 (X2.trans S1 S2 X4) h1⟩
          | ct δ2 M2 => rw [f2] at h1; exact fun σ3 H3 r3 X4 S4 E4 => ⟨δ2, r3, M2, S4, E4, AftS.step S1 S4 (X2.trans S1 S2 X4) h1⟩
          | bk δ2 M2 => rw [f2] at h1; exact fun σ3 H3 r3 X4 S4 E4 => h1 σ3 H3 r3 (X2.trans S1 S2 X4) S4 E4
          | rt v M2 => rw [f2] at h1; exact fun σ3 H3 r3 X4 S4 E4 => h1 σ3 H3 r3 (X2.trans S1 S2 X4) S4 E4
          | er v δ2 M2 => rw [f2] at h1; exact fun σ3 H3 r3 X4 S4 E4 => h1 σ3 H3 r3 (X2.trans S1 S2 X4) S4 E4
          | bad => rw [f2] at h1; exact h1
end
/-! ### cells written -/
section
variable {K : PySem.W.Frag} {Z : ZK} {H : Hp} {r : List Addr} {M : Mem}
/-- a cell gets new content -/
theorem ext_writeG {n : Nat} {a : Addr} {nc c0 : Cell} {no : HO} (S : Sim K H r M) (ra : r[n]? = some a) (h0 : M[n]? = some c0) (hd : c0 ≠ .dead) (hmu : MuH H a) (q : ∀ H' r', Stay H r H' r' → H' a = some no → CellRep K H' r' a nc) :
    Ext H r M (upd H a no) r (M.set n nc) ∧ Sim K (upd H a no) r (M.set n nc) := by
  have hM : n < M.length := (List.getElem?_eq_some_iff.mp h0).1
  have st : Stay H r (upd H a no) r := stay_ownM hmu
  refine ⟨⟨⟨[], by simp⟩, fun b u e hn => ?_, fun m b hm e => ?_, fun m e => ?_⟩, ⟨by rw [List.length_set]; exact S.len, S.inj, fun m b c hm hc => ?_⟩⟩
  · have hb : b ≠ a := fun z => by
      subst z
      exact hn n ra ⟨_, h0, hd⟩
    rw [upd_ne hb]; exact e
  · rw [List.getElem?_eq_none (by omega)] at e; cases e
  · by_cases hmn : n = m
    · subst hmn; rw [h0] at e; cases e; exact absurd rfl hd
    · rw [List.getElem?_set_ne hmn]; exact e
  · by_cases hmn : n = m
    · subst hmn
      rw [List.getElem?_set_self hM] at hc
      cases hc
      rw [ra] at hm
      cases hm
      exact q _ _ st upd_same
    · rw [List.getElem?_set_ne hmn] at hc
      have hb : b ≠ a := fun z => by
        subst z
        exact hmn (S.inj n m b ra hm)
      exact (S.cell m b c hm hc).stay' st (upd_ne hb)
theorem ext_write {n : Nat} {a : Addr} {ds : List D} {vs : List V} {ds0 : List D} (S : Sim K H r M) (ra : r[n]? = some a) (h0 : M[n]? = some (.lst ds0)) (q : Reps K H r ds vs) :
    Ext H r M (upd H a (.lst vs)) r (M.set n (.lst ds)) ∧ Sim K (upd H a (.lst vs)) r (M.set n (.lst ds)) := by
  obtain ⟨vs0, ha, _⟩ := S.cell n a _ ra h0
  exact ext_writeG S ra h0 (fun z => by cases z) (.inl ⟨vs0, ha⟩) fun H' r' st e => ⟨vs, e, q.stay st⟩
end
section
variable {X : Cx} {Z : ZS} {e o i : Expr} {pos tpos : Pos} {fe fo fi : Fe}
theorem setD_some {x y d : D} {M M' : Mem} (h : setD x y d M = some M') : ∃ n k ds j, x = .ref n ∧ y = .int k ∧ M[n]? = some (.lst ds) ∧ ixN ds.length k = some j ∧ M' = M.set n (.lst (ds.set j d)) := by
  unfold setD at h
  split at h
  · rename_i n k
    split at h
    · rename_i ds hM
      cases q : ixN ds.length k with
      | none => rw [q] at h; cases h
      | some j => rw [q] at h; cases h; exact ⟨n, k, ds, j, rfl, rfl, hM, q, rfl⟩
    · cases h
  · cases h
theorem s_set (he : PE X e (tM X.K Z fe)) (ho : PE X o (tM X.K Z fo)) (hi : PE X i (tM X.K Z fi)) (hs : swapsWithSole [.Subscript o i tpos] e pos.line X.env = pure false) (hw : swappedStores [.Subscript o i tpos] e X.env = pure none)
    (h1 : (assignEach [.Subscript o i tpos] X.env).map (·.2) = [assign (.Subscript o i tpos) X.env])
    (ha : ∀ v, assign (.Subscript o i tpos) X.env v = (do
      let ov ← holding [v] (eval o X.env)
      let iv ← holding [v, ov] (eval i X.env)
      standAt tpos
      holding [v, ov, iv] (setItem ov iv v)
      release [v, ov, iv] [])) : PS X (.Assign [.Subscript o i tpos] e pos) (tS X.K Z (sSet fo fi fe)) :=
  PS.cons (ps_asg he (pg_sub ho hi set_list ha) hs hw h1) fun E σ H ⟨δ, r, M, e, S, h⟩ => ⟨δ, r, M, e, S, (AftS.bind S h e).imp fun v H1 ⟨d1, M1, r1, e1, x1, S1, q1, w⟩ =>
    ⟨δ, r1, M1, e.ext S x1, S1, (AftS.bind S1 w (e.ext S x1)).imp fun vo H2 ⟨d2, M2, r2, e2, x2, S2, q2, w2⟩ =>
    ⟨δ, r2, M2, (e.ext S x1).ext S1 x2, S2, (AftS.bind S2 w2 ((e.ext S x1).ext S1 x2)).imp fun vi H3 ⟨d3, M3, r3, e3, x3, S3, q3, w3⟩ => by
      cases f : setD d2 d3 d1 M3 with
      | none => rw [f] at w3; exact w3.elim
      | some M4 =>
        rw [f] at w3
        obtain ⟨n, k, ds, j, rfl, rfl, hM, hj, rfl⟩ := setD_some f
        obtain ⟨a, rfl, ra⟩ := q2.ext S2 x3
        cases q3
        obtain ⟨vs, hH, qs⟩ := S3.cell n a _ ra hM
        have qn : Reps X.K H3 r3 (ds.set j d1) (vs.set j v) := qs.set j ((q1.ext S1 x2).ext S2 x3)
        obtain ⟨X4, S4⟩ := ext_write S3 ra hM qn
        exact ⟨a, vs, k, j, rfl, rfl, hH, by rw [← qs.length]; exact hj, w3 σ _ r3 X4 S4 ((((e.ext S x1).ext S1 x2).ext S2 x3).ext S3 X4)⟩⟩⟩⟩
/-! ### list.append on a cell -/
def eApp (a : Fe) (b : Fe) : Fe := fun δ => bnd (a δ) fun x => bnd (b δ) fun y M => match x with
  | .ref n => match M[n]? with
    | some (.lst ds) => if ds.length < sizeLine then .ok .non (M.set n (.lst (ds ++ [y]))) else .bad
    | _ => .bad
  | _ => .bad
end
end Wn
end

section
set_option Elab.async false
set_option linter.all false
set_option maxRecDepth 100000
set_option maxHeartbeats 4000000
namespace Wn
open PySem PySem.Spec PyProof.Rows L2

/-! ### methods of lists -/
def MtL (X : Cx) (id : String) (g : D → List D → Mem → Res D) : Prop :=
  ∀ (pins : List (Addr × Obj)) (s : Shared) (σ : St) (H : Hp) (r : List Addr) (M : Mem) (x : V) (xs : List V) (v : Value) (us : List Value) (dx : D) (ds : List D) (Q : VK), Inv X pins σ H s → RelV x v → Vals xs us → Sim X.K H r M → Rep X.K H r dx x → Reps X.K H r ds xs →
    Aft X.K (fun _ _ _ _ => False) H r M (g dx ds M) Q → wpAny (model X.prog X.w) X.A (call (.builtin id) (v :: us)) (EP X pins σ Q) X.xe s
def isL (M : Mem) (d : D) : Bool := (lstOf M d).isSome
/-- o.m(..) of a list; no exception -/
def noErr {α : Type} : Res α → Res α
  | .ok a M => .ok a M
  | _ => .bad
def eMl (g : D → List D → Mem → Res D) (a : Fe) (l : Fl) : Fe := fun δ => bnd (a δ) fun x M => if isL M x = true then bnd (l δ) (fun xs M => noErr (g x xs M)) M else .bad
section
variable {X : Cx} {Z : ZS} {o e : Expr} {es : List Expr} {fa : Fe} {fl : Fl} {apos cpos : Pos} {id : String} {name : Str} {g : D → List D → Mem → Res D}
theorem tyV_list {K : PySem.W.Frag} {H : Hp} {r : List Addr} {M : Mem} {d : D} {v : V} (S : Sim K H r M) (h : isL M d = true) (q : Rep K H r d v) : tyV K "list" v H := by
  obtain ⟨ds, e⟩ := Option.isSome_iff_exists.mp h
  obtain ⟨a, vs, rfl, h1, _⟩ := lstOf_rep S q e
  exact .inl ⟨rfl, vs, h1⟩
theorem Aft.noErr {Z : ZK} {K : PySem.W.Frag} {H : Hp} {r : List Addr} {M : Mem} {m : Res D} {Q : VK} (h : Aft K Z H r M (Wn.noErr m) Q) : Aft K (fun _ _ _ _ => False) H r M m Q := by
  cases m with
  | ok d M1 => exact h
  | err d M1 => exact h.elim
  | bad => exact h
theorem r_mtl (pa : PlainAttrs "list") (slot : Slot "list" name id) (hty : typeOf (.builtin id) = pure (.type "method_descriptor")) (hm : MtL X id g) (ho : PE X o (tM X.K Z fa)) (ha : PA X (e :: es) (tL X.K Z fl))
    (hbase : attributeBase o name X.env (eval o X.env) = eval o X.env)
    (hfew : ((backTo cpos (starEach (e :: es) X.env)).all (fun x => !x.1) && (backToKw cpos (keywordEach [] X.env)).all (fun x => x.1.isSome)
      && decide ((e :: es).length + ([] : List Keyword).length + (if ([] : List Keyword).isEmpty then 0 else 1) < 30)) = true)
    (hline : (apos.endLine == cpos.line) = true) (hs : starEach (e :: es) X.env = (false, eval e X.env) :: starEach es X.env) (hplain : (backTo cpos (starEach es X.env)).any (·.1) = false) :
    PE X (.Call (.Attribute o name apos) (e :: es) [] cpos) (tM X.K Z (eMl g fa fl)) := by
  refine ⟨fun pins s σ H Q I ⟨δ, r, M, E, S, h⟩ => ?_⟩
  refine wpAny_Call_method_late hbase hfew hline rfl (thn (ho.run pins s σ H _ I ⟨δ, r, M, E, S, Aft.bind S h⟩) fun v s1 ⟨x, H1, I1, r1, d1, M1, rr, e1, X1, S1, q1, w⟩ => ?_)
  by_cases hl : isL M1 d1 = true
  · simp only [hl, if_true] at w
    obtain ⟨h1, h2⟩ := tyV_is I1 r1 (tyV_list S1 hl q1)
    refine ⟨"list", id, pa, slot, hty, h1, h2, ?_⟩
    have hA := ha.run cpos pins s1 σ H1 _ I1 ⟨δ, rr, M1, E.ext S X1, S1, Aft.bindL S1 w⟩
    rw [hs] at hA ⊢
    refine Calls.callWith_builtin (by show (false || (backTo cpos (starEach es X.env)).any (·.1)) = false; rw [hplain] <;> rfl) (Calls.evalArgs_plain ?_)
    exact thn hA fun us s2 ⟨vs, H2, I2, r2, ds, M2, rr2, e2, X2, S2, q2, w2⟩ => hm pins s2 σ H2 rr2 M2 x vs v us d1 ds Q I2 r1 r2 S2 (q1.ext S1 X2) q2 w2.noErr
  · simp only [if_neg hl] at w; exact w.elim
def fAppend : D → List D → Mem → Res D := fun x xs M => match x, xs with
  | .ref n, [y] => (match M[n]? with
    | some (.lst ds) => if ds.length < sizeLine then .ok .non (M.set n (.lst (ds ++ [y]))) else .bad
    | _ => .bad)
  | _, _ => .bad
theorem m_append : MtL X "list.append" fAppend := by
  intro pins s σ H r M x xs v us dx ds Q I rx rs S qx qs h
  unfold fAppend at h
  split at h
  · rename_i n y
    split at h
    · rename_i es hM
      split at h
      · rename_i hz
        obtain ⟨a, rfl, ra⟩ := qx
        obtain ⟨vs, hH, qc⟩ := S.cell n a _ ra hM
        obtain ⟨w, ws, rfl, qy, hw⟩ := qs
        cases hw
        refine mt_append pins s σ H (.ref a) [w] v us Q I rx rs ⟨a, vs, w, rfl, rfl, hH, by rw [← qc.length]; exact hz, ?_⟩
        obtain ⟨X4, S4⟩ := ext_write S ra hM (qc.append (Reps.one qy))
        exact h .non _ r X4 S4 rfl
      · exact h.elim
    · exact h.elim
  · exact h.elim
end

/-! ### methods of texts -/
section
variable {X : Cx}
theorem MtS1.of {id : String} {g : Mem → D → List D → Option D} {rr : V → List V → Hp → VK → Prop} (h : MtR X id rr)
    (hr : ∀ (H : Hp) (r : List Addr) (M : Mem) (x : V) (xs : List V) (dx : D) (ds : List D) (d : D) (Q : VK), Sim X.K H r M → Rep X.K H r dx x → Reps X.K H r ds xs → g M dx ds = some d → Wnt X.K H r M d Q → rr x xs H Q) : MtS1 X "str" id g :=
  fun pins s σ H r M x xs v us dx ds d Q I rx rs S qx qs e w => h pins s σ H x xs v us Q I rx rs (hr H r M x xs dx ds d Q S qx qs e w)
theorem MtS1.ofF {id : String} {g : Mem → D → List D → Option D} {rr : V → List V → Hp → VK → Prop} (h : MtR X id rr)
    (hr : ∀ (H : Hp) (r : List Addr) (M : Mem) (x : V) (xs : List V) (dx : D) (ds : List D) (d : D) (Q : VK), Sim X.K H r M → Rep X.K H r dx x → Reps X.K H r ds xs → g M dx ds = some d → Wnt X.K H r M d Q → rr x xs H (QFz Q)) : MtS1 X "str" id g :=
  fun pins s σ H r M x xs v us dx ds d Q I rx rs S qx qs e w => thn (h pins s σ H x xs v us (QFz Q) I rx rs (hr H r M x xs dx ds d Q S qx qs e w)) fun u s' q => EP.freeze q
def gIndex : Mem → D → List D → Option D := fun _ x xs => match x, xs with
  | .str a, [.str b] => (match Builtin.Str.occurrences a b 0 a.length 1 with
    | i :: _ => some (.int (i : Nat))
    | [] => none)
  | _, _ => none
theorem m_index : MtS1 X "str" "str.index" gIndex := MtS1.of mt_sindex fun H r M x xs dx ds d Q S qx qs e w => by
  unfold gIndex at e
  split at e
  · rename_i a b
    split at e
    · rename_i i rest ho
      cases e
      cases qx
      obtain ⟨_, _, rfl, rfl, hw⟩ := qs
      cases hw
      exact ⟨a, b, i, rest, rfl, rfl, ho, w.here S (d := .int (i : Nat)) rfl⟩
    · cases e
  · cases e
def strsOf (ds : List D) : Option (List Str) := ds.mapM fun d => match d with
  | .str x => some x
  | _ => none
theorem strsOf_rep {K : PySem.W.Frag} {H : Hp} {r : List Addr} : ∀ {ds : List D} {vs : List V} {ys : List Str}, strsOf ds = some ys → Reps K H r ds vs → vs = ys.map V.str
  | [], _, _, e, q => by cases q; cases e; rfl
  | d :: ds, _, _, e, q => by
    obtain ⟨v, ws, rfl, q1, q2⟩ := q
    unfold strsOf at e
    rw [List.mapM_cons] at e
    cases d with
    | str x =>
      cases q3 : strsOf ds with
      | none =>
        unfold strsOf at q3
        rw [q3] at e
        cases e
      | some zs =>
        have q3' := q3
        unfold strsOf at q3
        rw [q3] at e
        cases e
        cases q1
        rw [strsOf_rep q3' q2]; rfl
    | _ => cases e
def seqJ (M : Mem) : D → Option (List D)
  | .tup ds => some ds
  | d => lstOf M d
def gJoin : Mem → D → List D → Option D := fun M x xs => match x, xs with
  | .str a, [l] => (match seqJ M l with
    | some ds => (match strsOf ds with
      | some ys => if (ys.map (·.length)).sum + ys.length * a.length ≤ 16777216 then some (.str (Txt.join a ys)) else none
      | none => none)
    | none => none)
  | _, _ => none
theorem m_join : MtS1 X "str" "str.join" gJoin := MtS1.of mt_join fun H r M x xs dx ds d Q S qx qs e w => by
  unfold gJoin at e
  split at e
  · rename_i a l
    split at e
    · rename_i es hs
      split at e
      · rename_i ys hy
        split at e
        · rename_i hz
          cases e
          cases qx
          obtain ⟨v, _, rfl, ql, hw⟩ := qs
          cases hw
          have key : ∃ p vs, v = .ref p ∧ (SqL X.K H p vs ∨ SqT X.K H p vs) ∧ Reps X.K H r es vs := by
            have go : ∀ l', Rep X.K H r l' v → lstOf M l' = some es → ∃ p vs, v = .ref p ∧ (SqL X.K H p vs ∨ SqT X.K H p vs) ∧ Reps X.K H r es vs := fun l' ql' hs' => by
              obtain ⟨p, vs, e1, h1, h2⟩ := lstOf_rep S ql' hs'
              exact ⟨p, vs, e1, .inl h1, h2⟩
            cases l with
            | tup es' =>
              cases hs
              obtain ⟨p, vs, e1, h1, h2⟩ := ql
              exact ⟨p, vs, e1, .inr h1, h2⟩
            | lst es' => exact go _ ql hs
            | scr es' => exact go _ ql hs
            | ref n => exact go _ ql hs
            | _ => cases hs
          obtain ⟨p, vs, rfl, h1, h2⟩ := key
          rw [strsOf_rep hy h2] at h1
          exact ⟨a, p, ys, rfl, rfl, h1, hz, w.here S (d := .str _) rfl⟩
        · cases e
      · cases e
    · cases e
  · cases e
end

/-! ### several names at once -/
section
variable {X : Cx} {Z : ZS} {fl : Fl} {pos : Pos}
theorem s_par2 {i j : Nat} {x y : Str} {a b : Expr} {px py pt : Pos} {kt k2 pt2} (hc : X.calm = true) (hN : X.N.Nodup) (hi : X.N[i]? = some x) (hj : X.N[j]? = some y) (hij : i ≠ j)
    (hx : X.env.scope.names.lookup x = some .local) (hy : X.env.scope.names.lookup y = some .local) (ha : PA X [a, b] (tL X.K Z fl))
    (hw : swappedStores [.Tuple [.Name x px, .Name y py] kt pt] (.Tuple [a, b] k2 pt2) X.env = pure (some [x, y]))
    (hs : swapsWithSole [.Tuple [.Name x px, .Name y py] kt pt] (.Tuple [a, b] k2 pt2) pos.line X.env = pure false) :
    PS X (.Assign [.Tuple [.Name x px, .Name y py] kt pt] (.Tuple [a, b] k2 pt2) pos) (tS X.K Z (sPar [i, j] fl)) :=
  PS.cons (ps_par hc hN hi hj hij hx hy ha hw hs) fun E σ H ⟨δ, r, M, e, S, h⟩ => ⟨δ, r, M, e, S, (AftS.bindL S h e).imp fun v H1 ⟨d1, M1, r1, e1, x1, S1, q1, w⟩ => by
    by_cases hl : d1.length = [i, j].length
    · rw [if_pos hl] at w
      obtain ⟨d, d', v, v', rfl, rfl, q2, q3⟩ := reps_2 q1 hl
      exact ⟨v, v', rfl, w _ H1 r1 Ext.refl S1 (((e.ext S x1).set q2).set q3)⟩
    · rw [if_neg hl] at w; exact w.elim⟩
theorem reps_3 {K : PySem.W.Frag} {H : Hp} {r : List Addr} {vs : List V} {ds : List D} (q : Reps K H r ds vs) (h : ds.length = 3) : ∃ d e f v w u, ds = [d, e, f] ∧ vs = [v, w, u] ∧ Rep K H r d v ∧ Rep K H r e w ∧ Rep K H r f u := by
  match ds, h with
  | [d, e, f], _ =>
    obtain ⟨v, _, rfl, h1, w, _, rfl, h2, u, _, rfl, h3, h4⟩ := q
    cases h4
    exact ⟨d, e, f, v, w, u, rfl, rfl, h1, h2, h3⟩
theorem vals_3 {v w u : V} {us : List Value} (h : Vals [v, w, u] us) : ∃ a b c, us = [a, b, c] ∧ RelV v a ∧ RelV w b ∧ RelV u c := by
  cases h with
  | cons p h =>
    cases h with
    | cons q h =>
      cases h with
      | cons t h =>
        cases h
        exact ⟨_, _, _, rfl, p, q, t⟩
/-- a, b, c = x, y, z with plain local names -/
theorem s_par3 {i j k : Nat} {x y z : Str} {a b c : Expr} {px py pz pt : Pos} {kt k2 pt2} (hc : X.calm = true) (hN : X.N.Nodup) (hi : X.N[i]? = some x) (hj : X.N[j]? = some y) (hk : X.N[k]? = some z) (hij : i ≠ j) (hik : i ≠ k) (hjk : j ≠ k)
    (hx : X.env.scope.names.lookup x = some .local) (hy : X.env.scope.names.lookup y = some .local) (hz : X.env.scope.names.lookup z = some .local) (ha : PA X [a, b, c] (tL X.K Z fl))
    (hw : swappedStores [.Tuple [.Name x px, .Name y py, .Name z pz] kt pt] (.Tuple [a, b, c] k2 pt2) X.env = pure (some [x, y, z]))
    (hs : swapsWithSole [.Tuple [.Name x px, .Name y py, .Name z pz] kt pt] (.Tuple [a, b, c] k2 pt2) pos.line X.env = pure false) :
    PS X (.Assign [.Tuple [.Name x px, .Name y py, .Name z pz] kt pt] (.Tuple [a, b, c] k2 pt2) pos) (tS X.K Z (sPar [i, j, k] fl)) := by
  refine ⟨fun pins s σ H E I ⟨δ, r, M, e, S, h⟩ => ?_⟩
  rw [exec_Assign_arm]
  refine wpAny_bind (wpAny_standAt ?_)
  rw [hs]
  refine wpAny_bind (wpAny_pure ?_)
  rw [if_neg Bool.false_ne_true]
  refine wpAny_bind (Tuple_ (thn (ha.run _ pins s σ H _ I ⟨δ, r, M, e, S, AftS.bindL S h e⟩) fun us s1 ⟨vs, H1, I1, rv, d1, M1, r1, e1, x1, S1, q1, w⟩ => ?_))
  by_cases hl : d1.length = [i, j, k].length
  · rw [if_pos hl] at w
    obtain ⟨d, d', d'', v1, v2, v3, rfl, rfl, qa, qb, qc⟩ := reps_3 q1 hl
    obtain ⟨u1, u2, u3, rfl, ra, rb, rc⟩ := vals_3 rv
    refine wpAny_newObj_type ?_ (by show 3 ≤ sizeLine; decide)
    have I2 : Inv X pins σ H1 { s1 with heap := s1.heap.push { cls := .type "tuple", data := .seq [u1, u2, u3].toArray } } := I1.kept (t' := s1.toks) fun b o q => Heap.get?_push_of_some _ q
    rw [hw]
    refine wpAny_bind (wpAny_pure ?_)
    show wpAny (model X.prog X.w) X.A (do rule "assign.swapped-stores"; let items ← unpackItems (.ref s1.heap.objs.size) 3 none; assignInOrder [fun v => bindName X.env z v, fun v => bindName X.env y v, fun v => bindName X.env x v] items.reverse; pure Flow.next) _ _ _
    refine wpAny_bind (wpAny_rule (wpAny_bind (unpackItems_tuple (items := #[u1, u2, u3]) (I.ok.hd hc) (IsTup.new s1.heap _) fun h' hx' => ?_)))
    have I3 := I2.kept (h' := h') (t' := s1.toks) fun b o q => hx' b o (Nat.ne_of_lt (Heap.lt_size q)) q
    show wpAny _ _ (assignInOrder [fun v => bindName X.env z v, fun v => bindName X.env y v, fun v => bindName X.env x v] [u3, u2, u1] >>= fun _ => pure Flow.next) _ _ _
    refine wpAny_bind (assignInOrder_cons (wpAny_bindName (store_ok I3 hN hk (.inl hz) rc (fun s2 I4 => ?_) (.inr hz))))
    refine assignInOrder_cons (wpAny_bindName (store_ok I4 hN hj (.inl hy) rb (fun s3 I5 => ?_) (.inr hy)))
    refine assignInOrder_cons (wpAny_bindName (store_ok I5 hN hi (.inl hx) ra (fun s4 I6 => assignInOrder_nil (wpAny_pure ?_)) (.inr hx)))
    refine ⟨_, H1, I6, w _ H1 r1 Ext.refl S1 ?_⟩
    show EnvRep X.K H1 r1 _ (((δ.set i (some d)).set j (some d')).set k (some d''))
    have z := ((((e.ext S x1).set (i := k) qc).set (i := j) qb).set (i := i) qa)
    rw [List.set_comm _ _ hjk, List.set_comm (l := δ) _ _ hik, List.set_comm (l := δ.set k (some d'')) _ _ hij]
    exact z
  · rw [if_neg hl] at w; exact w.elim
/-- name = [..]: the stores exchanged -/
theorem s_setLc {i : Nat} {y : Str} {py : Pos} {elt tg iter : Expr} {ifs : List Expr} {scope : Scope} {own : List (Str × Nat)} {spos : Pos} {it : Env → Mem → Res (List D)} {t : Tg} {c : Fb} {e : Fe} (L : LcOk X Z elt tg iter ifs scope own it t c e) (hy : X.N[i]? = some y) (hyl : X.env.scope.names.lookup y = some .local)
    (hsw : swapsWith (.ListComp elt [⟨tg, iter, ifs, 0⟩] scope pos) (some (.Name y py)) spos.line X.env = pure true) : PS X (.Assign [.Name y py] (.ListComp elt [⟨tg, iter, ifs, 0⟩] scope pos) spos) (tS X.K Z (sAsg (.nm i) (eLc it t (own.map (·.2)) c e))) := by
  refine ⟨fun pins s σ H E I ⟨δ, r, M, ee, S, h⟩ => ?_⟩
  have key := (ps_setLc L.calm L.nd hy hyl hsw L.it L.blk L.tg L.ifs L.elt L.fs).run pins s σ H { E with nx := fun σ' H' => ∃ a xs, H' a = some (.lst xs) ∧ ∀ o, E.nx σ' (upd H' a (.frz o (.lst xs))) } I ?_
  · refine thn key fun f s' q => ?_
    cases f with
    | next =>
      obtain ⟨σ', H', I', a, xs, ha, q⟩ := q
      obtain ⟨o, J⟩ := inv_freeze I' ha
      exact ⟨σ', _, J, q o⟩
    | brk => exact q
    | cont => exact q
    | ret u => exact q
  · refine lc_read (it := it) (t := t) (c := c) (e := e) (k := fun xs => ret (.lst xs)) (Z := Z) (Q' := fun v H1 => ∃ d1 M1 r1, eLc it t (own.map (·.2)) c e δ M = .ok d1 M1 ∧ Ext H r M H1 r1 M1 ∧ Sim X.K H1 r1 M1 ∧ Rep X.K H1 r1 d1 v ∧ AftS X.K Z H1 r1 M1 (.nx (δ.set i (some d1)) M1) E) L.sl (fun _ _ _ z => z) (fun _ _ _ z => z)
      (fun H1 r1 M1 xs M2 H2 r2 Da acc S1 X1 S2 hr h1 h2 q w => ?_) ⟨δ, r, M, ee, S, AftS.bind S h ee⟩
    refine ⟨Da, acc, h2, fun o => ?_⟩
    have st : Stay H2 r2 (upd H2 Da (.frz o (.lst acc))) r2 := stay_own (.inl ⟨acc, h2⟩)
    obtain ⟨d1, M3, r3, e1, x3, S3, q3, w3⟩ := w (.ref Da) _ r2 (X1.own h1) (S2.own (.inl ⟨acc, h2⟩) hr) ⟨Da, acc, rfl, ⟨o, upd_same⟩, q.stay st⟩
    exact w3 _ _ r3 Ext.refl S3 ((ee.ext S x3).set q3)
theorem s_setLcC {i : Nat} {y : Str} {py : Pos} {elt tg iter : Expr} {ifs : List Expr} {scope : Scope} {own : List (Str × Nat)} {spos : Pos} {it : Env → Mem → Res (List D)} {t : Tg} {c : Fb} {e : Fe} (L : LcOk X Z elt tg iter ifs scope own it t c e) (hy : X.N[i]? = some y) (hyl : X.env.scope.names.lookup y = some .local)
    (hsw : swapsWith (.ListComp elt [⟨tg, iter, ifs, 0⟩] scope pos) (some (.Name y py)) spos.line X.env = pure true) : PS X (.Assign [.Name y py] (.ListComp elt [⟨tg, iter, ifs, 0⟩] scope pos) spos) (tS X.K Z (sAsg (.nm i) (eLcC it t (own.map (·.2)) c e))) := by
  refine PS.cons (ps_setLc L.calm L.nd hy hyl hsw L.it L.blk L.tg L.ifs L.elt L.fs) fun E σ H ⟨δ, r, M, ee, S, h⟩ => ?_
  refine lc_read (it := it) (t := t) (c := c) (e := e) (k := fun (xs : List D) (M : Mem) => Res.ok (.ref M.length) (M ++ [Cell.lst xs])) (Z := Z) (Q' := fun v H1 => ∃ d1 M1 r1, eLcC it t (own.map (·.2)) c e δ M = .ok d1 M1 ∧ Ext H r M H1 r1 M1 ∧ Sim X.K H1 r1 M1 ∧ Rep X.K H1 r1 d1 v ∧ AftS X.K Z H1 r1 M1 (.nx (δ.set i (some d1)) M1) E) L.sl (fun _ _ _ z => z) (fun _ _ _ z => z)
      (fun H1 r1 M1 xs M2 H2 r2 Da acc S1 X1 S2 hr h1 h2 q w => ?_) ⟨δ, r, M, ee, S, AftS.bind S h ee⟩
  obtain ⟨d1, M3, r3, e1, x3, S3, q3, w3⟩ := Aft.cel2 S1 X1 S2 hr h1 h2 q w
  exact w3 _ _ r3 Ext.refl S3 ((ee.ext S x3).set q3)
end

/-! ### slices, comparisons in a row -/
section
variable {X : Cx} {Z : ZS} {a b c : Expr} {fa fb fc : Fe} {pos p2 : Pos}
def oNo : Env → Mem → Res (Option Int) := fun _ => ret none
def oAt (f : Fe) : Env → Mem → Res (Option Int) := fun δ => bnd (f δ) fun d M => match d with
  | .int i => .ok (some i) M
  | _ => .bad
def AftO (K : PySem.W.Frag) (Z : ZK) (H : Hp) (r : List Addr) (M : Mem) (res : Res (Option Int)) (Q : Option Int → Hp → Prop) : Prop := match res with
  | .ok d M' => ∀ H' r', Ext H r M H' r' M' → Sim K H' r' M' → Q d H'
  | .err e M' => ∀ H' r', Ext H r M H' r' M' → Sim K H' r' M' → Z e H' r' M'
  | .bad => False
def tO (K : PySem.W.Frag) (Z : ZS) (f : Env → Mem → Res (Option Int)) : TO := fun σ H Q => ∃ δ r M, EnvRep K H r σ δ ∧ Sim K H r M ∧ AftO K (Z σ) H r M (f δ M) Q
theorem PO.cons {e : Option Expr} {t t' : TO} (h : PO X e t) (k : ∀ σ H Q, t' σ H Q → t σ H Q) : PO X e t' := ⟨fun pins s σ H Q I q => h.run pins s σ H Q I (k σ H Q q)⟩
theorem o_none : PO X none (tO X.K Z oNo) := PO.cons po_none fun σ H Q ⟨δ, r, M, E, S, h⟩ => h H r Ext.refl S
theorem o_some (h : PE X a (tM X.K Z fa)) : PO X (some a) (tO X.K Z (oAt fa)) := PO.cons (po_some h) fun σ H Q ⟨δ, r, M, E, S, h⟩ => ⟨δ, r, M, E, S, by
  replace h : AftO X.K (Z σ) H r M (bnd (fa δ) (fun d M => match d with | .int i => .ok (some i) M | _ => .bad) M) Q := h
  unfold bnd at h
  cases q : fa δ M with
  | bad => rw [q] at h; exact h
  | err e M1 => rw [q] at h; exact h
  | ok d M1 =>
    rw [q] at h
    refine fun v H1 r1 X1 S1 q1 => ?_
    cases d with
    | int i => cases q1; exact ⟨i, rfl, h H1 r1 X1 S1⟩
    | _ => exact h.elim⟩
def eSl (g : Mem → D → Option Int → Option Int → Option D) (f : Fe) (lo hi : Env → Mem → Res (Option Int)) : Fe := fun δ => bnd (f δ) fun x => bnd (lo δ) fun l => bnd (hi δ) fun h M => opt (g M x l h) M
theorem AftO.bind {Z : ZK} {K : PySem.W.Frag} {H : Hp} {r : List Addr} {M : Mem} {m : Mem → Res (Option Int)} {k : Option Int → Mem → Res D} {Q : VK} (S : Sim K H r M) (h : Aft K Z H r M (bnd m k M) Q) :
    AftO K Z H r M (m M) (fun v H1 => ∃ M1 r1, m M = .ok v M1 ∧ Ext H r M H1 r1 M1 ∧ Sim K H1 r1 M1 ∧ Aft K Z H1 r1 M1 (k v M1) Q) := by
  unfold bnd at h
  cases e : m M with
  | ok d M' => rw [e] at h; exact fun H' r' x s => ⟨M', r', rfl, x, s, Aft.step S s x h⟩
  | err d M' => rw [e] at h; exact h
  | bad => rw [e] at h; exact h
end
end Wn
end

section
set_option Elab.async false
set_option linter.all false
set_option maxRecDepth 100000
set_option maxHeartbeats 4000000
namespace Wn
open PySem PySem.Spec PyProof.Rows L2

/-! ### dicts: cells -/
def keyD : D → Option Key
  | .int i => some (.inl i)
  | .str x => some (.inr x)
  | _ => none
def dKey : Key → D
  | .inl i => .int i
  | .inr x => .str x
def valD (kvs : List (Key × D)) (k : Key) : Option D := (kvs.find? fun kv => decide (kv.1 = k)).map (·.2)
def putD (kvs : List (Key × D)) (k : Key) (v : D) : List (Key × D) :=
  if (kvs.any fun kv => decide (kv.1 = k)) = true then kvs.map (fun kv => if kv.1 = k then (kv.1, v) else kv) else kvs ++ [(k, v)]
def dropD (kvs : List (Key × D)) (k : Key) : List (Key × D) := kvs.filter fun kv => decide (kv.1 ≠ k)
def mergeD (kvs more : List (Key × D)) : List (Key × D) := more.foldl (fun acc kv => putD acc kv.1 kv.2) kvs
section
variable {K : PySem.W.Frag} {H : Hp} {r : List Addr} {M : Mem}
theorem keyD_rep {d : D} {k : Key} {v : V} (h : Rep K H r d v) (e : keyD d = some k) : v = kV k := by
  cases d with
  | int i => cases e; exact h
  | str x => cases e; exact h
  | _ => cases e
/-- what a dict holds, in both readings -/
def DRep (K : PySem.W.Frag) (H : Hp) (r : List Addr) (kvs : List (Key × D)) (ps : List (Key × V)) : Prop := ps.map (·.1) = kvs.map (·.1) ∧ Reps K H r (kvs.map (·.2)) (ps.map (·.2))
theorem DRep.nil : DRep K H r [] [] := ⟨rfl, rfl⟩
theorem DRep.cons {k : Key} {d : D} {v : V} {kvs : List (Key × D)} {ps : List (Key × V)} (q : Rep K H r d v) (h : DRep K H r kvs ps) : DRep K H r ((k, d) :: kvs) ((k, v) :: ps) :=
  ⟨by simp [h.1], ⟨v, ps.map (·.2), rfl, q, h.2⟩⟩
theorem DRep.inv {kv : Key × D} {kvs : List (Key × D)} {qs : List (Key × V)} (h : DRep K H r (kv :: kvs) qs) : ∃ v ps, qs = (kv.1, v) :: ps ∧ Rep K H r kv.2 v ∧ DRep K H r kvs ps := by
  obtain ⟨h1, h2⟩ := h
  cases qs with
  | nil => cases h1
  | cons q qs =>
    obtain ⟨k, v⟩ := q
    rw [List.map_cons, List.map_cons] at h1
    injection h1 with e1 e2
    obtain ⟨w, ws, e3, e4, e5⟩ := h2
    rw [List.map_cons] at e3
    injection e3 with e6 e7
    subst e7
    exact ⟨v, qs, by rw [← e1], by rw [show v = w from e6]; exact e4, e2, e5⟩
theorem DRep.stay {H' : Hp} {r' : List Addr} {kvs : List (Key × D)} {ps : List (Key × V)} (e : Stay H r H' r') (h : DRep K H r kvs ps) : DRep K H' r' kvs ps := ⟨h.1, h.2.stay e⟩
theorem DRep.length {kvs : List (Key × D)} {ps : List (Key × V)} (h : DRep K H r kvs ps) : ps.length = kvs.length := by
  have := congrArg List.length h.1
  simpa using this
theorem DRep.val : ∀ {kvs : List (Key × D)} {ps : List (Key × V)} (k : Key), DRep K H r kvs ps → (valD kvs k = none ∧ valV ps k = none) ∨ ∃ d v, valD kvs k = some d ∧ valV ps k = some v ∧ Rep K H r d v
  | [], ps, k, h => by
    have : ps = [] := by have := h.length; exact List.length_eq_zero_iff.mp this
    subst this
    exact .inl ⟨rfl, rfl⟩
  | kv :: kvs, ps, k, h => by
    obtain ⟨v, qs, rfl, q, h'⟩ := h.inv
    by_cases e : kv.1 = k
    · refine .inr ⟨kv.2, v, ?_, valV_pos e, q⟩
      simp [valD, List.find?_cons, e]
    · have e1 : valD (kv :: kvs) k = valD kvs k := by simp [valD, List.find?_cons, e]
      rw [e1, valV_neg (by exact e)]
      exact DRep.val k h'
theorem DRep.any : ∀ {kvs : List (Key × D)} {ps : List (Key × V)} (k : Key), DRep K H r kvs ps → (ps.any fun kv => decide (kv.1 = k)) = kvs.any fun kv => decide (kv.1 = k) := fun {kvs ps} k h => by
  have e1 : (ps.any fun kv => decide (kv.1 = k)) = (ps.map (·.1)).any fun x => decide (x = k) := by rw [List.any_map]; rfl
  have e2 : (kvs.any fun kv => decide (kv.1 = k)) = (kvs.map (·.1)).any fun x => decide (x = k) := by rw [List.any_map]; rfl
  rw [e1, e2, h.1]
theorem DRep.repl {d : D} {v : V} (k : Key) (q : Rep K H r d v) : ∀ {kvs : List (Key × D)} {ps : List (Key × V)}, DRep K H r kvs ps → DRep K H r (kvs.map fun kv => if kv.1 = k then (kv.1, d) else kv) (ps.map fun kv => if kv.1 = k then (kv.1, v) else kv)
  | [], ps, h => by
    have : ps = [] := List.length_eq_zero_iff.mp h.length
    subst this
    exact .nil
  | kv :: kvs, ps, h => by
    obtain ⟨w, qs, rfl, q', h'⟩ := h.inv
    rw [List.map_cons, List.map_cons]
    by_cases e : kv.1 = k
    · rw [if_pos e, if_pos e]; exact .cons q (DRep.repl k q h')
    · rw [if_neg e, if_neg e]; exact .cons q' (DRep.repl k q h')
theorem DRep.snoc {d : D} {v : V} (k : Key) (q : Rep K H r d v) : ∀ {kvs : List (Key × D)} {ps : List (Key × V)}, DRep K H r kvs ps → DRep K H r (kvs ++ [(k, d)]) (ps ++ [(k, v)])
  | [], ps, h => by
    have : ps = [] := List.length_eq_zero_iff.mp h.length
    subst this
    exact .cons q .nil
  | kv :: kvs, ps, h => by
    obtain ⟨w, qs, rfl, q', h'⟩ := h.inv
    exact .cons q' (DRep.snoc k q h')
theorem DRep.put {kvs : List (Key × D)} {ps : List (Key × V)} {d : D} {v : V} (k : Key) (q : Rep K H r d v) (h : DRep K H r kvs ps) : DRep K H r (putD kvs k d) (putK ps k v) := by
  unfold putD putK
  rw [h.any k]
  split
  · exact h.repl k q
  · exact h.snoc k q
theorem DRep.drop (k : Key) : ∀ {kvs : List (Key × D)} {ps : List (Key × V)}, DRep K H r kvs ps → DRep K H r (dropD kvs k) (dropK ps k)
  | [], ps, h => by
    have : ps = [] := List.length_eq_zero_iff.mp h.length
    subst this
    exact .nil
  | kv :: kvs, ps, h => by
    obtain ⟨w, qs, rfl, q', h'⟩ := h.inv
    unfold dropD dropK
    rw [List.filter_cons, List.filter_cons]
    by_cases e : kv.1 = k
    · rw [if_neg (by simpa using e), if_neg (by simpa using e)]; exact DRep.drop k h'
    · rw [if_pos (by simpa using e), if_pos (by simpa using e)]; exact .cons q' (DRep.drop k h')
theorem DRep.merge : ∀ {more : List (Key × D)} {qs : List (Key × V)} {kvs : List (Key × D)} {ps : List (Key × V)}, DRep K H r more qs → DRep K H r kvs ps → DRep K H r (mergeD kvs more) (mergeK ps qs)
  | [], qs, kvs, ps, h, h' => by
    have : qs = [] := List.length_eq_zero_iff.mp h.length
    subst this
    exact h'
  | kv :: more, qs, kvs, ps, h, h' => by
    obtain ⟨v, qs', rfl, q, h2⟩ := h.inv
    exact DRep.merge (more := more) (qs := qs') (kvs := putD kvs kv.1 kv.2) (ps := putK ps kv.1 v) h2 (h'.put kv.1 q)
end
def dctOf (M : Mem) : D → Option (List (Key × D))
  | .ref n => match M[n]? with
    | some (.dct kvs) => some kvs
    | _ => none
  | _ => none
theorem dctOf_rep {K : PySem.W.Frag} {H : Hp} {r : List Addr} {M : Mem} {d : D} {kvs : List (Key × D)} {v : V} (S : Sim K H r M) (h : Rep K H r d v) (e : dctOf M d = some kvs) : ∃ n a ps, d = .ref n ∧ M[n]? = some (.dct kvs) ∧ v = .ref a ∧ r[n]? = some a ∧ H a = some (.dK ps) ∧ DRep K H r kvs ps := by
  cases d with
  | ref n =>
    obtain ⟨a, rfl, h1⟩ := h
    have e' : (match M[n]? with | some (.dct kvs) => some kvs | _ => none) = some kvs := e
    cases q : M[n]? with
    | none => rw [q] at e'; cases e'
    | some c =>
      rw [q] at e'
      cases c with
      | dct kvs' =>
        cases e'
        obtain ⟨ps, h2, h3⟩ := S.cell n a _ h1 q
        exact ⟨n, a, ps, rfl, q, rfl, h1, h2, h3⟩
      | _ => cases e'
  | _ => cases e
theorem dget_of {K : PySem.W.Frag} {H : Hp} {r : List Addr} {kvs : List (Key × D)} {ps : List (Key × V)} {a : Addr} {k : Key} (h : H a = some (.dK ps)) : DGet H a (kV k) (valV ps k) := DGet.k h
/-- a dict's cell is written -/
theorem ext_dct {K : PySem.W.Frag} {H : Hp} {r : List Addr} {M : Mem} {n : Nat} {a : Addr} {kvs kvs' : List (Key × D)} {ps ps' : List (Key × V)} (S : Sim K H r M) (ra : r[n]? = some a) (h0 : M[n]? = some (.dct kvs)) (ha : H a = some (.dK ps)) (q : DRep K H r kvs' ps') :
    Ext H r M (upd H a (.dK ps')) r (M.set n (.dct kvs')) ∧ Sim K (upd H a (.dK ps')) r (M.set n (.dct kvs')) :=
  ext_writeG S ra h0 (fun z => by cases z) (.inr (.inl ⟨ps, ha⟩)) fun H' r' st e => ⟨ps', e, (q.stay st).1, (q.stay st).2⟩
/-! ### operators on dicts -/
section
variable {X : Cx}
def gInD : Mem → D → D → Option D := fun M x y => match dctOf M y, keyD x with
  | some kvs, some k => some (.bl (valD kvs k).isSome)
  | _, _ => none
theorem o2_inD (hu : X.A.units + 1 < cLine) : Op2 X (compareOp .In) gInD := by
  intro pins s σ H r M x y v u dx dy d Q I rx ry S qx qy e w
  unfold gInD at e
  split at e
  · rename_i kvs k h1 h2
    cases e
    obtain ⟨n, a, ps, rfl, hM, rfl, ra, ha, hd⟩ := dctOf_rep S qy h1
    have := keyD_rep qx h2
    subst this
    cases ry
    refine d_in hu I (DGet.k ha) rx fun s' I' => ?_
    have e : (valV ps k).isSome = (valD kvs k).isSome := by
      rcases hd.val k with ⟨e1, e2⟩ | ⟨d', v', e1, e2, _⟩ <;> rw [e1, e2] <;> rfl
    rw [e]
    exact ⟨.bl _, H, I', rfl, w.here S rfl⟩
  · cases e
def gNotInD : Mem → D → D → Option D := fun M x y => match dctOf M y, keyD x with
  | some kvs, some k => some (.bl (!(valD kvs k).isSome))
  | _, _ => none
theorem o2_notInD (hu : X.A.units + 1 < cLine) : Op2 X (compareOp .NotIn) gNotInD := by
  intro pins s σ H r M x y v u dx dy d Q I rx ry S qx qy e w
  unfold gNotInD at e
  split at e
  · rename_i kvs k h1 h2
    cases e
    obtain ⟨n, a, ps, rfl, hM, rfl, ra, ha, hd⟩ := dctOf_rep S qy h1
    have := keyD_rep qx h2
    subst this
    cases ry
    refine d_notIn hu I (DGet.k ha) rx fun s' I' => ?_
    have e : (valV ps k).isSome = (valD kvs k).isSome := by
      rcases hd.val k with ⟨e1, e2⟩ | ⟨d', v', e1, e2, _⟩ <;> rw [e1, e2] <;> rfl
    rw [e]
    exact ⟨.bl _, H, I', rfl, w.here S rfl⟩
  · cases e
/-! ### methods of dicts -/
def isDct (M : Mem) (d : D) : Bool := (dctOf M d).isSome
def eMd (g : D → List D → Mem → Res D) (a : Fe) (l : Fl) : Fe := fun δ => bnd (a δ) fun x M => if isDct M x = true then bnd (l δ) (fun xs M => noErr (g x xs M)) M else .bad
theorem r_mtd {Z : ZS} {o e : Expr} {es : List Expr} {fa : Fe} {fl : Fl} {apos cpos : Pos} {id : String} {name : Str} {g : D → List D → Mem → Res D} (pa : PlainAttrs "dict") (slot : Slot "dict" name id) (hty : typeOf (.builtin id) = pure (.type "method_descriptor")) (hm : MtL X id g) (ho : PE X o (tM X.K Z fa)) (ha : PA X (e :: es) (tL X.K Z fl))
    (hbase : attributeBase o name X.env (eval o X.env) = eval o X.env)
    (hfew : ((backTo cpos (starEach (e :: es) X.env)).all (fun x => !x.1) && (backToKw cpos (keywordEach [] X.env)).all (fun x => x.1.isSome)
      && decide ((e :: es).length + ([] : List Keyword).length + (if ([] : List Keyword).isEmpty then 0 else 1) < 30)) = true)
    (hline : (apos.endLine == cpos.line) = true) (hs : starEach (e :: es) X.env = (false, eval e X.env) :: starEach es X.env) (hplain : (backTo cpos (starEach es X.env)).any (·.1) = false) :
    PE X (.Call (.Attribute o name apos) (e :: es) [] cpos) (tM X.K Z (eMd g fa fl)) := by
  refine ⟨fun pins s σ H Q I ⟨δ, r, M, E, S, h⟩ => ?_⟩
  refine wpAny_Call_method_late hbase hfew hline rfl (thn (ho.run pins s σ H _ I ⟨δ, r, M, E, S, Aft.bind S h⟩) fun v s1 ⟨x, H1, I1, r1, d1, M1, rr, e1, X1, S1, q1, w⟩ => ?_)
  by_cases hl : isDct M1 d1 = true
  · simp only [hl, if_true] at w
    obtain ⟨kvs, hk⟩ := Option.isSome_iff_exists.mp hl
    obtain ⟨n, a, ps, rfl, hM, rfl, ra, hh, hd⟩ := dctOf_rep S1 q1 hk
    have r1' := r1
    cases r1'
    obtain ⟨h1, h2, _⟩ := isD_at I1 (a := a) (.inl ⟨ps, .inl hh⟩)
    refine ⟨"dict", id, pa, slot, hty, h1, h2, ?_⟩
    have hA := ha.run cpos pins s1 σ H1 _ I1 ⟨δ, rr, M1, E.ext S X1, S1, Aft.bindL S1 w⟩
    rw [hs] at hA ⊢
    refine Calls.callWith_builtin (by show (false || (backTo cpos (starEach es X.env)).any (·.1)) = false; rw [hplain] <;> rfl) (Calls.evalArgs_plain ?_)
    exact thn hA fun us s2 ⟨vs, H2, I2, r2, ds, M2, rr2, e2, X2, S2, q2, w2⟩ => hm pins s2 σ H2 rr2 M2 (.ref a) vs (.ref a) us (.ref n) ds Q I2 rfl r2 S2 (q1.ext S1 X2) q2 w2.noErr
  · simp only [if_neg hl] at w; exact w.elim
def fGetD : D → List D → Mem → Res D := fun x xs M => match dctOf M x, xs with
  | some kvs, [k] => (match keyD k with
    | some k => .ok ((valD kvs k).getD .non) M
    | none => .bad)
  | some kvs, [k, d] => (match keyD k with
    | some k => .ok ((valD kvs k).getD d) M
    | none => .bad)
  | _, _ => .bad
theorem m_get (hu : X.A.units + 1 < cLine) : MtL X "dict.get" fGetD := by
  intro pins s σ H r M x xs v us dx ds Q I rx rs S qx qs h
  unfold fGetD at h
  split at h
  · rename_i kvs k h1
    split at h
    · rename_i k' h2
      obtain ⟨n, a, ps, rfl, hM, rfl, ra, ha, hd⟩ := dctOf_rep S qx h1
      obtain ⟨w, _, rfl, qy, hw⟩ := qs
      cases hw
      have := keyD_rep qy h2
      subst this
      obtain ⟨u, rfl, ru⟩ := Vals.one rs
      cases rx
      refine d_get1 hu I (DGet.k ha) ru fun w' s' I' rw' => ⟨_, H, I', rw', ?_⟩
      rcases hd.val k' with ⟨e1, e2⟩ | ⟨d', v', e1, e2, q⟩
      · rw [e1] at h
        rw [e2]
        exact h .non H r Ext.refl S rfl
      · rw [e1] at h
        rw [e2]
        exact h v' H r Ext.refl S q
    · exact h.elim
  · rename_i kvs k d h1
    split at h
    · rename_i k' h2
      obtain ⟨n, a, ps, rfl, hM, rfl, ra, ha, hd⟩ := dctOf_rep S qx h1
      obtain ⟨w, _, rfl, qy, w2, _, rfl, qd, hw⟩ := qs
      cases hw
      have := keyD_rep qy h2
      subst this
      obtain ⟨u, u2, rfl, ru, ru2⟩ := Vals.two rs
      cases rx
      refine d_get2 hu I (DGet.k ha) ru ru2 fun w' s' I' rw' => ⟨_, H, I', rw', ?_⟩
      rcases hd.val k' with ⟨e1, e2⟩ | ⟨d', v', e1, e2, q⟩
      · rw [e1] at h
        rw [e2]
        exact h w2 H r Ext.refl S qd
      · rw [e1] at h
        rw [e2]
        exact h v' H r Ext.refl S q
    · exact h.elim
  · exact h.elim
def fPopD : D → List D → Mem → Res D := fun x xs M => match x, xs with
  | .ref n, [k] => (match M[n]?, keyD k with
    | some (.dct kvs), some k => (match valD kvs k with
      | some d => .ok d (M.set n (.dct (dropD kvs k)))
      | none => .bad)
    | _, _ => .bad)
  | .ref n, [k, d0] => (match M[n]?, keyD k with
    | some (.dct kvs), some k => (match valD kvs k with
      | some d => .ok d (M.set n (.dct (dropD kvs k)))
      | none => .ok d0 M)
    | _, _ => .bad)
  | _, _ => .bad
theorem m_pop : MtL X "dict.pop" fPopD := by
  intro pins s σ H r M x xs v us dx ds Q I rx rs S qx qs h
  unfold fPopD at h
  split at h
  · rename_i n k
    split at h
    · rename_i kvs k' hM h2
      split at h
      · rename_i d hv
        obtain ⟨_, a, ps, e0, _, rfl, ra, ha, hd⟩ := dctOf_rep (kvs := kvs) S qx (by simp only [dctOf, hM])
        cases e0
        obtain ⟨w, _, rfl, qy, hw⟩ := qs
        cases hw
        have := keyD_rep qy h2
        subst this
        obtain ⟨u, rfl, ru⟩ := Vals.one rs
        cases rx
        rcases hd.val k' with ⟨e1, e2⟩ | ⟨d', v', e1, e2, q⟩
        · rw [e1] at hv; cases hv
        · rw [e1] at hv
          cases hv
          obtain ⟨X4, S4⟩ := ext_dct S ra hM ha (hd.drop k')
          refine d_pop I ha ru e2 (.inl rfl) fun w' s' I' rw' => ⟨v', _, I', rw', ?_⟩
          exact h v' _ r X4 S4 (q.ext S X4)
      · exact h.elim
    · exact h.elim
  · rename_i n k d0
    split at h
    · rename_i kvs k' hM h2
      obtain ⟨_, a, ps, e0, _, rfl, ra, ha, hd⟩ := dctOf_rep (kvs := kvs) S qx (by simp only [dctOf, hM])
      cases e0
      obtain ⟨w, _, rfl, qy, w2, _, rfl, qd, hw⟩ := qs
      cases hw
      have := keyD_rep qy h2
      subst this
      obtain ⟨u, u2, rfl, ru, ru2⟩ := Vals.two rs
      cases rx
      rcases hd.val k' with ⟨e1, e2⟩ | ⟨d', v', e1, e2, q⟩
      · rw [e1] at h
        refine d_popD I ha ru e2 fun s' I' => ⟨w2, H, I', ru2, ?_⟩
        exact h w2 H r Ext.refl S qd
      · rw [e1] at h
        obtain ⟨X4, S4⟩ := ext_dct S ra hM ha (hd.drop k')
        refine d_pop I ha ru e2 (.inr ⟨u2, rfl⟩) fun w' s' I' rw' => ⟨v', _, I', rw', ?_⟩
        exact h v' _ r X4 S4 (q.ext S X4)
    · exact h.elim
  · exact h.elim
/-! ### dict(pairs) -/
def pairD : D → Option (Key × D)
  | .tup [k, v] => (keyD k).map fun k => (k, v)
  | _ => none
def pairsD : List D → Option (List (Key × D))
  | [] => some []
  | d :: ds => match pairD d, pairsD ds with
    | some p, some ps => some (p :: ps)
    | _, _ => none
theorem pairsD_rep {K : PySem.W.Frag} {H : Hp} {r : List Addr} : ∀ {ds : List D} {vs : List V} {kvs : List (Key × D)}, Reps K H r ds vs → pairsD ds = some kvs → ∃ (ps : List Addr) (qs : List (Key × V)), vs = ps.map V.ref ∧ Paired (fun p kv => SqT K H p [kV kv.1, kv.2]) ps qs ∧ DRep K H r kvs qs
  | [], _, _, h, e => by cases h; cases e; exact ⟨[], [], rfl, .nil, .nil⟩
  | d :: ds, _, kvs, h, e => by
    obtain ⟨v, ws, rfl, h1, h2⟩ := h
    have e' : (match pairD d, pairsD ds with | some p, some ps => some (p :: ps) | _, _ => none) = some kvs := e
    cases q1 : pairD d with
    | none => rw [q1] at e'; cases e'
    | some p =>
      cases q2 : pairsD ds with
      | none => rw [q1, q2] at e'; cases e'
      | some kvs2 =>
        rw [q1, q2] at e'
        cases e'
        obtain ⟨ps, qs, rfl, f1, f2⟩ := pairsD_rep h2 q2
        unfold pairD at q1
        split at q1
        · rename_i k x
          obtain ⟨k', e1, rfl⟩ := Option.map_eq_some_iff.mp q1
          obtain ⟨a, us, rfl, g1, g2⟩ := h1
          obtain ⟨y, _, rfl, g3, z, _, rfl, g4, g5⟩ := g2
          cases g5
          have := keyD_rep g3 e1
          subst this
          exact ⟨a :: ps, (k', z) :: qs, rfl, .cons g1 f1, .cons g4 f2⟩
        · cases q1
/-- dict(a) -/
def gDcp : List D → Mem → Res D := fun ds M => match ds with
  | [d] => (match lstOf M d with
    | some es => (match pairsD es with
      | some kvs => .ok (.ref M.length) (M ++ [.dct (mergeD [] kvs)])
      | none => .bad)
    | none => .bad)
  | _ => .bad
def eDcp (a : Fe) : Fe := fun δ => bnd (lCons a lNil δ) gDcp
theorem r_dcp {Z : ZS} {a : Expr} {fa : Fe} {p pos : Pos} (hc : X.calm = true) (hg : Gl X "dict") (hm : X.mg "dict" = none) (ha : PE X a (tM X.K Z fa)) (hs : starEach [a] X.env = [(false, eval a X.env)]) : PE X (.Call (.Name "dict" p) [a] [] pos) (tM X.K Z (eDcp fa)) := by
  refine ⟨fun pins s σ H Q I ⟨δ, r, M, E, S, h⟩ => ?_⟩
  refine wpAny_Call_Name_kw (ld_blt I hg hm (show bootBuiltins "dict" = some (.type "dict") by kernel_rfl) ?_)
  have hp : PA X [a] (tL X.K Z (lCons fa lNil)) := l_cons ha l_nil hs
  refine PyProof.Rows.callWith_type1 (thn (hp.run pos pins s σ H _ I ⟨δ, r, M, E, S, Aft.bindL S h⟩) fun us s1 ⟨vs, H1, I1, rv, ds, M1, r1, e2, X1, S1, q1, w⟩ => ?_) hs rfl
  unfold gDcp at w
  split at w
  · rename_i d1
    split at w
    · rename_i es f
      split at w
      · rename_i kvs g
        obtain ⟨v, _, rfl, qv, hn⟩ := q1
        cases hn
        obtain ⟨b, vs, rfl, h1, h2⟩ := lstOf_rep S1 qv f
        obtain ⟨ps, qs, rfl, f1, f2⟩ := pairsD_rep h2 g
        refine call_dictP hc pins s1 σ H1 [V.ref b] us Q I1 rv ⟨b, ps, qs, rfl, h1, f1, fun p hp => ?_⟩
        exact Aft.celG (nc := .dct (mergeD [] kvs)) S1 hp (fun H' r' st e => ⟨mergeK [] qs, e, ((DRep.merge f2 .nil).stay st).1, ((DRep.merge f2 .nil).stay st).2⟩) w
      · exact w.elim
    · exact w.elim
  · exact w.elim
end
/-! ### list.extend -/
def fExtend : D → List D → Mem → Res D := fun x xs M => match x, xs with
  | .ref n, [.ref m] => (match M[n]?, M[m]? with
    | some (.lst ds), some (.lst es) => if ds.length + es.length ≤ sizeLine then .ok .non (M.set n (.lst (ds ++ es))) else .bad
    | _, _ => .bad)
  | _, _ => .bad
theorem m_extend {X : Cx} : MtL X "list.extend" fExtend := by
  intro pins s σ H r M x xs v us dx ds Q I rx rs S qx qs h
  unfold fExtend at h
  split at h
  · rename_i n m
    split at h
    · rename_i es fs hM hM2
      split at h
      · rename_i hz
        obtain ⟨a, rfl, ra⟩ := qx
        obtain ⟨vs, hH, qc⟩ := S.cell n a _ ra hM
        obtain ⟨w, _, rfl, ⟨b, rfl, rb⟩, hw⟩ := qs
        cases hw
        obtain ⟨ws, hH2, qc2⟩ := S.cell m b _ rb hM2
        refine mt_extend pins s σ H (.ref a) [.ref b] v us Q I rx rs ⟨a, b, vs, ws, rfl, rfl, hH, hH2, by rw [← qc.length, ← qc2.length]; exact hz, ?_⟩
        obtain ⟨X4, S4⟩ := ext_write S ra hM (qc.append qc2)
        exact h .non _ r X4 S4 rfl
      · exact h.elim
    · exact h.elim
  · exact h.elim
/-! ### d[k], d[k] = v -/
def gIxD : Mem → D → D → Option D := fun M x y => match dctOf M x, keyD y with
  | some kvs, some k => valD kvs k
  | _, _ => none
theorem ixsD {X : Cx} (hu : X.A.units + 1 < cLine) : IxS X gIxD := by
  intro value slice pins s σ H r M x y v u dx dy d Q I rx ry S qx qy e w hs
  unfold gIxD at e
  split at e
  · rename_i kvs k h1 h2
    obtain ⟨n, a, ps, rfl, hM, rfl, ra, ha, hd⟩ := dctOf_rep S qx h1
    have := keyD_rep qy h2
    subst this
    cases rx
    rcases hd.val k with ⟨e1, e2⟩ | ⟨d', v', e1, e2, q⟩
    · rw [e1] at e; cases e
    · rw [e1] at e
      cases e
      have g : DGet H a (kV k) (some v') := by rw [← e2]; exact DGet.k ha
      exact tail_any (dict_typeIs I g) PySem.F.slot_dict_getitem.lookup (d_getItem hu I g ry fun w' s3 I3 rw' => ⟨v', H, I3, rw', w.here S q⟩) hs
  · cases e
theorem IxS.or {X : Cx} {g g' : Mem → D → D → Option D} (h : IxS X g) (h' : IxS X g') : IxS X (fun M a b => (g M a b).or (g' M a b)) :=
  fun value slice pins s σ H r M x y v u dx dy d Q I rx ry S qx qy e w hs => by
    cases q : g M dx dy with
    | some d' =>
      have e' : (g M dx dy).or (g' M dx dy) = some d := e
      rw [q] at e'
      cases e'
      exact h value slice pins s σ H r M x y v u dx dy _ Q I rx ry S qx qy q w hs
    | none =>
      have e' : (g M dx dy).or (g' M dx dy) = some d := e
      rw [q] at e'
      exact h' value slice pins s σ H r M x y v u dx dy d Q I rx ry S qx qy e' w hs
def setK (o i v : D) : Mem → Option Mem := fun M => match o, keyD i with
  | .ref n, some k => match M[n]? with
    | some (.dct kvs) => if kvs.length < sizeLine then some (M.set n (.dct (putD kvs k v))) else none
    | _ => none
  | _, _ => none
theorem setK_some {x y d : D} {M M' : Mem} (h : setK x y d M = some M') : ∃ n k kvs, x = .ref n ∧ keyD y = some k ∧ M[n]? = some (.dct kvs) ∧ kvs.length < sizeLine ∧ M' = M.set n (.dct (putD kvs k d)) := by
  unfold setK at h
  split at h
  · rename_i n k hk
    split at h
    · rename_i kvs hM
      split at h
      · rename_i hz
        cases h
        exact ⟨n, k, kvs, rfl, hk, hM, hz, rfl⟩
      · cases h
    · cases h
  · cases h
def setA (o i v : D) : Mem → Option Mem := fun M => (setD o i v M).or (setK o i v M)
def sSetA (o i e : Fe) : Fs := fun δ => bndS δ (e δ) fun d => bndS δ (o δ) fun x => bndS δ (i δ) fun y => fun M => match setA x y d M with
  | some M' => .nx δ M'
  | none => .bad
/-- a store by values, to a list or to a dict -/
def rSetA : TSet := fun o i v H Q => rSetL o i v H Q ∨ ∃ a H', o = .ref a ∧ DPut H a i v H' ∧ Q H'
theorem set_any {X : Cx} (hu : X.A.units + 1 < cLine) : PSet X rSetA := by
  intro pins s σ H o i v ov iv u Q I ro ri rv h
  rcases h with h | ⟨a, H', rfl, g, q⟩
  · exact set_list pins s σ H o i v ov iv u Q I ro ri rv h
  · cases ro
    exact d_setItem hu I g ri rv fun s' I' => ⟨H', I', q⟩
section
variable {X : Cx} {Z : ZS} {e o i : Expr} {pos tpos : Pos} {fe fo fi : Fe}
theorem s_setA (hu : X.A.units + 1 < cLine) (he : PE X e (tM X.K Z fe)) (ho : PE X o (tM X.K Z fo)) (hi : PE X i (tM X.K Z fi)) (hs : swapsWithSole [.Subscript o i tpos] e pos.line X.env = pure false) (hw : swappedStores [.Subscript o i tpos] e X.env = pure none)
    (h1 : (assignEach [.Subscript o i tpos] X.env).map (·.2) = [assign (.Subscript o i tpos) X.env])
    (ha : ∀ v, assign (.Subscript o i tpos) X.env v = (do
      let ov ← holding [v] (eval o X.env)
      let iv ← holding [v, ov] (eval i X.env)
      standAt tpos
      holding [v, ov, iv] (setItem ov iv v)
      release [v, ov, iv] [])) : PS X (.Assign [.Subscript o i tpos] e pos) (tS X.K Z (sSetA fo fi fe)) :=
  PS.cons (ps_asg he (pg_sub ho hi (set_any hu) ha) hs hw h1) fun E σ H ⟨δ, r, M, e, S, h⟩ => ⟨δ, r, M, e, S, (AftS.bind S h e).imp fun v H1 ⟨d1, M1, r1, e1, x1, S1, q1, w⟩ =>
    ⟨δ, r1, M1, e.ext S x1, S1, (AftS.bind S1 w (e.ext S x1)).imp fun vo H2 ⟨d2, M2, r2, e2, x2, S2, q2, w2⟩ =>
    ⟨δ, r2, M2, (e.ext S x1).ext S1 x2, S2, (AftS.bind S2 w2 ((e.ext S x1).ext S1 x2)).imp fun vi H3 ⟨d3, M3, r3, e3, x3, S3, q3, w3⟩ => by
      cases f : setD d2 d3 d1 M3 with
      | some M4 =>
        have f' : setA d2 d3 d1 M3 = some M4 := by unfold setA; rw [f]; rfl
        simp only [f'] at w3
        obtain ⟨n, k, ds, j, rfl, rfl, hM, hj, rfl⟩ := setD_some f
        obtain ⟨a, rfl, ra⟩ := q2.ext S2 x3
        cases q3
        obtain ⟨vs, hH, qs⟩ := S3.cell n a _ ra hM
        have qn : Reps X.K H3 r3 (ds.set j d1) (vs.set j v) := qs.set j ((q1.ext S1 x2).ext S2 x3)
        obtain ⟨X4, S4⟩ := ext_write S3 ra hM qn
        exact .inl ⟨a, vs, k, j, rfl, rfl, hH, by rw [← qs.length]; exact hj, w3 σ _ r3 X4 S4 ((((e.ext S x1).ext S1 x2).ext S2 x3).ext S3 X4)⟩
      | none =>
        cases g : setK d2 d3 d1 M3 with
        | none =>
          have f' : setA d2 d3 d1 M3 = none := by unfold setA; rw [f, g]; rfl
          simp only [f'] at w3
          exact w3.elim
        | some M4 =>
          have f' : setA d2 d3 d1 M3 = some M4 := by unfold setA; rw [f, g]; rfl
          simp only [f'] at w3
          obtain ⟨n, k, kvs, rfl, hk, hM, hz, rfl⟩ := setK_some g
          obtain ⟨_, a, ps, e0, _, rfl, ra, hH, hd⟩ := dctOf_rep (kvs := kvs) S3 (q2.ext S2 x3) (by simp only [dctOf, hM])
          cases e0
          have := keyD_rep q3 hk
          subst this
          obtain ⟨X4, S4⟩ := ext_dct S3 ra hM hH (hd.put k ((q1.ext S1 x2).ext S2 x3))
          exact .inr ⟨a, _, rfl, DPut.k hH (by rw [hd.length]; exact hz), w3 σ _ r3 X4 S4 ((((e.ext S x1).ext S1 x2).ext S2 x3).ext S3 X4)⟩⟩⟩⟩
end
end Wn
end

section
set_option Elab.async false
set_option linter.all false
set_option maxRecDepth 100000
set_option maxHeartbeats 4000000
namespace Wn
open PySem PySem.Spec PyProof.Rows L2
open PySem.Sem (wp)

/-! ### zip of two texts -/
theorem strI_at {h h' : Heap} {a : Addr} {ty : String} {x : Str} {t : Tok} {i : Nat} (y : h.IsStrIter a ty x t i) (k : ∀ o, h.get? a = some o → h'.get? a = some o) : h'.IsStrIter a ty x t i := by
  obtain ⟨o, e1, e2⟩ := y
  exact ⟨o, k o e1, e2⟩
/-- the signs of two texts, in new pairs -/
def Izs (x1 x2 : Str) : It := ⟨fun i _ => i < x1.cps.size ∧ i < x2.cps.size, fun i H v H' => ∃ T c d, v = .ref T ∧ H T = none ∧ H' = upd H T (.tup [.str ⟨#[c]⟩, .str ⟨#[d]⟩]) ∧ x1.cps[i]? = some c ∧ x2.cps[i]? = some d, fun i _ => i ≤ x1.cps.size ∧ i ≤ x2.cps.size ∧ (i = x1.cps.size ∨ i = x2.cps.size)⟩
section
variable {prog : Program} {w : World} {A : Around} {E : Value → Shared → Prop} {s : Shared}
theorem zipS_next_item (hh : A.handled = none) {z TI TO i1 i2 l1 l2 : Addr} {k1 k2 : Nat} {x1 x2 : Str} {t1 t2 : Tok} {ty1 ty2 : String} {c1 c2 : Nat} {a b : Value} {Q : Value → Shared → Prop} (D : ZipApart z TI TO i1 i2 l1 l2) (ht1 : ty1 = "str_ascii_iterator" ∨ ty1 = "str_iterator") (ht2 : ty2 = "str_ascii_iterator" ∨ ty2 = "str_iterator")
    (hz : IsZip s.heap z TI TO .none) (hTI : IsPair s.heap TI (.ref i1) (.ref i2)) (hTO : IsPair s.heap TO a b)
    (h1 : s.heap.IsStrIter i1 ty1 x1 t1 k1) (h2 : s.heap.IsStrIter i2 ty2 x2 t2 k2) (hx : x1.cps[k1]? = some c1) (hy : x2.cps[k2]? = some c2)
    (hQ : ∀ h' tk u1 u2, IsZip h' z TI TO (rawInt s.heap.objs.size) → IsPair h' TO (.str ⟨#[c1]⟩ u1) (.str ⟨#[c2]⟩ u2) → h'.IsStrIter i1 ty1 x1 t1 (k1 + 1) → h'.IsStrIter i2 ty2 x2 t2 (k2 + 1) → IsPair h' s.heap.objs.size (.str ⟨#[c1]⟩ u1) (.str ⟨#[c2]⟩ u2) → h'.objs.size = s.heap.objs.size + 1 →
      (∀ c o, c ≠ z → c ≠ TO → c ≠ i1 → c ≠ i2 → s.heap.get? c = some o → h'.get? c = some o) → Q (.ref s.heap.objs.size) { s with heap := h', toks := tk }) :
    wpAny (model prog w) A (Builtin.«zip.__next__» ⟨[.ref z], []⟩) (fun fin s' => ∃ v, fin = .done (.ret v) ∧ Q v s') E s := by
  have hk1 : k1 < x1.cps.size := (Array.getElem?_eq_some_iff.mp hx).1
  have hk2 : k2 < x2.cps.size := (Array.getElem?_eq_some_iff.mp hy).1
  show wpAny _ _ (field (.ref z) 2 >>= _) _ _ _
  refine wpAny_bind (wpAny_field hz rfl (x := .bool false) rfl ?_)
  show wpAny _ _ (field (.ref z) 3 >>= _) _ _ _
  refine wpAny_bind (wpAny_field hz rfl (x := .ref TI) rfl ?_)
  refine wpAny_bind (wpAny_seqItems hTI rfl ?_)
  show wpAny _ _ (Builtin.SmallTypes.ownedTupleIsFree (.ref z) >>= _) _ _ _
  refine wpAny_bind ?_
  unfold Builtin.SmallTypes.ownedTupleIsFree
  refine wpAny_bind (wpAny_field hz rfl (x := .none) rfl (wpAny_pure ?_))
  simp only [if_true]
  refine wpAny_bind (wpAny_rule ?_)
  refine wpAny_bind (wpAny_field hz rfl (x := .ref TO) rfl ?_)
  refine wpAny_bind (wpAny_setField_rec hz (by simp) fun h₁ hz₁ hs₁ => ?_)
  replace hz₁ : IsZip h₁ z TI TO .ellipsis := hz₁
  refine wpAny_bind ?_
  simp only [List.zipIdx_cons, List.zipIdx_nil, List.forIn_cons, List.forIn_nil]

  refine wpAny_bind (wpAny_bind (wpAny_onRaise ?_))
  show wpAny _ _ (Builtin.SmallTypes.nextOf (.ref i1) >>= _) _ _ _
  refine wpAny_bind ((draw_str hh i1 x1 t1 ty1 ht1).item k1 _ _ _ hk1 (h1.extBut hs₁.extBut D.i1z) fun v₂ h₂ tk₂ hv₂ h1₂ hs₂ => wpAny_pure ?_)
  obtain ⟨c1', u1, hc1, rfl⟩ := hv₂
  rw [hx] at hc1
  cases hc1
  have hTO₂ : IsPair h₂ TO a b := hs₂.extBut _ _ D.TOi1 (hs₁.extBut _ _ D.TOz hTO)
  refine wpAny_bind (wpAny_seqItems hTO₂ rfl ?_)
  refine wpAny_bind (wpAny_updateSeq_pair hTO₂ fun h₃ hTO₃ hs₃ => ?_)
  replace hTO₃ : IsPair h₃ TO (.str ⟨#[c1]⟩ u1) b := hTO₃
  refine wpAny_bind (wpAny_letGo (wpAny_pure ?_))

  refine wpAny_bind (wpAny_bind (wpAny_onRaise ?_))
  show wpAny _ _ (Builtin.SmallTypes.nextOf (.ref i2) >>= _) _ _ _
  refine wpAny_bind ((draw_str hh i2 x2 t2 ty2 ht2).item k2 _ _ _ hk2 (((h2.extBut hs₁.extBut D.i2z).extBut hs₂.extBut D.i12.symm).extBut hs₃.extBut D.TOi2.symm) fun v₄ h₄ tk₄ hv₄ h2₄ hs₄ => wpAny_pure ?_)
  obtain ⟨c2', u2, hc2, rfl⟩ := hv₄
  rw [hy] at hc2
  cases hc2
  have hTO₄ : IsPair h₄ TO (.str ⟨#[c1]⟩ u1) b := hs₄.extBut _ _ D.TOi2 hTO₃
  refine wpAny_bind (wpAny_seqItems hTO₄ rfl ?_)
  refine wpAny_bind (wpAny_updateSeq_pair hTO₄ fun h₅ hTO₅ hs₅ => ?_)
  replace hTO₅ : IsPair h₅ TO (.str ⟨#[c1]⟩ u1) (.str ⟨#[c2]⟩ u2) := hTO₅
  refine wpAny_bind (wpAny_letGo (wpAny_pure (wpAny_pure ?_)))

  refine wpAny_bind (wpAny_seqItems hTO₅ rfl ?_)
  refine wpAny_bind (wpAny_newTuple ?_)
  have hsz : h₅.objs.size = s.heap.objs.size := by rw [hs₅.1, hs₄.1, hs₃.1, hs₂.1, hs₁.1]
  have hz₅ : IsZip h₅ z TI TO .ellipsis := hs₅.extBut _ _ D.TOz.symm (hs₄.extBut _ _ D.i2z.symm (hs₃.extBut _ _ D.TOz.symm (hs₂.extBut _ _ D.i1z.symm hz₁)))
  have hk₅ : ∀ c o, c ≠ z → c ≠ TO → c ≠ i1 → c ≠ i2 → s.heap.get? c = some o → h₅.get? c = some o := fun c o c1 c2 c3 c4 e =>
    hs₅.extBut _ _ c2 (hs₄.extBut _ _ c4 (hs₃.extBut _ _ c2 (hs₂.extBut _ _ c3 (hs₁.extBut _ _ c1 e))))
  have h1₅ : h₅.IsStrIter i1 ty1 x1 t1 (k1 + 1) := ((h1₂.extBut hs₃.extBut D.TOi1.symm).extBut hs₄.extBut D.i12).extBut hs₅.extBut D.TOi1.symm
  have h2₅ : h₅.IsStrIter i2 ty2 x2 t2 (k2 + 1) := h2₄.extBut hs₅.extBut D.TOi2.symm
  have hzlt : z < h₅.objs.size := Heap.lt_size hz₅
  have hTOlt : TO < h₅.objs.size := Heap.lt_size hTO₅
  have hi1lt : i1 < h₅.objs.size := by obtain ⟨_, e, _⟩ := h1₅; exact Heap.lt_size e
  have hi2lt : i2 < h₅.objs.size := by obtain ⟨_, e, _⟩ := h2₅; exact Heap.lt_size e
  show wpAny _ _ (Builtin.SmallTypes.ownedTupleHandOut (.ref z) (.ref h₅.objs.size) >>= _) _ _ _
  refine wpAny_bind ?_
  unfold Builtin.SmallTypes.ownedTupleHandOut
  have hz₆ : IsZip (h₅.push { cls := .type "tuple", data := .seq #[.str ⟨#[c1]⟩ u1, .str ⟨#[c2]⟩ u2] }) z TI TO .ellipsis := Heap.get?_push_of_some _ hz₅
  refine wpAny_bind (wpAny_setField_rec hz₆ (by simp) fun h₇ hz₇ hs₇ => ?_)
  replace hz₇ : IsZip h₇ z TI TO (rawInt h₅.objs.size) := hz₇
  refine wpAny_setField_rec hz₇ (by simp) fun h₈ hz₈ hs₈ => ?_
  replace hz₈ : IsZip h₈ z TI TO (rawInt h₅.objs.size) := hz₈
  have up : ∀ c o, c ≠ z → h₅.get? c = some o → h₈.get? c = some o := fun c o c1 e => hs₈.extBut _ _ c1 (hs₇.extBut _ _ c1 (Heap.get?_push_of_some _ e))
  have hT₈ : IsPair h₈ h₅.objs.size (.str ⟨#[c1]⟩ u1) (.str ⟨#[c2]⟩ u2) := hs₈.extBut _ _ (Nat.ne_of_gt hzlt) (hs₇.extBut _ _ (Nat.ne_of_gt hzlt) (Heap.get?_push_size _ rfl))
  have hz8 : h₈.objs.size = h₅.objs.size + 1 := by rw [hs₈.1, hs₇.1, Heap.size_push]
  rw [hsz] at hz₈ hT₈ hz8
  refine wpAny_pure ⟨_, rfl, ?_⟩
  show Q (.ref h₅.objs.size) _
  rw [hsz]
  exact hQ h₈ _ u1 u2 hz₈ (up _ _ D.TOz hTO₅) (strI_at h1₅ fun o e => up _ o D.i1z e) (strI_at h2₅ fun o e => up _ o D.i2z e) hT₈ hz8 fun c o c1 c2 c3 c4 e => up c o c1 (hk₅ c o c1 c2 c3 c4 e)

theorem zipS_next_end {z TI TO i1 i2 l1 l2 : Addr} {k1 k2 : Nat} {x1 x2 : Str} {t1 t2 : Tok} {ty1 ty2 : String} {a b : Value} {Q : Fin → Shared → Prop} (hh : A.handled = none) (D : ZipApart z TI TO i1 i2 l1 l2) (ht1 : ty1 = "str_ascii_iterator" ∨ ty1 = "str_iterator") (ht2 : ty2 = "str_ascii_iterator" ∨ ty2 = "str_iterator")
    (hz : IsZip s.heap z TI TO .none) (hTI : IsPair s.heap TI (.ref i1) (.ref i2)) (hTO : IsPair s.heap TO a b)
    (h1 : s.heap.IsStrIter i1 ty1 x1 t1 k1) (h2 : s.heap.IsStrIter i2 ty2 x2 t2 k2) (hend : (k1 = x1.cps.size) ∨ (k1 < x1.cps.size ∧ k2 = x2.cps.size))
    (hE : ∀ h' tk e, (∀ c o, c ≠ z → c ≠ TO → c ≠ i1 → c ≠ i2 → s.heap.get? c = some o → h'.get? c = some o) → (∃ o, h'.get? e = some o ∧ o.cls = .type "StopIteration") → E (.ref e) { s with heap := h', toks := tk }) :
    wpAny (model prog w) A (Builtin.«zip.__next__» ⟨[.ref z], []⟩) Q E s := by
  show wpAny _ _ (field (.ref z) 2 >>= _) _ _ _
  refine wpAny_bind (wpAny_field hz rfl (x := .bool false) rfl ?_)
  show wpAny _ _ (field (.ref z) 3 >>= _) _ _ _
  refine wpAny_bind (wpAny_field hz rfl (x := .ref TI) rfl ?_)
  refine wpAny_bind (wpAny_seqItems hTI rfl ?_)
  show wpAny _ _ (Builtin.SmallTypes.ownedTupleIsFree (.ref z) >>= _) _ _ _
  refine wpAny_bind ?_
  unfold Builtin.SmallTypes.ownedTupleIsFree
  refine wpAny_bind (wpAny_field hz rfl (x := .none) rfl (wpAny_pure ?_))
  simp only [if_true]
  refine wpAny_bind (wpAny_rule ?_)
  refine wpAny_bind (wpAny_field hz rfl (x := .ref TO) rfl ?_)
  refine wpAny_bind (wpAny_setField_rec hz (by simp) fun h₁ hz₁ hs₁ => ?_)
  replace hz₁ : IsZip h₁ z TI TO .ellipsis := hz₁
  refine wpAny_bind ?_
  simp only [List.zipIdx_cons, List.zipIdx_nil, List.forIn_cons, List.forIn_nil]
  refine wpAny_bind (wpAny_bind (wpAny_onRaise ?_))
  show wpAny _ _ (Builtin.SmallTypes.nextOf (.ref i1) >>= _) _ _ _
  rcases hend with hend | ⟨hk1, hend⟩
  · rw [hend] at h1
    refine wpAny_bind ((draw_str hh i1 x1 t1 ty1 ht1).done _ _ _ (h1.extBut hs₁.extBut D.i1z) fun h₂ e hs₂ he => ?_)
    obtain ⟨oe, hoe, hce⟩ := he
    have hz₂ : IsZip h₂ z TI TO .ellipsis := hs₂ _ _ D.i1z.symm hz₁
    have hez : e ≠ z := fun x => by subst x; rw [hz₂] at hoe; cases hoe; simp at hce
    refine wpAny_setField_rec hz₂ (by simp) fun h₃ _ hs₃ => hE h₃ _ e (fun c o c1 _ c3 _ x => hs₃.extBut _ _ c1 (hs₂ _ _ c3 (hs₁.extBut _ _ c1 x))) ⟨oe, hs₃.extBut _ _ hez hoe, hce⟩
  · rw [hend] at h2
    refine wpAny_bind ((draw_str hh i1 x1 t1 ty1 ht1).item k1 _ _ _ hk1 (h1.extBut hs₁.extBut D.i1z) fun v₂ h₂ tk₂ hv₂ h1₂ hs₂ => wpAny_pure ?_)
    have hTO₂ : IsPair h₂ TO a b := hs₂.extBut _ _ D.TOi1 (hs₁.extBut _ _ D.TOz hTO)
    refine wpAny_bind (wpAny_seqItems hTO₂ rfl ?_)
    refine wpAny_bind (wpAny_updateSeq_pair hTO₂ fun h₃ hTO₃ hs₃ => ?_)
    refine wpAny_bind (wpAny_letGo (wpAny_pure ?_))
    refine wpAny_bind (wpAny_bind (wpAny_onRaise ?_))
    show wpAny _ _ (Builtin.SmallTypes.nextOf (.ref i2) >>= _) _ _ _
    refine wpAny_bind ((draw_str hh i2 x2 t2 ty2 ht2).done _ _ _ (((h2.extBut hs₁.extBut D.i2z).extBut hs₂.extBut D.i12.symm).extBut hs₃.extBut D.TOi2.symm) fun h₄ e hs₄ he => ?_)
    obtain ⟨oe, hoe, hce⟩ := he
    have hz₄ : IsZip h₄ z TI TO .ellipsis := hs₄ _ _ D.i2z.symm (hs₃.extBut _ _ D.TOz.symm (hs₂.extBut _ _ D.i1z.symm hz₁))
    have hez : e ≠ z := fun x => by subst x; rw [hz₄] at hoe; cases hoe; simp at hce
    refine wpAny_setField_rec hz₄ (by simp) fun h₅ _ hs₅ => hE h₅ _ e (fun c o c1 c2 c3 c4 x => hs₅.extBut _ _ c1 (hs₄ _ _ c4 (hs₃.extBut _ _ c2 (hs₂.extBut _ _ c3 (hs₁.extBut _ _ c1 x))))) ⟨oe, hs₅.extBut _ _ hez hoe, hce⟩
theorem pyNext_zipS_item (hh : A.handled = none) {z TI TO i1 i2 l1 l2 : Addr} {k1 k2 : Nat} {x1 x2 : Str} {t1 t2 : Tok} {ty1 ty2 : String} {c1 c2 : Nat} {a b : Value} {Q : Option Value → Shared → Prop} (D : ZipApart z TI TO i1 i2 l1 l2) (ht1 : ty1 = "str_ascii_iterator" ∨ ty1 = "str_iterator") (ht2 : ty2 = "str_ascii_iterator" ∨ ty2 = "str_iterator")
    (hz : IsZip s.heap z TI TO .none) (hTI : IsPair s.heap TI (.ref i1) (.ref i2)) (hTO : IsPair s.heap TO a b)
    (h1 : s.heap.IsStrIter i1 ty1 x1 t1 k1) (h2 : s.heap.IsStrIter i2 ty2 x2 t2 k2) (hx : x1.cps[k1]? = some c1) (hy : x2.cps[k2]? = some c2)
    (hQ : ∀ h' tk u1 u2, IsZip h' z TI TO (rawInt s.heap.objs.size) → IsPair h' TO (.str ⟨#[c1]⟩ u1) (.str ⟨#[c2]⟩ u2) → h'.IsStrIter i1 ty1 x1 t1 (k1 + 1) → h'.IsStrIter i2 ty2 x2 t2 (k2 + 1) → IsPair h' s.heap.objs.size (.str ⟨#[c1]⟩ u1) (.str ⟨#[c2]⟩ u2) → h'.objs.size = s.heap.objs.size + 1 →
      (∀ c o, c ≠ z → c ≠ TO → c ≠ i1 → c ≠ i2 → s.heap.get? c = some o → h'.get? c = some o) → Q (some (.ref s.heap.objs.size)) { s with heap := h', toks := tk }) :
    wpAny (model prog w) A (pyNext (.ref z)) Q E s := by
  have hT : s.TypeIs (.ref z) "zip" := ⟨_, hz, rfl⟩
  unfold pyNext
  exact wpAny_bind (wpAny_attempt (wpAny_callSpecial?_slot (name := Str.ofString "__next__") hT F.slot_zip_next
    (wpAny_call_entry F.slot_zip_next hT F.entry_zip_next
      (zipS_next_item (A := A.in1) hh D ht1 ht2 hz hTI hTO h1 h2 hx hy fun h' tk u1 u2 a1 a2 a3 a4 a5 a6 a7 => wpAny_pure (hQ h' tk u1 u2 a1 a2 a3 a4 a5 a6 a7)) (F.args_zip_next_1 _))))

theorem pyNext_zipS_end {z TI TO i1 i2 l1 l2 : Addr} {k1 k2 : Nat} {x1 x2 : Str} {t1 t2 : Tok} {ty1 ty2 : String} {a b : Value} {Q : Option Value → Shared → Prop} (hh : A.handled = none) (D : ZipApart z TI TO i1 i2 l1 l2) (ht1 : ty1 = "str_ascii_iterator" ∨ ty1 = "str_iterator") (ht2 : ty2 = "str_ascii_iterator" ∨ ty2 = "str_iterator")
    (hz : IsZip s.heap z TI TO .none) (hTI : IsPair s.heap TI (.ref i1) (.ref i2)) (hTO : IsPair s.heap TO a b)
    (h1 : s.heap.IsStrIter i1 ty1 x1 t1 k1) (h2 : s.heap.IsStrIter i2 ty2 x2 t2 k2) (hend : (k1 = x1.cps.size) ∨ (k1 < x1.cps.size ∧ k2 = x2.cps.size))
    (hQ : ∀ h' tk, (∀ c o, c ≠ z → c ≠ TO → c ≠ i1 → c ≠ i2 → s.heap.get? c = some o → h'.get? c = some o) → Q none { s with heap := h', toks := tk }) : wpAny (model prog w) A (pyNext (.ref z)) Q E s := by
  have hT : s.TypeIs (.ref z) "zip" := ⟨_, hz, rfl⟩
  unfold pyNext
  refine wpAny_bind (wpAny_attempt (wpAny_callSpecial?_slot (name := Str.ofString "__next__") hT F.slot_zip_next
    (wpAny_call_entry F.slot_zip_next hT F.entry_zip_next (zipS_next_end (A := A.in1) hh D ht1 ht2 hz hTI hTO h1 h2 hend fun h' tk e hk he => ?_) (F.args_zip_next_1 _))))
  obtain ⟨o, ho, hc⟩ := he
  refine wpAny_bind (wpAny_isInstance (T := "StopIteration") (b := true) ⟨o, ho, hc⟩ isSubtype_stop ?_)
  exact wpAny_pure (hQ _ _ hk)
end
abbrev zipSH1 (h : Heap) (x1 : Str) (t1 : Tok) : Heap := h.push { cls := .type (strIterType x1), data := .fields #[.str x1 t1, .int 0 0] }
abbrev zipSH2 (h : Heap) (x1 : Str) (t1 : Tok) (x2 : Str) (t2 : Tok) : Heap := (zipSH1 h x1 t1).push { cls := .type (strIterType x2), data := .fields #[.str x2 t2, .int 0 0] }
abbrev zipSH3 (h : Heap) (x1 : Str) (t1 : Tok) (x2 : Str) (t2 : Tok) : Heap := (zipSH2 h x1 t1 x2 t2).push { cls := .type "tuple", data := .seq #[.ref h.objs.size, .ref (zipSH1 h x1 t1).objs.size] }
abbrev zipSH4 (h : Heap) (x1 : Str) (t1 : Tok) (x2 : Str) (t2 : Tok) : Heap := (zipSH3 h x1 t1 x2 t2).push { cls := .type "tuple", data := .seq #[.none, .none] }
abbrev zipSH5 (h : Heap) (x1 : Str) (t1 : Tok) (x2 : Str) (t2 : Tok) : Heap := (zipSH4 h x1 t1 x2 t2).push { cls := .type "zip", data := .fields #[.none, .bool false, .bool false, .ref (zipSH2 h x1 t1 x2 t2).objs.size, .ref (zipSH3 h x1 t1 x2 t2).objs.size] }

theorem meets_zipS_new (x1 : Str) (t1 : Tok) (x2 : Str) (t2 : Tok) :
    Meets (Builtin.«zip.__new__» ⟨[.type "zip", .str x1 t1, .str x2 t2], []⟩) (fun _ R s => 
      R (.ok (.ret (.ref (zipSH4 s.heap x1 t1 x2 t2).objs.size))) { s with heap := zipSH5 s.heap x1 t1 x2 t2 }) :=
  .of_wp fun prog w A R s h => by
    obtain ⟨hp, g, d, tk, os⟩ := s
    have hsub := sub_zip
    wp_walk using wpAny_pyIter_strU, wpAny_pyIter_strU
    exact ⟨_, rfl, h⟩

section
variable {prog : Program} {w : World} {A : Around} {E : Value → Shared → Prop} {s : Shared}

theorem call_zipS {x1 x2 : Str} {t1 t2 : Tok} {Q : Value → Shared → Prop}
    (h : ∀ h', IsZip h' (s.heap.objs.size + 4) (s.heap.objs.size + 2) (s.heap.objs.size + 3) .none → IsPair h' (s.heap.objs.size + 2) (.ref s.heap.objs.size) (.ref (s.heap.objs.size + 1)) →
      IsPair h' (s.heap.objs.size + 3) .none .none → h'.IsStrIter s.heap.objs.size (strIterType x1) x1 t1 0 → h'.IsStrIter (s.heap.objs.size + 1) (strIterType x2) x2 t2 0 → h'.objs.size = s.heap.objs.size + 5 →
      (∀ c o, s.heap.get? c = some o → h'.get? c = some o) → Q (.ref (s.heap.objs.size + 4)) { s with heap := h' }) :
    wpAny (model prog w) A (call (.type "zip") [.str x1 t1, .str x2 t2]) Q E s := by
  refine callType_new F.called_zip (by decide) (F.typeCall_zip_2 _ _) (F.newCall_zip_2 _ _) (fun obj => F.args_object_init_3 obj _ _) F.entry_zip_new
    (meets_zipS_new x1 t1 x2 t2) ?_
  have z1 : (zipSH1 s.heap x1 t1).objs.size = s.heap.objs.size + 1 := Heap.size_push ..
  have z2 : (zipSH2 s.heap x1 t1 x2 t2).objs.size = s.heap.objs.size + 2 := by rw [Heap.size_push, z1]
  have z3 : (zipSH3 s.heap x1 t1 x2 t2).objs.size = s.heap.objs.size + 3 := by rw [Heap.size_push, z2]
  have z4 : (zipSH4 s.heap x1 t1 x2 t2).objs.size = s.heap.objs.size + 4 := by rw [Heap.size_push, z3]
  have z5 : (zipSH5 s.heap x1 t1 x2 t2).objs.size = s.heap.objs.size + 5 := by rw [Heap.size_push, z4]
  have g5 : (zipSH5 s.heap x1 t1 x2 t2).get? (zipSH4 s.heap x1 t1 x2 t2).objs.size = some _ := Heap.get?_push_size _ rfl
  have g4 : (zipSH5 s.heap x1 t1 x2 t2).get? (zipSH3 s.heap x1 t1 x2 t2).objs.size = some _ := Heap.get?_push_of_some _ (Heap.get?_push_size _ rfl)
  have g3 : (zipSH5 s.heap x1 t1 x2 t2).get? (zipSH2 s.heap x1 t1 x2 t2).objs.size = some _ := Heap.get?_push_of_some _ (Heap.get?_push_of_some _ (Heap.get?_push_size _ rfl))
  have g2 : (zipSH5 s.heap x1 t1 x2 t2).get? (zipSH1 s.heap x1 t1).objs.size = some _ := Heap.get?_push_of_some _ (Heap.get?_push_of_some _ (Heap.get?_push_of_some _ (Heap.get?_push_size _ rfl)))
  have g1 : (zipSH5 s.heap x1 t1 x2 t2).get? s.heap.objs.size = some _ := Heap.get?_push_of_some _ (Heap.get?_push_of_some _ (Heap.get?_push_of_some _ (Heap.get?_push_of_some _ (Heap.get?_push_size _ rfl))))
  show _ ∧ _
  rw [z2, z3, z4] at g5
  rw [z1, z2] at g3
  rw [z3] at g4
  rw [z1] at g2
  rw [z4]
  exact ⟨⟨_, g5, rfl⟩, h _ g5 g3 g4 ⟨_, g1, rfl, rfl⟩ ⟨_, g2, rfl, rfl⟩ z5 fun c o x =>
    Heap.get?_push_of_some _ (Heap.get?_push_of_some _ (Heap.get?_push_of_some _ (Heap.get?_push_of_some _ (Heap.get?_push_of_some _ x))))⟩
end
theorem turn_zipS {P : Program} {w : World} {K : PySem.W.Frag} {elts : List Expr} {kk : Nat} {tpos : Pos} {a b z TI TO i1 i2 : Addr} {x1 x2 : Str} {t1 t2 : Tok} {ty1 ty2 : String} (ht1 : ty1 = "str_ascii_iterator" ∨ ty1 = "str_iterator") (ht2 : ty2 = "str_ascii_iterator" ∨ ty2 = "str_iterator") (D : ZipApart z TI TO i1 i2 a b) :
    Turn P w K (.Tuple elts kk tpos) (Izs x1 x2) [z, TI, TO, i1, i2] z (fun i h => IsZip h z TI TO .none ∧ IsPair h TI (.ref i1) (.ref i2) ∧ (∃ x y, IsPair h TO x y) ∧ h.IsStrIter i1 ty1 x1 t1 i ∧ h.IsStrIter i2 ty2 x2 t2 i) where
  mem := by simp
  obj := fun i h st c hc => by
    obtain ⟨hz, hTI, ⟨x, y, hTO⟩, ⟨o1, e1, _, d1⟩, ⟨o2, e2, _, d2⟩⟩ := st
    have e' : c = z ∨ c = TI ∨ c = TO ∨ c = i1 ∨ c = i2 := by simpa using hc
    rcases e' with q | q | q | q | q
    · rw [q]; exact ⟨_, hz, fun v q => nomatch q⟩
    · rw [q]; exact ⟨_, hTI, fun v q => nomatch q⟩
    · rw [q]; exact ⟨_, hTO, fun v q => nomatch q⟩
    · rw [q]; exact ⟨o1, e1, fun v q => by rw [d1] at q; cases q⟩
    · rw [q]; exact ⟨o2, e2, fun v q => by rw [d2] at q; cases q⟩
  keep := fun i h h' st k => by
    obtain ⟨hz, hTI, ⟨x, y, hTO⟩, h1, h2⟩ := st
    exact ⟨k z (by simp) _ hz, k TI (by simp) _ hTI, ⟨x, y, k TO (by simp) _ hTO⟩, strI_at h1 fun o q => k i1 (by simp) o q, strI_at h2 fun o q => k i2 (by simp) o q⟩
  item := by
    intro X hP hw hK hc i pins s σ H E I hf st hg
    subst hP hw hK
    obtain ⟨hz, hTI, ⟨x0, y0, hTO⟩, h1, h2⟩ := st
    obtain ⟨g1, g2⟩ := hg
    have hx : x1.cps[i]? = some x1.cps[i] := Array.getElem?_eq_getElem g1
    have hy : x2.cps[i]? = some x2.cps[i] := Array.getElem?_eq_getElem g2
    have hzl : z < s.heap.objs.size := Heap.lt_size hz
    refine pyNext_zipS_item (I.ok.hd hc) D ht1 ht2 hz hTI hTO h1 h2 hx hy fun h' tk v1 v2 z' TO' h1' h2' hT hsz hk => ?_
    refine ⟨_, rfl, wpAny_letOwnedTupleGo_zip (s := { s with heap := h', toks := tk }) z' fun h'' z'' sb => ?_⟩
    have hT2 : h''.get? s.heap.objs.size = some { cls := .type "tuple", data := .seq #[.str ⟨#[x1.cps[i]]⟩ v1, .str ⟨#[x2.cps[i]]⟩ v2] } := (sb.2 _ (Nat.ne_of_gt hzl)).trans hT
    have new : ObjOk X.prog X.w (upd H s.heap.objs.size (.tup [.str ⟨#[x1.cps[i]]⟩, .str ⟨#[x2.cps[i]]⟩])) h'' s.heap.objs.size (.tup [.str ⟨#[x1.cps[i]]⟩, .str ⟨#[x2.cps[i]]⟩]) :=
      ⟨by show 2 ≤ sizeLine; decide, [.str ⟨#[x1.cps[i]]⟩ v1, .str ⟨#[x2.cps[i]]⟩ v2], .cons ⟨_, rfl⟩ (.cons ⟨_, rfl⟩ .nil), ⟨_, hT2, rfl, _, rfl⟩⟩
    have I1 : Inv X pins σ (upd H s.heap.objs.size (.tup [.str ⟨#[x1.cps[i]]⟩, .str ⟨#[x2.cps[i]]⟩])) { s with heap := h'', toks := tk } :=
      I.turnedNew (t' := tk) (ch := [z, TI, TO, i1, i2]) (fun c o hb q => (sb.2 c (fun q' => hb (by simp [q']))).trans (hk c o (fun q' => hb (by simp [q'])) (fun q' => hb (by simp [q'])) (fun q' => hb (by simp [q'])) (fun q' => hb (by simp [q'])) q)) hf (Nat.le_refl _) new
    refine ⟨.ref s.heap.objs.size, _, I1, rfl, ⟨_, _, _, rfl, I.hok.fresh (Nat.le_refl _), rfl, hx, hy⟩, ⟨z'', ?_, ⟨.str ⟨#[x1.cps[i]]⟩ v1, .str ⟨#[x2.cps[i]]⟩ v2, ?_⟩, ?_, ?_⟩, fun c hcm => ?_⟩
    · exact (sb.2 _ D.TIz).trans (hk _ _ D.TIz D.TITO D.TIi1 D.TIi2 hTI)
    · exact (sb.2 _ D.TOz).trans TO'
    · exact strI_at h1' fun o q => (sb.2 _ D.i1z).trans q
    · exact strI_at h2' fun o q => (sb.2 _ D.i2z).trans q
    · have hlt : c < s.heap.objs.size := by
        have e' : c = z ∨ c = TI ∨ c = TO ∨ c = i1 ∨ c = i2 := by simpa using hcm
        rcases e' with q | q | q | q | q
        · rw [q]; exact hzl
        · rw [q]; exact Heap.lt_size hTI
        · rw [q]; exact Heap.lt_size hTO
        · rw [q]; obtain ⟨_, e1, _⟩ := h1; exact Heap.lt_size e1
        · rw [q]; obtain ⟨_, e2, _⟩ := h2; exact Heap.lt_size e2
      rw [upd_ne (Nat.ne_of_lt hlt)]
      exact (hf c hcm).1
  done := by
    intro X hP hw hK hc i pins s σ H E I hf st hg
    subst hP hw hK
    obtain ⟨hz, hTI, ⟨x0, y0, hTO⟩, h1, h2⟩ := st
    have hend : i = x1.cps.size ∨ (i < x1.cps.size ∧ i = x2.cps.size) := by
      obtain ⟨q1, q2, q3⟩ := hg
      rcases q3 with q | q
      · exact .inl q
      · by_cases hx : i = x1.cps.size
        · exact .inl hx
        · exact .inr ⟨by omega, q⟩
    exact pyNext_zipS_end (I.ok.hd hc) D ht1 ht2 hz hTI hTO h1 h2 hend fun h' tk hk => ⟨rfl, I.turnedL (t' := tk) (ch := [z, TI, TO, i1, i2]) (fun c o hb q =>
      hk c o (fun q' => hb (by simp [q'])) (fun q' => hb (by simp [q'])) (fun q' => hb (by simp [q'])) (fun q' => hb (by simp [q'])) q) hf⟩
  self := fun A i s Q E st h => wpAny_pyIter_zip st.1 h


theorem ty_str (x : Str) : strIterType x = "str_ascii_iterator" ∨ strIterType x = "str_iterator" := by
  unfold strIterType
  cases x.cps.all (· < 128)
  · exact .inr rfl
  · exact .inl rfl
theorem pi_zipS {X : Cx} {pins : List (Addr × Obj)} {σ : St} {H : Hp} {s : Shared} {R : It → Hp → Prop} {elts : List Expr} {kk : Nat} {tpos : Pos} {x1 x2 : Str} {t1 t2 : Tok} (I : Inv X pins σ H s) (q : R (Izs x1 x2) H) :
    wpAny (model X.prog X.w) X.A (call (.type "zip") [.str x1 t1, .str x2 t2]) (fun v s1 => wpAny (model X.prog X.w) X.A (pyIter v) (PIE X pins σ (.Tuple elts kk tpos) R) X.xe s1) X.xe s := by
  refine call_zipS fun h' hz hTI hTO h1 h2 hsz hk => wpAny_pyIter_zip hz ?_
  have I2 : Inv X pins σ H { s with heap := h' } := I.kept (t' := s.toks) hk
  have hb := I.big
  refine ⟨s.heap.objs.size + 4, [s.heap.objs.size + 4, s.heap.objs.size + 2, s.heap.objs.size + 3, s.heap.objs.size, s.heap.objs.size + 1], _, _, H, rfl, I2, turn_zipS (ty_str x1) (ty_str x2) (PySem.W.ktu_apart s.heap.objs.size 0 0 (Nat.lt_of_le_of_lt (Nat.zero_le _) hb) (Nat.lt_of_le_of_lt (Nat.zero_le _) hb)), ⟨hz, hTI, ⟨_, _, hTO⟩, h1, h2⟩, fun c hcm => ?_, q⟩
  have e' : c = s.heap.objs.size + 4 ∨ c = s.heap.objs.size + 2 ∨ c = s.heap.objs.size + 3 ∨ c = s.heap.objs.size ∨ c = s.heap.objs.size + 1 := by simpa using hcm
  have hle : s.heap.objs.size ≤ c := by
    rcases e' with z | z | z | z | z
    · rw [z]; exact Nat.le_add_right _ _
    · rw [z]; exact Nat.le_add_right _ _
    · rw [z]; exact Nat.le_add_right _ _
    · rw [z]; exact Nat.le_refl _
    · rw [z]; exact Nat.le_add_right _ _
  exact I.fpOk hle (I.hok.fresh hle)
theorem iterD_zipS {K : PySem.W.Frag} {H : Hp} {r : List Addr} {M : Mem} {x y : Str} (S : Sim K H r M) : IterD K (Izs x y) H r M (pairs (sgn x) (sgn y)) := by
  have W : Walk (Izs x y) (min x.cps.size y.cps.size) (fun _ => True) (YPair (fun i => (x.cps[i]?).map fun c => .str ⟨#[c]⟩) (fun i => (y.cps[i]?).map fun c => .str ⟨#[c]⟩)) :=
    ⟨fun i _ hi _ => ⟨Nat.lt_of_lt_of_le hi (Nat.min_le_left _ _), Nat.lt_of_lt_of_le hi (Nat.min_le_right _ _)⟩, fun _ _ => ⟨Nat.min_le_left _ _, Nat.min_le_right _ _, (Nat.le_total x.cps.size y.cps.size).elim (fun h => .inl (Nat.min_eq_left h)) fun h => .inr (Nat.min_eq_right h)⟩, fun i H v H' _ _ z => by
      obtain ⟨T, c, d, h1, h2, h3, h4, h5⟩ := z
      exact ⟨T, .str ⟨#[c]⟩, .str ⟨#[d]⟩, h1, h2, h3, by simp [h4], by simp [h5]⟩⟩
  have go : ∀ (z : Str) (H1 : Hp) (r1 : List Addr) (i : Nat) (v : V) (a : D), ((z.cps[i]?).map fun c => V.str ⟨#[c]⟩) = some v → (sgn z)[i]? = some a → Rep K H1 r1 a v := fun z H1 r1 i v a e1 e2 => by
    cases q : z.cps[i]? with
    | none => rw [q] at e1; cases e1
    | some c =>
      rw [q] at e1
      cases e1
      rw [sgn_get q] at e2
      cases e2
      exact rfl
  exact iterD_pair W (by rw [sgn_length, sgn_length]) S (fun _ _ _ _ _ => trivial) (fun H1 r1 M1 i v a _ e1 e2 => go x H1 r1 i v a e1 e2) fun H1 r1 M1 i v a _ e1 e2 => go y H1 r1 i v a e1 e2
def fZipS : List D → Mem → Res (List D) := fun l M => match l with
  | [.str x, .str y] => .ok (pairs (sgn x) (sgn y)) M
  | _ => .bad
theorem i_zipS {X : Cx} {Z : ZS} {a b : Expr} {fl : Fl} {elts : List Expr} {kk : Nat} {p pos tpos : Pos} (hg : Gl X "zip") (hm : X.mg "zip" = none) (ha : PA X [a, b] (tL X.K Z fl)) (hs : starEach [a, b] X.env = (false, eval a X.env) :: starEach [b] X.env) (hpl : (backTo pos (starEach [b] X.env)).any (·.1) = false) :
    PI X (.Tuple elts kk tpos) (.Call (.Name "zip" p) [a, b] [] pos) (tI X.K Z (iArg fZipS fl)) := by
  refine ⟨fun pins s σ H R I ⟨δ, r, M, E, S, h⟩ => ?_⟩
  refine Call_ (ld_blt I hg hm PyProof.Rows.boot_zip (PyProof.Rows.callWith_type1 (thn (ha.run pos pins s σ H _ I ⟨δ, r, M, E, S, AftI.bindL S h⟩) fun us s1 ⟨vs, H1, I1, rr, d1, M1, r1, e1, x1, S1, q1, w⟩ => ?_) hs hpl))
  unfold fZipS at w
  split at w
  · rename_i x y
    obtain ⟨v, _, rfl, q2, v2, _, rfl, q3, hn⟩ := q1
    cases hn
    cases q2
    cases q3
    obtain ⟨u, u2, rfl, ⟨t, rfl⟩, ⟨t2, rfl⟩⟩ := Vals.two rr
    exact pi_zipS I1 (w _ H1 r1 Ext.refl S1 (iterD_zipS S1))
  · exact w.elim
end Wn
end

section
set_option Elab.async false
set_option linter.all false
set_option maxRecDepth 100000
set_option maxHeartbeats 4000000
namespace Wn
open PySem PySem.Spec PyProof.Rows L2

/-! ### a text from its end, the least of a list -/
def revS (z : Str) : Str := ⟨((Builtin.Str.strSliceIndices none none (-1) z.length).filterMap (z.cps[·]?)).toArray⟩
def gRv : D → Option D
  | .str z => if (revS z).length ≤ sizeLine then some (.str (revS z)) else none
  | _ => none
def eRv (a : Fe) : Fe := fun δ => bnd (a δ) fun x M => opt (gRv x) M
theorem r_rv {X : Cx} {Z : ZS} {e : Expr} {fa : Fe} {k : Nat} {p1 p2 p3 pos : Pos} (he : PE X e (tM X.K Z fa)) : PE X (.Subscript e (.Slice none none (some (.UnaryOp .USub (.Constant (.int 1) k p1) p2)) p3) pos) (tM X.K Z (eRv fa)) := by
  refine ⟨fun pins s σ H Q I ⟨δ, r, M, E, S, h⟩ => ?_⟩
  refine Subscript_ (thn (he.run pins s σ H _ I ⟨δ, r, M, E, S, Aft.bind S h⟩) fun v s1 ⟨x, H1, I1, r1, d1, M1, rr, e1, X1, S1, q1, w⟩ => ?_)
  obtain ⟨d, e4, w4⟩ := Aft.opt w
  cases d1 with
  | str z =>
    cases q1
    obtain ⟨t, rfl⟩ := r1
    obtain ⟨c, rfl⟩ := of_ite (show (if (revS z).length ≤ sizeLine then some (D.str (revS z)) else none) = some d from e4)
    have hst : PO X (some (.UnaryOp .USub (.Constant (.int 1) k p1) p2)) (tPart (tUn (rU fun i => .int (-i)) (tC (.int 1)))) := po_some (pe_un un_neg pe_int)
    refine wpAny_Slice (thn (po_none.run pins s1 σ H1 (fun o H2 => o = none ∧ H2 = H1) I1 ⟨rfl, rfl⟩) fun vl s2 ⟨l, H2, I2, pl, el, e2⟩ => ?_)
    subst el e2
    refine thn (po_none.run pins s2 σ H2 (fun o H3 => o = none ∧ H3 = H2) I2 ⟨rfl, rfl⟩) fun vu s3 ⟨u, H3, I3, pu, eu, e3⟩ => ?_
    subst eu e3
    refine thn (hst.run pins s3 σ H3 (fun o H4 => o = some (-1) ∧ H4 = H3) I3 ⟨1, rfl, -1, rfl, rfl, rfl⟩) fun vs s4 ⟨o, H4, I4, ps, eo, e4⟩ => ?_
    subst eo e4
    have I5 : Inv X pins σ H4 { s4 with heap := s4.heap.push { cls := .type "slice", data := .fields #[vl, vu, vs] } } := I4.kept (t' := s4.toks) fun b ob q => Heap.get?_push_of_some _ q
    refine tail_any (ops := [.ref s4.heap.objs.size, .str z t]) (typeIs_str _ z t) PySem.F.slot_str_getitem.lookup ?_ (by with_unfolding_all rfl)
    obtain ⟨os, hos, hcs, hds⟩ := Heap.IsSliceOf.new s4.heap vl vu vs
    obtain ⟨l, rfl, hl⟩ := IsPart.raw pl
    obtain ⟨u, rfl, hu⟩ := IsPart.raw pu
    obtain ⟨st, rfl, hst2⟩ := IsPart.raw ps
    refine wpAny_getItem_str_slice (l := l) (u := u) (st := st) ⟨os, hos, hcs, hds⟩ (by rw [hst2]; rfl) ?_
    have em : sliceMade z t l u st = Made.str (revS z) := by
      unfold sliceMade slicePicked revS
      rw [hl, hu, hst2]
      rfl
    rw [em]
    exact ⟨c, .str _, H4, I5.tok _, ⟨_, rfl⟩, w4 _ H4 rr Ext.refl S1 rfl⟩
  | _ => cases e4
def leastL : Int → List Int → Int
  | m, [] => m
  | m, i :: is => leastL (if i < m then i else m) is
theorem leastL_le : ∀ (is : List Int) (m : Int), leastL m is ≤ m ∧ (∀ i ∈ is, leastL m is ≤ i) ∧ (leastL m is = m ∨ leastL m is ∈ is)
  | [], m => ⟨Int.le_refl _, (by intro i h; cases h), .inl rfl⟩
  | i :: is, m => by
    obtain ⟨h1, h2, h3⟩ := leastL_le is (if i < m then i else m)
    have e : leastL m (i :: is) = leastL (if i < m then i else m) is := rfl
    rw [e]
    have h4 : (if i < m then i else m) ≤ m ∧ (if i < m then i else m) ≤ i := by split <;> omega
    refine ⟨by omega, fun j hj => ?_, ?_⟩
    · rcases List.mem_cons.mp hj with rfl | hj
      · omega
      · exact h2 j hj
    · rcases h3 with h3 | h3
      · rw [h3]
        split
        · exact .inr (List.mem_cons_self ..)
        · exact .inl rfl
      · exact .inr (List.mem_cons_of_mem _ h3)
def fMinL : Mem → D → Option D := fun M x => match (lstOf M x).bind dInts with
  | some (i :: is) => some (.int (leastL i is))
  | _ => none
theorem c_minL {X : Cx} (hc : X.calm = true) : CallS X (.builtin "min") (g1 fMinL) := CallS.of (cr_min hc) fun H r M xs ds d Q S qx e w => by
  obtain ⟨x, rfl, e1⟩ := of_g1 e
  obtain ⟨v, rfl, qv⟩ := reps1 qx rfl
  unfold fMinL at e1
  split at e1
  · rename_i i is h
    cases e1
    obtain ⟨es, h1, h2⟩ := Option.bind_eq_some_iff.mp h
    obtain ⟨a, vs, rfl, h3, h4⟩ := lstOf_rep S qv h1
    have := dInts_rep h4 h2
    subst this
    refine ⟨a, i :: is, rfl, h3, by simp, fun m hm hle => ?_⟩
    obtain ⟨g1, g2, g3⟩ := leastL_le is i
    have e : m = leastL i is := by
      have a1 : m ≤ leastL i is := hle _ (by rcases g3 with g3 | g3; rw [g3]; exact List.mem_cons_self ..; exact List.mem_cons_of_mem _ g3)
      have a2 : leastL i is ≤ m := by
        rcases List.mem_cons.mp hm with rfl | hm
        · exact g1
        · exact g2 m hm
      omega
    rw [e]
    exact w.here S (d := .int (leastL i is)) rfl
  · cases e1
end Wn
end

section
set_option Elab.async false
set_option linter.all false
set_option maxRecDepth 100000
set_option maxHeartbeats 4000000
namespace Wn
open PySem PySem.Spec PyProof.Rows L2 PySem.Froz

/-! ### sets of texts that can be walked -/
/-- at a: a set of just the texts l, its table rising -/
def TxS (P : Program) (w : World) (h : Heap) (a : Addr) (l : List Str) : Prop :=
  ∃ D : SD, h.get? a = some (sObj "set" D) ∧ TxOk P w D l ∧ l.Nodup ∧ Ris D.2.2.place.toList ∧ (w.params.followText "set-order" = true ∨ D.2.2.led = true)
theorem TxS.at {P : Program} {w : World} {h h' : Heap} {a : Addr} {l : List Str} (x : TxS P w h a l) (k : ∀ o, h.get? a = some o → h'.get? a = some o) : TxS P w h' a l := by
  obtain ⟨D, h1, r⟩ := x
  exact ⟨D, k _ h1, r⟩
theorem tail_walk {c : Prop} {ep : Nat} {es : Array (Int × Value)} {t : SetTable} {b : Bool} (r : Ris t.place.toList) (hl : c ∨ t.led = true) : Ris (tailTx ep es t b).2.2.place.toList ∧ (c ∨ (tailTx ep es t b).2.2.led = true) := by
  unfold tailTx
  split
  · refine ⟨relayAll_ris _ _ _, ?_⟩
    show c ∨ (relayAll t es (SetTable.grown es.size)).2.1.led = true
    rw [relayAll_led]; exact hl
  · exact ⟨r, hl⟩
theorem add_walk {c : Prop} {h : Int} {v : Value} {D : SD} (r : Ris D.2.2.place.toList) (hl : c ∨ D.2.2.led = true) : Ris (addTx h v D).2.2.place.toList ∧ (c ∨ (addTx h v D).2.2.led = true) := by
  have r1 := layNew_ris D.2.2 D.1 h v r
  have l1 : c ∨ (layNew D.2.2 D.1 h v).2.1.led = true := by rw [layNew_led]; exact hl
  unfold addTx
  refine tail_walk ?_ ?_
  · split
    · exact r1
    · exact r1
  · split
    · exact l1
    · exact l1
/-- as long a list that covers one without doubles has none -/
theorem nodup_of_cover {α : Type} [DecidableEq α] : ∀ {l ys : List α}, l.Nodup → (∀ x ∈ l, x ∈ ys) → ys.length ≤ l.length → ys.Nodup
  | l, [], _, _, _ => List.nodup_nil
  | l, y :: ys, nd, hc, hl => by
    rw [List.length_cons] at hl
    have c2 : ∀ x ∈ l.erase y, x ∈ ys := fun x hx => by
      obtain ⟨h1, h2⟩ := (List.Nodup.mem_erase_iff nd).mp hx
      rcases List.mem_cons.mp (hc x h2) with e | e
      · exact absurd e h1
      · exact e
    have nd2 : (l.erase y).Nodup := nd.erase y
    have hlen : ys.length ≤ (l.erase y).length := by
      rw [List.length_erase]
      split <;> omega
    have yn := nodup_of_cover nd2 c2 hlen
    refine List.nodup_cons.mpr ⟨fun hy => ?_, yn⟩
    -- then l is covered by ys, which is too short
    have c3 : ∀ x ∈ l, x ∈ ys := fun x hx => by
      rcases List.mem_cons.mp (hc x hx) with e | e
      · rw [e]; exact hy
      · exact e
    have key : ∀ (a b : List α), a.Nodup → (∀ x ∈ a, x ∈ b) → a.length ≤ b.length := by
      intro a
      induction a with
      | nil => intro b _ _; exact Nat.zero_le _
      | cons z a ih =>
        intro b hnd hcb
        obtain ⟨h1, h2⟩ := List.nodup_cons.mp hnd
        have hz := hcb z (List.mem_cons_self ..)
        have := ih (b.erase z) h2 fun x hx => by
          have hne : x ≠ z := fun e => h1 (e ▸ hx)
          exact (List.mem_erase_of_ne hne).mpr (hcb x (List.mem_cons_of_mem _ hx))
        rw [List.length_erase_of_mem hz] at this
        have hp := List.length_pos_of_mem hz
        rw [List.length_cons]; omega
    have := key l ys nd c3
    omega
section
variable {P : Program} {w : World} {A : Around} {E : Value → Shared → Prop} {s : Shared}
/-- a text that is there already -/
theorem had_x {a : Addr} {T : String} {D : SD} {l : List Str} {k : Str} {u : Tok} {Q : Bool → Shared → Prop} (ho : s.heap.get? a = some (sObj T D)) (F : TxOk P w D l) (hk : k ∈ l) (hb : l.length < scanBound) (h : Q false s) :
    wpAny (model P w) A (setAddHashed a (.str k u) (hashStr w k)) Q E s := by
  obtain ⟨es, ep, t⟩ := D
  have hd : (sObj T (es, ep, t)).data = .set es ep t := rfl
  have hsz : es.size = l.length := F.sz
  have hel : ElemsOf (PySem.strKind P w) es.toList := F.el
  have hkey : (PySem.strKind P w).is k (.str k u) = true := is_str k u
  unfold setAddHashed setAddHashedIn
  refine wpAny_holding (wpAny_bind (wpAny_setState_of ho hd F.fit ?_))
  dsimp only
  rw [byScan_of rfl (by rw [hsz]; exact hb) hel]
  simp only [↓reduceIte]
  unfold setAddByScan
  refine wpAny_bind (wpAny_bind (wpAny_rule (wpAny_bind (wpAny_setScan_of (knd := PySem.strKind P w) (k := k) hkey ho hd F.fit hel ?_))))
  cases hr : List.findIdx? (fun e => (PySem.strKind P w).is k e.2) es.toList with
  | some j => exact wpAny_pure (wpAny_pure h)
  | none =>
    obtain ⟨e, he, z⟩ := (F.mem k).mp hk
    have := List.findIdx?_eq_none_iff.mp hr e he
    rw [z] at this
    cases this
/-- what the set holds behind a text more -/
def insT (l : List Str) (k : Str) : List Str := if k ∈ l then l else k :: l
theorem insT_len (l : List Str) (k : Str) : (insT l k).length ≤ l.length + 1 := by
  unfold insT
  split
  · omega
  · rw [List.length_cons]; omega
theorem insT_mem {l : List Str} {k x : Str} : x ∈ insT l k ↔ x ∈ l ∨ x = k := by
  unfold insT
  split
  · rename_i h
    exact ⟨.inl, fun z => z.elim id fun e => e ▸ h⟩
  · rw [List.mem_cons]; exact Or.comm
theorem txs_add {a : Addr} {l : List Str} {k : Str} {u : Tok} {Q : Bool → Shared → Prop} (x : TxS P w s.heap a l) (hb : l.length + 1 < scanBound)
    (h : ∀ b h', Heap.SameBut a s.heap h' → TxS P w h' a (insT l k) → Q b { s with heap := h' }) : wpAny (model P w) A (setAddHashed a (.str k u) ((PySem.strKind P w).hash k)) Q E s := by
  obtain ⟨D, ho, F, nd, r, hl⟩ := x
  show wpAny (model P w) A (setAddHashed a (.str k u) (hashStr w k)) Q E s
  by_cases hk : k ∈ l
  · refine had_x ho F hk (by omega) (h false s.heap (Heap.SameBut.refl a s.heap) ?_)
    unfold insT
    rw [if_pos hk]
    exact ⟨D, ho, F, nd, r, hl⟩
  · refine add_x ho F hk hb (h true _ (Heap.SameBut.update s.heap a _) ?_)
    unfold insT
    rw [if_neg hk]
    obtain ⟨r1, l1⟩ := add_walk (h := hashStr w k) (v := .str k u) r hl
    exact ⟨_, Heap.get?_update_self _ ho rfl, add_ok u F, List.nodup_cons.mpr ⟨hk, nd⟩, r1, l1⟩
theorem txs_loop {I : Addr} {fp wr : List Addr} {G : Array GenState → Array GenState → Prop} {n : Nat} {Pv : Nat → Value → Prop} {St : Nat → Shared → Prop} {R : Result → Shared → Prop}
    (W : WalksS P w A.in1 I fp wr G n Pv St) (S : Addr) (hSf : S ∉ fp) (xs : List Str) (hn : n = xs.length) (hb : xs.length + 1 < scanBound) (hval : ∀ (i : Nat) (v : Value), Pv i v → ∃ (k : Str) (t : Tok), xs[i]? = some k ∧ v = Value.str k t) :
    ∀ (k i : Nat) (s : Shared) (l : List Str), n - i = k → i ≤ n → St i s → l.length ≤ i → (∀ x, x ∈ l ↔ x ∈ xs.take i) → TxS P w s.heap S l →
      (∀ s' l', Moved (S :: wr) G s s' → l'.length ≤ n → (∀ x, x ∈ l' ↔ x ∈ xs) → TxS P w s'.heap S l' → R (.ok (.ret .none)) s') →
      codeAny (model P w) A (.builtin "set.update.loop" ⟨[.ref S, .ref I], []⟩) R s := by
  have hSw : S ∉ wr := fun h => hSf (W.sub _ h)
  have hsub : ∀ b ∈ wr, b ∈ S :: wr := fun b hb => List.mem_cons_of_mem _ hb
  intro k
  induction k with
  | zero =>
    intro i s l hk' hi hst hll hm hS hR
    obtain rfl : i = n := by omega
    refine codeAny_builtin PyProof.Rows.F.entry_set_update_loop ?_
    rw [Around.under_plainId PyProof.Rows.F.plain_set_update_loop _]
    show wpAny _ A.in1 (pyNext (.ref I) >>= _) _ _ s
    refine wpAny_bind (W.done s _ _ hst fun s' hmv => ?_)
    show wpAny _ A.in1 (PySem.ret Value.none) _ _ s'
    have e : xs.take i = xs := List.take_of_length_le (by omega)
    rw [e] at hm
    exact wpAny_pure (hR s' l (hmv.mono hsub) hll hm (hS.at fun o e => hmv.heap S o hSw e))
  | succ k ih =>
    intro i s l hk' hi hst hll hm hS hR
    have hlt : i < n := by omega
    refine codeAny_builtin PyProof.Rows.F.entry_set_update_loop ?_
    rw [Around.under_plainId PyProof.Rows.F.plain_set_update_loop _]
    show wpAny _ A.in1 (pyNext (.ref I) >>= _) _ _ s
    refine wpAny_bind (W.item i s _ _ hlt hst fun v s' hP hst' hmv => ?_)
    obtain ⟨z, t, hz, rfl⟩ := hval i v hP
    have hS' : TxS P w s'.heap S l := hS.at fun o e => hmv.heap S o hSw e
    show wpAny _ A.in1 (holding [Value.str z t] (setAdd S (.str z t)) >>= _) _ _ s'
    refine wpAny_bind (wpAny_holding ?_)
    unfold setAdd
    refine wpAny_holding (wpAny_bind ((PySem.strKind P w).pyHash (k := z) (is_str z t) ?_))
    refine txs_add (s := { s' with toks := s'.toks + 1 }) hS' (by omega) fun b h' hsb hS2 => ?_
    have hm2 : ∀ x, x ∈ insT l z ↔ x ∈ xs.take (i + 1) := fun x => by
      rw [insT_mem, hm x, List.take_add_one, hz, List.mem_append]
      simp
    have hl2 : (insT l z).length ≤ i + 1 := Nat.le_trans (insT_len l z) (by omega)
    refine wpAny_pure ⟨plainId_quiet PyProof.Rows.F.plain_set_update_loop _, ih (i + 1) _ _ (by omega) hlt (W.frame _ s' _ _ hst' (Nat.le_succ _) fun b hb o e => ?_) hl2 hm2 hS2 fun s'' l2 hmv2 hl3 hm3 hS3 => ?_⟩
    · rw [hsb.2 b (fun h : b = S => hSf (by rw [← h]; exact hb))]; exact e
    · refine hR s'' l2 (Moved.trans W.gtrans ((hmv.mono hsub).then_heap (Nat.le_succ _) fun b o hb e => ?_) hmv2) hl3 hm3 hS3
      rw [hsb.2 b (fun h : b = S => hb (by rw [h]; exact List.mem_cons_self))]; exact e
theorem txs_new {h : Heap} {a : Addr} (ho : h.get? a = some { cls := .type "set", dict := none, data := .set #[] 0 (.fresh 0 0 (!w.params.followText "set-order")) }) : TxS P w h a [] :=
  ⟨(#[], 0, .fresh 0 0 (!w.params.followText "set-order")), ho, TxOk.nil rfl, List.nodup_nil, List.Pairwise.nil, by
    show _ ∨ (!w.params.followText "set-order") = true
    cases w.params.followText "set-order"
    · exact .inr rfl
    · exact .inl rfl⟩
set_option maxHeartbeats 3200000 in
theorem call_set_txt {l : Addr} {items : Array Value} {xs : List Str} {Q : Value → Shared → Prop} (hh : A.handled = none) (hl : s.heap.IsList l items) (hit : ∀ (i : Nat) (v : Value), items[i]? = some v → ∃ (k : Str) (t : Tok), xs[i]? = some k ∧ v = Value.str k t) (hisz : items.size = xs.length) (hb : xs.length + 1 < scanBound)
    (h : ∀ (h' : Heap) (tk : Nat) (l' : List Str), l'.length ≤ xs.length → (∀ x, x ∈ l' ↔ x ∈ xs) → TxS P w h' s.heap.objs.size l' → (∀ b o, s.heap.get? b = some o → h'.get? b = some o) → Q (.ref s.heap.objs.size) { s with heap := h', toks := tk }) :
    wpAny (model P w) A (call (.type "set") [.ref l]) Q E s := by
  obtain ⟨c, tl, hmro⟩ := PySem.F.called_set.mro
  have hmade := PySem.F.called_set.made
  have hsub := PySem.F.called_set.sub
  refine wpAny_call (codeAny_of_tree ?_)
  show wpAny _ _ (callAny (.type "set") _) _ _ _
  refine wpAny_pure ⟨Code.quiet_builtin _ (by decide +kernel), codeAny_builtin PySem.F.entry_type_call ?_⟩
  rw [Around.under_plain (weight_type_call_type "set" [.ref l] []) rfl]
  have h1 := PySem.F.called_set.notType
  have h2 := PySem.F.called_set.canCreate
  have hct := PySem.F.typeCall_set_1 (.ref l)
  repeat (any_goals (first | assumption | wp_step))
  refine codeAny_mono (code_set_led1 (.ref l) (E := E) (Q₁ := fun obj s₁ => obj = .ref s.heap.objs.size ∧ s₁ = { s with heap := s.heap.push { cls := .type "set", dict := none, data := .set #[] 0 (.fresh 0 0 (!w.params.followText "set-order")) } }) ⟨rfl, rfl⟩) fun r s₁ hr => ?_
  cases r with
  | error e => exact hr
  | ok fl =>
    cases fl with
    | ret obj =>
      obtain ⟨rfl, rfl⟩ := hr
      have hS : (s.heap.push { cls := .type "set", dict := none, data := .set #[] 0 (.fresh 0 0 (!w.params.followText "set-order")) }).get? s.heap.objs.size = some { cls := .type "set", dict := none, data := .set #[] 0 (.fresh 0 0 (!w.params.followText "set-order")) } := Heap.get?_push_size _ rfl
      have hT : Shared.TypeIs { s with heap := s.heap.push { cls := .type "set", dict := none, data := .set #[] 0 (.fresh 0 0 (!w.params.followText "set-order")) } } (.ref s.heap.objs.size) "set" := ⟨_, hS, rfl⟩
      have hli := PySem.F.called_set.init.lookup
      have hbi := PySem.F.called_set.init.bind (.ref s.heap.objs.size)
      repeat (any_goals (first | assumption | wp_step))
      refine codeAny_mono (codeAny_call_builtin (R := wants (fun r s₂ => r = .none ∧ ∃ h' tk l', s₂ = { s with heap := h', toks := tk } ∧ l'.length ≤ xs.length ∧ (∀ x, x ∈ l' ↔ x ∈ xs) ∧ TxS P w h' s.heap.objs.size l' ∧ (∀ b o, s.heap.get? b = some o → h'.get? b = some o)) E)
        PySem.F.called_set.init.plain PySem.F.entry_set_init (check_set_init_1 hT ?_)) fun r₂ s₂ hr₂ => ?_
      · obtain ⟨ol, hol, hcl, nl, hdl⟩ := hl
        obtain ⟨ocls, odict, odata, oslots⟩ := ol
        simp only at hcl hdl
        subst hcl; subst hdl
        have hol' : (s.heap.push { cls := .type "set", dict := none, data := .set #[] 0 (.fresh 0 0 (!w.params.followText "set-order")) }).get? l = some { cls := .type "list", dict := odict, data := .seq items nl, slots := oslots } := Heap.get?_push_of_some _ hol
        have hsls := PySem.F.sub_list_set
        have hslf := PySem.F.sub_list_frozenset
        have hne : (Value.type "list" == Value.type "dict") = false := by decide
        have hl1 : (s.heap.push { cls := .type "set", dict := none, data := .set #[] 0 (.fresh 0 0 (!w.params.followText "set-order")) }).IsList l items := ⟨_, hol', rfl, nl, rfl⟩
        unfold Builtin.«set.__init__» noKeywords Builtin.Frozenset.updateFrom
        generalize hPI : pyIter = PI
        wp_walk
        subst hPI
        refine wpAny_pyIter_list hl1 ?_
        refine wpAny_bind (wpAny_runValue ?_)
        have hlS : l < s.heap.objs.size := Heap.lt_size hol
        have hz1 : (s.heap.push { cls := .type "set", dict := none, data := .set #[] 0 (.fresh 0 0 (!w.params.followText "set-order")) }).objs.size = s.heap.objs.size + 1 := Heap.size_push ..
        refine txs_loop ((Walks.list (show A.in1.in1.in1.handled = none by simp [hh]) _ l (by rw [hz1]; exact Nat.ne_of_lt (Nat.lt_succ_of_lt hlS)) items).toS) s.heap.objs.size
          (by rw [hz1]; simp only [List.mem_cons, List.not_mem_nil, or_false, not_or]; exact ⟨Nat.ne_of_lt (Nat.lt_succ_self _), Nat.ne_of_gt hlS⟩) xs hisz hb hit (items.size - 0) 0 _ [] (by omega) (Nat.zero_le _)
          ⟨⟨_, Heap.get?_push_size _ rfl, rfl, rfl⟩, (hl1.push _)⟩ (Nat.zero_le _) (fun x => by simp) ?hS0 ?hR
        case hS0 => exact txs_new (by exact Heap.get?_push_of_some _ hS)
        case hR =>
          intro s' l' hm hll hmm hS'
          obtain ⟨h', g2, d', tk', os'⟩ := s'
          have eg : g2 = s.gens := hm.gens
          have ed : d' = s.drawn := hm.drawn
          have eo : os' = s.os := hm.os
          subst eg; subst ed; subst eo
          show wpAny _ _ _ _ _ _
          refine wpAny_pure ?_
          show wpAny _ _ (PySem.ret Value.none) _ _ _
          rw [hisz] at hll
          refine wpAny_pure ⟨rfl, h', tk', l', rfl, hll, hmm, hS', fun b o e => ?_⟩
          have hb0 : b < s.heap.objs.size := Heap.lt_size e
          exact hm.heap b o (by rw [hz1]; simp only [List.mem_cons, List.not_mem_nil, or_false, not_or]; exact ⟨Nat.ne_of_lt hb0, Nat.ne_of_lt (Nat.lt_succ_of_lt hb0)⟩) (Heap.get?_push_of_some _ (Heap.get?_push_of_some _ e))
      · cases r₂ with
        | error e => exact hr₂
        | ok fl₂ =>
          cases fl₂ with
          | ret r =>
            obtain ⟨rfl, h', tk, l', rfl, hll, hmm, hS', hk'⟩ := hr₂
            repeat (any_goals (first | assumption | wp_step))
            exact h _ _ _ hll hmm hS' hk'
          | _ => exact hr₂.elim
    | _ => exact hr.elim
/-! ### sorted(set) -/
theorem txs_vals {D : SD} {l : List Str} (F : TxOk P w D l) (nd : l.Nodup) {vs : List Value} (pm : vs.Perm (D.1.toList.map (·.2))) : ∃ ys : List Str, StrsAre vs ys ∧ ys.length = l.length ∧ ∀ x, x ∈ ys ↔ x ∈ l := by
  have key : ∀ v ∈ vs, ∃ x t, v = Value.str x t := fun v hv => by
    obtain ⟨e, he, q⟩ := List.mem_map.mp (pm.mem_iff.mp hv)
    obtain ⟨⟨k, hk, _⟩, _⟩ := F.el e he
    obtain ⟨t, ht⟩ := Value.isStrOf_shape (show Value.isStrOf k e.2 = true from hk)
    exact ⟨k, t, q ▸ ht⟩
  have go : ∀ us : List Value, (∀ v ∈ us, ∃ x t, v = Value.str x t) → ∃ ys : List Str, StrsAre us ys ∧ ys = us.map strOf := by
    intro us
    induction us with
    | nil => exact fun _ => ⟨[], .nil, rfl⟩
    | cons v us ih =>
      intro h
      obtain ⟨x, t, rfl⟩ := h v (List.mem_cons_self ..)
      obtain ⟨ys, h1, h2⟩ := ih fun u hu => h u (List.mem_cons_of_mem _ hu)
      exact ⟨x :: ys, .cons x t h1, by rw [h2]; rfl⟩
  obtain ⟨ys, h1, h2⟩ := go vs key
  refine ⟨ys, h1, ?_, fun x => ?_⟩
  · rw [h2, List.length_map, pm.length_eq, List.length_map, Array.length_toList]; exact F.sz
  · rw [h2, F.mem x, List.mem_map]
    constructor
    · rintro ⟨v, hv, q⟩
      obtain ⟨e, he, q2⟩ := List.mem_map.mp (pm.mem_iff.mp hv)
      obtain ⟨y, t, rfl⟩ := key v hv
      refine ⟨e, he, ?_⟩
      have : y = x := q
      rw [q2, this]; exact is_str x t
    · rintro ⟨e, he, q⟩
      obtain ⟨t, ht⟩ := Value.isStrOf_shape (show Value.isStrOf x e.2 = true from q)
      exact ⟨e.2, pm.mem_iff.mpr (List.mem_map.mpr ⟨e, he, rfl⟩), by rw [ht]; rfl⟩
theorem sorted_txt {a : Addr} {l : List Str} {Q : Value → Shared → Prop} (x : TxS P w s.heap a l) (hh : A.handled = none) (h64 : l.length < 64)
    (hQ : ∀ s' p (out : Array Value) (c : Nat) (ys : List Str), (∀ b o, s.heap.get? b = some o → s'.heap.get? b = some o) → s'.gens = s.gens → s'.os = s.os → s.heap.objs.size ≤ p →
      s'.heap.get? p = some (seqObj "list" out c) → StrsAre out.toList ys → sortedS ys = true → ys.Nodup → (∀ k, k ∈ ys ↔ k ∈ l) → ys.length = l.length → Q (.ref p) s') :
    wpAny (model P w) A (call (.builtin "sorted") [.ref a]) Q E s := by
  obtain ⟨⟨es, ep, t⟩, ho, F, nd, hr, hl⟩ := x
  refine Calls.call_function_entry kind_sorted plain_sorted entry_sorted (args_sorted1 _) ?_
  unfold Builtin.«sorted»
  refine wpAny_bind (m := checkCount "sorted" 1 1 _) (wpAny_pure ?_)
  have hsz : es.size = l.length := F.sz
  refine wpAny_bind (collect_set (A := A.in1) hh ⟨_, ho, rfl, rfl⟩ F.fit (by rw [hsz]; unfold scanBound; omega) hr hl fun s1 vs k1 hz g1 o1 pm => ?_)
  obtain ⟨ys, hS, hyl, hym⟩ := txs_vals F nd pm
  have hvl : vs.length = l.length := by rw [pm.length_eq, List.length_map, Array.length_toList]; exact hsz
  refine wpAny_bind (wpAny_newList ?_ (by rw [hvl, sizeLine_eq]; omega))
  have hoL : (s1.heap.push (seqObj "list" vs.toArray 0)).get? s1.heap.objs.size = some (seqObj "list" vs.toArray 0) := Heap.get?_push_size _ rfl
  refine wpAny_bind (wpAny_holding (wpAny_call_entry slot_list_sort ⟨_, hoL, rfl⟩ entry_list_sort (list_sort_treeK strKind_oneLt hoL hS.keysOf (fun v₁ v₂ rest e => keyKind_strs (by rw [← e]; exact hS)) (by rw [hvl]; exact h64) fun st' hp hs => ⟨_, rfl, ?_⟩) (args_list_sort _)))
  obtain ⟨ys', a1, a2, a3⟩ := sorted_out_str hS hp hs
  obtain ⟨c, hc⟩ := sortedHeap_at (vs := vs) (out := (arrOf st').map (·.2)) hoL
  have ynd : ys.Nodup := by
    have e1 : ∀ x, x ∈ l → x ∈ ys := fun x h => (hym x).mpr h
    exact nodup_of_cover nd e1 (by omega)
  refine wpAny_pure ⟨_, rfl, hQ _ s1.heap.objs.size _ c ys' (fun b u e => ?_) g1 o1 hz hc a1 a3 (a2.nodup_iff.mpr ynd) (fun k => by rw [a2.mem_iff, hym k]) (by rw [a2.length_eq, hyl])⟩
  have q := k1 b u e
  have hlt := Heap.lt_size q
  show (sortedHeap (s1.heap.push (seqObj "list" vs.toArray 0)) s1.heap.objs.size vs ((arrOf st').map (·.2))).get? b = some u
  rw [PyProof.Rows.sortedHeap_old (Nat.ne_of_lt hlt) (by rw [size_push']; exact Nat.lt_succ_of_lt hlt)]
  exact Heap.get?_push_of_some _ q
end
end Wn
end

section
set_option Elab.async false
set_option linter.all false
set_option maxRecDepth 100000
set_option maxHeartbeats 4000000
namespace Wn
open PySem PySem.Spec PyProof.Rows L2

/-! ### texts in their order, each once -/
def ltS (a b : Str) : Bool := decide (a.cps.toList < b.cps.toList)
theorem str_ext {a b : Str} (h : a.cps.toList = b.cps.toList) : a = b := by
  cases a; cases b
  simp only at h
  rw [Array.toList_inj.mp h]
theorem ltS_irr (a : Str) : ltS a a = false := decide_eq_false (List.lt_irrefl _)
theorem ltS_trans {a b c : Str} (h : ltS a b = true) (g : ltS b c = true) : ltS a c = true := decide_eq_true (List.lt_trans (of_decide_eq_true h) (of_decide_eq_true g))
theorem ltS_tri {a b : Str} (h : ltS a b = false) (n : a ≠ b) : ltS b a = true := by
  have h1 : ¬ a.cps.toList < b.cps.toList := of_decide_eq_false h
  have h2 := List.not_lt.mp h1
  refine decide_eq_true (Classical.byContradiction fun z => n ?_)
  exact str_ext (List.le_antisymm (List.not_lt.mp z) h2)
def insU (x : Str) : List Str → List Str
  | [] => [x]
  | y :: ys => if ltS x y = true then x :: y :: ys else if x = y then y :: ys else y :: insU x ys
def srtU : List Str → List Str
  | [] => []
  | x :: xs => insU x (srtU xs)
def Asc (l : List Str) : Prop := l.Pairwise fun a b => ltS a b = true
theorem insU_mem {x z : Str} : ∀ {l : List Str}, z ∈ insU x l ↔ z = x ∨ z ∈ l
  | [] => by simp [insU]
  | y :: ys => by
    unfold insU
    split
    · simp
    · split
      · rename_i e
        subst e
        simp
      · rw [List.mem_cons, insU_mem, List.mem_cons]
        constructor
        · rintro (h | h | h)
          · exact .inr (.inl h)
          · exact .inl h
          · exact .inr (.inr h)
        · rintro (h | h | h)
          · exact .inr (.inl h)
          · exact .inl h
          · exact .inr (.inr h)
theorem insU_asc {x : Str} : ∀ {l : List Str}, Asc l → Asc (insU x l)
  | [], _ => List.pairwise_singleton ..
  | y :: ys, h => by
    obtain ⟨h1, h2⟩ := List.pairwise_cons.mp h
    unfold insU
    split
    · rename_i q
      refine List.pairwise_cons.mpr ⟨fun z hz => ?_, h⟩
      rcases List.mem_cons.mp hz with e | e
      · rw [e]; exact q
      · exact ltS_trans q (h1 z e)
    · rename_i q
      split
      · exact h
      · rename_i n
        refine List.pairwise_cons.mpr ⟨fun z hz => ?_, insU_asc h2⟩
        rcases insU_mem.mp hz with e | e
        · rw [e]; exact ltS_tri (by simpa using q) n
        · exact h1 z e
theorem srtU_asc : ∀ l : List Str, Asc (srtU l)
  | [] => List.Pairwise.nil
  | x :: xs => insU_asc (srtU_asc xs)
theorem srtU_mem {z : Str} : ∀ {l : List Str}, z ∈ srtU l ↔ z ∈ l
  | [] => Iff.rfl
  | x :: xs => by
    unfold srtU
    rw [insU_mem, srtU_mem, List.mem_cons]
theorem asc_same : ∀ {l m : List Str}, Asc l → Asc m → (∀ x, x ∈ l ↔ x ∈ m) → l = m
  | [], [], _, _, _ => rfl
  | [], y :: m, _, _, h => by have := (h y).mpr (List.mem_cons_self ..); cases this
  | x :: l, [], _, _, h => by have := (h x).mp (List.mem_cons_self ..); cases this
  | x :: l, y :: m, hl, hm, h => by
    obtain ⟨l1, l2⟩ := List.pairwise_cons.mp hl
    obtain ⟨m1, m2⟩ := List.pairwise_cons.mp hm
    have exy : x = y := by
      rcases List.mem_cons.mp ((h x).mp (List.mem_cons_self ..)) with e | e
      · exact e
      · rcases List.mem_cons.mp ((h y).mpr (List.mem_cons_self ..)) with e2 | e2
        · exact e2.symm
        · have := ltS_trans (m1 x e) (l1 y e2)
          rw [ltS_irr] at this
          cases this
    subst exy
    refine congrArg _ (asc_same l2 m2 fun z => ?_)
    have hz := h z
    rw [List.mem_cons, List.mem_cons] at hz
    constructor
    · intro a
      rcases hz.mp (.inr a) with e | e
      · subst e
        have := l1 z a
        rw [ltS_irr] at this
        cases this
      · exact e
    · intro a
      rcases hz.mpr (.inr a) with e | e
      · subst e
        have := m1 z a
        rw [ltS_irr] at this
        cases this
      · exact e
theorem rising_pair : ∀ {p : Str} {l : List Str}, risingS p l = true → (p :: l).Pairwise fun a b => ltS b a = false
  | p, [], _ => List.pairwise_singleton ..
  | p, x :: r, h => by
    obtain ⟨h1, h2⟩ := Bool.and_eq_true_iff.mp (show (!ltCps x.cps.toList p.cps.toList && risingS x r) = true from h)
    have ih := rising_pair h2
    have h3 : ltS x p = false := by
      rw [ltCps_eq] at h1
      simpa [ltS] using h1
    refine List.pairwise_cons.mpr ⟨fun z hz => ?_, ih⟩
    rcases List.mem_cons.mp hz with e | e
    · rw [e]; exact h3
    · have h4 : ltS z x = false := (List.pairwise_cons.mp ih).1 z e
      cases q : ltS z p with
      | false => rfl
      | true =>
        by_cases n : x = p
        · rw [n, q] at h4; cases h4
        · have := ltS_trans q (ltS_tri h3 n)
          rw [h4] at this; cases this
theorem sorted_asc {l : List Str} (h : sortedS l = true) (nd : l.Nodup) : Asc l := by
  cases l with
  | nil => exact List.Pairwise.nil
  | cons x r =>
    have hp := rising_pair h
    have key := hp.and nd
    exact key.imp fun {a b} ⟨h1, h2⟩ => ltS_tri h1 fun e => h2 e.symm
theorem reps_strs {K : PySem.W.Frag} {H : Hp} {r : List Addr} : ∀ ys : List Str, Reps K H r (ys.map D.str) (ys.map V.str)
  | [] => rfl
  | y :: ys => ⟨_, _, rfl, rfl, reps_strs ys⟩
/-! ### sorted(set(xs)) of texts -/
def gSst (M : Mem) (x : D) : Option D := match (lstOf M x).bind strsOf with
  | some ys => if ys.length < 64 then some (.lst ((srtU ys).map D.str)) else none
  | none => none
def eSst (a : Fe) : Fe := fun δ => bnd (a δ) fun x M => opt (gSst M x) M
section
variable {X : Cx} {Z : ZS} {e a lo st : Expr} {fa : Fe} {p p2 q pos : Pos}
theorem r_sst (hc : X.calm = true) (hg : Gl X "sorted") (hm : X.mg "sorted" = none) (hg2 : Gl X "set") (hm2 : X.mg "set" = none) (ha : PE X e (tM X.K Z fa)) (na : starEach [e] X.env = (false, eval e X.env) :: starEach [] X.env) :
    PE X (.Call (.Name "sorted" p) [.Call (.Name "set" p2) [e] [] q] [] pos) (tM X.K Z (eSst fa)) := by
  refine ⟨fun pins s σ H Q I ⟨δ, r, M, E, S, h⟩ => ?_⟩
  refine Call_ (ld_blt I hg hm boot_sorted ?_)
  refine PyProof.Rows.callWith_builtin1 (PyProof.Rows.args_cons ?_ rfl) rfl rfl
  refine Call_ (ld_blt I hg2 hm2 boot_set ?_)
  refine PyProof.Rows.callWith_type1 (PyProof.Rows.args_cons (thn (ha.run pins s σ H _ I ⟨δ, r, M, E, S, Aft.bind S h⟩) fun v s1 ⟨x, H1, I1, rx, d1, M1, r1, e1, X1, S1, q1, w⟩ => PyProof.Rows.args_nil ?_) na) na rfl
  obtain ⟨d, e4, w4⟩ := Aft.opt w
  unfold gSst at e4
  cases hb : (lstOf M1 d1).bind strsOf with
  | none => rw [hb] at e4; cases e4
  | some ys =>
    rw [hb] at e4
    obtain ⟨h64, rfl⟩ := of_ite e4
    obtain ⟨ds, hl1, hl2⟩ := Option.bind_eq_some_iff.mp hb
    obtain ⟨l, vs, rfl, hq, hr⟩ := lstOf_rep S1 q1 hl1
    have hvs := strsOf_rep hl2 hr
    subst hvs
    cases rx
    obtain ⟨its, rv, pl, hz⟩ := I1.list hq
    have hlen : its.length = ys.length := by rw [← rv.length, List.length_map]
    refine call_set_txt (xs := ys) (I1.ok.hd hc) pl.isList (fun i u hu => ?_) (by rw [List.size_toArray, hlen]) (by unfold scanBound; omega) fun h' tk l' hll hmm hT hk => ?_
    · have hi : i < ys.length := by
        have := (Array.getElem?_eq_some_iff.mp hu).1
        rw [List.size_toArray, hlen] at this
        exact this
      obtain ⟨u2, hu2, t, e⟩ := rv.get (i := i) (x := .str ys[i]) (by simp [hi])
      have hu3 : its[i]? = some u := by simpa using hu
      rw [hu2] at hu3
      cases hu3
      exact ⟨ys[i], t, List.getElem?_eq_getElem hi, e⟩
    · have I2 : Inv X pins σ H1 { s1 with heap := h', toks := tk } := I1.kept hk
      refine PyProof.Rows.args_nil ?_
      refine sorted_txt (s := { s1 with heap := h', toks := tk }) hT (I2.ok.hd hc) (by omega) fun s' p' out c zs k g o hp hgt hi hs hnd hm' hl' => ?_
      have hzs : zs = srtU ys := asc_same (sorted_asc hs hnd) (srtU_asc ys) fun x => by rw [hm' x, hmm x, srtU_mem]
      have hn : H1 p' = none := I2.hok.fresh hp
      have hlen2 : (zs.map V.str).length ≤ sizeLine := by rw [List.length_map, hl', sizeLine_eq]; omega
      have J : Inv X pins σ (upd H1 p' (.lst (zs.map V.str))) { ({ s1 with heap := h', toks := tk } : Shared) with heap := s'.heap, gens := s'.gens, drawn := s'.drawn, toks := s'.toks } :=
        I2.call (ch := []) (Un.laid k hp hn) (I2.hok.laid k hp ⟨hlen2, out.toList, c, vals_of_strs hi, hgt⟩) (by rw [g]; exact I2.bare) (fun _ z => nomatch z)
      have e : s' = { s1 with heap := s'.heap, gens := s'.gens, drawn := s'.drawn, toks := s'.toks } := by
        cases s'
        cases s1
        cases o
        rfl
      rw [e]
      refine EP.freeze ⟨.ref p', _, J, rfl, ?_⟩
      rw [hzs]
      exact Wnt.fzl S1 (show Wnt X.K H1 r1 M1 (.lst ((srtU ys).map D.str)) Q from w4) (reps_strs _) p' hn
/-! ### text.split(sep), str(i), int(text) -/
def gSplit : Mem → D → List D → Option D := fun _ x ds => match x, ds with
  | .str a, [.str b] => if (b.length == 0) = false ∧ a.length + 2 ≤ sizeLine then some (.lst ((Txt.split a b).map D.str)) else none
  | _, _ => none
theorem m_split : MtS1 X "str" "str.split" gSplit := by
  intro pins s σ H r M x xs v us dx ds d Q I rx rxs S qx qs e w
  unfold gSplit at e
  split at e
  · rename_i a b
    obtain ⟨hz, rfl⟩ := of_ite e
    cases qx
    obtain ⟨y, _, rfl, qy, hw⟩ := qs
    cases hw
    cases qy
    exact thn (mt_split pins s σ H (.str a) [.str b] v us (QFz Q) I rx rxs ⟨a, b, rfl, rfl, hz.1, hz.2, fun p hp => w.fzl S (reps_strs _) p hp⟩) fun u s' q => EP.freeze q
  · cases e
theorem c_str : CallS X (.type "str") (g1 fStr) := by
  intro pins s σ H r M xs us ds d Q I rx S qx e w
  obtain ⟨x, rfl, e1⟩ := of_g1 e
  obtain ⟨v, rfl, qv⟩ := reps1 qx rfl
  cases x with
  | int i =>
    obtain ⟨hz, rfl⟩ := of_ite (show (if i.natAbs.log2 < 1920 then some (D.str (toString i)) else none) = some d from e1)
    cases qv
    exact call_str_int pins s σ H _ us Q I rx ⟨i, rfl, hz, w.here S rfl⟩
  | str a =>
    replace e1 : some (D.str a) = some d := e1
    cases e1
    cases qv
    exact SkE.call_str_str pins s σ H _ us Q I rx ⟨a, rfl, w.here S rfl⟩
  | _ => cases e1
def fIntS : Mem → D → Option D := fun _ x => match x with
  | .str a => if a.length ≤ 640 then (PySem.intText? a).map D.int else none
  | _ => none
theorem c_intS : CallS X (.type "int") (g1 fIntS) := CallS.of call_int_str fun H r M xs ds d Q S qx e w => by
  obtain ⟨x, rfl, e1⟩ := of_g1 e
  obtain ⟨v, rfl, qv⟩ := reps1 qx rfl
  cases x with
  | str a =>
    replace e1 : (if a.length ≤ 640 then (PySem.intText? a).map D.int else none) = some d := e1
    split at e1
    · rename_i hz
      obtain ⟨n, h1, rfl⟩ := Option.map_eq_some_iff.mp e1
      cases qv
      exact ⟨a, n, rfl, h1, hz, w.here S (d := .int _) rfl⟩
    · cases e1
  | _ => cases e1
/-! ### xs[lo::step] -/
def pickD {α : Type} (xs : List α) (l : Option Int) (k : Option Int) : List α := (sliceRange (sliceBounds l none k xs.length).1 (sliceBounds l none k xs.length).2.1 (sliceBounds l none k xs.length).2.2).filterMap (xs[·]?)
def gStp (M : Mem) (x : D) (l k : Option Int) : Option D := match lstOf M x, k with
  | some ds, some j => if j ≠ 0 ∧ (pickD ds l k).length ≤ ds.length then some (.lst (pickD ds l k)) else none
  | _, _ => none
def eStp (a : Fe) (fl fk : Env → Mem → Res (Option Int)) : Fe := fun δ => bnd (a δ) fun d => bnd (fl δ) fun l => bnd (fk δ) fun k M => opt (gStp M d l k) M
theorem pick_vals {xs : List V} {us : List Value} (h : Vals xs us) (l k : Option Int) : Vals (pickD xs l k) (pickD us l k) := by
  have e : xs.length = us.length := h.length
  unfold pickD
  rw [e]
  generalize sliceRange _ _ _ = is
  induction is with
  | nil => exact .nil
  | cons i is ih =>
    rw [List.filterMap_cons, List.filterMap_cons]
    cases q : us[i]? with
    | none =>
      have : xs[i]? = none := by
        rw [List.getElem?_eq_none_iff] at q ⊢
        omega
      rw [this]; exact ih
    | some u =>
      have hi : i < xs.length := by
        have := (List.getElem?_eq_some_iff.mp q).1
        omega
      rw [List.getElem?_eq_getElem hi]
      obtain ⟨u2, h1, h2⟩ := h.get (i := i) (x := xs[i]) (List.getElem?_eq_getElem hi)
      rw [q] at h1
      cases h1
      exact .cons h2 ih
theorem pick_reps {K : PySem.W.Frag} {H : Hp} {r : List Addr} {ds : List D} {vs : List V} (h : Reps K H r ds vs) (l k : Option Int) : Reps K H r (pickD ds l k) (pickD vs l k) := by
  have e : ds.length = vs.length := h.length
  have get : ∀ {ds : List D} {vs : List V} (i : Nat) (d : D), Reps K H r ds vs → ds[i]? = some d → ∃ v, vs[i]? = some v ∧ Rep K H r d v := by
    intro ds
    induction ds with
    | nil => intro vs i d _ z; simp at z
    | cons d0 ds ih =>
      intro vs i d hr z
      obtain ⟨v, ws, rfl, h1, h2⟩ := hr
      cases i with
      | zero => simp at z; subst z; exact ⟨v, rfl, h1⟩
      | succ i => simp at z; obtain ⟨v', a, b⟩ := ih i d h2 z; exact ⟨v', by simpa using a, b⟩
  unfold pickD
  rw [e]
  generalize sliceRange _ _ _ = is
  induction is with
  | nil => exact rfl
  | cons i is ih =>
    rw [List.filterMap_cons, List.filterMap_cons]
    cases q : ds[i]? with
    | none =>
      have : vs[i]? = none := by
        rw [List.getElem?_eq_none_iff] at q ⊢
        omega
      rw [this]; exact ih
    | some d =>
      obtain ⟨v, h1, h2⟩ := get i d h q
      rw [h1]
      exact ⟨v, _, rfl, h2, ih⟩
theorem AftO.bnd {K : PySem.W.Frag} {Z : ZK} {H : Hp} {r : List Addr} {M : Mem} {m : Mem → Res (Option Int)} {k : Option Int → Mem → Res D} {Q : VK} (S : Sim K H r M) (h : Aft K Z H r M (Wn.bnd m k M) Q) :
    AftO K Z H r M (m M) (fun o H1 => ∃ M1 r1, m M = .ok o M1 ∧ Ext H r M H1 r1 M1 ∧ Sim K H1 r1 M1 ∧ Aft K Z H1 r1 M1 (k o M1) Q) := by
  unfold Wn.bnd at h
  cases e : m M with
  | ok d M' =>
    rw [e] at h
    exact fun H' r' x s => ⟨M', r', rfl, x, s, Aft.step S s x h⟩
  | err d M' => rw [e] at h; exact h
  | bad => rw [e] at h; exact h
theorem r_stp {lo : Option Expr} {fl fk : Env → Mem → Res (Option Int)} {k0 : Expr} (he : PE X a (tM X.K Z fa)) (hl : PO X lo (tO X.K Z fl)) (hk : PO X (some k0) (tO X.K Z fk)) : PE X (.Subscript a (.Slice lo none (some k0) p2) pos) (tM X.K Z (eStp fa fl fk)) := by
  refine ⟨fun pins s σ H Q I ⟨δ, r, M, E, S, h⟩ => ?_⟩
  refine Subscript_ (thn (he.run pins s σ H _ I ⟨δ, r, M, E, S, Aft.bind S h⟩) fun v s1 ⟨x, H1, I1, rx, d1, M1, r1, e1, X1, S1, q1, w1⟩ => ?_)
  refine wpAny_Slice (thn (hl.run pins s1 σ H1 _ I1 ⟨δ, r1, M1, E.ext S X1, S1, AftO.bnd S1 w1⟩) fun vl s2 ⟨l, H2, I2, pl, M2, r2, e2, X2, S2, w2⟩ => ?_)
  refine thn (po_none.run pins s2 σ H2 (fun o H3 => o = none ∧ H3 = H2) I2 ⟨rfl, rfl⟩) fun vu s3 ⟨u, H3, I3, pu, eu, e3⟩ => ?_
  subst eu e3
  refine thn (hk.run pins s3 σ H3 _ I3 ⟨δ, r2, M2, (E.ext S X1).ext S1 X2, S2, AftO.bnd S2 w2⟩) fun vs s4 ⟨k, H4, I4, ps, M4, r4, e4, X4, S4, w4⟩ => ?_
  obtain ⟨d, e5, w5⟩ := Aft.opt w4
  unfold gStp at e5
  split at e5
  · rename_i ds j hds
    obtain ⟨⟨hj, hle⟩, rfl⟩ := of_ite e5
    have qx := (q1.ext S1 X2).ext S2 X4
    obtain ⟨b, xs, rfl, hq, hr⟩ := lstOf_rep S4 qx hds
    cases rx
    have I5 : Inv X pins σ H4 { s4 with heap := s4.heap.push { cls := .type "slice", data := .fields #[vl, vu, vs] } } := I4.kept (t' := s4.toks) fun b ob q => Heap.get?_push_of_some _ q
    obtain ⟨its, rv, ht, hz⟩ := I5.list hq
    have hlen := rv.length
    have hds2 := hr.length
    show wpAny (model X.prog X.w) X.A (subscriptTail a (.Slice lo none (some k0) p2) (.ref b) (.ref s4.heap.objs.size)) (EP X pins σ Q) X.xe { s4 with heap := s4.heap.push { cls := .type "slice", data := .fields #[vl, vu, vs] } }
    refine tail_any (ops := [.ref b, .ref s4.heap.objs.size]) ht.isList.typeIs (PySem.slot_list_getitem.lookup) ?_ (by with_unfolding_all rfl)
    refine wpAny_getItem_list_slice ht.isList (Heap.IsSliceOf.new _ vl vu vs) pl pu ps (by simpa using hj) ?_ (by rw [List.size_toArray]; omega)
    have ep : slicePick its.toArray l none (some j) = (pickD its l (some j)).toArray := by
      unfold slicePick pickD
      simp
    rw [ep]
    have rp := pick_reps hr l (some j)
    have vp := pick_vals rv l (some j)
    refine EP.freeze ⟨.ref _, _, I5.laid (t' := s4.toks) (o := .lst (pickD xs l (some j))) (fun b ob q => Heap.get?_push_of_some _ q) (Nat.le_refl _) ?_, rfl, Wnt.fzl S4 (show Wnt X.K H4 r4 M4 (.lst (pickD ds l (some j))) Q from w5) rp _ (I5.hok.fresh (Nat.le_refl _))⟩
    have hpl : (pickD xs l (some j)).length ≤ sizeLine := by
      have := rp.length
      omega
    exact ⟨hpl, _, 0, vp, Heap.get?_push_size _ rfl⟩
  · cases e5
/-! ### {..} of constants -/
def aPair : List (Str × D) → List (Key × D)
  | [] => []
  | (k, d) :: l => (.inr k, d) :: aPair l
/-- a value that stands for itself -/
def atom : D → Bool
  | .non => true
  | .bl _ => true
  | .int _ => true
  | .str _ => true
  | _ => false
def atV : D → V
  | .bl b => .bl b
  | .int i => .int i
  | .str x => .str x
  | _ => .non
theorem atom_rep {K : PySem.W.Frag} {H : Hp} {r : List Addr} {d : D} (h : atom d = true) : Rep K H r d (atV d) := by
  cases d <;> first | rfl | cases h
theorem aPair_rep {K : PySem.W.Frag} {H : Hp} {r : List Addr} : ∀ {kvs : List (Str × D)}, (kvs.all fun kv => atom kv.2) = true → DRep K H r (aPair kvs) (kvs.map fun kv => (.inr kv.1, atV kv.2))
  | [], _ => .nil
  | (k, d) :: l, h => by
    obtain ⟨h1, h2⟩ := Bool.and_eq_true_iff.mp (show (atom d && l.all fun kv => atom kv.2) = true from h)
    exact .cons (atom_rep h1) (aPair_rep h2)
def eDsp (kvs : List (Str × D)) : Fe := fun _ M => .ok (.ref M.length) (M ++ [.dct (mergeD [] (aPair kvs))])
theorem r_dsp {kvs : List (Str × D)} {keys : List (Option Expr)} {values : List Expr} {trs : List (TE × TE)} (hp : PPs X pos keys values trs) (ht : ∀ σ H Q, Q (kvs.map fun kv => (V.str kv.1, atV kv.2)) H → tPairs trs σ H Q)
    (hall : keys.all (·.isSome) = true) (hl : keys.length = values.length) (h0 : keys ≠ []) (h15 : keys.length ≤ 15) (hk : kvs.length ≤ 15) (hat : (kvs.all fun kv => atom kv.2) = true) : PE X (.Dict keys values pos) (tM X.K Z (eDsp kvs)) := by
  refine ⟨fun pins s σ H Q I ⟨δ, r, M, E, S, h⟩ => (pe_disp hp hall hl h0 h15).run pins s σ H Q I fun p hpn => ht _ _ _ ⟨upd_same, kvs.map fun kv => (.inr kv.1, atV kv.2), ?_, by rw [List.length_map]; exact hk, ?_⟩⟩
  · rw [List.map_map]; rfl
  · rw [upd_upd]
    have dm : DRep X.K H r (mergeD [] (aPair kvs)) (mergeK [] (kvs.map fun kv => (Sum.inr kv.1, atV kv.2))) := DRep.merge (aPair_rep hat) .nil
    exact Aft.celG (nc := .dct (mergeD [] (aPair kvs))) S hpn (fun H' r' st e => ⟨mergeK [] (kvs.map fun kv => (.inr kv.1, atV kv.2)), e, (dm.stay st).1, (dm.stay st).2⟩) h
theorem r_dsp0 : PE X (.Dict [] [] pos) (tM X.K Z (eDsp [])) := by
  refine ⟨fun pins s σ H Q I ⟨δ, r, M, E, S, h⟩ => pe_dnewK.run pins s σ H Q I fun p hpn => ?_⟩
  exact Aft.celG (nc := .dct []) S hpn (fun H' r' st e => ⟨[], e, rfl, rfl⟩) h
end
end Wn
end

section
set_option Elab.async false
set_option linter.all false
set_option maxRecDepth 100000
set_option maxHeartbeats 4000000
namespace Wn
open PySem PySem.Spec PyProof.Rows L2

/-! ### list(zip(xs, ys)) of lists -/
theorem zip_no_len : typeLookup (.type "zip") "__len__" = pure none := by rw [typeLookup_type, builtinLookup_eq_fast]; kernel_rfl
theorem zip_no_hint : typeLookup (.type "zip") "__length_hint__" = pure none := by rw [typeLookup_type, builtinLookup_eq_fast]; kernel_rfl
/-- a zip behind i items that are all there still -/
structure ZSt (z TI TO i1 i2 l1 l2 : Addr) (xs ys : Array Value) (i : Nat) (h : Heap) : Prop where
  zip : (i = 0 ∧ IsZip h z TI TO .none ∧ ∃ a b, IsPair h TO a b) ∨ ∃ T f oT, IsZipHeld h z TI TO T f ∧ h.get? T = some oT ∧ T ≠ z ∧ T ≠ i1 ∧ T ≠ i2 ∧ T ≠ TO
  ti : IsPair h TI (.ref i1) (.ref i2)
  a1 : h.IsListIter i1 l1 i
  a2 : h.IsListIter i2 l2 i
  b1 : h.IsList l1 xs
  b2 : h.IsList l2 ys
theorem ls_keep {h h' : Heap} {l : Addr} {xs : Array Value} (x : h.IsList l xs) (k : ∀ o, h.get? l = some o → h'.get? l = some o) : h'.IsList l xs := by
  obtain ⟨o, e, r⟩ := x
  exact ⟨o, k o e, r⟩
theorem it_keep {h h' : Heap} {j l : Addr} {i : Nat} (x : h.IsListIter j l i) (k : ∀ o, h.get? j = some o → h'.get? j = some o) : h'.IsListIter j l i := by
  obtain ⟨o, e, r⟩ := x
  exact ⟨o, k o e, r⟩
/-- how the parts lie: the lists ahead of the rest -/
structure ZLay (z TI TO i1 i2 l1 l2 S : Addr) : Prop where
  D : ZipApart z TI TO i1 i2 l1 l2
  l1n : l1 ≠ z ∧ l1 ≠ TO ∧ l1 ≠ i1 ∧ l1 ≠ i2
  l2n : l2 ≠ z ∧ l2 ≠ TO ∧ l2 ≠ i1 ∧ l2 ≠ i2
  sn : S ≠ z ∧ S ≠ TI ∧ S ≠ TO ∧ S ≠ i1 ∧ S ≠ i2 ∧ S ≠ l1 ∧ S ≠ l2
  lt : z < S ∧ TO < S ∧ i1 < S ∧ i2 < S
section
variable {P : Program} {w : World} {A : Around} {E : Value → Shared → Prop} {s : Shared} {z TI TO i1 i2 l1 l2 S : Addr} {xs ys : Array Value}
theorem zst_item {i : Nat} {x y : Value} {Q : Option Value → Shared → Prop} (L : ZLay z TI TO i1 i2 l1 l2 S) (hS : S < s.heap.objs.size) (st : ZSt z TI TO i1 i2 l1 l2 xs ys i s.heap) (hx : xs[i]? = some x) (hy : ys[i]? = some y)
    (h : ∀ h', ZSt z TI TO i1 i2 l1 l2 xs ys (i + 1) h' → IsPair h' s.heap.objs.size x y → h'.objs.size = s.heap.objs.size + 1 → (∀ c o, c ≠ z → c ≠ TO → c ≠ i1 → c ≠ i2 → s.heap.get? c = some o → h'.get? c = some o) → Q (some (.ref s.heap.objs.size)) { s with heap := h' }) :
    wpAny (model P w) A (pyNext (.ref z)) Q E s := by
  have D := L.D
  obtain ⟨t1, t2, t3, t4⟩ := L.lt
  have big : ∀ {a : Addr}, a < S → s.heap.objs.size ≠ a := fun {a} q => Nat.ne_of_gt (Nat.lt_trans q hS)
  rcases st.zip with ⟨_, hz, a, b, hTO⟩ | ⟨T, f, oT, hz, hT, n1, n2, n3, n4⟩
  · refine wpAny_pyNext_zip_item D hz st.ti hTO st.a1 st.a2 st.b1 st.b2 hx hy fun h' g1 g2 g3 g4 g5 g6 g7 => h h' ⟨.inr ⟨s.heap.objs.size, false, _, g1, g5, big t1, big t3, big t4, big t2⟩, g7 _ _ D.TIz D.TITO D.TIi1 D.TIi2 st.ti, g3, g4, ?_, ?_⟩ g5 g6 g7
    · exact ls_keep st.b1 fun o q => g7 _ _ L.l1n.1 L.l1n.2.1 L.l1n.2.2.1 L.l1n.2.2.2 q
    · exact ls_keep st.b2 fun o q => g7 _ _ L.l2n.1 L.l2n.2.1 L.l2n.2.2.1 L.l2n.2.2.2 q
  · refine wpAny_pyNext_zip_item_held D hz hT st.ti st.a1 st.a2 st.b1 st.b2 hx hy fun h' g1 g3 g4 g5 g6 g7 => h h' ⟨.inr ⟨T, true, oT, g1, g7 _ _ n1 n2 n3 hT, n1, n2, n3, n4⟩, g7 _ _ D.TIz D.TIi1 D.TIi2 st.ti, g3, g4, ?_, ?_⟩ g5 g6 (fun c o e1 _ e3 e4 q => g7 c o e1 e3 e4 q)
    · exact ls_keep st.b1 fun o q => g7 _ _ L.l1n.1 L.l1n.2.2.1 L.l1n.2.2.2 q
    · exact ls_keep st.b2 fun o q => g7 _ _ L.l2n.1 L.l2n.2.2.1 L.l2n.2.2.2 q
theorem zst_done {i : Nat} {Q : Option Value → Shared → Prop} (hh : A.handled = none) (L : ZLay z TI TO i1 i2 l1 l2 S) (st : ZSt z TI TO i1 i2 l1 l2 xs ys i s.heap) (he : xs[i]? = none ∨ ys[i]? = none)
    (h : ∀ h', (∀ c o, c ≠ z → c ≠ TO → c ≠ i1 → c ≠ i2 → s.heap.get? c = some o → h'.get? c = some o) → Q none { s with heap := h' }) : wpAny (model P w) A (pyNext (.ref z)) Q E s := by
  rcases st.zip with ⟨_, hz, a, b, hTO⟩ | ⟨T, f, oT, hz, hT, n1, n2, n3, n4⟩
  · exact wpAny_pyNext_zip_end hh L.D hz st.ti hTO st.a1 st.a2 st.b1 st.b2 he h
  · exact wpAny_pyNext_zip_end_held hh L.D hz hT st.ti st.a1 st.a2 st.b1 st.b2 he fun h' k => h h' fun c o e1 _ e3 e4 q => k c o e1 e3 e4 q
/-- the tuples made so far -/
structure Made (base : Addr) (xs ys acc : Array Value) (h : Heap) : Prop where
  get : ∀ j, j < acc.size → ∃ (T : Addr) (x y : Value), acc[j]? = some (Value.ref T) ∧ xs[j]? = some x ∧ ys[j]? = some y ∧ IsPair h T x y ∧ base ≤ T
  inc : ∀ (j k : Nat) (T U : Addr), j < k → acc[j]? = some (Value.ref T) → acc[k]? = some (Value.ref U) → T ≠ U
theorem zl_loop {R : Result → Shared → Prop} {res : Value} {n : Nat} (hh : A.handled = none) (L : ZLay z TI TO i1 i2 l1 l2 S) (hn : n = min xs.size ys.size) (hz : n ≤ sizeLine) :
    ∀ (k i : Nat) (s : Shared) (acc : Array Value) (c : Nat), n - i = k → i ≤ n → S < s.heap.objs.size → ZSt z TI TO i1 i2 l1 l2 xs ys i s.heap → s.heap.get? S = some { cls := .type "list", dict := none, data := .seq acc c, slots := #[] } → acc.size = i → Made (S + 1) xs ys acc s.heap →
      (∀ h' acc' c', (∀ b o, b ≠ S → b ≠ z → b ≠ TO → b ≠ i1 → b ≠ i2 → s.heap.get? b = some o → h'.get? b = some o) → h'.get? S = some { cls := .type "list", dict := none, data := .seq acc' c', slots := #[] } → acc'.size = n → Made (S + 1) xs ys acc' h' → R (.ok (.ret res)) { s with heap := h' }) →
      codeAny (model P w) A (.builtin "list.extend.loop" ⟨[.ref S, .ref z, res], []⟩) R s := by
  obtain ⟨q1, q2, q3, q4, q5, q6, q7⟩ := L.sn
  intro k
  induction k with
  | zero =>
    intro i s acc c hk hi hSl st hS hacc hM hR
    obtain rfl : i = n := by omega
    refine codeAny_builtin PySem.F.entry_extend_loop ?_
    rw [Around.under_plainId PySem.F.plain_extend_loop _]
    show wpAny _ A.in1 (pyNext (.ref z) >>= _) _ _ s
    have he : xs[i]? = none ∨ ys[i]? = none := by
      rcases Nat.le_total xs.size ys.size with e | e
      · exact .inl (Array.getElem?_eq_none_iff.mpr (by omega))
      · exact .inr (Array.getElem?_eq_none_iff.mpr (by omega))
    refine wpAny_bind (zst_done (A := A.in1) hh L st he fun h' kp => ?_)
    refine wpAny_pure (hR h' acc c (fun b o _ e1 e2 e3 e4 q => kp b o e1 e2 e3 e4 q) (kp _ _ q1 q3 q4 q5 hS) hacc ⟨fun j hj => ?_, hM.inc⟩)
    obtain ⟨T, x, y, m1, m2, m3, m4, m5⟩ := hM.get j hj
    have bg : ∀ {a : Addr}, a < S → T ≠ a := fun {a} q => Nat.ne_of_gt (Nat.lt_trans q m5)
    exact ⟨T, x, y, m1, m2, m3, kp _ _ (bg L.lt.1) (bg L.lt.2.1) (bg L.lt.2.2.1) (bg L.lt.2.2.2) m4, m5⟩
  | succ k ih =>
    intro i s acc c hk hi hSl st hS hacc hM hR
    have hlt : i < n := by omega
    refine codeAny_builtin PySem.F.entry_extend_loop ?_
    rw [Around.under_plainId PySem.F.plain_extend_loop _]
    show wpAny _ A.in1 (pyNext (.ref z) >>= _) _ _ s
    have hx : xs[i]? = some xs[i] := Array.getElem?_eq_getElem (by omega)
    have hy : ys[i]? = some ys[i] := Array.getElem?_eq_getElem (by omega)
    refine wpAny_bind (zst_item (A := A.in1) L hSl st hx hy fun h' st' hT hsz kp => ?_)
    have hS' := kp _ _ q1 q3 q4 q5 hS
    show wpAny _ A.in1 (updateSeq S (·.push (.ref s.heap.objs.size)) >>= _) _ _ _
    refine wpAny_bind ?_
    have oth : ∀ b o, b ≠ S → h'.get? b = some o → (h'.update S (Obj.mapSeq (·.push (.ref s.heap.objs.size)))).get? b = some o := fun b o hb e => (Heap.get?_update_other _ _ (Ne.symm hb)).trans e
    have TS : s.heap.objs.size ≠ S := Nat.ne_of_gt hSl
    refine wpAny_updateSeq (s := { s with heap := h' }) hS' rfl (wpAny_pure ⟨plainId_quiet PySem.F.plain_extend_loop _, ih (i + 1) _ (acc.push (.ref s.heap.objs.size)) _ (by omega) hlt ?_ ?_ (Heap.get?_update_self _ hS' rfl) (by rw [Array.size_push, hacc]) ?_ fun h'' acc' c' kp2 hS2 hacc2 hM2 => ?_⟩)
      (by rw [hacc]; omega) (by show (acc.push _).size ≤ sizeLine + 1; rw [Array.size_push, hacc]; omega)
    · rw [Heap.size_update, hsz]; exact Nat.lt_succ_of_lt hSl
    · refine ⟨?_, oth _ _ (Ne.symm q2) st'.ti, it_keep st'.a1 fun o e => oth _ _ (Ne.symm q4) e, it_keep st'.a2 fun o e => oth _ _ (Ne.symm q5) e, ls_keep st'.b1 fun o e => oth _ _ (Ne.symm q6) e, ls_keep st'.b2 fun o e => oth _ _ (Ne.symm q7) e⟩
      rcases st'.zip with ⟨e, _⟩ | ⟨T, f, oT, g1, g2, n1, n2, n3, n4⟩
      · omega
      · refine .inr ?_
        by_cases hTS : T = S
        · exact ⟨T, f, _, oth _ _ (Ne.symm q1) g1, by rw [hTS]; exact Heap.get?_update_self _ hS' rfl, n1, n2, n3, n4⟩
        · exact ⟨T, f, oT, oth _ _ (Ne.symm q1) g1, oth _ _ hTS g2, n1, n2, n3, n4⟩
    · refine ⟨fun j hj => ?_, fun j k T U hjk e1 e2 => ?_⟩
      rotate_left
      · have hk : k < acc.size + 1 := by
          have := (Array.getElem?_eq_some_iff.mp e2).1
          rwa [Array.size_push] at this
        have hja : j < acc.size := by omega
        rw [Array.getElem?_push_lt hja] at e1
        have e1' : acc[j]? = some (.ref T) := by rw [Array.getElem?_eq_getElem hja]; exact e1
        by_cases hka : k < acc.size
        · rw [Array.getElem?_push_lt hka] at e2
          exact hM.inc j k T U hjk e1' (by rw [Array.getElem?_eq_getElem hka]; exact e2)
        · obtain rfl : k = acc.size := by omega
          have e3 : U = s.heap.objs.size := by
            simp at e2
            exact e2.symm
          obtain ⟨T', x, y, m1, m2, m3, m4, m5⟩ := hM.get j hja
          rw [m1] at e1'
          cases e1'
          rw [e3]
          exact Nat.ne_of_lt (Heap.lt_size m4)
      rw [Array.size_push, hacc] at hj
      by_cases e : j = i
      · subst e
        exact ⟨s.heap.objs.size, xs[j], ys[j], by rw [← hacc]; simp, hx, hy, oth _ _ TS hT, hSl⟩
      · obtain ⟨T, x, y, m1, m2, m3, m4, m5⟩ := hM.get j (by omega)
        have bg : ∀ {a : Addr}, a < S → T ≠ a := fun {a} q => Nat.ne_of_gt (Nat.lt_trans q m5)
        refine ⟨T, x, y, ?_, m2, m3, oth _ _ (Nat.ne_of_gt m5) (kp _ _ (bg L.lt.1) (bg L.lt.2.1) (bg L.lt.2.2.1) (bg L.lt.2.2.2) m4), m5⟩
        rw [Array.getElem?_push_lt (by omega)]
        rw [Array.getElem?_eq_getElem (by omega)] at m1
        exact m1
    · exact hR h'' acc' c' (fun b o e0 e1 e2 e3 e4 q => kp2 b o e0 e1 e2 e3 e4 (oth b o e0 (kp b o e1 e2 e3 e4 q))) hS2 hacc2 hM2
theorem call_list_zip {n : Nat} {Q : Value → Shared → Prop} (hh : A.handled = none) (L : ZLay z TI TO i1 i2 l1 l2 s.heap.objs.size) (hn : n = min xs.size ys.size) (hz : n ≤ sizeLine) (st : ZSt z TI TO i1 i2 l1 l2 xs ys 0 s.heap) (hf : IsZip s.heap z TI TO .none) (hto : ∃ a b, IsPair s.heap TO a b)
    (hQ : ∀ h' acc' c', (∀ b o, b ≠ z → b ≠ TO → b ≠ i1 → b ≠ i2 → s.heap.get? b = some o → h'.get? b = some o) → h'.get? s.heap.objs.size = some { cls := .type "list", dict := none, data := .seq acc' c', slots := #[] } → acc'.size = n →
      Made (s.heap.objs.size + 1) xs ys acc' h' → Q (.ref s.heap.objs.size) { s with heap := h' }) : wpAny (model P w) A (call (.type "list") [.ref z]) Q E s := by
  obtain ⟨q1, q2, q3, q4, q5, q6, q7⟩ := L.sn
  refine callType_codes (Q₁ := fun obj s₁ => obj = .ref s.heap.objs.size ∧ s₁ = { s with heap := s.heap.push { cls := .type "list", data := .seq #[] } }) PySem.F.called_list (PySem.F.typeCall_list_1 _) PySem.F.entry_list_init (code_list_new _ ⟨rfl, rfl⟩) fun obj s₁ h₁ => ?_
  obtain ⟨rfl, rfl⟩ := h₁
  have hS : (s.heap.push { cls := .type "list", data := .seq #[] }).get? s.heap.objs.size = some { cls := .type "list", data := .seq #[] } := Heap.get?_push_size _ rfl
  refine ⟨⟨_, hS, rfl⟩, PySem.F.args_list_init_2 _ _, ?_⟩
  show wpAny _ A.in1.in1 (do let old ← Builtin.List.listItems (.ref s.heap.objs.size); Builtin.List.listUpdate (.ref s.heap.objs.size) (fun _ => #[]); letGo old.toList.reverse; Builtin.List.listExtendWith (.ref s.heap.objs.size) (.ref z) .none) _ _ _
  refine wpAny_bind ?_
  unfold Builtin.List.listItems
  refine wpAny_bind (wpAny_seqItems hS rfl (wpAny_pure ?_))
  show wpAny _ A.in1.in1 (updateSeq s.heap.objs.size (fun _ => #[]) >>= fun _ => letGo (#[] : Array Value).toList.reverse >>= fun _ => Builtin.List.listExtendWith (.ref s.heap.objs.size) (.ref z) .none) _ _ _
  refine wpAny_bind (wpAny_updateSeq hS rfl ?_)
  have hS2 := Heap.get?_update_self (Obj.mapSeq (fun _ => (#[] : Array Value))) hS rfl
  refine wpAny_bind (wpAny_letGo ?_)
  have o2 : ∀ b o, b ≠ s.heap.objs.size → s.heap.get? b = some o → ((s.heap.push { cls := .type "list", data := .seq #[] }).update s.heap.objs.size (Obj.mapSeq (fun _ => (#[] : Array Value)))).get? b = some o := fun b o hb e => (Heap.get?_update_other _ _ (Ne.symm hb)).trans (Heap.get?_push_of_some _ e)
  have hz2 := o2 _ _ (Ne.symm q1) hf
  have hT2 : Shared.TypeIs { s with heap := (s.heap.push { cls := .type "list", data := .seq #[] }).update s.heap.objs.size (Obj.mapSeq (fun _ => (#[] : Array Value))) } (.ref z) "zip" := ⟨_, hz2, rfl⟩
  unfold Builtin.List.listExtendWith
  refine wpAny_bind (wpAny_typeOf hT2 ?_)
  have h1 : Builtin.List.listSameRef (.ref s.heap.objs.size) (.ref z) = false := by simp [Builtin.List.listSameRef, q1]
  have h2 : (Value.type "zip" == Value.type "list") = false := by decide
  have h3 : (Value.type "zip" == Value.type "tuple") = false := by decide
  simp only [h1, h2, h3, Bool.or_false, Bool.false_eq_true, if_false]
  refine wpAny_bind (wpAny_pyIter_zip hz2 ?_)
  refine wpAny_bind (wpAny_holding ?_)
  unfold Builtin.List.listLengthHint
  refine wpAny_bind (wpAny_specialOf hT2 zip_no_len ?_)
  show wpAny _ A.in1.in1 (specialOf (Value.ref z) (Str.ofString "__length_hint__") >>= _) _ _ _
  refine wpAny_bind (wpAny_specialOf hT2 zip_no_hint ?_)
  refine wpAny_pure ?_
  show wpAny _ A.in1.in1 (rule "list.extend.makes-room" >>= fun _ => Builtin.List.listTouch (.ref s.heap.objs.size) >>= fun _ => again (.builtin "list.extend.loop" ⟨[.ref s.heap.objs.size, .ref z, .none], []⟩)) _ _ _
  refine wpAny_bind (wpAny_rule ?_)
  refine wpAny_bind ?_
  show wpAny _ A.in1.in1 (updateSeq s.heap.objs.size (·.push .none) >>= fun _ => updateSeq s.heap.objs.size (·.pop)) _ _ _
  refine wpAny_bind (wpAny_updateSeq hS2 rfl ?_)
  have hS3 := Heap.get?_update_self (Obj.mapSeq (·.push Value.none)) hS2 rfl
  refine wpAny_updateSeq (hz := by seq_fits) hS3 rfl ?_
  have hS4 := Heap.get?_update_self (Obj.mapSeq (·.pop)) hS3 rfl
  generalize hG : ((((s.heap.push { cls := .type "list", data := .seq #[] }).update s.heap.objs.size (Obj.mapSeq (fun _ => (#[] : Array Value)))).update s.heap.objs.size (Obj.mapSeq (·.push Value.none))).update s.heap.objs.size (Obj.mapSeq (·.pop))) = G at hS4 ⊢
  have oG : ∀ b o, b ≠ s.heap.objs.size → s.heap.get? b = some o → G.get? b = some o := fun b o hb e => by
    rw [← hG]
    exact (Heap.get?_update_other _ _ (Ne.symm hb)).trans ((Heap.get?_update_other _ _ (Ne.symm hb)).trans (o2 b o hb e))
  have zG : s.heap.objs.size < G.objs.size := Heap.lt_size hS4
  have stG : ZSt z TI TO i1 i2 l1 l2 xs ys 0 G := by
    refine ⟨?_, oG _ _ (Ne.symm q2) st.ti, it_keep st.a1 fun o e => oG _ _ (Ne.symm q4) e, it_keep st.a2 fun o e => oG _ _ (Ne.symm q5) e, ls_keep st.b1 fun o e => oG _ _ (Ne.symm q6) e, ls_keep st.b2 fun o e => oG _ _ (Ne.symm q7) e⟩
    obtain ⟨a, b, g2⟩ := hto
    exact .inl ⟨rfl, oG _ _ (Ne.symm q1) hf, a, b, oG _ _ (Ne.symm q3) g2⟩
  refine wpAny_pure ⟨plainId_quiet PySem.F.plain_extend_loop _, zl_loop (A := A.in1) (n := n) hh L hn hz n 0 { s with heap := G } #[] _ (by omega) (Nat.zero_le _) zG stG hS4 rfl ⟨fun j hj => absurd hj (by simp), fun j k T U _ e => absurd e (by simp)⟩ fun h' acc' c' kp g1 g2 g3 => ?_⟩
  exact ⟨rfl, hQ h' acc' c' (fun b o e1 e2 e3 e4 q => by
    by_cases e : b = s.heap.objs.size
    · rw [e] at q
      exact absurd (Heap.lt_size q) (Nat.lt_irrefl _)
    · exact kp b o e e1 e2 e3 e4 (oG b o e q)) g1 g2 g3⟩
end
/-! ### over the layer -/
/-- more is known: things that the heap did not hold -/
theorem inv_more {X : Cx} {pins : List (Addr × Obj)} {σ : St} {H H' : Hp} {s : Shared} {h' : Heap} {t' : Nat} (I : Inv X pins σ H s) (k : ∀ b o, s.heap.get? b = some o → h'.get? b = some o) (ext : ∀ b o, H b = some o → H' b = some o)
    (new : ∀ b, H b = none → (∃ o, s.heap.get? b = some o) → H' b = none) (ok : ∀ b o, H b = none → H' b = some o → ObjOk X.prog X.w H' h' b o) : Inv X pins σ H' { s with heap := h', toks := t' } := by
  refine I.un (t' := t') {
    keep := fun b o q _ _ _ => k b o q
    slot := fun b o q _ _ _ => ⟨o.slots, k b o q⟩
    free := fun b o q n _ => new b n ⟨o, q⟩
    there := fun b o q _ => ⟨o, k b o q⟩
    tups := fun b xs q => ext b _ q
    frzs := fun b o v q => ext b _ q
    tbls := fun b ps q => ⟨#[], by rw [ext b _ q]; simp⟩ } fun b o q => ?_
  cases e : H b with
  | none => exact ok b o e q
  | some u =>
    have e2 := ext b u e
    rw [q] at e2
    cases e2
    exact (I.hok b o e).stay (fun c v _ z => k c v z) (fun c z => ext c _ z) fun c xs z => ext c _ z
theorem ext_more {K : PySem.W.Frag} {H H' : Hp} {r : List Addr} {M : Mem} (S : Sim K H r M) (ext : ∀ b o, H b = some o → H' b = some o) : Ext H r M H' r M ∧ Sim K H' r M := by
  refine ⟨⟨⟨[], by simp⟩, fun b o e _ => ext b o e, fun n b hn e => ?_, fun _ h => h⟩, ⟨S.len, S.inj, fun n a c hr hc => ?_⟩⟩
  · rw [List.getElem?_eq_none hn] at e; cases e
  · exact (S.cell n a c hr hc).stay ⟨fun b xs e => ext b _ e, fun b o u e => ext b _ e, fun _ _ h => h⟩ fun o e => ext _ _ e
theorem zlay_at (n l1 l2 : Nat) (h1 : l1 < n) (h2 : l2 < n) : ZLay (n + 4) (n + 2) (n + 3) n (n + 1) l1 l2 (n + 5) where
  D := PySem.W.ktu_apart n l1 l2 h1 h2
  l1n := ⟨Nat.ne_of_lt (by omega), Nat.ne_of_lt (by omega), Nat.ne_of_lt h1, Nat.ne_of_lt (by omega)⟩
  l2n := ⟨Nat.ne_of_lt (by omega), Nat.ne_of_lt (by omega), Nat.ne_of_lt h2, Nat.ne_of_lt (by omega)⟩
  sn := ⟨Nat.ne_of_gt (by omega), Nat.ne_of_gt (by omega), Nat.ne_of_gt (by omega), Nat.ne_of_gt (by omega), Nat.ne_of_gt (by omega), Nat.ne_of_gt (by omega), Nat.ne_of_gt (by omega)⟩
  lt := ⟨Nat.lt_of_lt_of_le (Nat.lt_succ_self (n + 4)) (Nat.le_refl _), Nat.lt_of_lt_of_le (Nat.lt_succ_self (n + 3)) (Nat.le_succ _), Nat.lt_of_lt_of_le (Nat.lt_succ_self n) (Nat.succ_le_succ (Nat.le_add_right n 4)), Nat.lt_of_lt_of_le (Nat.lt_succ_self (n + 1)) (Nat.succ_le_succ (Nat.succ_le_succ (Nat.le_add_right n 3)))⟩
/-- the tuples and the list, over what was known -/
noncomputable def hpZip (H : Hp) (acc : Array Value) (xs ys : List V) (S : Addr) (refs : List V) : Hp := fun b => by
  classical
  exact if b = S then some (.lst refs) else if h : ∃ j : Nat, acc[j]? = some (Value.ref b) then some (.tup [xs.getD h.choose .non, ys.getD h.choose .non]) else H b
theorem hpZip_S {H : Hp} {acc : Array Value} {xs ys : List V} {S : Addr} {refs : List V} : hpZip H acc xs ys S refs S = some (.lst refs) := by
  unfold hpZip
  rw [if_pos rfl]
theorem hpZip_T {H : Hp} {acc : Array Value} {xs ys : List V} {S T : Addr} {refs : List V} {j : Nat} (hn : T ≠ S) (hj : acc[j]? = some (Value.ref T)) (inc : ∀ (j k : Nat) (T U : Addr), j < k → acc[j]? = some (Value.ref T) → acc[k]? = some (Value.ref U) → T ≠ U) :
    hpZip H acc xs ys S refs T = some (.tup [xs.getD j .non, ys.getD j .non]) := by
  unfold hpZip
  have hex : ∃ j : Nat, acc[j]? = some (Value.ref T) := ⟨j, hj⟩
  rw [if_neg hn, dif_pos hex]
  have e : hex.choose = j := by
    have h1 := hex.choose_spec
    rcases Nat.lt_trichotomy hex.choose j with q | q | q
    · exact absurd rfl (inc _ _ _ _ q h1 hj)
    · exact q
    · exact absurd rfl (inc _ _ _ _ q hj h1)
  rw [e]
theorem hpZip_old {H : Hp} {acc : Array Value} {xs ys : List V} {S b : Addr} {refs : List V} (hn : b ≠ S) (h : ∀ j : Nat, acc[j]? ≠ some (Value.ref b)) : hpZip H acc xs ys S refs b = H b := by
  unfold hpZip
  rw [if_neg hn, dif_neg (fun ⟨j, e⟩ => h j e)]
def gLzp : List D → Mem → Res D := fun ds M => match ds with
  | [x, y] => (match lstOf M x, lstOf M y with
    | some as, some bs => .ok (.lst (pairs as bs)) M
    | _, _ => .bad)
  | _ => .bad
def eLzp (l : Fl) : Fe := fun δ => bnd (l δ) gLzp
section
variable {X : Cx} {Z : ZS} {a b : Expr} {fl : Fl} {p p2 q pos : Pos}
theorem reps_pairs {K : PySem.W.Frag} {H : Hp} {r : List Addr} {T : Nat → Addr} : ∀ {as bs : List D} {xs ys : List V} (i : Nat), Reps K H r as xs → Reps K H r bs ys → (∀ j, j < min xs.length ys.length → SqT K H (T (i + j)) [xs.getD j .non, ys.getD j .non]) →
    Reps K H r (pairs as bs) ((List.range' i (min xs.length ys.length)).map fun j => V.ref (T j))
  | [], bs, xs, ys, i, h, _, _ => by cases h; simp [pairs]; exact rfl
  | _ :: _, [], xs, ys, i, _, h, _ => by cases h; simp [pairs]; exact rfl
  | d :: as, e :: bs, _, _, i, h1, h2, k => by
    obtain ⟨v, xs, rfl, a1, a2⟩ := h1
    obtain ⟨w, ys, rfl, b1, b2⟩ := h2
    have e1 : min (v :: xs).length (w :: ys).length = min xs.length ys.length + 1 := by simp only [List.length_cons]; omega
    rw [e1] at k ⊢
    have k0 := k 0 (by omega)
    refine ⟨.ref (T i), _, rfl, ⟨T i, [v, w], rfl, by simpa using k0, ⟨v, _, rfl, a1, w, _, rfl, b1, rfl⟩⟩, reps_pairs (i + 1) a2 b2 fun j hj => ?_⟩
    have := k (j + 1) (by omega)
    rw [show i + (j + 1) = i + 1 + j by omega] at this
    simpa using this
theorem r_lzp (hc : X.calm = true) (hg : Gl X "list") (hm : X.mg "list" = none) (hg2 : Gl X "zip") (hm2 : X.mg "zip" = none) (ha : PA X [a, b] (tL X.K Z fl)) (hs : starEach [a, b] X.env = (false, eval a X.env) :: starEach [b] X.env) (hpl : (backTo q (starEach [b] X.env)).any (·.1) = false) :
    PE X (.Call (.Name "list" p) [.Call (.Name "zip" p2) [a, b] [] q] [] pos) (tM X.K Z (eLzp fl)) := by
  refine ⟨fun pins s σ H Q I ⟨δ, r, M, E, S, h⟩ => ?_⟩
  refine Call_ (ld_blt I hg hm (show bootBuiltins "list" = some (.type "list") by kernel_rfl) ?_)
  refine PyProof.Rows.callWith_type1 (PyProof.Rows.args_cons ?_ rfl) rfl rfl
  refine Call_ (ld_blt I hg2 hm2 PyProof.Rows.boot_zip (PyProof.Rows.callWith_type1 (thn (ha.run q pins s σ H _ I ⟨δ, r, M, E, S, Aft.bindL S h⟩) fun us s1 ⟨vs, H1, I1, rr, ds, M1, r1, e1, X1, S1, q1, w⟩ => ?_) hs hpl))
  unfold gLzp at w
  split at w
  · rename_i x y
    split at w
    · rename_i as bs f1 f2
      obtain ⟨v1, _, rfl, g1, v2, _, rfl, g2, hn⟩ := q1
      cases hn
      obtain ⟨l1, xs, rfl, h1, k1⟩ := lstOf_rep S1 g1 f1
      obtain ⟨l2, ys, rfl, h2, k2⟩ := lstOf_rep S1 g2 f2
      obtain ⟨u1, u2, rfl, ru1, ru2⟩ := Vals.two rr
      cases ru1
      cases ru2
      obtain ⟨its1, rv1, pl1, hz1⟩ := I1.list h1
      obtain ⟨its2, rv2, pl2, hz2⟩ := I1.list h2
      have n1 := rv1.length
      have n2 := rv2.length
      have L1 : l1 < s1.heap.objs.size := by obtain ⟨o, e, _⟩ := pl1.isList; exact Heap.lt_size e
      have L2' : l2 < s1.heap.objs.size := by obtain ⟨o, e, _⟩ := pl2.isList; exact Heap.lt_size e
      refine call_zip_2 pl1.isList pl2.isList fun h' z1 z2 z3 z4 z5 zsz zk => ?_
      refine PyProof.Rows.args_nil ?_
      have L := zlay_at s1.heap.objs.size l1 l2 L1 L2'
      rw [← zsz] at L
      have I2 : Inv X pins σ H1 { s1 with heap := h' } := I1.kept (t' := s1.toks) zk
      refine call_list_zip (s := { s1 with heap := h' }) (n := min xs.length ys.length) (I1.ok.hd hc) L (by rw [List.size_toArray, List.size_toArray, n1, n2]) (by omega)
        ⟨.inl ⟨rfl, z1, _, _, z3⟩, z2, z4, z5, ls_keep pl1.isList fun o e => zk _ _ e, ls_keep pl2.isList fun o e => zk _ _ e⟩ z1 ⟨_, _, z3⟩ fun h'' acc c' kp gS gn gM => ?_
      have old : ∀ c, c < s1.heap.objs.size → ∀ j : Nat, acc[j]? ≠ some (Value.ref c) := fun c hcl j e => by
        obtain ⟨T, x, y, m1, m2, m3, m4, m5⟩ := gM.get j (Array.getElem?_eq_some_iff.mp e).1
        rw [m1] at e
        cases e
        have : h'.objs.size + 1 ≤ c := m5
        rw [zsz] at this
        omega
      have nS : ∀ c, c < s1.heap.objs.size → c ≠ h'.objs.size := fun c hcl => by rw [zsz]; exact Nat.ne_of_lt (Nat.lt_of_lt_of_le hcl (Nat.le_add_right _ _))
      have inH : ∀ c o, H1 c = some o → c < s1.heap.objs.size := fun c o e => Classical.byContradiction fun z => by
        rw [I1.hok.fresh (Nat.le_of_not_lt z)] at e
        cases e
      -- what the tuples are called
      have tj : ∀ j, j < min xs.length ys.length → ∃ (T : Addr) (x y : Value), acc[j]? = some (Value.ref T) ∧ its1[j]? = some x ∧ its2[j]? = some y ∧ IsPair h'' T x y ∧ h'.objs.size + 1 ≤ T := fun j hj => by
        obtain ⟨T, x, y, m1, m2, m3, m4, m5⟩ := gM.get j (by rw [gn]; exact hj)
        exact ⟨T, x, y, m1, by simpa using m2, by simpa using m3, m4, m5⟩
      let TT : Nat → Addr := fun j => match acc[j]? with | some (Value.ref T) => T | _ => 0
      have ttj : ∀ j T, acc[j]? = some (Value.ref T) → TT j = T := fun j T e => by
        show (match acc[j]? with | some (Value.ref T) => T | _ => 0) = T
        rw [e]
      let refs : List V := (List.range' 0 (min xs.length ys.length)).map fun j => V.ref (TT j)
      have ext : ∀ c o, H1 c = some o → hpZip H1 acc xs ys h'.objs.size refs c = some o := fun c o e => by
        have := inH c o e
        rw [hpZip_old (nS c this) (old c this)]; exact e
      have J : Inv X pins σ (hpZip H1 acc xs ys h'.objs.size refs) { s1 with heap := h'' } := by
        refine inv_more (t' := s1.toks) I1 (fun c o e => ?_) ext (fun c n ⟨o, e⟩ => ?_) fun c o n e => ?_
        · have hcl := Heap.lt_size e
          refine kp c o ?_ ?_ ?_ ?_ (zk c o e)
          · exact Nat.ne_of_lt (Nat.lt_of_lt_of_le hcl (Nat.le_add_right _ _))
          · exact Nat.ne_of_lt (Nat.lt_of_lt_of_le hcl (Nat.le_add_right _ _))
          · exact Nat.ne_of_lt hcl
          · exact Nat.ne_of_lt (Nat.lt_of_lt_of_le hcl (Nat.le_add_right _ _))
        · have hcl := Heap.lt_size e
          rw [hpZip_old (nS c hcl) (old c hcl)]; exact n
        · by_cases hcS : c = h'.objs.size
          · subst hcS
            rw [hpZip_S] at e
            cases e
            refine ⟨by simp [refs]; omega, acc.toList, c', ?_, ?_⟩
            · have hlen : acc.toList.length = min xs.length ys.length := by rw [Array.length_toList]; exact gn
              have e0 : acc.toList = (List.range' 0 (min xs.length ys.length)).map fun j => Value.ref (TT j) := by
                refine List.ext_getElem? fun j => ?_
                by_cases hj : j < min xs.length ys.length
                · obtain ⟨T, x, y, m1, _⟩ := tj j hj
                  rw [Array.getElem?_toList, m1, List.getElem?_map, List.getElem?_range' hj]
                  show some (Value.ref T) = some (Value.ref (TT (0 + 1 * j)))
                  rw [Nat.one_mul, Nat.zero_add, ttj j T m1]
                · rw [List.getElem?_eq_none (by omega), List.getElem?_eq_none (by simp; omega)]
              rw [e0]
              show Vals ((List.range' 0 (min xs.length ys.length)).map fun j => V.ref (TT j)) _
              generalize List.range' 0 (min xs.length ys.length) = is
              induction is with
              | nil => exact .nil
              | cons j is ih => exact .cons rfl ih
            · exact gS
          · by_cases hj : ∃ j : Nat, acc[j]? = some (Value.ref c)
            · obtain ⟨j, hj⟩ := hj
              rw [hpZip_T hcS hj gM.inc] at e
              cases e
              have hjn : j < min xs.length ys.length := by
                have := (Array.getElem?_eq_some_iff.mp hj).1
                omega
              obtain ⟨T, x, y, m1, m2, m3, m4, m5⟩ := tj j hjn
              rw [m1] at hj
              cases hj
              obtain ⟨x', ex, rx⟩ := rv1.get (i := j) (x := xs[j]'(by omega)) (List.getElem?_eq_getElem (by omega))
              obtain ⟨y', ey, ry⟩ := rv2.get (i := j) (x := ys[j]'(by omega)) (List.getElem?_eq_getElem (by omega))
              rw [m2] at ex
              rw [m3] at ey
              cases ex
              cases ey
              have dx : xs.getD j .non = xs[j]'(by omega) := by rw [List.getD_eq_getElem?_getD, List.getElem?_eq_getElem (by omega)]; rfl
              have dy : ys.getD j .non = ys[j]'(by omega) := by rw [List.getD_eq_getElem?_getD, List.getElem?_eq_getElem (by omega)]; rfl
              rw [dx, dy]
              exact ⟨by show 2 ≤ sizeLine; decide, [x, y], .cons rx (.cons ry .nil), ⟨_, m4, rfl, _, rfl⟩⟩
            · rw [hpZip_old hcS (fun j e => hj ⟨j, e⟩), n] at e
              cases e
      obtain ⟨eX, eS⟩ := ext_more S1 ext
      have hk : Reps X.K (hpZip H1 acc xs ys h'.objs.size refs) r1 (pairs as bs) refs := by
        have st : Stay H1 r1 (hpZip H1 acc xs ys h'.objs.size refs) r1 := ⟨fun b xs e => ext b _ e, fun b o u e => ext b _ e, fun _ _ h => h⟩
        refine reps_pairs 0 (k1.stay st) (k2.stay st) fun j hj => ?_
        obtain ⟨T, x, y, m1, m2, m3, m4, m5⟩ := tj j hj
        rw [Nat.zero_add, ttj j T m1]
        exact .of (hpZip_T (Nat.ne_of_gt m5) m1 gM.inc)
      have hS1 : H1 h'.objs.size = none := I1.hok.fresh (by rw [zsz]; exact Nat.le_add_right _ _)
      refine EP.freeze ⟨.ref h'.objs.size, _, J, rfl, h'.objs.size, refs, rfl, hpZip_S, fun o => ?_⟩
      have ext2 : ∀ c u, H1 c = some u → upd (hpZip H1 acc xs ys h'.objs.size refs) h'.objs.size (.frz o (.lst refs)) c = some u := fun c u e => by
        rw [upd_ne (fun z => by rw [z, hS1] at e; cases e)]; exact ext c u e
      obtain ⟨eX2, eS2⟩ := ext_more S1 ext2
      refine w _ _ r1 eX2 eS2 ⟨h'.objs.size, refs, rfl, ⟨o, upd_same⟩, ?_⟩
      refine reps_pairs 0 (k1.stay ⟨fun b xs e => ext2 b _ e, fun b o u e => ext2 b _ e, fun _ _ h => h⟩) (k2.stay ⟨fun b xs e => ext2 b _ e, fun b o u e => ext2 b _ e, fun _ _ h => h⟩) fun j hj => ?_
      obtain ⟨T, x, y, m1, m2, m3, m4, m5⟩ := tj j hj
      rw [Nat.zero_add, ttj j T m1]
      refine .of ?_
      rw [upd_ne (Nat.ne_of_gt m5)]
      exact hpZip_T (Nat.ne_of_gt m5) m1 gM.inc
    · exact w.elim
  · exact w.elim
end
end Wn
end

section
set_option Elab.async false
set_option linter.all false
set_option maxRecDepth 100000
set_option maxHeartbeats 400000
namespace Wn
open PySem PySem.Spec PyProof.Rows L2
section
variable {X : Cx} {Z : ZS} {a b c : Expr} {fa fb fc : Fe} {pos p2 : Pos} {lo hi : Option Expr} {fl fh : Env → Mem → Res (Option Int)}
theorem r_sl {g : Mem → D → Option Int → Option Int → Option D} (hr : SlS X g) (he : PE X a (tM X.K Z fa)) (hl : PO X lo (tO X.K Z fl)) (hu : PO X hi (tO X.K Z fh)) : PE X (.Subscript a (.Slice lo hi none p2) pos) (tM X.K Z (eSl g fa fl fh)) := by
  refine ⟨fun pins s σ H Q I ⟨δ, r, M, E, S, h⟩ => ?_⟩
  refine Subscript_ (thn (he.run pins s σ H _ I ⟨δ, r, M, E, S, Aft.bind S h⟩) fun v s1 ⟨x, H1, I1, rx, d1, M1, r1, e1, X1, S1, q1, w1⟩ => ?_)
  refine wpAny_Slice (thn (hl.run pins s1 σ H1 _ I1 ⟨δ, r1, M1, E.ext S X1, S1, AftO.bind S1 w1⟩) fun vl s2 ⟨l, H2, I2, pl, M2, r2, e2, X2, S2, w2⟩ =>
    thn (hu.run pins s2 σ H2 _ I2 ⟨δ, r2, M2, (E.ext S X1).ext S1 X2, S2, AftO.bind S2 w2⟩) fun vu s3 ⟨u, H3, I3, pu, M3, r3, e3, X3, S3, w3⟩ => ?_)
  rw [evalPart_none]
  refine wpAny_pure ?_
  obtain ⟨d, e4, w4⟩ := Aft.opt w3
  have I4 : Inv X pins σ H3 { s3 with heap := s3.heap.push { cls := .type "slice", data := .fields #[vl, vu, .none] } } := I3.kept (t' := s3.toks) fun b ob q => Heap.get?_push_of_some _ q
  have qx := (q1.ext S1 X2).ext S2 X3
  obtain ⟨T, id, hT, ht, hg⟩ := hr pins { s3 with heap := s3.heap.push { cls := .type "slice", data := .fields #[vl, vu, .none] } } σ H3 r3 M3 x v vl vu l u s3.heap.objs.size d1 d Q I4 rx (Heap.IsSliceOf.new ..) pl pu S3 qx e4 w4
  exact tail_any (ops := [.ref s3.heap.objs.size, v]) ht hT hg (by with_unfolding_all rfl)
/-- what the first comparison leaves to the second -/
theorem chain_go {Z : ZK} {K : PySem.W.Frag} {H : Hp} {r : List Addr} {M : Mem} {δ : Env} {g g' : Mem → D → D → Option D} {Q : VK} (E : EnvRep K H r σ δ) (S : Sim K H r M) (h : Aft K Z H r M (eChain g g' fa fb fc δ M) Q) :
    Aft K Z H r M (fa δ M) (fun x H1 => ∃ dx M1 r1, Ext H r M H1 r1 M1 ∧ Sim K H1 r1 M1 ∧ Rep K H1 r1 dx x ∧ Aft K Z H1 r1 M1 (fb δ M1) (fun y H2 => ∃ dy M2 r2, Ext H1 r1 M1 H2 r2 M2 ∧ Sim K H2 r2 M2 ∧ Rep K H2 r2 dy y ∧ ∃ k, g M2 dx dy = some (.bl k) ∧
      if k = true then Aft K Z H2 r2 M2 (fc δ M2) (fun z H3 => ∃ dz M3 r3 d, Ext H2 r2 M2 H3 r3 M3 ∧ Sim K H3 r3 M3 ∧ Rep K H3 r3 dz z ∧ g' M3 dy dz = some d ∧ Wnt K H3 r3 M3 d Q) else Wnt K H2 r2 M2 (.bl false) Q)) := by
  refine (Aft.bind S h).imp fun x H1 ⟨dx, M1, r1, e1, X1, S1, q1, w1⟩ => ⟨dx, M1, r1, X1, S1, q1, (Aft.bind S1 w1).imp fun y H2 ⟨dy, M2, r2, e2, X2, S2, q2, w2⟩ => ⟨dy, M2, r2, X2, S2, q2, ?_⟩⟩
  cases f : g M2 dx dy with
  | none => simp only [f] at w2; exact w2.elim
  | some d =>
    simp only [f] at w2
    cases d with
    | bl k =>
      refine ⟨k, rfl, ?_⟩
      cases k with
      | false => exact w2
      | true =>
        refine (Aft.bind S2 w2).imp fun z H3 ⟨dz, M3, r3, e3, X3, S3, q3, w3⟩ => ?_
        obtain ⟨d, e4, w4⟩ := Aft.opt w3
        exact ⟨dz, M3, r3, d, X3, S3, q3, e4, w4⟩
    | _ => exact w2.elim
theorem r_chain {op op' : CmpOp} {g g' : Mem → D → D → Option D} (ho : Op2 X (compareOp op) g) (ho' : Op2 X (compareOp op') g') (ha : PE X a (tM X.K Z fa)) (hb : PE X b (tM X.K Z fb)) (hc : PE X c (tM X.K Z fc)) (hm : lastMarks [op, op'] [b, c] = false) :
    PE X (.Compare a [op, op'] [b, c] pos) (tM X.K Z (eChain g g' fa fb fc)) := by
  refine ⟨fun pins s σ H Q I ⟨δ, r, M, E, S, h⟩ => ?_⟩
  refine Compare_chain (thn (ha.run pins s σ H _ I ⟨δ, r, M, E, S, chain_go E S h⟩) fun v s1 ⟨x, H1, I1, rx, dx, M1, r1, X1, S1, q1, w1⟩ =>
    chain_link (thn (hb.run pins s1 σ H1 _ I1 ⟨δ, r1, M1, E.ext S X1, S1, w1⟩) fun u s2 ⟨y, H2, I2, ry, dy, M2, r2, X2, S2, q2, k, e2, w2⟩ =>
    thn (ho pins s2 σ H2 r2 M2 x y v u dx dy (.bl k) (fun z H3 => z = .bl k ∧ ∃ r3, Ext H2 r2 M2 H3 r3 M2 ∧ Sim X.K H3 r3 M2) I2 rx ry S2 (q1.ext S1 X2) q2 e2 fun z H3 r3 X3 S3 q3 => ⟨q3, r3, X3, S3⟩) fun d s3 ⟨z, H3, I3, r3, ez, rr3, X3, S3⟩ => ?_)) hm
  subst ez
  cases r3
  refine wpAny_truthy_bool ?_
  cases k with
  | false => exact ite_ff ⟨.bl false, H3, I3, rfl, w2 (.bl false) H3 rr3 X3 S3 rfl⟩
  | true =>
    refine ite_tt (chain_last (thn (hc.run pins s3 σ H3 _ I3 ⟨δ, rr3, M2, ((E.ext S X1).ext S1 X2).ext S2 X3, S3, Aft.step S2 S3 X3 w2⟩) fun w' s4 ⟨z', H4, I4, r4, dz, M4, rr4, d, X4, S4, q4, e4, w4⟩ => ?_))
    exact ho' pins s4 σ H4 rr4 M4 y z' u w' dy dz d Q I4 ry r4 S4 (q2.ext S2 X4) q4 e4 w4
theorem t_chain {op op' : CmpOp} {g g' : Mem → D → D → Option D} (ho : Op2 X (compareOp op) g) (ho' : Op2 X (compareOp op') g') (ha : PE X a (tM X.K Z fa)) (hb : PE X b (tM X.K Z fb)) (hc : PE X c (tM X.K Z fc)) (hm : lastMarks [op, op'] [b, c] = false) :
    PT X (.Compare a [op, op'] [b, c] pos) (Wn.tB X.K Z (bTru (eChain g g' fa fb fc))) := by
  refine ⟨fun pins s σ H Q I ⟨δ, r, M, E, S, h0⟩ => ?_⟩
  have h : Aft X.K (Z σ) H r M (eChain g g' fa fb fc δ M) (fun v H1 => ∃ d1 M1 r1, eChain g g' fa fb fc δ M = .ok d1 M1 ∧ Ext H r M H1 r1 M1 ∧ Sim X.K H1 r1 M1 ∧ Rep X.K H1 r1 d1 v ∧ AftB X.K (Z σ) H1 r1 M1 (asTru d1 M1) Q) := AftB.bind S h0
  have fin : ∀ {v : V} {H1 : Hp} {s1 : Shared} {u : Value}, Inv X pins σ H1 s1 → RelV v u → (∃ d1 M1 r1, eChain g g' fa fb fc δ M = .ok d1 M1 ∧ Ext H r M H1 r1 M1 ∧ Sim X.K H1 r1 M1 ∧ Rep X.K H1 r1 d1 v ∧ AftB X.K (Z σ) H1 r1 M1 (asTru d1 M1) Q) → wpAny (model X.prog X.w) X.A (truthy u) (TP X pins σ Q) X.xe s1 := fun I1 rx ⟨d1, M1, r1, e1, X1, S1, q1, h3⟩ => by
    obtain ⟨b, e2, h2⟩ := of_asTruB h3
    exact tru_run I1 S1 rx q1 e2 fun s' I' => ⟨_, I', h2 _ r1 Ext.refl S1⟩
  refine isTrue_chain (thn (ha.run pins s σ H _ I ⟨δ, r, M, E, S, chain_go E S h⟩) fun v s1 ⟨x, H1, I1, rx, dx, M1, r1, X1, S1, q1, w1⟩ =>
    test_link (thn (hb.run pins s1 σ H1 _ I1 ⟨δ, r1, M1, E.ext S X1, S1, w1⟩) fun u s2 ⟨y, H2, I2, ry, dy, M2, r2, X2, S2, q2, k, e2, w2⟩ =>
    thn (ho pins s2 σ H2 r2 M2 x y v u dx dy (.bl k) (fun z H3 => z = .bl k ∧ ∃ r3, Ext H2 r2 M2 H3 r3 M2 ∧ Sim X.K H3 r3 M2) I2 rx ry S2 (q1.ext S1 X2) q2 e2 fun z H3 r3 X3 S3 q3 => ⟨q3, r3, X3, S3⟩) fun d s3 ⟨z, H3, I3, r3, ez, rr3, X3, S3⟩ => ?_)) hm
  subst ez
  cases r3
  refine wpAny_truthy_bool ?_
  cases k with
  | false =>
    obtain ⟨d1, M5, r5, e5, X5, S5, q5, h5⟩ := w2 (.bl false) H3 rr3 X3 S3 rfl
    obtain ⟨b, e6, h6⟩ := of_asTruB h5
    cases d1 with
    | bl b' =>
      cases q5
      cases e6
      exact ite_ff ⟨H3, I3, h6 _ r5 Ext.refl S5⟩
    | _ => first | (obtain ⟨_, _, z, _⟩ := q5; cases z; done) | (obtain ⟨_, z, _⟩ := q5; cases z; done) | (cases q5; done)
  | true =>
    refine ite_tt (test_last (thn (hc.run pins s3 σ H3 _ I3 ⟨δ, rr3, M2, ((E.ext S X1).ext S1 X2).ext S2 X3, S3, Aft.step S2 S3 X3 w2⟩) fun w' s4 ⟨z', H4, I4, r4, dz, M4, rr4, d, X4, S4, q4, e4, w4⟩ => ?_))
    exact thn (ho' pins s4 σ H4 rr4 M4 y z' u w' dy dz d _ I4 ry r4 S4 (q2.ext S2 X4) q4 e4 w4) fun d' s5 ⟨z2, H5, I5, r5, h5⟩ => fin I5 r5 h5
end
end Wn
end

section
set_option Elab.async false
set_option linter.all false
set_option maxRecDepth 100000
set_option maxHeartbeats 400000
namespace Wn
open PySem PySem.Spec PyProof.Rows L2

/-! ### forms of expressions, looked at by computing -/
def nStar : Expr → Bool
  | .Starred _ _ => false
  | _ => true
theorem star_of {e : Expr} {es : List Expr} {env : PySem.Env} (h : nStar e = true) : starEach (e :: es) env = (false, eval e env) :: starEach es env := by
  cases e <;> first | rfl | cases h
def noStars : List Expr → Bool
  | [] => true
  | e :: es => nStar e && noStars es
theorem back_plain {pos : Pos} {env : PySem.Env} : ∀ {es : List Expr}, noStars es = true → (backTo pos (starEach es env)).any (·.1) = false
  | [], _ => rfl
  | e :: es, h => by
    obtain ⟨h1, h2⟩ := Bool.and_eq_true_iff.mp h
    rw [star_of h1]
    show (false || (backTo pos (starEach es env)).any (·.1)) = false
    rw [back_plain h2]; rfl
theorem back_all {pos : Pos} {env : PySem.Env} : ∀ {es : List Expr}, noStars es = true → (backTo pos (starEach es env)).all (fun x => !x.1) = true
  | [], _ => rfl
  | e :: es, h => by
    obtain ⟨h1, h2⟩ := Bool.and_eq_true_iff.mp h
    rw [star_of h1]
    show (true && (backTo pos (starEach es env)).all (fun x => !x.1)) = true
    rw [back_all h2]; rfl
theorem few_of {pos : Pos} {env : PySem.Env} {e : Expr} {es : List Expr} (h : noStars (e :: es) = true) (hl : es.length < 29) :
    ((backTo pos (starEach (e :: es) env)).all (fun x => !x.1) && (backToKw pos (keywordEach [] env)).all (fun x => x.1.isSome)
      && decide ((e :: es).length + ([] : List Keyword).length + (if ([] : List Keyword).isEmpty then 0 else 1) < 30)) = true := by
  rw [back_all h]
  show (true && true && decide (es.length + 1 + 0 + 0 < 30)) = true
  rw [decide_eq_true (by omega)]; rfl
def okBase : Expr → Bool
  | .Call (.Name _ _) [] [] _ => false
  | _ => true
theorem base_of {o : Expr} {attr : Str} {env : PySem.Env} {whole : Sem Value} (h : okBase o = true) : attributeBase o attr env whole = whole := by
  unfold attributeBase
  split
  · cases h
  · rfl
def okIx : Expr → Bool
  | .Slice _ _ _ _ => false
  | _ => true
theorem ix_of {b : Expr} (h : okIx b = true) : PlainIx b := fun o i => by
  cases b <;> first | rfl | cases h
def okFs : Expr → Bool
  | .Set _ _ _ => false
  | _ => true
theorem fs_of {e : Expr} {env : PySem.Env} (h : okFs e = true) : ∀ x, foldedSetIterable e env x = pure x := fun x => by
  cases e <;> first | rfl | cases h
def okSw : Expr → Bool
  | .ListComp _ _ _ _ => false
  | .SetComp _ _ _ _ => false
  | .DictComp _ _ _ _ _ => false
  | _ => true
theorem sw_of {e : Expr} {t : Option Expr} {l : Nat} {env : PySem.Env} (h : okSw e = true) : swapsWith e t l env = pure false := by
  cases e <;> first | rfl | cases h
theorem sws_of {e t : Expr} {l : Nat} {env : PySem.Env} (h : okSw e = true) : swapsWithSole [t] e l env = pure false := sw_of h
def okTu : Expr → Bool
  | .Tuple _ _ _ => false
  | .List _ _ => false
  | _ => true
theorem st_of {e t : Expr} {env : PySem.Env} (h : okTu t = true) : swappedStores [t] e env = pure none := by
  cases t <;> first | rfl | cases h
def okTv : Expr → Bool
  | .Tuple _ _ _ => false
  | _ => true
theorem st_of' {e t : Expr} {env : PySem.Env} (h : okTv e = true) : swappedStores [t] e env = pure none := by
  cases t <;> cases e <;> first | rfl | cases h
theorem st_fold {ts vs : List Expr} {k k' : Nat} {p p' : Pos} {env : PySem.Env} (h : vs.all (foldedForSure 8) = true) : swappedStores [.Tuple ts k p] (.Tuple vs k' p') env = pure none := by
  unfold swappedStores
  simp only [h, if_true]
  repeat' split
  all_goals rfl
theorem sws_tup {e : Expr} {ts : List Expr} {k l : Nat} {p : Pos} {env : PySem.Env} : swapsWithSole [.Tuple ts k p] e l env = pure false := by
  cases e <;> rfl
def nSet : Expr → Bool
  | .Set _ _ _ => false
  | _ => true
theorem bi_of {op : CmpOp} {e : Expr} (h : nSet e = true) : behindInMarks op e = false := by
  cases e <;> first | rfl | cases h
theorem lm_of {op op' : CmpOp} {b c : Expr} (h : nSet c = true) : lastMarks [op, op'] [b, c] = false := by
  show behindInMarks op' c = false
  exact bi_of h
def okTe : Expr → Bool
  | .UnaryOp .Not _ _ => false
  | .BoolOp _ _ _ => false
  | .IfExp _ _ _ _ => false
  | .Compare _ _ _ _ => false
  | _ => true
theorem te_of {a : Expr} {env : PySem.Env} (h : okTe a = true) : ∀ whole, isTrue a env whole = (do let v ← whole; standAt a.pos; holding [v] (truthy v)) := fun whole => by
  cases a with
  | UnaryOp op _ _ => cases op <;> first | rfl | cases h
  | _ => first | rfl | cases h
def nStarT : Expr → Bool := nStar
theorem ae_of {e : Expr} {es : List Expr} {env : PySem.Env} (h : nStar e = true) : (assignEach (e :: es) env).map (·.2) = assign e env :: (assignEach es env).map (·.2) := by
  cases e <;> first | rfl | cases h
theorem ae_len {env : PySem.Env} : ∀ {es : List Expr}, noStars es = true → (assignEach es env).length = es.length ∧ (assignEach es env).findIdx? (·.1) = none
  | [], _ => ⟨rfl, rfl⟩
  | e :: es, h => by
    obtain ⟨h1, h2⟩ := Bool.and_eq_true_iff.mp h
    obtain ⟨a, b⟩ := ae_len (env := env) h2
    have key : assignEach (e :: es) env = (false, assign e env) :: assignEach es env := by cases e <;> first | rfl | cases h1
    rw [key]
    exact ⟨by simp [a], by rw [List.findIdx?_cons]; simp [b]⟩
theorem as_sub {o i : Expr} {pos : Pos} {env : PySem.Env} (h : okIx i = true) : ∀ v, assign (.Subscript o i pos) env v = (do
      let ov ← holding [v] (eval o env)
      let iv ← holding [v, ov] (eval i env)
      standAt pos
      holding [v, ov, iv] (setItem ov iv v)
      release [v, ov, iv] []) := fun v => by
  cases i <;> first | rfl | cases h
theorem any_star : ∀ {es : List Expr}, noStars es = true → (es.any fun | .Starred .. => true | _ => false) = false
  | [], _ => rfl
  | e :: es, h => by
    obtain ⟨h1, h2⟩ := Bool.and_eq_true_iff.mp h
    rw [List.any_cons, any_star h2]
    cases e <;> first | rfl | cases h1
/-- the names of a parallel assignment -/
theorem sp2 {x y : Str} {a b : Expr} {px py pt : Pos} {kt k2 : Nat} {pt2 : Pos} {env : PySem.Env} (hb : env.blockKind = .function) (hx : env.kindOf x = some .local) (hy : env.kindOf y = some .local) (hl : (px.line == py.line) = true) (hxy : x ≠ y)
    (hs : noStars [a, b] = true) (h1 : [a, b].all (foldedForSure 8) = false) (h2 : [a, b].all (constantsAlone 8) = false) : swappedStores [.Tuple [.Name x px, .Name y py] kt pt] (.Tuple [a, b] k2 pt2) env = pure (some [x, y]) := by
  have hl' : (py.line == px.line) = true := by
    rw [beq_iff_eq] at hl ⊢
    exact hl.symm
  have st := any_star hs
  have nd : ([x, y] : List Str).eraseDups.length = 2 := by
    have : (y == x) = false := by simp; exact fun z => hxy z.symm
    simp [List.eraseDups_cons, this]
  unfold swappedStores
  simp only [hb, h1, h2, Expr.pos, List.head?_cons, Option.map_some, Option.getD_some, List.filterMap_cons, List.filterMap_nil, hx, hy, hl', beq_self_eq_true, Bool.and_self, if_true, List.length_cons, List.length_nil, nd]
  rw [if_neg (by decide)]
  exact (if_neg fun q => Bool.noConfusion ((show _ = false from st).symm.trans q)).trans rfl
theorem sp3 {x y z : Str} {a b c : Expr} {px py pz pt : Pos} {kt k2 : Nat} {pt2 : Pos} {env : PySem.Env} (hb : env.blockKind = .function) (hx : env.kindOf x = some .local) (hy : env.kindOf y = some .local) (hz : env.kindOf z = some .local) (hl : (px.line == py.line) = true) (hm : (px.line == pz.line) = true) (hxy : x ≠ y) (hxz : x ≠ z) (hyz : y ≠ z)
    (hs : noStars [a, b, c] = true) (h1 : [a, b, c].all (foldedForSure 8) = false) (h2 : [a, b, c].all (constantsAlone 8) = false) : swappedStores [.Tuple [.Name x px, .Name y py, .Name z pz] kt pt] (.Tuple [a, b, c] k2 pt2) env = pure (some [x, y, z]) := by
  have hl' : (py.line == px.line) = true := by
    rw [beq_iff_eq] at hl ⊢
    exact hl.symm
  have hm' : (pz.line == px.line) = true := by
    rw [beq_iff_eq] at hm ⊢
    exact hm.symm
  have st := any_star hs
  have nd : ([x, y, z] : List Str).eraseDups.length = 3 := by
    have e1 : (y == x) = false := by simp; exact fun z => hxy z.symm
    have e2 : (z == x) = false := by simp; exact fun w => hxz w.symm
    have e3 : (z == y) = false := by simp; exact fun w => hyz w.symm
    simp [List.eraseDups_cons, e1, e2, e3]
  unfold swappedStores
  simp only [hb, h1, h2, Expr.pos, List.head?_cons, Option.map_some, Option.getD_some, List.filterMap_cons, List.filterMap_nil, hx, hy, hz, hl', hm', beq_self_eq_true, Bool.and_self, if_true, List.length_cons, List.length_nil, nd]
  rw [if_neg (by decide)]
  exact (if_neg fun q => Bool.noConfusion ((show _ = false from st).symm.trans q)).trans rfl
end Wn
end

section
set_option Elab.async false
set_option linter.all false
set_option maxRecDepth 100000
set_option maxHeartbeats 400000
namespace Wn
open PySem PySem.Spec PyProof.Rows L2

/-- what an exception looks like -/
abbrev ER := D → Hp → List Addr → Value → Option Addr → Prop
abbrev Fun := List D → Mem → Res D
/-- what a callee wants of its exceptions -/
def ZC (er : ER) (E : XK) : ZK := fun e H r M => ∀ cls d, er e H r cls d → E cls d H
/-- what a caller gives as wish -/
def EZ (er : ER) (K : PySem.W.Frag) (Z : ZK) : XK := fun cls d H => ∃ e r M, er e H r cls d ∧ Sim K H r M ∧ Z e H r M
def WZ (er : ER) (K : PySem.W.Frag) (Z : ZS) : WX := fun cls d σ H => ∃ e r M, er e H r cls d ∧ Sim K H r M ∧ Z σ e H r M
/-- a def's promise -/
structure FnG (er : ER) (P : Program) (w : World) (K : PySem.W.Frag) (mg : Str → Option Value) (base : Heap) (k : Nat) (f : Addr) (fd : FuncData) (ps : List Str) (F : Fun) : Prop where
  run : ∀ (A : Around) (outer : List PySem.Env) (s : Shared) (H : Hp) (args : Args) (us : List Value) (vs : List V) (ds : List D) (r : List Addr) (M : Mem) (Q : VK) (E : XK), Room k A → A.guards = some [] → Env0 P w K mg base A outer s H → BindsTo s fd args (ps.zip us) →
    Vals vs us → Reps K H r ds vs → Sim K H r M → ds.length = ps.length → Aft K (ZC er E) H r M (F ds M) Q → codeAny (model P w) A (.call (.ref f) args) (CR (L2.CX P w) outer P w H s Q E) s
theorem FnG.mono {er : ER} {P : Program} {w : World} {K : PySem.W.Frag} {mg : Str → Option Value} {base : Heap} {j k : Nat} {f : Addr} {fd : FuncData} {ps : List Str} {F : Fun} (G : FnG er P w K mg base j f fd ps F) (h : j ≤ k) : FnG er P w K mg base k f fd ps F :=
  ⟨fun A outer s H args us vs ds r M Q E hr => G.run A outer s H args us vs ds r M Q E (hr.mono h)⟩
def fnDo (n : Nat) (l : Fl) (F : Fun) : Fe := fun δ => bnd (l δ) fun ds M => if ds.length = n then F ds M else .bad
section
variable {X : Cx} {Z : ZS} {er : ER} {k : Nat} {f : Addr} {fd : FuncData} {ps : List Str} {F : Fun} {x : Str} {e : Expr} {es : List Expr} {fl : Fl} {p pos : Pos}
theorem Aft.want {K : PySem.W.Frag} {H : Hp} {r : List Addr} {M : Mem} {m : Res D} {Q : VK} {Z Z' : ZK} (h : Aft K Z H r M m Q) (k : ∀ e H' r' M', Sim K H' r' M' → Z e H' r' M' → Z' e H' r' M') : Aft K Z' H r M m Q := by
  cases m with
  | ok d M1 => exact h
  | err e M1 => exact fun H' r' x s => k _ _ _ _ s (h H' r' x s)
  | bad => exact h
/-- the callee runs -/
theorem run_g {pins : List (Addr × Obj)} {σ : St} {H : Hp} {s : Shared} {r : List Addr} {M : Mem} {Q : VK} {us : List Value} {vs : List V} {ds : List D} {args : Args} (G : FnG er X.prog X.w X.K X.mg X.base k f fd ps F) (hr : Room k X.A) (hg : X.A.guards = some []) (tk : Takes X (WZ er X.K Z))
    (I : Inv X pins σ H s) (S : Sim X.K H r M) (hb : BindsTo s fd args (ps.zip us)) (rv : Vals vs us) (q : Reps X.K H r ds vs) (hl : ds.length = ps.length) (h : Aft X.K (Z σ) H r M (F ds M) Q) : wpAny (model X.prog X.w) X.A (call (.ref f) args.pos args.kw) (EP X pins σ Q) X.xe s := by
  have h' := h.want (Z' := ZC er (EZ er X.K (Z σ))) fun e H' r' M' s z => fun cls d hE => ⟨e, r', M', hE, s, z⟩
  refine wpAny_call (codeAny_mono (G.run X.A X.stack s H args us vs ds r M Q (EZ er X.K (Z σ)) hr hg I.env0 hb rv q S hl h') fun rr s' hq => ?_)
  cases rr with
  | error e => exact tk e s' (XE.of_call I (fun cls d H' z => z) hq)
  | ok fl =>
    cases fl with
    | ret u => exact I.after hq
    | next => exact hq.elim
    | brk => exact hq.elim
    | cont => exact hq.elim
/-- orders of keywords that are looked at -/
def ords : Nat → List (List Nat)
  | 2 => [[0, 1], [1, 0]]
  | 3 => [[0, 1, 2], [0, 2, 1], [1, 0, 2], [1, 2, 0], [2, 0, 1], [2, 1, 0]]
  | n => [List.range n]
/-- given in that order: what stands at each place -/
def arr {α : Type} (o : List Nat) (d : α) (xs : List α) : List α := (List.range o.length).map fun i => xs.getD (o.idxOf i) d
def kwN (ps : List Str) (o : List Nat) : List Str := o.map fun j => ps.getD j ⟨#[]⟩
theorem arr_len {α : Type} (o : List Nat) (d : α) (xs : List α) : (arr o d xs).length = o.length := by simp [arr]
theorem ords_len : ∀ {n : Nat} {o : List Nat}, o ∈ ords n → o.length = n ∧ ∀ i, i < n → o.idxOf i < n := by
  intro n o h
  unfold ords at h
  split at h
  · revert o; decide
  · revert o; decide
  · rw [List.mem_singleton] at h
    subst h
    refine ⟨List.length_range, fun i hi => ?_⟩
    have := List.idxOf_lt_length_iff.mpr (List.mem_range.mpr hi)
    rwa [List.length_range] at this
theorem arr_vals {n : Nat} {o : List Nat} {vs : List V} {us : List Value} (h : o ∈ ords n) (hl : us.length = n) (r : Vals vs us) : Vals (arr o .non vs) (arr o .none us) := by
  obtain ⟨h1, h2⟩ := ords_len h
  have e := r.length
  unfold arr
  have go : ∀ is : List Nat, (∀ i ∈ is, i < n) → Vals (is.map fun i => vs.getD (o.idxOf i) .non) (is.map fun i => us.getD (o.idxOf i) .none) := by
    intro is
    induction is with
    | nil => exact fun _ => .nil
    | cons i is ih =>
      intro hi
      have h3 := h2 i (hi i (List.mem_cons_self ..))
      obtain ⟨u, e1, e2⟩ := r.get (i := o.idxOf i) (x := vs[o.idxOf i]'(by omega)) (List.getElem?_eq_getElem (by omega))
      refine .cons ?_ (ih fun j hj => hi j (List.mem_cons_of_mem _ hj))
      show RelV (vs.getD (o.idxOf i) .non) (us.getD (o.idxOf i) .none)
      rw [List.getD_eq_getElem?_getD, List.getD_eq_getElem?_getD, e1, List.getElem?_eq_getElem (by omega)]
      exact e2
  exact go _ fun i hi => by have := List.mem_range.mp hi; omega
theorem arr_reps {K : PySem.W.Frag} {H : Hp} {r : List Addr} {n : Nat} {o : List Nat} {ds : List D} {vs : List V} (h : o ∈ ords n) (hl : ds.length = n) (q : Reps K H r ds vs) : Reps K H r (arr o .non ds) (arr o .non vs) := by
  obtain ⟨h1, h2⟩ := ords_len h
  have get : ∀ {ds : List D} {vs : List V} (i : Nat), Reps K H r ds vs → i < ds.length → Rep K H r (ds.getD i .non) (vs.getD i .non) := by
    intro ds
    induction ds with
    | nil => intro vs i _ hi; simp at hi
    | cons d0 ds ih =>
      intro vs i hr hi
      obtain ⟨v, ws, rfl, a1, a2⟩ := hr
      cases i with
      | zero => exact a1
      | succ i => exact ih i a2 (by simpa using hi)
  unfold arr
  have go : ∀ is : List Nat, (∀ i ∈ is, i < n) → Reps K H r (is.map fun i => ds.getD (o.idxOf i) .non) (is.map fun i => vs.getD (o.idxOf i) .non) := by
    intro is
    induction is with
    | nil => exact fun _ => rfl
    | cons i is ih =>
      intro hi
      have h3 := h2 i (hi i (List.mem_cons_self ..))
      exact ⟨_, _, rfl, get _ q (by omega), ih fun j hj => hi j (List.mem_cons_of_mem _ hj)⟩
  exact go _ fun i hi => by have := List.mem_range.mp hi; omega
/-- a def that may be called by that name -/
structure Cal (er : ER) (X : Cx) (x : Str) (ps : List Str) (F : Fun) : Prop where
  ex : ∃ k f fd, X.mg x = some (.ref f) ∧ PySem.W.keepIn X.K (.ref f) = true ∧ Room k X.A ∧ FnG er X.prog X.w X.K X.mg X.base k f fd ps F ∧
    (∀ s us, us.length = ps.length → BindsTo s fd ⟨us, []⟩ (ps.zip us)) ∧ (∀ s us, us.length = ps.length → BindsTo s fd ⟨[], ps.zip us⟩ (ps.zip us)) ∧ ∀ o ∈ ords ps.length, ∀ s us, us.length = ps.length → BindsTo s fd ⟨[], (kwN ps o).zip us⟩ (ps.zip (arr o .none us))
theorem fn_ite {K : PySem.W.Frag} {H : Hp} {r : List Addr} {M : Mem} {n : Nat} {ds : List D} {F : Fun} {Q : VK} {Z : ZK} (h : Aft K Z H r M (if ds.length = n then F ds M else .bad) Q) : ds.length = n ∧ Aft K Z H r M (F ds M) Q := by
  by_cases hc : ds.length = n
  · rw [if_pos hc] at h; exact ⟨hc, h⟩
  · rw [if_neg hc] at h; exact h.elim
theorem r_fn (c : Cal er X x ps F) (hga : X.A.guards = some []) (tk : Takes X (WZ er X.K Z)) (hg : Gl X x) (ha : PA X (e :: es) (tL X.K Z fl)) (hdb : (x == ("__debug__" : Str)) = false)
    (he : starEach (e :: es) X.env = (false, eval e X.env) :: starEach es X.env) (hpl : (backTo pos (starEach es X.env)).any (·.1) = false) : PE X (.Call (.Name x p) (e :: es) [] pos) (tM X.K Z (fnDo ps.length fl F)) := by
  obtain ⟨k, f, fd, hm, hk, hr, G, hb, _, _⟩ := c.ex
  refine ⟨fun pins s σ H Q I ⟨δ, r, M, E, S, h⟩ => ?_⟩
  refine wpAny_Call_Name_kw (ld_glob I hg hm ?_ hdb)
  refine PySem.W.callWith_K (h₀ := X.base) I.ok.mod.kin hk (thn (ha.run pos pins s σ H _ I ⟨δ, r, M, E, S, Aft.bindL S h⟩) fun us s1 ⟨vs, H1, I1, rv, ds, M1, r1, e1, X1, S1, q1, w⟩ => ⟨I1.kIn, ?_⟩) he hpl
  obtain ⟨hl, w⟩ := fn_ite w
  exact run_g (args := ⟨us, []⟩) G hr hga tk I1 S1 (hb s1 us (by rw [← rv.length, ← q1.length]; exact hl)) rv q1 hl w
theorem r_fn0 (c : Cal er X x ps F) (hga : X.A.guards = some []) (tk : Takes X (WZ er X.K Z)) (hg : Gl X x) (hdb : (x == ("__debug__" : Str)) = false) : PE X (.Call (.Name x p) [] [] pos) (tM X.K Z (fnDo ps.length lNil F)) := by
  obtain ⟨k, f, fd, hm, hk, hr, G, hb, _, _⟩ := c.ex
  refine ⟨fun pins s σ H Q I ⟨δ, r, M, E, S, h⟩ => ?_⟩
  obtain ⟨hl, w⟩ := fn_ite (ds := []) h
  refine wpAny_Call_Name_kw (ld_glob I hg hm ?_ hdb)
  exact PySem.W.callWith_K0 I.kIn hk (run_g (args := ⟨[], []⟩) (us := []) (ds := []) G hr hga tk I S (hb s [] hl) .nil rfl hl w)
/-- the keywords' values -/
structure PKD (X : Cx) (Z : ZS) (kws : List Keyword) (fl : Fl) : Prop where
  pk : PK X kws (tL X.K Z fl)
theorem k_nil : PK X [] (tL X.K Z lNil) := ⟨fun pos pins s σ H Q I ⟨δ, r, M, E, S, h⟩ => pk_nil.run pos pins s σ H Q I (AftL.ret (ds := []) S rfl h)⟩
theorem k_cons {nm : Option Str} {kpos : Pos} {kws : List Keyword} {fa : Fe} (ha : PE X e (tM X.K Z fa)) (hr : PK X kws (tL X.K Z fl)) : PK X (⟨nm, e, kpos⟩ :: kws) (tL X.K Z (lCons fa fl)) :=
  ⟨fun pos pins s σ H Q I ⟨δ, r, M, E, S, h⟩ => (pk_cons ha hr).run pos pins s σ H Q I ⟨δ, r, M, E, S, by
    have z := AftL.bind S h
    cases q : fa δ M with
    | ok d M1 =>
      rw [q] at z
      refine fun v H' r' x s qv => ?_
      obtain ⟨d1, M2, r2, e1, e2, e3, e4, e5⟩ := z v H' r' x s qv
      refine ⟨δ, r2, M2, E.ext S e2, e3, ?_⟩
      exact (AftL.bindL e3 e5).imp fun vs H'' ⟨ds1, M4, r4, f1, f2, f3, f4, f5⟩ => AftL.ret (ds := d1 :: ds1) f3 ⟨v, vs, rfl, e4.ext e3 f2, f4⟩ f5
    | err e M1 => rw [q] at z; exact z
    | bad => rw [q] at z; exact z⟩⟩
def kwOk : List Keyword → List Str → Bool
  | [], [] => true
  | ⟨some n, _, _⟩ :: ks, p :: ps => n == p && kwOk ks ps
  | _, _ => false
theorem kw_ok {env : PySem.Env} {pos : Pos} : ∀ {kws : List Keyword} {ps : List Str}, kwOk kws ps = true → (backToKw pos (keywordEach kws env)).all (·.1.isSome) = true ∧ (backToKw pos (keywordEach kws env)).filterMap (·.1) = ps ∧ (backToKw pos (keywordEach kws env)).any (·.1.isNone) = false
  | [], [], _ => ⟨rfl, rfl, rfl⟩
  | [], _ :: _, h => by cases h
  | ⟨some n, v, kp⟩ :: ks, p :: ps, h => by
    obtain ⟨h1, h2⟩ := Bool.and_eq_true_iff.mp (show (n == p && kwOk ks ps) = true from h)
    obtain ⟨a, b, c⟩ := kw_ok (env := env) (pos := pos) h2
    have e : n = p := eq_of_beq h1
    subst e
    refine ⟨?_, ?_, ?_⟩
    · show (true && (backToKw pos (keywordEach ks env)).all (·.1.isSome)) = true
      rw [a]; rfl
    · show n :: (backToKw pos (keywordEach ks env)).filterMap (·.1) = n :: ps
      rw [b]
    · show (false || (backToKw pos (keywordEach ks env)).any (·.1.isNone)) = false
      rw [c]; rfl
  | ⟨some n, v, kp⟩ :: ks, [], h => by cases h
  | ⟨none, v, kp⟩ :: ks, _, h => by cases h
theorem r_fnk {kws : List Keyword} (c : Cal er X x ps F) (hga : X.A.guards = some []) (tk : Takes X (WZ er X.K Z)) (hg : Gl X x) (ha : PK X kws (tL X.K Z fl)) (hdb : (x == ("__debug__" : Str)) = false) (hk : kwOk kws ps = true) :
    PE X (.Call (.Name x p) [] kws pos) (tM X.K Z (fnDo ps.length fl F)) := by
  obtain ⟨k, f, fd, hm, hkp, hr, G, _, hb, _⟩ := c.ex
  obtain ⟨k1, k2, k3⟩ := kw_ok (env := X.env) (pos := pos) hk
  refine ⟨fun pins s σ H Q I ⟨δ, r, M, E, S, h⟩ => ?_⟩
  refine wpAny_Call_Name_kw (ld_glob I hg hm ?_ hdb)
  refine PySem.W.callWith_KW0 (h₀ := X.base) I.ok.mod.kin hkp k1 (thn (ha.run pos pins s σ H _ I ⟨δ, r, M, E, S, Aft.bindL S h⟩) fun us s1 ⟨vs, H1, I1, rv, ds, M1, r1, e1, X1, S1, q1, w⟩ => ⟨I1.kIn, ?_⟩) (by show (false || _) = false; rw [k3]; rfl)
  rw [k2]
  obtain ⟨hl, w⟩ := fn_ite w
  exact run_g (args := ⟨[], ps.zip us⟩) G hr hga tk I1 S1 (hb s1 us (by rw [← rv.length, ← q1.length]; exact hl)) rv q1 hl w
/-- keywords in an order of their own -/
def fnDoP (o : List Nat) (n : Nat) (l : Fl) (F : Fun) : Fe := fun δ => bnd (l δ) fun ds M => if ds.length = n then F (arr o .non ds) M else .bad
theorem r_fnp {kws : List Keyword} {o : List Nat} (c : Cal er X x ps F) (hga : X.A.guards = some []) (tk : Takes X (WZ er X.K Z)) (hg : Gl X x) (ha : PK X kws (tL X.K Z fl)) (ho : o ∈ ords ps.length) (hdb : (x == ("__debug__" : Str)) = false) (hk : kwOk kws (kwN ps o) = true) :
    PE X (.Call (.Name x p) [] kws pos) (tM X.K Z (fnDoP o ps.length fl F)) := by
  obtain ⟨k, f, fd, hm, hkp, hr, G, _, _, hb⟩ := c.ex
  obtain ⟨k1, k2, k3⟩ := kw_ok (env := X.env) (pos := pos) hk
  refine ⟨fun pins s σ H Q I ⟨δ, r, M, E, S, h⟩ => ?_⟩
  refine wpAny_Call_Name_kw (ld_glob I hg hm ?_ hdb)
  refine PySem.W.callWith_KW0 (h₀ := X.base) I.ok.mod.kin hkp k1 (thn (ha.run pos pins s σ H _ I ⟨δ, r, M, E, S, Aft.bindL S h⟩) fun us s1 ⟨vs, H1, I1, rv, ds, M1, r1, e1, X1, S1, q1, w⟩ => ⟨I1.kIn, ?_⟩) (by show (false || _) = false; rw [k3]; rfl)
  rw [k2]
  have w : ds.length = ps.length ∧ Aft X.K (Z σ) H1 r1 M1 (F (arr o .non ds) M1) Q := by
    by_cases hc : ds.length = ps.length
    · refine ⟨hc, ?_⟩
      have w' : Aft X.K (Z σ) H1 r1 M1 (if ds.length = ps.length then F (arr o .non ds) M1 else .bad) Q := w
      rwa [if_pos hc] at w'
    · have w' : Aft X.K (Z σ) H1 r1 M1 (if ds.length = ps.length then F (arr o .non ds) M1 else .bad) Q := w
      rw [if_neg hc] at w'
      exact w'.elim
  obtain ⟨hl, w⟩ := w
  have hu : us.length = ps.length := by rw [← rv.length, ← q1.length]; exact hl
  exact run_g (args := ⟨[], (kwN ps o).zip us⟩) (us := arr o .none us) (vs := arr o .non vs) (ds := arr o .non ds) G hr hga tk I1 S1 (hb o ho s1 us hu) (arr_vals ho hu rv) (arr_reps ho hl q1) (by rw [arr_len]; exact (ords_len ho).1) w
end

/-! ### a def's body keeps its promise -/
mutual
/-- no cell from n on -/
def clo (n : Nat) : D → Bool
  | .ref m => decide (m < n)
  | .tup ds => clos n ds
  | .lst ds => clos n ds
  | .scr ds => clos n ds
  | _ => true
def clos (n : Nat) : List D → Bool
  | [] => true
  | d :: ds => clo n d && clos n ds
end
def cloC (n : Nat) : Cell → Prop
  | .lst ds => clos n ds = true
  | .dct kvs => clos n (kvs.map (·.2)) = true
  | .dead => True
open Classical in
/-- cells made within and told nowhere are dropped -/
noncomputable def trim (M : Mem) : Res D → Res D
  | .ok d M' => if clo M.length d = true ∧ ∀ (i : Nat) (c : Cell), i < M.length → M'[i]? = some c → M[i]? = some c ∨ cloC M.length c then .ok d (M'.take M.length) else .ok d M'
  | o => o
theorem trim_same {M : Mem} {d : D} {J : Mem} (h : clo M.length d = true) : trim M (.ok d (M ++ J)) = .ok d M := by
  simp only [trim]
  rw [if_pos ⟨h, fun i c hi e => .inl (by rw [List.getElem?_append_left hi] at e; exact e)⟩, List.take_left]
theorem trim_set {M : Mem} {d : D} {J : Mem} {k : Nat} {c : Cell} (h : clo M.length d = true) (hc : cloC M.length c) : trim M (.ok d (M.set k c ++ J)) = .ok d (M.set k c) := by
  have hl : (M.set k c).length = M.length := List.length_set
  have key : ∀ (i : Nat) (c' : Cell), i < M.length → (M.set k c ++ J)[i]? = some c' → M[i]? = some c' ∨ cloC M.length c' := fun i c' hi e => by
    rw [List.getElem?_append_left (by rw [hl]; exact hi)] at e
    by_cases hk : k = i
    · subst hk
      rw [List.getElem?_set_self hi] at e
      cases e
      exact .inr hc
    · rw [List.getElem?_set_ne hk] at e
      exact .inl e
  have ht : (M.set k c ++ J).take M.length = M.set k c := by rw [← hl, List.take_left]
  simp only [trim]
  rw [if_pos ⟨h, key⟩, ht]
section
variable {K : PySem.W.Frag} {Z : ZK} {H H' : Hp} {r r' : List Addr} {M M' : Mem}
mutual
theorem Rep.cut {n : Nat} : ∀ {d : D} {v : V}, clo n d = true → Rep K H r d v → Rep K H (r.take n) d v
  | .non, _, _, q => q
  | .bl _, _, _, q => q
  | .int _, _, _, q => q
  | .str _, _, _, q => q
  | .ty _, _, _, q => q
  | .tup ds, _, h, ⟨a, vs, e, h1, h2⟩ => ⟨a, vs, e, h1, Reps.cut' h h2⟩
  | .lst ds, _, h, ⟨a, vs, e, h1, h2⟩ => ⟨a, vs, e, h1, Reps.cut' h h2⟩
  | .scr ds, _, h, ⟨a, vs, e, h1, h2⟩ => ⟨a, vs, e, h1, Reps.cut' h h2⟩
  | .ref m, _, h, ⟨a, e, h1⟩ => ⟨a, e, by rw [List.getElem?_take_of_lt (of_decide_eq_true h)]; exact h1⟩
theorem Reps.cut' {n : Nat} : ∀ {ds : List D} {vs : List V}, clos n ds = true → Reps K H r ds vs → Reps K H (r.take n) ds vs
  | [], _, _, q => q
  | d :: ds, _, h, ⟨v, ws, e, h1, h2⟩ => ⟨v, ws, e, Rep.cut (Bool.and_eq_true_iff.mp h).1 h1, Reps.cut' (Bool.and_eq_true_iff.mp h).2 h2⟩
end
mutual
theorem clo_of : ∀ {d : D} {v : V}, Rep K H r d v → clo r.length d = true
  | .non, _, _ => rfl
  | .bl _, _, _ => rfl
  | .int _, _, _ => rfl
  | .str _, _, _ => rfl
  | .ty _, _, _ => rfl
  | .tup ds, _, ⟨a, vs, _, _, h2⟩ => clos_of h2
  | .lst ds, _, ⟨a, vs, _, _, h2⟩ => clos_of h2
  | .scr ds, _, ⟨a, vs, _, _, h2⟩ => clos_of h2
  | .ref m, _, ⟨a, _, h1⟩ => decide_eq_true (List.getElem?_eq_some_iff.mp h1).1
theorem clos_of : ∀ {ds : List D} {vs : List V}, Reps K H r ds vs → clos r.length ds = true
  | [], _, _ => rfl
  | d :: ds, _, ⟨v, ws, _, h1, h2⟩ => by
    show (clo r.length d && clos r.length ds) = true
    rw [clo_of h1, clos_of h2]; rfl
end
theorem Aft.trim {m : Res D} {Q : VK} (S : Sim K H r M) (h : Aft K Z H r M (Wn.trim M m) Q) : Aft K Z H r M m Q := by
  cases m with
  | err e M' => exact h
  | bad => exact h
  | ok d M' =>
    simp only [Wn.trim] at h
    by_cases hc : clo M.length d = true ∧ ∀ (i : Nat) (c : Cell), i < M.length → M'[i]? = some c → M[i]? = some c ∨ cloC M.length c
    · rw [if_pos hc] at h
      obtain ⟨h1, h2⟩ := hc
      refine fun v H' r' x s q => h v H' (r'.take M.length) ?_ ?_ (q.cut h1)
      · obtain ⟨t, rfl⟩ := x.pre
        have hr : (r ++ t).take M.length = r := by rw [← S.len, List.take_left]
        rw [hr]
        refine ⟨⟨[], by simp⟩, x.keep, fun n b hn e => ?_, fun n e => ?_⟩
        · rw [List.getElem?_eq_none (by omega)] at e; cases e
        · rw [List.getElem?_take_of_lt (List.getElem?_eq_some_iff.mp e).1]; exact x.dead n e
      · refine ⟨by simp [s.len], fun i j a e1 e2 => ?_, fun n a c e1 e2 => ?_⟩
        · have g : ∀ {i : Nat}, (r'.take M.length)[i]? = some a → r'[i]? = some a := fun {i} e => by
            have hi := (List.getElem?_eq_some_iff.mp e).1
            rw [List.length_take] at hi
            rw [List.getElem?_take_of_lt (by omega)] at e
            exact e
          exact s.inj i j a (g e1) (g e2)
        · have hi := (List.getElem?_eq_some_iff.mp e1).1
          rw [List.length_take] at hi
          rw [List.getElem?_take_of_lt (by omega)] at e1 e2
          have hc2 := h2 n c (by omega) e2
          have z := s.cell n a c e1 e2
          cases c with
          | dead => exact z
          | lst ds =>
            obtain ⟨vs, z1, z2⟩ := z
            have hcl : clos M.length ds = true := by
              rcases hc2 with hc2 | hc2
              · obtain ⟨b, _, w1⟩ := S.addr hc2
                obtain ⟨ws, _, w3⟩ := w1
                rw [← S.len]
                exact clos_of w3
              · exact hc2
            exact ⟨vs, z1, z2.cut' hcl⟩
          | dct kvs =>
            obtain ⟨vs, z1, z0, z2⟩ := z
            have hcl : clos M.length (kvs.map (·.2)) = true := by
              rcases hc2 with hc2 | hc2
              · obtain ⟨b, _, w1⟩ := S.addr hc2
                obtain ⟨ws, _, _, w3⟩ := w1
                rw [← S.len]
                exact clos_of w3
              · exact hc2
            exact ⟨vs, z1, z0, z2.cut' hcl⟩
    · rw [if_neg hc] at h; exact h
end
def startE (n : Nat) (ds : List D) : Env := ds.map some ++ List.replicate (n - ds.length) none
def fin : SR → Res D
  | .nx _ M => .ok .non M
  | .rt d M => .ok d M
  | .er e _ M => .err e M
  | _ => .bad
/-- what a body makes of arguments; tr: whether cells made within are dropped -/
noncomputable def fnOf (tr : Bool) (n : Nat) (f : Fs) : Fun := fun ds M => if tr = true then trim M (fin (f (startE n ds) M)) else fin (f (startE n ds) M)
theorem reps_all {K : PySem.W.Frag} {H : Hp} {r : List Addr} {ds : List D} {vs : List V} (q : Reps K H r ds vs) {n : Nat} {N : List Str} (hn : n = N.length) : EnvRep K H r (L2.start N vs) (startE n ds) := by
  subst hn
  have hl := q.length
  refine ⟨by simp [L2.start, startE, hl], fun i d e => ?_⟩
  unfold startE at e
  unfold L2.start
  by_cases hi : i < ds.length
  · rw [List.getElem?_append_left (by simpa using hi), List.getElem?_map] at e
    rw [List.getElem?_append_left (by simpa using (by omega : i < vs.length)), List.getElem?_map]
    cases q2 : ds[i]? with
    | none => rw [q2] at e; cases e
    | some d' =>
      rw [q2] at e
      cases e
      obtain ⟨v, e1, e2⟩ := q.get q2
      exact ⟨v, by rw [e1]; rfl, e2⟩
  · rw [List.getElem?_append_right (by simpa using hi)] at e
    rw [List.getElem?_replicate] at e
    split at e <;> cases e
section
variable {er : ER} {P : Program} {w : World} {K : PySem.W.Frag} {mg : Str → Option Value} {base : Heap} {k : Nat} {f : Addr} {name qual : Str} {params : Arguments} {body : List Stmt} {scope : Scope} {dV kV doc pm cdv ct oc : Value} {an od : Option Addr}
  {osl : Array (Option Value)} {N ps : List Str}
theorem fng_of {tr : Bool} {g : Fs} (lk : K.lookup f = some ⟨oc, od, .func (PySem.W.fnOf name qual params body scope dV kV doc pm an cdv ct), osl⟩) (hcd : PySem.W.codeIn K cdv qual = true) (S : FnScope N ps scope)
    (hbody : ∀ (A : Around) (outer : List PySem.Env) (s : Shared) (H : Hp) (E : XK), Room k (A.deeper (envOfC qual scope s.heap.objs.size f cdv)) → A.guards = some [] →
      PSs (cxOf (L2.CX P w) P w K mg base N qual scope f cdv A outer s H E) body (tS K (fun _ => ZC er E) g)) :
    FnG er P w K mg base (k + 1) f (PySem.W.fnOf name qual params body scope dV kV doc pm an cdv ct) ps (fnOf tr N.length g) := by
  refine ⟨fun A outer s H args us vs ds r M Q E hr hga e0 hb rv q Sm hl h => ?_⟩
  have h' : Aft K (ZC er E) H r M (fin (g (startE N.length ds) M)) Q := by
    unfold fnOf at h
    cases tr with
    | true => exact Aft.trim Sm h
    | false => exact h
  refine StX.run_bnd (G := fun ws H2 => ws = vs ∧ H2 = H) lk hcd S hr e0 (fun A' Ex Q' z => hb _ _ _ _ (z s H vs us e0 Un.refl rfl (fun _ _ z => z) rv (by rw [← q.length]; exact hl) ⟨rfl, rfl⟩)) fun s2 H2 ws ⟨e1, e2⟩ hr' => ?_
  subst e1 e2
  refine ⟨_, hbody A outer s2 H2 E hr' hga, startE N.length ds, r, M, reps_all q rfl, Sm, ?_⟩
  cases e3 : g (startE N.length ds) M with
  | nx δ M' => rw [e3] at h'; exact fun σ' H' r' x s _ => h' .non H' r' x s rfl
  | rt d M' => rw [e3] at h'; exact h'
  | er e δ M' => rw [e3] at h'; exact fun σ' H' r' x s _ => h' H' r' x s
  | bk δ M' => rw [e3] at h'; exact h'.elim
  | ct δ M' => rw [e3] at h'; exact h'.elim
  | bad => rw [e3] at h'; exact h'.elim
end
end Wn
end

section
set_option Elab.async false
set_option linter.all false
set_option maxRecDepth 100000
set_option maxHeartbeats 400000
namespace Wn
open PySem PySem.Spec PyProof.Rows L2

/-! ### the words of the own syntax -/
structure BOp where
  op : Operator
  g : Mem → D → D → Option D
  ok : ∀ X : Cx, Gd X → Op2 X (binaryOp op) g
structure COp where
  op : CmpOp
  g : Mem → D → D → Option D
  ok : ∀ X : Cx, Gd X → Op2 X (compareOp op) g
structure Tn where
  name : Str
  n : String
  hv : bootBuiltins name = some (.type n)
  nn : name ≠ "__name__"
  nd : (name == ("__debug__" : Str)) = false
/-- a built-in function, a built-in type -/
structure Bf where
  name : Str
  id : String
  g : Mem → List D → Option D
  ok : ∀ X : Cx, Gd X → CallS X (.builtin id) g
  hv : bootBuiltins name = some (.builtin id)
  nn : name ≠ "__name__"
  nd : (name == ("__debug__" : Str)) = false
structure Bt where
  name : Str
  id : String
  g : Mem → List D → Option D
  ok : ∀ X : Cx, Gd X → CallS X (.type id) g
  hv : bootBuiltins name = some (.type id)
  nn : name ≠ "__name__"
  nd : (name == ("__debug__" : Str)) = false
structure Ms where
  name : Str
  id : String
  g : Mem → D → List D → Option D
  ok : ∀ X : Cx, Gd X → MtS1 X "str" id g
  slot : Slot "str" name id
  ty : typeOf (.builtin id) = pure (.type "method_descriptor")
structure Ml where
  name : Str
  id : String
  g : D → List D → Mem → Res D
  ok : ∀ X : Cx, Gd X → MtL X id g
  slot : Slot "list" name id
  ty : typeOf (.builtin id) = pure (.type "method_descriptor")
structure Md where
  name : Str
  id : String
  g : D → List D → Mem → Res D
  ok : ∀ X : Cx, Gd X → MtL X id g
  slot : Slot "dict" name id
  ty : typeOf (.builtin id) = pure (.type "method_descriptor")
inductive ItK where
  | lst | tup | str | rng1 | rng2 | rng3 | enu | zip | zps
mutual
inductive E where
  | var (i : Nat) | cst (d : D) | glo (x : Str) (d : D) | tyn (t : Tn)
  | op (o : BOp) (a b : E) | cmp (o : COp) (a b : E) | chn (o o' : COp) (a b c : E) | neg (a : E)
  | not (a : E) | and (a b : E) | or (a b : E) | ife (c : B) (a b : E)
  | ix (a b : E) | sl0 (a : E) | sl1 (a lo : E) | sl2 (a hi : E) | sl3 (a lo hi : E)
  | tup (l : EL) | lst (l : EL) | cel (l : EL)
  | bf (f : Bf) (l : EL) | bt (f : Bt) (l : EL) | ms (m : Ms) (a : E) (l : EL) | ml (m : Ml) (a : E) (l : EL)
  | fp (i n : Nat) (o : List Nat) (l : EL) | fn (i n : Nat) (l : EL) | fk (i n : Nat) (l : EL)
  | lc (cel : Bool) (k : ItK) (ia : EL) (t : Tg) (vs : List Nat) (c : B) (e : E)
  | lr1 (a : E) | lr2 (a b : E) | lcl (a : E)
  | lzp (l : EL) | rv (a : E) | sst (a : E) | stp (a lo k : E) | st0 (a k : E) | dsp (kvs : List (Str × D))
  | dcp (a : E) | md (m : Md) (a : E) (l : EL)
inductive B where
  | yes | tru (e : E) | not (a : B) | and (a b : B) | or (a b : B)
inductive EL where
  | nil | cons (a : E) (l : EL) | star (a : E) (l : EL)
end
/-- items of a starred part -/
def itAny : D → Mem → Res (List D)
  | .tup ds, M => .ok ds M
  | d, M => match lstOf M d with
    | some ds => .ok ds M
    | none => .bad
def lStar (a : Fe) (b : Fl) : Fl := fun δ => bnd (a δ) fun x => bnd (itAny x) fun xs => bnd (b δ) fun ys => ret (xs ++ ys)
def gNeg : D → Mem → Res D
  | .int i, M => .ok (.int (-i)) M
  | _, _ => .bad
def eNeg (a : Fe) : Fe := fun δ => bnd (a δ) gNeg
def denI (k : ItK) (l : Fl) : Env → Mem → Res (List D) := match k with
  | .lst => fun δ => bnd (l δ) fun ds M => match ds with | [d] => itL d M | _ => .bad
  | .tup => fun δ => bnd (l δ) fun ds M => match ds with | [d] => itT d M | _ => .bad
  | .str => fun δ => bnd (l δ) fun ds M => match ds with | [d] => itS d M | _ => .bad
  | .rng1 => iArg fRng1 l
  | .rng2 => iArg fRng2 l
  | .rng3 => iArg fRng3 l
  | .enu => iArg fEnu1 l
  | .zip => iArg fZip2 l
  | .zps => iArg fZipS l
/-- list(range(..)) -/
def gLr : D → D → Mem → Res D
  | .int i, .int j, M => if i.natAbs < 2 ^ 62 ∧ j.natAbs < 2 ^ 62 ∧ (j - i).toNat ≤ 2 ^ 24 then .ok (.lst (rng i (j - i).toNat)) M else .bad
  | _, _, _ => .bad
def eLr1 (a : Fe) : Fe := fun δ => bnd (a δ) fun d => gLr (.int 0) d
def eLr2 (a b : Fe) : Fe := fun δ => bnd (a δ) fun d => bnd (b δ) fun e => gLr d e
/-- list(..) that is changed later -/
def gLcl : List D → Mem → Res D := fun ds M => match ds with
  | [d] => (match fList M d with
    | some (.lst es) => .ok (.ref M.length) (M ++ [.lst es])
    | _ => .bad)
  | _ => .bad
def eLcl (a : Fe) : Fe := fun δ => bnd (lCons a lNil δ) gLcl
mutual
def den (us : List Fun) : E → Fe
  | .var i => eVar i
  | .cst d => eCst d
  | .glo _ d => eCst d
  | .tyn t => eCst (.ty t.n)
  | .op o a b => eOp o.g (den us a) (den us b)
  | .cmp o a b => eOp o.g (den us a) (den us b)
  | .chn o o' a b c => eChain o.g o'.g (den us a) (den us b) (den us c)
  | .neg a => eNeg (den us a)
  | .not a => eNot (den us a)
  | .and a b => eAnd (den us a) (den us b)
  | .or a b => eOr (den us a) (den us b)
  | .ife c a b => eIf (denB us c) (den us a) (den us b)
  | .ix a b => eOp (fun M a b => (gIx M a b).or (gIxD M a b)) (den us a) (den us b)
  | .rv a => eRv (den us a)
  | .lzp l => eLzp (denL us l)
  | .sst a => eSst (den us a)
  | .stp a lo k => eStp (den us a) (oAt (den us lo)) (oAt (den us k))
  | .st0 a k => eStp (den us a) oNo (oAt (den us k))
  | .dsp kvs => eDsp kvs
  | .sl0 a => eSl gSl (den us a) oNo oNo
  | .sl1 a lo => eSl gSl (den us a) (oAt (den us lo)) oNo
  | .sl2 a hi => eSl gSl (den us a) oNo (oAt (den us hi))
  | .sl3 a lo hi => eSl gSl (den us a) (oAt (den us lo)) (oAt (den us hi))
  | .tup l => eTup (denL us l)
  | .lst l => eLst (denL us l)
  | .cel l => eCell (denL us l)
  | .bf f l => eCall f.g (denL us l)
  | .bt f l => eCall f.g (denL us l)
  | .ms m a l => eMt m.g (den us a) (denL us l)
  | .ml m a l => eMl m.g (den us a) (denL us l)
  | .fp i n o l => fnDoP o n (denL us l) (us.getD i fun _ _ => .bad)
  | .fn i n l => fnDo n (denL us l) (us.getD i fun _ _ => .bad)
  | .fk i n l => fnDo n (denL us l) (us.getD i fun _ _ => .bad)
  | .lc true k ia t vs c e => eLcC (denI k (denL us ia)) t vs (denB us c) (den us e)
  | .lc false k ia t vs c e => eLc (denI k (denL us ia)) t vs (denB us c) (den us e)
  | .lr1 a => eLr1 (den us a)
  | .lr2 a b => eLr2 (den us a) (den us b)
  | .lcl a => eLcl (den us a)
  | .dcp a => eDcp (den us a)
  | .md m a l => eMd m.g (den us a) (denL us l)
def denB (us : List Fun) : B → Fb
  | .yes => bYes
  | .tru e => bTru (den us e)
  | .not a => bNot (denB us a)
  | .and a b => bAnd (denB us a) (denB us b)
  | .or a b => bOr (denB us a) (denB us b)
def denL (us : List Fun) : EL → Fl
  | .nil => lNil
  | .cons a l => lCons (den us a) (denL us l)
  | .star a l => lStar (den us a) (denL us l)
end

/-! ### statements -/
mutual
inductive S where
  | asg (t : Tg) (e : E) | par (is : List Nat) (l : EL) | set (o i e : E) | ex (e : E) | doc
  | ife (c : B) (a b : SL) | whl (n : Nat) (c : B) (b : SL) | for (k : ItK) (ia : EL) (t : Tg) (b : SL)
  | ret (e : E) | retn | brk | cnt | pas | frz (i : Nat) | nev
inductive SL where
  | nil | cons (s : S) (l : SL)
end
mutual
def denS (us : List Fun) : S → Fs
  | .asg t e => sAsg t (den us e)
  | .par is l => sPar is (denL us l)
  | .set o i e => sSetA (den us o) (den us i) (den us e)
  | .ex e => sEx (den us e)
  | .doc => sPass
  | .ife c a b => sIf (denB us c) (denSL us a) (denSL us b)
  | .whl n c b => whlGo (denB us c) (denSL us b) n
  | .for k ia t b => sFor (denI k (denL us ia)) t (denSL us b)
  | .ret e => sRet (den us e)
  | .retn => sRetN
  | .brk => sBrk
  | .cnt => sCnt
  | .pas => sPass
  | .frz i => sFrz i
  | .nev => fun _ _ => .bad
def denSL (us : List Fun) : SL → Fs
  | .nil => sPass
  | .cons s l => sSeq (denS us s) (denSL us l)
end
end Wn
end

section
set_option Elab.async false
set_option linter.all false
set_option maxRecDepth 100000
set_option maxHeartbeats 400000
namespace Wn
open PySem PySem.Spec PyProof.Rows L2

/-! ### the program's text against the own syntax: a computation -/
mutual
def eqD : D → D → Bool
  | .non, .non => true
  | .bl a, .bl b => a == b
  | .int a, .int b => a == b
  | .str a, .str b => a == b
  | .tup a, .tup b => eqDs a b
  | .ty a, .ty b => a == b
  | _, _ => false
def eqDs : List D → List D → Bool
  | [], [] => true
  | a :: as, b :: bs => eqD a b && eqDs as bs
  | _, _ => false
end
mutual
theorem eqD_eq : ∀ {a b : D}, eqD a b = true → a = b
  | .non, .non, _ => rfl
  | .bl a, .bl b, h => by rw [eq_of_beq (show (a == b) = true from h)]
  | .int a, .int b, h => by rw [eq_of_beq (show (a == b) = true from h)]
  | .str a, .str b, h => by rw [eq_of_beq (show (a == b) = true from h)]
  | .ty a, .ty b, h => by rw [eq_of_beq (show (a == b) = true from h)]
  | .tup a, .tup b, h => by rw [eqDs_eq (show eqDs a b = true from h)]
  | .non, .bl _, h | .non, .int _, h | .non, .str _, h | .non, .tup _, h | .non, .lst _, h | .non, .scr _, h | .non, .ref _, h | .non, .ty _, h => by cases h
  | .bl _, .non, h | .bl _, .int _, h | .bl _, .str _, h | .bl _, .tup _, h | .bl _, .lst _, h | .bl _, .scr _, h | .bl _, .ref _, h | .bl _, .ty _, h => by cases h
  | .int _, .non, h | .int _, .bl _, h | .int _, .str _, h | .int _, .tup _, h | .int _, .lst _, h | .int _, .scr _, h | .int _, .ref _, h | .int _, .ty _, h => by cases h
  | .str _, .non, h | .str _, .bl _, h | .str _, .int _, h | .str _, .tup _, h | .str _, .lst _, h | .str _, .scr _, h | .str _, .ref _, h | .str _, .ty _, h => by cases h
  | .tup _, .non, h | .tup _, .bl _, h | .tup _, .int _, h | .tup _, .str _, h | .tup _, .lst _, h | .tup _, .scr _, h | .tup _, .ref _, h | .tup _, .ty _, h => by cases h
  | .ty _, .non, h | .ty _, .bl _, h | .ty _, .int _, h | .ty _, .str _, h | .ty _, .lst _, h | .ty _, .scr _, h | .ty _, .ref _, h | .ty _, .tup _, h => by cases h
  | .lst _, _, h | .scr _, _, h | .ref _, _, h => by cases h
theorem eqDs_eq : ∀ {a b : List D}, eqDs a b = true → a = b
  | [], [], _ => rfl
  | a :: as, b :: bs, h => by
    obtain ⟨h1, h2⟩ := Bool.and_eq_true_iff.mp (show (eqD a b && eqDs as bs) = true from h)
    rw [eqD_eq h1, eqDs_eq h2]
  | [], _ :: _, h => by cases h
  | _ :: _, [], h => by cases h
end
/-- what is known of a def: its slots, the defs that it calls, the module's constants, the built-in names that the module leaves -/
structure Ct where
  N : List Str
  calls : List (Str × List Str)
  cons : List (Str × D)
  blts : List Str
/-- a block's names: as it sees them; as it keeps its own -/
structure Sc where
  sc : Scope
  ow : Scope
def isK (o : Option NameKind) (k : NameKind) : Bool := match o, k with
  | some .local, .local => true
  | some .cell, .cell => true
  | some .free, .free => true
  | some .globalImplicit, .globalImplicit => true
  | _, _ => false
theorem isK_eq {o : Option NameKind} {k : NameKind} (h : isK o k = true) : o = some k := by
  unfold isK at h
  split at h <;> first | rfl | cases h
def visC (sc : Scope) (x : Str) : Bool := isK (sc.names.lookup x) .local || isK (sc.names.lookup x) .cell || isK (sc.names.lookup x) .free
theorem vis_of {sc : Scope} {x : Str} (h : visC sc x = true) : Vis sc x := by
  unfold visC at h
  simp only [Bool.or_eq_true] at h
  rcases h with (h | h) | h
  · exact .inl (isK_eq h)
  · exact .inr (.inl (isK_eq h))
  · exact .inr (.inr (isK_eq h))
def locC (sc : Scope) (x : Str) : Bool := isK (sc.names.lookup x) .local || isK (sc.names.lookup x) .cell
def gloC (sc : Scope) (x : Str) : Bool := isK (sc.names.lookup x) .globalImplicit && !(x == ("__debug__" : Str))
def cstC : D → Const → Bool
  | .non, .none => true
  | .bl b, .bool c => b == c
  | .int i, .int j => i == j
  | .str x, .str y => x == y
  | _, _ => false
def dspC : List (Str × D) → List (Option Expr) → List Expr → Bool
  | [], [], [] => true
  | (k, d) :: l, some (.Constant (.str x) _ _) :: ks, .Constant c _ _ :: vs => k == x && atom d && cstC d c && dspC l ks vs
  | _, _, _ => false
def atC (N : List Str) (i : Nat) (x : Str) : Bool := match N[i]? with
  | some y => y == x
  | none => false
theorem at_of {N : List Str} {i : Nat} {x : Str} (h : atC N i x = true) : N[i]? = some x := by
  unfold atC at h
  split at h
  · rename_i y e
    rw [e, eq_of_beq h]
  · cases h
mutual
def cvT (C : Ct) (sc : Sc) : Tg → Expr → Bool
  | .nm i, .Name x _ => atC C.N i x && locC sc.ow x
  | .tp l, .Tuple es _ _ => noStars es && cvTs C sc l es
  | _, _ => false
def cvTs (C : Ct) (sc : Sc) : TgL → List Expr → Bool
  | .nil, [] => true
  | .cons t l, e :: es => cvT C sc t e && cvTs C sc l es
  | _, _ => false
end
def isTu : Expr → Bool
  | .Tuple _ _ _ => true
  | _ => false
def bltC (C : Ct) (sc : Sc) (x : Str) : Bool := C.blts.contains x && gloC sc.sc x
def callC (C : Ct) (i n : Nat) (x : Str) : Bool := match C.calls[i]? with
  | some (y, ps) => y == x && ps.length == n
  | none => false
def isCmp : Expr → Bool
  | .Compare _ _ _ _ => true
  | _ => false
def ownC (C : Ct) (vs : List Nat) : List (Str × Nat) := vs.map fun i => (C.N.getD i ⟨#[]⟩, i)
def ItK.nm : ItK → Str
  | .rng1 => "range"
  | .rng2 => "range"
  | .rng3 => "range"
  | .enu => "enumerate"
  | .zip => "zip"
  | .zps => "zip"
  | _ => ""
def ItK.two : ItK → Bool
  | .enu => true
  | .zip => true
  | .zps => true
  | _ => false
def EL.len : EL → Nat
  | .nil => 0
  | .cons _ l => l.len + 1
  | .star _ l => l.len + 1
def ItK.num : ItK → Nat
  | .rng2 => 2
  | .rng3 => 3
  | .zip => 2
  | .zps => 2
  | _ => 1
def ItK.plain : ItK → Bool
  | .lst => true
  | .tup => true
  | .str => true
  | _ => false
def args0 : Expr → List Expr
  | .Call _ es _ _ => es
  | _ => []
def isC (C : Ct) (sc : Sc) (k : ItK) : Expr → Bool
  | .Call (.Name x _) _ [] _ => x == k.nm && bltC C sc x
  | _ => false
def kwV : List Keyword → List Expr
  | [] => []
  | ⟨_, v, _⟩ :: ks => v :: kwV ks
def kwC (C : Ct) (i n : Nat) (x : Str) (ks : List Keyword) : Bool := match C.calls[i]? with
  | some (y, ps) => y == x && ps.length == n && kwOk ks ps
  | none => false
def kwP (C : Ct) (i n : Nat) (o : List Nat) (x : Str) (ks : List Keyword) : Bool := match C.calls[i]? with
  | some (y, ps) => y == x && ps.length == n && (ords ps.length).contains o && kwOk ks (kwN ps o)
  | none => false
mutual
def cv (C : Ct) : E → Sc → Expr → Bool
  | .var i, sc, xx => match xx with
    | .Name x _ => atC C.N i x && visC sc.sc x && !(x == ("__debug__" : Str)) && !(x == ("__classdict__" : Str))
    | _ => false
  | .cst d, _sc, xx => match xx with
    | .Constant c _ _ => cstC d c
    | _ => false
  | .glo y d, sc, xx => match xx with
    | .Name x _ => y == x && gloC sc.sc x && C.cons.any fun p => p.1 == x && eqD p.2 d
    | _ => false
  | .tyn t, sc, xx => match xx with
    | .Name x _ => t.name == x && bltC C sc x
    | _ => false
  | .op o a b, sc, xx => match xx with
    | .BinOp l op r _ => decide (o.op = op) && cv C a sc l && cv C b sc r
    | _ => false
  | .cmp o a b, sc, xx => match xx with
    | .Compare l [op] [r] _ => decide (o.op = op) && nSet r && cv C a sc l && cv C b sc r
    | _ => false
  | .chn o o' a b c, sc, xx => match xx with
    | .Compare l [op, op'] [m, r] _ => decide (o.op = op) && decide (o'.op = op') && nSet r && cv C a sc l && cv C b sc m && cv C c sc r
    | _ => false
  | .neg a, sc, xx => match xx with
    | .UnaryOp .USub x _ => cv C a sc x
    | _ => false
  | .not a, sc, xx => match xx with
    | .UnaryOp .Not x _ => cv C a sc x
    | _ => false
  | .and a b, sc, xx => match xx with
    | .BoolOp .And (x :: y :: rest) p => cv C a sc x && (match rest with
        | [] => cv C b sc y
        | _ => cv C b sc (.BoolOp .And (y :: rest) p))
    | _ => false
  | .or a b, sc, xx => match xx with
    | .BoolOp .Or (x :: y :: rest) p => cv C a sc x && (match rest with
        | [] => cv C b sc y
        | _ => cv C b sc (.BoolOp .Or (y :: rest) p))
    | _ => false
  | .ife c a b, sc, xx => match xx with
    | .IfExp t x y _ => cvB C c sc t && cv C a sc x && cv C b sc y
    | _ => false
  | .ix a b, sc, xx => match xx with
    | .Subscript x y _ => okIx y && cv C a sc x && cv C b sc y
    | _ => false
  | .sst a, sc, xx => match xx with
    | .Call (.Name x _) [.Call (.Name y _) [e] [] _] [] _ => x == ("sorted" : Str) && bltC C sc x && y == ("set" : Str) && bltC C sc y && nStar e && cv C a sc e
    | _ => false
  | .stp a lo k, sc, xx => match xx with
    | .Subscript x (.Slice (some l) none (some j) _) _ => cv C a sc x && cv C lo sc l && cv C k sc j
    | _ => false
  | .st0 a k, sc, xx => match xx with
    | .Subscript x (.Slice none none (some j) _) _ => cv C a sc x && cv C k sc j
    | _ => false
  | .dsp kvs, _sc, xx => match xx with
    | .Dict keys values _ => dspC kvs keys values && decide (kvs.length ≤ 15)
    | _ => false
  | .lzp l, sc, xx => match xx with
    | .Call (.Name x _) [.Call (.Name y _) [e, e'] [] _] [] _ => x == ("list" : Str) && bltC C sc x && y == ("zip" : Str) && bltC C sc y && noStars [e, e'] && cvL C l sc [e, e']
    | _ => false
  | .rv a, sc, xx => match xx with
    | .Subscript x (.Slice none none (some (.UnaryOp .USub (.Constant (.int i) _ _) _)) _) _ => decide (i = 1) && cv C a sc x
    | _ => false
  | .sl0 a, sc, xx => match xx with
    | .Subscript x (.Slice none none none _) _ => cv C a sc x
    | _ => false
  | .sl1 a lo, sc, xx => match xx with
    | .Subscript x (.Slice (some l) none none _) _ => cv C a sc x && cv C lo sc l
    | _ => false
  | .sl2 a hi, sc, xx => match xx with
    | .Subscript x (.Slice none (some h) none _) _ => cv C a sc x && cv C hi sc h
    | _ => false
  | .sl3 a lo hi, sc, xx => match xx with
    | .Subscript x (.Slice (some l) (some h) none _) _ => cv C a sc x && cv C lo sc l && cv C hi sc h
    | _ => false
  | .tup l, sc, xx => match xx with
    | .Tuple es _ _ => cvL C l sc es
    | _ => false
  | .lst l, sc, xx => match xx with
    | .List es _ => cvL C l sc es
    | _ => false
  | .cel l, sc, xx => match xx with
    | .List es _ => cvL C l sc es
    | _ => false
  | .bf f l, sc, xx => match xx with
    | .Call (.Name x _) (e :: es) [] _ => f.name == x && bltC C sc x && noStars (e :: es) && cvL C l sc (e :: es)
    | _ => false
  | .bt f l, sc, xx => match xx with
    | .Call (.Name x _) (e :: es) [] _ => f.name == x && bltC C sc x && noStars (e :: es) && cvL C l sc (e :: es)
    | _ => false
  | .ms m a l, sc, xx => match xx with
    | .Call (.Attribute o n ap) (e :: es) [] cp => m.name == n && okBase o && (ap.endLine == cp.line) && noStars (e :: es) && decide (es.length < 29) && cv C a sc o && cvL C l sc (e :: es)
    | _ => false
  | .ml m a l, sc, xx => match xx with
    | .Call (.Attribute o n ap) (e :: es) [] cp => m.name == n && okBase o && (ap.endLine == cp.line) && noStars (e :: es) && decide (es.length < 29) && cv C a sc o && cvL C l sc (e :: es)
    | _ => false
  | .fn i n l, sc, xx => match xx with
    | .Call (.Name x _) es [] _ => callC C i n x && gloC sc.sc x && noStars es && cvL C l sc es
    | _ => false
  | .fp i n o l, sc, xx => match xx with
    | .Call (.Name x _) [] (k :: ks) _ => kwP C i n o x (k :: ks) && gloC sc.sc x && noStars (kwV (k :: ks)) && cvL C l sc (kwV (k :: ks))
    | _ => false
  | .fk i n l, sc, xx => match xx with
    | .Call (.Name x _) [] (k :: ks) _ => kwC C i n x (k :: ks) && gloC sc.sc x && noStars (kwV (k :: ks)) && cvL C l sc (kwV (k :: ks))
    | _ => false
  | .lc _ k ia t vs c e, sc, xx => match xx with
    | .ListComp elt [⟨tg, iter, ifs, a⟩] scope _ => decide (a = 0) && blkC C.N sc.sc scope (ownC C vs) && okFs iter && (if k.plain = true then cvL C ia sc [iter] && nStar iter else isC C sc k iter && noStars (args0 iter) && decide ((args0 iter).length = k.num) && cvL C ia sc (args0 iter) && (!k.two || isTu tg)) &&
          cvT C ⟨relS scope sc.sc, scope⟩ t tg && (t.sl.all fun i => vs.contains i) && cv C e ⟨relS scope sc.sc, scope⟩ elt && (match ifs with
            | [] => (match c with | .yes => true | _ => false)
            | [x] => cvB C c ⟨relS scope sc.sc, scope⟩ x
            | _ => false)
    | _ => false
  | .lcl a, sc, xx => match xx with
    | .Call (.Name x _) [e] [] _ => x == ("list" : Str) && bltC C sc x && nStar e && cv C a sc e
    | _ => false
  | .dcp a, sc, xx => match xx with
    | .Call (.Name x _) [e] [] _ => x == ("dict" : Str) && bltC C sc x && nStar e && cv C a sc e
    | _ => false
  | .md m a l, sc, xx => match xx with
    | .Call (.Attribute o n ap) (e :: es) [] cp => m.name == n && okBase o && (ap.endLine == cp.line) && noStars (e :: es) && decide (es.length < 29) && cv C a sc o && cvL C l sc (e :: es)
    | _ => false
  | .lr1 a, sc, xx => match xx with
    | .Call (.Name x _) [.Call (.Name y _) [e] [] _] [] _ => x == ("list" : Str) && bltC C sc x && y == ("range" : Str) && bltC C sc y && nStar e && cv C a sc e
    | _ => false
  | .lr2 a b, sc, xx => match xx with
    | .Call (.Name x _) [.Call (.Name y _) [e, e'] [] _] [] _ => x == ("list" : Str) && bltC C sc x && y == ("range" : Str) && bltC C sc y && nStar e && nStar e' && cv C a sc e && cv C b sc e'
    | _ => false
def cvB (C : Ct) : B → Sc → Expr → Bool
  | .yes, _, _ => false
  | .tru e, sc, x => cv C e sc x && (okTe x || isCmp x)
  | .not a, sc, xx => match xx with
    | .UnaryOp .Not x _ => cvB C a sc x
    | _ => false
  | .and a b, sc, xx => match xx with
    | .BoolOp .And (x :: y :: rest) p => cvB C a sc x && (match rest with
        | [] => cvB C b sc y
        | _ => cvB C b sc (.BoolOp .And (y :: rest) p))
    | _ => false
  | .or a b, sc, xx => match xx with
    | .BoolOp .Or (x :: y :: rest) p => cvB C a sc x && (match rest with
        | [] => cvB C b sc y
        | _ => cvB C b sc (.BoolOp .Or (y :: rest) p))
    | _ => false
def cvL (C : Ct) : EL → Sc → List Expr → Bool
  | .nil, _, xx => match xx with
    | [] => true
    | _ => false
  | .cons a l, sc, xx => match xx with
    | x :: xs => nStar x && cv C a sc x && cvL C l sc xs
    | _ => false
  | .star a l, sc, xx => match xx with
    | .Starred x _ :: xs => cv C a sc x && cvL C l sc xs
    | _ => false
end
/-! ### statements -/
def swC (sc : Scope) (y : Str) (py : Pos) (l : Pos) (scope : Scope) : Bool := (match sc.kind with | .function => true | _ => false) && isK (sc.names.lookup y) .local && (py.line == l.line) && !(scope.names.any fun p => p.1 == y && (p.2 == .local || p.2 == .cell))
def isLc : Expr → Bool
  | .ListComp _ _ _ _ => true
  | _ => false
/-- a tuple of constants to several names -/
def foldT : Expr → Expr → Bool
  | .Tuple _ _ _, .Tuple vs _ _ => vs.all (foldedForSure 8)
  | _, _ => false
/-- name = [..] with the stores exchanged -/
def lcN (sc : Sc) : Tg → Expr → Expr → Bool
  | .nm _, .Name y py, .ListComp _ _ scope lp => swC sc.sc y py lp scope
  | _, _, _ => false
def isFrz : S → Bool
  | .frz _ => true
  | _ => false
mutual
def cvS (C : Ct) : S → Sc → Stmt → Bool
  | .asg t e, sc, xx => match xx with
    | .Assign [tg] x p => cvT C sc t tg && cv C e sc x && nStar tg && ((okSw x || isTu tg) && (okTu tg || okTv x || foldT tg x) || lcN sc t tg x)
    | _ => false
  | .par is l, sc, xx => match is, xx with
    | [i, j], .Assign [.Tuple [.Name x px, .Name y py] _ _] (.Tuple [a, b] _ _) _ => atC C.N i x && atC C.N j y && decide (i ≠ j) && isK (sc.sc.names.lookup x) .local && isK (sc.sc.names.lookup y) .local && (px.line == py.line) && noStars [a, b] && !([a, b].all (foldedForSure 8)) && !([a, b].all (constantsAlone 8)) && !(x == y) && cvL C l sc [a, b]
    | [i, j, k], .Assign [.Tuple [.Name x px, .Name y py, .Name z pz] _ _] (.Tuple [a, b, c] _ _) _ => atC C.N i x && atC C.N j y && atC C.N k z && decide (i ≠ j) && decide (i ≠ k) && decide (j ≠ k) && isK (sc.sc.names.lookup x) .local && isK (sc.sc.names.lookup y) .local && isK (sc.sc.names.lookup z) .local && (px.line == py.line) && (px.line == pz.line) && noStars [a, b, c] && !([a, b, c].all (foldedForSure 8)) && !([a, b, c].all (constantsAlone 8)) && !(x == y) && !(x == z) && !(y == z) && cvL C l sc [a, b, c]
    | _, _ => false
  | .set o i e, sc, xx => match xx with
    | .Assign [.Subscript x y _] z p => okIx y && okSw z && cv C o sc x && cv C i sc y && cv C e sc z
    | _ => false
  | .ex e, sc, xx => match xx with
    | .Expr x _ => okSw x && cv C e sc x
    | _ => false
  | .doc, _sc, xx => match xx with
    | .Expr (.Constant (.str _) _ _) _ => true
    | _ => false
  | .ife c a b, sc, xx => match xx with
    | .If t x y _ => cvB C c sc t && cvSL C a sc x && cvSL C b sc y
    | _ => false
  | .whl _ c b, sc, xx => match xx with
    | .While t x [] _ => cvB C c sc t && cvSL C b sc x
    | _ => false
  | .for k ia t b, sc, xx => match xx with
    | .For tg iter body [] _ => okFs iter && (if k.plain = true then cvL C ia sc [iter] && nStar iter else isC C sc k iter && noStars (args0 iter) && decide ((args0 iter).length = k.num) && cvL C ia sc (args0 iter) && (!k.two || isTu tg)) && cvT C sc t tg && cvSL C b sc body
    | _ => false
  | .ret e, sc, xx => match xx with
    | .Return (some x) _ => cv C e sc x
    | _ => false
  | .retn, _sc, xx => match xx with
    | .Return none _ => true
    | _ => false
  | .brk, _sc, xx => match xx with
    | .Break _ => true
    | _ => false
  | .cnt, _sc, xx => match xx with
    | .Continue _ => true
    | _ => false
  | .pas, _sc, xx => match xx with
    | .Pass _ => true
    | _ => false
  | .frz _, _, _ => false
  | .nev, _, _ => true
def cvSL (C : Ct) : SL → Sc → List Stmt → Bool
  | .nil, _, xx => match xx with
    | [] => true
    | _ => false
  | .cons s l, sc, xx => if isFrz s = true then cvSL C l sc xx else match xx with
    | x :: xs => cvS C s sc x && cvSL C l sc xs
    | _ => false
end
end Wn
end

section
set_option Elab.async false
set_option linter.all false
set_option maxRecDepth 100000
set_option maxHeartbeats 400000
namespace Wn
open PySem PySem.Spec PyProof.Rows L2

/-! ### the remaining rules -/
section
variable {X : Cx} {Z : ZS} {e a b : Expr} {es : List Expr} {fa fb : Fe} {fl : Fl} {p p2 pos : Pos}
theorem r_neg (ha : PE X a (tM X.K Z fa)) : PE X (.UnaryOp .USub a pos) (tM X.K Z (eNeg fa)) :=
  PE.cons (pe_un un_neg ha) fun σ H Q ⟨δ, r, M, E, S, h⟩ => ⟨δ, r, M, E, S, (Aft.bind S h).imp fun v H1 ⟨d1, M1, r1, e1, x1, S1, q1, w⟩ => by
    cases d1 with
    | int i => cases q1; exact ⟨i, rfl, Aft.ret (d := .int (-i)) S1 rfl w⟩
    | _ => exact w.elim⟩
theorem itAny_rep {K : PySem.W.Frag} {H : Hp} {r : List Addr} {M M1 : Mem} {d : D} {ds : List D} {v : V} (S : Sim K H r M) (h : Rep K H r d v) (e : itAny d M = .ok ds M1) : M1 = M ∧ ∃ a vs, v = .ref a ∧ (SqT K H a vs ∨ SqL K H a vs) ∧ Reps K H r ds vs := by
  have lst : ∀ d, Rep K H r d v → (match lstOf M d with | some ds => Res.ok ds M | none => .bad) = .ok ds M1 → M1 = M ∧ ∃ a vs, v = .ref a ∧ (SqT K H a vs ∨ SqL K H a vs) ∧ Reps K H r ds vs := fun d h e => by
    cases f : lstOf M d with
    | none => rw [f] at e; cases e
    | some es =>
      rw [f] at e
      cases e
      obtain ⟨a, vs, e1, h1, h2⟩ := lstOf_rep S h f
      exact ⟨rfl, a, vs, e1, .inr h1, h2⟩
  cases d with
  | tup es => cases e; obtain ⟨a, vs, e1, h1, h2⟩ := h; exact ⟨rfl, a, vs, e1, .inl h1, h2⟩
  | _ => exact lst _ h e
theorem l_star (he : PE X e (tM X.K Z fa)) (hr : PA X es (tL X.K Z fl)) : PA X (.Starred e p :: es) (tL X.K Z (lStar fa fl)) :=
  PA.cons (StX.pa_star he hr rfl) fun σ H Q ⟨δ, r, M, E, S, h⟩ => ⟨δ, r, M, E, S, (AftL.bind S h).imp fun v H1 ⟨d1, M1, r1, e1, x1, S1, q1, w⟩ => by
    replace w : AftL X.K (Z σ) H1 r1 M1 (bnd (itAny d1) (fun xs => bnd (fl δ) fun ys => ret (xs ++ ys)) M1) Q := w
    unfold bnd at w
    cases f : itAny d1 M1 with
    | bad => simp only [f] at w; exact w.elim
    | err x M2 =>
      cases d1 with
      | tup _ => cases f
      | _ =>
        simp only [itAny] at f
        split at f <;> cases f
    | ok ds M2 =>
      obtain ⟨rfl, a, vs, rfl, h1, h2⟩ := itAny_rep S1 q1 f
      simp only [f] at w
      refine ⟨a, vs, rfl, h1, δ, r1, M2, E.ext S x1, S1, (AftL.bindL (k := fun ys => ret (ds ++ ys)) S1 w).imp fun ws H3 ⟨d3, M3, r3, e3, x3, S3, q3, w3⟩ => ?_⟩
      exact AftL.ret S3 ((h2.ext S1 x3).append q3) w3⟩
theorem reps_rg {K : PySem.W.Frag} {H : Hp} {r : List Addr} (i j : Int) : Reps K H r (rng i (j - i).toNat) (rgV i j) := by
  unfold rng rgV
  generalize List.range (j - i).toNat = l
  induction l with
  | nil => rfl
  | cons n l ih => exact ⟨_, _, rfl, rfl, ih⟩
theorem lr_fin {K : PySem.W.Frag} {Z : ZK} {H : Hp} {r : List Addr} {M : Mem} {i j : Int} {Q : VK} (S : Sim K H r M) (w : Aft K Z H r M (gLr (.int i) (.int j) M) Q) : RgOk i j ∧ ∀ q, H q = none → QFz Q (.ref q) (upd H q (.lst (rgV i j))) := by
  replace w : Aft K Z H r M (if i.natAbs < 2 ^ 62 ∧ j.natAbs < 2 ^ 62 ∧ (j - i).toNat ≤ 2 ^ 24 then .ok (.lst (rng i (j - i).toNat)) M else .bad) Q := w
  by_cases hc : i.natAbs < 2 ^ 62 ∧ j.natAbs < 2 ^ 62 ∧ (j - i).toNat ≤ 2 ^ 24
  · rw [if_pos hc] at w
    exact ⟨⟨by omega, by omega, by omega, by omega, hc.2.2⟩, fun q hq => ⟨q, _, rfl, upd_same, fun o => by rw [upd_upd]; exact Aft.fzl S hq (reps_rg i j) w⟩⟩
  · rw [if_neg hc] at w; exact w.elim
theorem gLr_int {d e : D} {M : Mem} {K : PySem.W.Frag} {Z : ZK} {H : Hp} {r : List Addr} {Q : VK} (w : Aft K Z H r M (gLr d e M) Q) : ∃ i j, d = .int i ∧ e = .int j := by
  unfold gLr at w
  split at w
  · exact ⟨_, _, rfl, rfl⟩
  · exact w.elim
variable {pc pr : Pos}
theorem r_lrg1 (hc : X.calm = true) (hg : Gl X "list") (hm : X.mg "list" = none) (hg2 : Gl X "range") (hm2 : X.mg "range" = none) (ha : PE X a (tM X.K Z fa)) (na : nStar a = true) : PE X (.Call (.Name "list" p) [.Call (.Name "range" p2) [a] [] pr] [] pc) (tM X.K Z (eLr1 fa)) := by
  refine ⟨fun pins s σ H Q I ⟨δ, r, M, E, S, h⟩ => thn ((pe_listRg hc hg hm (prg_1 hg2 hm2 ha (star_of na)) rfl).run pins s σ H (QFz Q) I ⟨δ, r, M, E, S, (Aft.bind S h).imp fun v H1 ⟨d1, M1, r1, e1, x1, S1, q1, w⟩ => ?_⟩) fun u s' q => EP.freeze q⟩
  obtain ⟨i, j, e2, e3⟩ := gLr_int w
  subst e3
  cases q1
  exact ⟨j, rfl, lr_fin S1 w⟩
theorem r_lrg2 (hc : X.calm = true) (hg : Gl X "list") (hm : X.mg "list" = none) (hg2 : Gl X "range") (hm2 : X.mg "range" = none) (ha : PE X a (tM X.K Z fa)) (hb : PE X b (tM X.K Z fb)) (na : nStar a = true) (nb : nStar b = true) : PE X (.Call (.Name "list" p) [.Call (.Name "range" p2) [a, b] [] pr] [] pc) (tM X.K Z (eLr2 fa fb)) := by
  refine ⟨fun pins s σ H Q I ⟨δ, r, M, E, S, h⟩ => thn ((pe_listRg hc hg hm (prg_2 hg2 hm2 ha hb (star_of na) (star_of nb) (back_plain (show (nStar b && true) = true by rw [nb]; rfl))) rfl).run pins s σ H (QFz Q) I ⟨δ, r, M, E, S, (Aft.bind S h).imp fun v H1 ⟨d1, M1, r1, e1, x1, S1, q1, w⟩ =>
    ⟨δ, r1, M1, E.ext S x1, S1, (Aft.bind S1 w).imp fun u H2 ⟨d2, M2, r2, e2, x2, S2, q2, w2⟩ => ?_⟩⟩) fun u s' q => EP.freeze q⟩
  obtain ⟨i, j, e3, e4⟩ := gLr_int w2
  subst e3 e4
  cases q1
  cases q2
  exact ⟨i, j, rfl, rfl, lr_fin S2 w2⟩
end

section
variable {X : Cx} {Z : ZS}
/-- list(x) makes a new list -/
theorem new_list (hc : X.calm = true) {pins : List (Addr × Obj)} {s : Shared} {σ : St} {H : Hp} {r : List Addr} {M : Mem} {x : D} {v : V} {u : Value} {es : List D} (I : Inv X pins σ H s) (rx : RelV v u) (S : Sim X.K H r M) (qv : Rep X.K H r x v) (e : fList M x = some (.lst es)) :
    wpAny (model X.prog X.w) X.A (call (.type "list") [u]) (EP X pins σ fun w H1 => ∃ p vs, w = .ref p ∧ H p = none ∧ H1 = upd H p (.lst vs) ∧ Reps X.K H r es vs) X.xe s := by
  have lst : ∀ {fs : List D}, lstOf M x = some fs → fs = es → wpAny (model X.prog X.w) X.A (call (.type "list") [u]) (EP X pins σ fun w H1 => ∃ p vs, w = .ref p ∧ H p = none ∧ H1 = upd H p (.lst vs) ∧ Reps X.K H r es vs) X.xe s := by
    intro fs e1 e2
    subst e2
    obtain ⟨a, vs, rfl, h1, h2⟩ := lstOf_rep S qv e1
    exact call_list_of pins s σ H _ [u] _ I (.cons rx .nil) ⟨a, vs, rfl, .inl h1, fun p hp => ⟨p, vs, rfl, hp, rfl, h2⟩⟩
  cases x with
  | tup fs =>
    cases e
    obtain ⟨a, vs, rfl, h1, h2⟩ := qv
    exact call_list_of pins s σ H _ [u] _ I (.cons rx .nil) ⟨a, vs, rfl, .inr h1, fun p hp => ⟨p, vs, rfl, hp, rfl, h2⟩⟩
  | str z =>
    cases qv
    obtain ⟨c, e2⟩ := of_ite (show (if z.length ≤ sizeLine then some (D.lst (sgn z)) else none) = some (.lst es) from e)
    cases e2
    obtain ⟨t, rfl⟩ := rx
    refine call_list_str (I.ok.hd hc) z t (fun h' tk acc' c' k hS hacc => ?_) c
    have hv := vals_signs z acc' hacc
    refine ⟨.ref s.heap.objs.size, _, I.laid (o := .lst (z.cps.toList.map fun c => V.str ⟨#[c]⟩)) (a := s.heap.objs.size) (t' := tk) k (Nat.le_refl _) ⟨by rw [List.length_map, Array.length_toList]; exact c, acc'.toList, c', hv, ?_⟩, rfl, _, _, rfl, I.fresh, rfl, ?_⟩
    · rw [hS]
    · have go : ∀ l : List Nat, Reps X.K H r (l.map fun c => D.str ⟨#[c]⟩) (l.map fun c => V.str ⟨#[c]⟩) := by
        intro l
        induction l with
        | nil => rfl
        | cons c l ih => exact ⟨_, _, rfl, rfl, ih⟩
      exact go _
  | lst fs => exact lst rfl (D.lst.inj (Option.some.inj e))
  | scr fs => exact lst rfl (D.lst.inj (Option.some.inj e))
  | ref n =>
    obtain ⟨fs, e1, e2⟩ := Option.map_eq_some_iff.mp (show (lstOf M (.ref n)).map D.lst = some (.lst es) from e)
    exact lst e1 (D.lst.inj e2)
  | _ => cases e
theorem r_lcl {a : Expr} {fa : Fe} {p pos : Pos} (hc : X.calm = true) (hg : Gl X "list") (hm : X.mg "list" = none) (ha : PE X a (tM X.K Z fa)) (na : nStar a = true) : PE X (.Call (.Name "list" p) [a] [] pos) (tM X.K Z (eLcl fa)) := by
  refine ⟨fun pins s σ H Q I ⟨δ, r, M, E, S, h⟩ => ?_⟩
  refine wpAny_Call_Name_kw (ld_blt I hg hm boot_list ?_)
  have hp : PA X [a] (tL X.K Z (lCons fa lNil)) := l_cons ha l_nil (star_of na)
  refine PyProof.Rows.callWith_type1 (thn (hp.run pos pins s σ H _ I ⟨δ, r, M, E, S, Aft.bindL S h⟩) fun us s1 ⟨vs, H1, I1, rv, ds, M1, r1, e2, X1, S1, q1, w⟩ => ?_) (star_of na) rfl
  unfold gLcl at w
  split at w
  · rename_i d1
    obtain ⟨v, _, rfl, qv, hn⟩ := q1
    cases hn
    obtain ⟨u, rfl, ru⟩ := Vals.one rv
    split at w
    · rename_i es f
      refine thn (new_list hc I1 ru S1 qv f) fun u' s2 ⟨x, H2, I2, rx, p', vs, e3, hp, e4, q2⟩ => ⟨x, H2, I2, rx, ?_⟩
      subst e3 e4
      exact Aft.cel S1 hp q2 w
    · exact w.elim
  · exact w.elim
end

/-! ### a context fits -/
/-- a constant of the module -/
def GloR (X : Cx) (x : Str) (d : D) : Prop := ∃ u v, X.mg x = some u ∧ RelV v u ∧ ∀ H r, Rep X.K H r d v
structure At (er : ER) (C : Ct) (us : List Fun) (sc : Sc) (X : Cx) (Z : ZS) : Prop where
  N : X.N = C.N
  nd : C.N.Nodup
  scp : X.env.scope = sc.sc
  gd : Gd X
  st : ∀ x, locC sc.ow x = true → Loc sc.sc x ∧ (X.fn x = true ∨ sc.sc.names.lookup x = some .local)
  con : ∀ p ∈ C.cons, GloR X p.1 p.2
  blt : ∀ x, C.blts.contains x = true → X.mg x = none
  cal : ∀ i x ps, C.calls[i]? = some (x, ps) → Cal er X x ps (us.getD i fun _ _ => .bad)
  tk : Takes X (WZ er X.K Z)
theorem loc_of {sc : Scope} {x : Str} (h : locC sc x = true) : Loc sc x := by
  unfold locC at h
  rw [Bool.or_eq_true] at h
  rcases h with h | h
  · exact .inl (isK_eq h)
  · exact .inr (isK_eq h)
theorem At.blk {er : ER} {C : Ct} {us : List Fun} {sc : Sc} {X : Cx} {Z : ZS} {scope : Scope} (a : At er C us sc X Z) (s : Shared) (H : Hp) (Ca : Addr) (cl : List (Str × Addr)) (fp : List Addr) :
    At er C us ⟨relS scope sc.sc, scope⟩ (X.blk s H scope (compEnvC scope cl Ca X.env) fp) (fun _ _ _ _ _ => False) := by
  refine ⟨a.N, a.nd, by show relS scope X.env.scope = _; rw [a.scp], ⟨a.gd.calm, a.gd.un, a.gd.gua⟩, fun x h => ?_, a.con, a.blt, fun i x ps h => ⟨(a.cal i x ps h).ex⟩, fun u s' ⟨_, _, _, _, _, _, _, _, _, _, _, _, _, _, _, _, w⟩ => ?_⟩
  · unfold locC at h
    rw [Bool.or_eq_true] at h
    rcases h with h | h
    · have z := lookup_relS_keep (sc := sc.sc) (k := .local) (by decide) (isK_eq h)
      exact ⟨.inl z, .inr z⟩
    · have z := lookup_relS_keep (sc := sc.sc) (k := .cell) (by decide) (isK_eq h)
      exact ⟨.inr z, .inl (by show (scope.names.lookup x == some NameKind.cell) = true; rw [isK_eq h]; rfl)⟩
  · obtain ⟨_, _, _, _, _, z⟩ := w
    exact z
section
variable {er : ER} {C : Ct} {us : List Fun} {sc : Sc} {X : Cx} {Z : ZS}
theorem At.gl (a : At er C us sc X Z) {x : Str} (h : gloC sc.sc x = true) : Gl X x ∧ (x == ("__debug__" : Str)) = false := by
  obtain ⟨h1, h2⟩ := Bool.and_eq_true_iff.mp h
  refine ⟨?_, by simpa using h2⟩
  show X.env.scope.names.lookup x = _
  rw [a.scp]
  exact isK_eq h1
theorem At.bl (a : At er C us sc X Z) {x : Str} (h : bltC C sc x = true) : Gl X x ∧ X.mg x = none := by
  obtain ⟨h1, h2⟩ := Bool.and_eq_true_iff.mp h
  exact ⟨(a.gl h2).1, a.blt x h1⟩
mutual
theorem sndT (a : At er C us sc X Z) : ∀ {t : Tg} {e : Expr}, cvT C sc t e = true → PG X e (tG X.K t)
  | .nm i, .Name x p, h => by
    obtain ⟨h1, h2⟩ := Bool.and_eq_true_iff.mp (show (atC C.N i x && locC sc.ow x) = true from h)
    obtain ⟨h3, h4⟩ := a.st x h2
    exact g_name (by rw [a.N]; exact a.nd) (by rw [a.N]; exact at_of h1) (by rw [a.scp]; exact h3) (by rw [a.scp]; exact h4)
  | .tp l, .Tuple es k p, h => by
    obtain ⟨h1, h2⟩ := Bool.and_eq_true_iff.mp (show (noStars es && cvTs C sc l es) = true from h)
    obtain ⟨h3, h4⟩ := ae_len (env := X.env) h1
    exact g_tup a.gd.calm (sndTs a h1 h2) (by rw [h3]; exact cvTs_len h2) h4
theorem sndTs (a : At er C us sc X Z) : ∀ {l : TgL} {es : List Expr}, noStars es = true → cvTs C sc l es = true → PGs X es (tGs X.K l)
  | .nil, [], _, _ => g_nil
  | .cons t l, e :: es, hn, h => by
    obtain ⟨h1, h2⟩ := Bool.and_eq_true_iff.mp (show (cvT C sc t e && cvTs C sc l es) = true from h)
    obtain ⟨n1, n2⟩ := Bool.and_eq_true_iff.mp hn
    exact g_cons (sndT a h1) (sndTs a n2 h2) (ae_of n1)
theorem cvTs_len : ∀ {l : TgL} {es : List Expr}, cvTs C sc l es = true → es.length = l.len
  | .nil, [], _ => rfl
  | .cons t l, e :: es, h => by
    obtain ⟨_, h2⟩ := Bool.and_eq_true_iff.mp (show (cvT C sc t e && cvTs C sc l es) = true from h)
    simp [TgL.len, cvTs_len h2]
end
end
end Wn
end

section
set_option Elab.async false
set_option linter.all false
set_option maxRecDepth 100000
set_option maxHeartbeats 800000
namespace Wn
open PySem PySem.Spec PyProof.Rows L2
section
variable {er : ER} {C : Ct} {us : List Fun}
theorem At.callee {sc : Sc} {X : Cx} {Z : ZS} (a : At er C us sc X Z) {i n : Nat} {x : Str} (h : callC C i n x = true) : ∃ ps, ps.length = n ∧ Cal er X x ps (us.getD i fun _ _ => .bad) := by
  unfold callC at h
  split at h
  · rename_i y ps e
    simp only [Bool.and_eq_true, beq_iff_eq] at h
    obtain ⟨rfl, h2⟩ := h
    exact ⟨ps, h2, a.cal i _ ps e⟩
  · cases h
theorem At.calleeK {sc : Sc} {X : Cx} {Z : ZS} (a : At er C us sc X Z) {i n : Nat} {x : Str} {ks : List Keyword} (h : kwC C i n x ks = true) : ∃ ps, ps.length = n ∧ kwOk ks ps = true ∧ Cal er X x ps (us.getD i fun _ _ => .bad) := by
  unfold kwC at h
  split at h
  · rename_i y ps e
    simp only [Bool.and_eq_true, beq_iff_eq] at h
    obtain ⟨⟨rfl, h2⟩, h3⟩ := h
    exact ⟨ps, h2, h3, a.cal i _ ps e⟩
  · cases h
theorem At.calleeP {sc : Sc} {X : Cx} {Z : ZS} (a : At er C us sc X Z) {i n : Nat} {o : List Nat} {x : Str} {ks : List Keyword} (h : kwP C i n o x ks = true) : ∃ ps, ps.length = n ∧ o ∈ ords ps.length ∧ kwOk ks (kwN ps o) = true ∧ Cal er X x ps (us.getD i fun _ _ => .bad) := by
  unfold kwP at h
  split at h
  · rename_i y ps e
    simp only [Bool.and_eq_true, beq_iff_eq, List.contains_iff_mem] at h
    obtain ⟨⟨⟨rfl, h2⟩, h3⟩, h4⟩ := h
    exact ⟨ps, h2, h3, h4, a.cal i _ ps e⟩
  · cases h
theorem PE.eqv {X : Cx} {e : Expr} {Z : ZS} {f g : Fe} (h : PE X e (tM X.K Z f)) (k : ∀ δ M, g δ M = f δ M) : PE X e (tM X.K Z g) := by
  have : g = f := by funext δ M; exact k δ M
  rw [this]; exact h
theorem cst_r {X : Cx} {Z : ZS} {d : D} {c : Const} {k : Nat} {p : Pos} (h : cstC d c = true) : PE X (.Constant c k p) (tM X.K Z (eCst d)) := by
  unfold cstC at h
  split at h
  · exact r_non
  · rw [eq_of_beq h]; exact r_bl
  · rw [eq_of_beq h]; exact r_int
  · rw [eq_of_beq h]; exact r_str
  · cases h
theorem dsp_pps {X : Cx} {pos : Pos} : ∀ {kvs : List (Str × D)} {keys : List (Option Expr)} {values : List Expr}, dspC kvs keys values = true →
    ∃ trs, PPs X pos keys values trs ∧ (∀ σ H Q, Q (kvs.map fun kv => (V.str kv.1, atV kv.2)) H → tPairs trs σ H Q) ∧ keys.all (·.isSome) = true ∧ keys.length = kvs.length ∧ values.length = kvs.length ∧ (kvs.all fun kv => atom kv.2) = true
  | [], [], [], _ => ⟨[], pps_nil, fun σ H Q h => h, rfl, rfl, rfl, rfl⟩
  | (k, d) :: l, some (.Constant (.str x) j1 p1) :: ks, .Constant c j2 p2 :: vs, h => by
    replace h : (k == x && atom d && cstC d c && dspC l ks vs) = true := h
    rw [Bool.and_eq_true, Bool.and_eq_true, Bool.and_eq_true] at h
    obtain ⟨⟨⟨h1, h2⟩, h3⟩, h4⟩ := h
    obtain rfl := eq_of_beq h1
    obtain ⟨trs, g1, g2, g3, g4, g5, g6⟩ := dsp_pps (X := X) (pos := pos) h4
    have hc : PE X (.Constant c j2 p2) (tC (atV d)) := by
      unfold cstC at h3
      split at h3
      · exact pe_non
      · rw [← eq_of_beq h3]; exact pe_bl
      · rw [← eq_of_beq h3]; exact pe_int
      · rw [← eq_of_beq h3]; exact pe_str
      · cases h3
    refine ⟨(tC (.str k), tC (atV d)) :: trs, pps_cons pe_str hc g1, fun σ H Q q => ?_, ?_, by rw [List.length_cons, List.length_cons, g4], by rw [List.length_cons, List.length_cons, g5], ?_⟩
    · exact g2 σ H _ q
    · show (true && ks.all (·.isSome)) = true
      rw [g3]; rfl
    · show (atom d && l.all fun kv => atom kv.2) = true
      rw [h2, g6]; rfl
/-- a thing that is walked as it stands: its items -/
theorem i_one {X : Cx} {Z : ZS} {tg e : Expr} {fa : Fe} {k : D → Mem → Res (List D)} (h : PI X tg e (tI X.K Z (iSeq k fa))) : PI X tg e (tI X.K Z (fun δ => bnd (lCons fa lNil δ) fun ds M => match ds with | [d] => k d M | _ => .bad)) := by
  have : (fun δ => bnd (lCons fa lNil δ) fun ds M => match ds with | [d] => k d M | _ => .bad) = iSeq k fa := by
    funext δ M
    unfold iSeq lCons lNil bnd ret
    cases fa δ M <;> rfl
  rw [this]; exact h
theorem len1 {es : List Expr} (h : es.length = 1) : ∃ x, es = [x] := by
  match es, h with
  | [x], _ => exact ⟨x, rfl⟩
theorem len2 {es : List Expr} (h : es.length = 2) : ∃ x y, es = [x, y] := by
  match es, h with
  | [x, y], _ => exact ⟨x, y, rfl⟩
theorem len3 {es : List Expr} (h : es.length = 3) : ∃ x y z, es = [x, y, z] := by
  match es, h with
  | [x, y, z], _ => exact ⟨x, y, z, rfl⟩
/-- what is walked, by its kind -/
theorem snd_iter {sc : Sc} {X : Cx} {Z : ZS} (a : At er C us sc X Z) {k : ItK} {ia : EL} {tg iter : Expr} (hk : k.plain = false) (h : isC C sc k iter = true) (hn : noStars (args0 iter) = true) (hl : (args0 iter).length = k.num) (hp : PA X (args0 iter) (tL X.K Z (denL us ia))) (ht : k.two = true → isTu tg = true) :
    PI X tg iter (tI X.K Z (denI k (denL us ia))) := by
  unfold isC at h
  split at h
  · rename_i x p es p2
    simp only [Bool.and_eq_true, beq_iff_eq] at h
    obtain ⟨rfl, h2⟩ := h
    obtain ⟨g1, g2⟩ := a.bl h2
    replace hn : noStars es = true := hn
    replace hl : es.length = k.num := hl
    replace hp : PA X es (tL X.K Z (denL us ia)) := hp
    cases k with
    | lst => cases hk
    | tup => cases hk
    | str => cases hk
    | rng1 =>
      obtain ⟨y, rfl⟩ := len1 hl
      exact i_range1 g1 g2 hp (star_of (Bool.and_eq_true_iff.mp hn).1)
    | rng2 =>
      obtain ⟨y, z, rfl⟩ := len2 hl
      obtain ⟨n1, n2⟩ := Bool.and_eq_true_iff.mp hn
      have e2 : starEach [z] X.env = [(false, eval z X.env)] := star_of (Bool.and_eq_true_iff.mp n2).1
      exact i_range2 g1 g2 hp (by rw [star_of n1, e2]) e2
    | rng3 =>
      obtain ⟨y, z, w, rfl⟩ := len3 hl
      obtain ⟨n1, n2⟩ := Bool.and_eq_true_iff.mp hn
      exact i_range3 g1 g2 hp (star_of n1) (back_plain n2)
    | enu =>
      obtain ⟨y, rfl⟩ := len1 hl
      have z := ht rfl
      cases tg with
      | Tuple es k p => exact i_enum g1 g2 hp (star_of (Bool.and_eq_true_iff.mp hn).1)
      | _ => cases z
    | zip =>
      obtain ⟨y, z, rfl⟩ := len2 hl
      obtain ⟨n1, n2⟩ := Bool.and_eq_true_iff.mp hn
      have z := ht rfl
      cases tg with
      | Tuple es k p => exact i_zip g1 g2 hp (star_of n1) (back_plain n2)
      | _ => cases z
    | zps =>
      obtain ⟨y, z, rfl⟩ := len2 hl
      obtain ⟨n1, n2⟩ := Bool.and_eq_true_iff.mp hn
      have e2 : starEach [z] X.env = [(false, eval z X.env)] := star_of (Bool.and_eq_true_iff.mp n2).1
      have z := ht rfl
      cases tg with
      | Tuple es k p => exact i_zipS g1 g2 hp (star_of n1) (back_plain n2)
      | _ => cases z
  · cases h
theorem AftB.same {K : PySem.W.Frag} {H : Hp} {r : List Addr} {M : Mem} {m m' : Res Bool} {Q : Bool → Hp → Prop} {Z : ZK} (h : AftB K Z H r M m Q) (e : m = m') : AftB K Z H r M m' Q := e ▸ h
mutual
theorem sndE : ∀ (e : E) {sc : Sc} {X : Cx} {Z : ZS} {x : Expr}, At er C us sc X Z → cv C e sc x = true → PE X x (tM X.K Z (den us e))
  | .var i, sc, X, Z, x, a, h => by
    unfold cv at h
    split at h
    · rename_i y p
      simp only [Bool.and_eq_true, Bool.not_eq_true'] at h
      obtain ⟨⟨⟨h1, h2⟩, h3⟩, h4⟩ := h
      exact r_var (by rw [a.N]; exact at_of h1) (by rw [a.scp]; exact vis_of h2) h3 h4
    · cases h
  | .cst d, sc, X, Z, x, a, h => by
    unfold cv at h
    split at h
    · exact cst_r h
    · cases h
  | .glo y d, sc, X, Z, x, a, h => by
    unfold cv at h
    split at h
    · rename_i z p
      simp only [Bool.and_eq_true, beq_iff_eq, List.any_eq_true] at h
      obtain ⟨⟨rfl, h2⟩, ⟨q1, q2⟩, hm, e1, e2⟩ := h
      obtain ⟨g1, g2⟩ := a.gl h2
      have e1 : q1 = y := e1
      have e2 := eqD_eq e2
      have e2 : q2 = d := e2
      subst e1 e2
      obtain ⟨u, v, m1, m2, m3⟩ := a.con _ hm
      exact r_glo g1 m1 m2 m3 g2
    · cases h
  | .tyn t, sc, X, Z, x, a, h => by
    unfold cv at h
    split at h
    · rename_i z p
      simp only [Bool.and_eq_true, beq_iff_eq] at h
      obtain ⟨rfl, h2⟩ := h
      obtain ⟨g1, g2⟩ := a.bl h2
      exact r_ty g1 g2 t.hv t.nn t.nd
    · cases h
  | .op o u v, sc, X, Z, x, a, h => by
    unfold cv at h
    split at h
    · simp only [Bool.and_eq_true, decide_eq_true_eq] at h
      obtain ⟨⟨rfl, h1⟩, h2⟩ := h
      exact r_bin (o.ok X a.gd) (sndE u a h1) (sndE v a h2)
    · cases h
  | .cmp o u v, sc, X, Z, x, a, h => by
    unfold cv at h
    split at h
    · simp only [Bool.and_eq_true, decide_eq_true_eq] at h
      obtain ⟨⟨⟨rfl, h0⟩, h1⟩, h2⟩ := h
      exact r_cmp (o.ok X a.gd) (sndE u a h1) (sndE v a h2) (bi_of h0)
    · cases h
  | .chn o o' u v t, sc, X, Z, x, a, h => by
    unfold cv at h
    split at h
    · simp only [Bool.and_eq_true, decide_eq_true_eq] at h
      obtain ⟨⟨⟨⟨⟨rfl, rfl⟩, h0⟩, h1⟩, h2⟩, h3⟩ := h
      exact r_chain (o.ok X a.gd) (o'.ok X a.gd) (sndE u a h1) (sndE v a h2) (sndE t a h3) (lm_of h0)
    · cases h
  | .neg u, sc, X, Z, x, a, h => by
    unfold cv at h
    split at h
    · exact r_neg (sndE u a h)
    · cases h
  | .not u, sc, X, Z, x, a, h => by
    unfold cv at h
    split at h
    · exact r_not (sndE u a h)
    · cases h
  | .and u v, sc, X, Z, x, a, h => by
    unfold cv at h
    split at h
    · rw [Bool.and_eq_true] at h
      obtain ⟨h1, h2⟩ := h
      split at h2
      · exact r_and (sndE u a h1) (r_one (sndE v a h2))
      · exact r_and (sndE u a h1) (sndE v a h2)
    · cases h
  | .or u v, sc, X, Z, x, a, h => by
    unfold cv at h
    split at h
    · rw [Bool.and_eq_true] at h
      obtain ⟨h1, h2⟩ := h
      split at h2
      · exact r_or (sndE u a h1) (r_one (sndE v a h2))
      · exact r_or (sndE u a h1) (sndE v a h2)
    · cases h
  | .ife c u v, sc, X, Z, x, a, h => by
    unfold cv at h
    split at h
    · simp only [Bool.and_eq_true] at h
      obtain ⟨⟨h0, h1⟩, h2⟩ := h
      exact r_if (sndB c a h0) (sndE u a h1) (sndE v a h2)
    · cases h
  | .ix u v, sc, X, Z, x, a, h => by
    unfold cv at h
    split at h
    · simp only [Bool.and_eq_true] at h
      obtain ⟨⟨h0, h1⟩, h2⟩ := h
      exact r_ix (IxS.or ixs (ixsD (by have := a.gd.un; omega))) (sndE u a h1) (sndE v a h2) (ix_of h0)
    · cases h
  | .sst u, sc, X, Z, x, a, h => by
    unfold cv at h
    split at h
    · simp only [Bool.and_eq_true, beq_iff_eq] at h
      obtain ⟨⟨⟨⟨⟨rfl, h1⟩, rfl⟩, h2⟩, h3⟩, h4⟩ := h
      exact r_sst a.gd.calm (a.bl h1).1 (a.bl h1).2 (a.bl h2).1 (a.bl h2).2 (sndE u a h4) (star_of h3)
    · cases h
  | .stp u v w, sc, X, Z, x, a, h => by
    unfold cv at h
    split at h
    · simp only [Bool.and_eq_true] at h
      exact r_stp (sndE u a h.1.1) (o_some (sndE v a h.1.2)) (o_some (sndE w a h.2))
    · cases h
  | .st0 u w, sc, X, Z, x, a, h => by
    unfold cv at h
    split at h
    · simp only [Bool.and_eq_true] at h
      exact r_stp (sndE u a h.1) o_none (o_some (sndE w a h.2))
    · cases h
  | .dsp kvs, sc, X, Z, x, a, h => by
    unfold cv at h
    split at h
    · rename_i keys values pos
      rw [Bool.and_eq_true, decide_eq_true_eq] at h
      obtain ⟨h1, h2⟩ := h
      obtain ⟨trs, g1, g2, g3, g4, g5, g6⟩ := dsp_pps (X := X) (pos := pos) h1
      cases keys with
      | nil =>
        cases kvs with
        | nil =>
          cases values with
          | nil => exact r_dsp0
          | cons _ _ => cases g5
        | cons _ _ => cases g4
      | cons k0 ks => exact r_dsp g1 g2 g3 (by rw [g4, g5]) (by simp) (by rw [g4]; exact h2) h2 g6
    · cases h
  | .lzp l, sc, X, Z, x, a, h => by
    unfold cv at h
    split at h
    · rename_i x p y p2 e e' q pos
      rw [Bool.and_eq_true, Bool.and_eq_true, Bool.and_eq_true, Bool.and_eq_true, Bool.and_eq_true] at h
      obtain ⟨⟨⟨⟨⟨h0, h1⟩, h00⟩, h2⟩, h3⟩, h4⟩ := h
      obtain rfl := eq_of_beq h0
      obtain rfl := eq_of_beq h00
      obtain ⟨n1, n2⟩ := Bool.and_eq_true_iff.mp h3
      exact r_lzp a.gd.calm (a.bl h1).1 (a.bl h1).2 (a.bl h2).1 (a.bl h2).2 (sndL l a h4) (star_of n1) (back_plain n2)
    · cases h
  | .rv u, sc, X, Z, x, a, h => by
    unfold cv at h
    split at h
    · simp only [Bool.and_eq_true, decide_eq_true_eq] at h
      obtain ⟨rfl, h⟩ := h
      exact r_rv (sndE u a h)
    · cases h
  | .sl0 u, sc, X, Z, x, a, h => by
    unfold cv at h
    split at h
    · exact r_sl sls (sndE u a h) o_none o_none
    · cases h
  | .sl1 u v, sc, X, Z, x, a, h => by
    unfold cv at h
    split at h
    · simp only [Bool.and_eq_true] at h
      exact r_sl sls (sndE u a h.1) (o_some (sndE v a h.2)) o_none
    · cases h
  | .sl2 u v, sc, X, Z, x, a, h => by
    unfold cv at h
    split at h
    · simp only [Bool.and_eq_true] at h
      exact r_sl sls (sndE u a h.1) o_none (o_some (sndE v a h.2))
    · cases h
  | .sl3 u v w, sc, X, Z, x, a, h => by
    unfold cv at h
    split at h
    · simp only [Bool.and_eq_true] at h
      exact r_sl sls (sndE u a h.1.1) (o_some (sndE v a h.1.2)) (o_some (sndE w a h.2))
    · cases h
  | .tup l, sc, X, Z, x, a, h => by
    unfold cv at h
    split at h
    · exact r_tup (sndL l a h)
    · cases h
  | .lst l, sc, X, Z, x, a, h => by
    unfold cv at h
    split at h
    · exact r_lst (sndL l a h)
    · cases h
  | .cel l, sc, X, Z, x, a, h => by
    unfold cv at h
    split at h
    · exact r_cel (sndL l a h)
    · cases h
  | .bf f l, sc, X, Z, x, a, h => by
    unfold cv at h
    split at h
    · rename_i y p e es p2
      rw [Bool.and_eq_true, Bool.and_eq_true, Bool.and_eq_true, beq_iff_eq] at h
      obtain ⟨⟨⟨rfl, h2⟩, h3⟩, h4⟩ := h
      obtain ⟨g1, g2⟩ := a.bl h2
      obtain ⟨n1, n2⟩ := Bool.and_eq_true_iff.mp h3
      exact r_callB (f.ok X a.gd) g1 g2 f.hv (sndL l a h4) f.nn f.nd (star_of n1) (back_plain n2)
    · cases h
  | .bt f l, sc, X, Z, x, a, h => by
    unfold cv at h
    split at h
    · rename_i y p e es p2
      rw [Bool.and_eq_true, Bool.and_eq_true, Bool.and_eq_true, beq_iff_eq] at h
      obtain ⟨⟨⟨rfl, h2⟩, h3⟩, h4⟩ := h
      obtain ⟨g1, g2⟩ := a.bl h2
      obtain ⟨n1, n2⟩ := Bool.and_eq_true_iff.mp h3
      exact r_callT (f.ok X a.gd) g1 g2 f.hv (sndL l a h4) f.nn f.nd (star_of n1) (back_plain n2)
    · cases h
  | .ms m u l, sc, X, Z, x, a, h => by
    unfold cv at h
    split at h
    · rename_i o n ap e es cp
      rw [Bool.and_eq_true, Bool.and_eq_true, Bool.and_eq_true, Bool.and_eq_true, Bool.and_eq_true, Bool.and_eq_true, decide_eq_true_eq] at h
      obtain ⟨⟨⟨⟨⟨⟨h0, h1⟩, h2⟩, h3⟩, h4⟩, h5⟩, h6⟩ := h
      have h0 := eq_of_beq h0
      subst h0
      obtain ⟨n1, n2⟩ := Bool.and_eq_true_iff.mp h3
      exact r_mts F.plainAttrs_str m.slot m.ty (m.ok X a.gd) (sndE u a h5) (sndL l a h6) (base_of h1) (few_of h3 h4) h2 (star_of n1) (back_plain n2)
    · cases h
  | .ml m u l, sc, X, Z, x, a, h => by
    unfold cv at h
    split at h
    · rename_i o n ap e es cp
      rw [Bool.and_eq_true, Bool.and_eq_true, Bool.and_eq_true, Bool.and_eq_true, Bool.and_eq_true, Bool.and_eq_true, decide_eq_true_eq] at h
      obtain ⟨⟨⟨⟨⟨⟨h0, h1⟩, h2⟩, h3⟩, h4⟩, h5⟩, h6⟩ := h
      have h0 := eq_of_beq h0
      subst h0
      obtain ⟨n1, n2⟩ := Bool.and_eq_true_iff.mp h3
      exact r_mtl F.plainAttrs_list m.slot m.ty (m.ok X a.gd) (sndE u a h5) (sndL l a h6) (base_of h1) (few_of h3 h4) h2 (star_of n1) (back_plain n2)
    · cases h
  | .md m u l, sc, X, Z, x, a, h => by
    unfold cv at h
    split at h
    · rename_i o n ap e es cp
      rw [Bool.and_eq_true, Bool.and_eq_true, Bool.and_eq_true, Bool.and_eq_true, Bool.and_eq_true, Bool.and_eq_true, decide_eq_true_eq] at h
      obtain ⟨⟨⟨⟨⟨⟨h0, h1⟩, h2⟩, h3⟩, h4⟩, h5⟩, h6⟩ := h
      have h0 := eq_of_beq h0
      subst h0
      obtain ⟨n1, n2⟩ := Bool.and_eq_true_iff.mp h3
      exact r_mtd F.plainAttrs_dict m.slot m.ty (m.ok X a.gd) (sndE u a h5) (sndL l a h6) (base_of h1) (few_of h3 h4) h2 (star_of n1) (back_plain n2)
    · cases h
  | .fn i n l, sc, X, Z, x, a, h => by
    unfold cv at h
    split at h
    · rename_i y p es p2
      simp only [Bool.and_eq_true] at h
      obtain ⟨⟨⟨h1, h2⟩, h3⟩, h4⟩ := h
      obtain ⟨ps, rfl, c⟩ := a.callee h1
      obtain ⟨g1, g2⟩ := a.gl h2
      cases es with
      | nil =>
        cases l with
        | nil => exact r_fn0 c a.gd.gua a.tk g1 g2
        | cons _ _ => cases h4
        | star _ _ => cases h4
      | cons e es =>
        obtain ⟨n1, n2⟩ := Bool.and_eq_true_iff.mp h3
        exact r_fn c a.gd.gua a.tk g1 (sndL l a h4) g2 (star_of n1) (back_plain n2)
    · cases h
  | .fp i n o l, sc, X, Z, x, a, h => by
    unfold cv at h
    split at h
    · rename_i y p k ks p2
      rw [Bool.and_eq_true, Bool.and_eq_true, Bool.and_eq_true] at h
      obtain ⟨⟨⟨h1, h2⟩, h3⟩, h4⟩ := h
      obtain ⟨ps, rfl, ho, hk, c⟩ := a.calleeP h1
      obtain ⟨g1, g2⟩ := a.gl h2
      exact r_fnp c a.gd.gua a.tk g1 (sndK l a h3 h4) ho g2 hk
    · cases h
  | .fk i n l, sc, X, Z, x, a, h => by
    unfold cv at h
    split at h
    · rename_i y p k ks p2
      rw [Bool.and_eq_true, Bool.and_eq_true, Bool.and_eq_true] at h
      obtain ⟨⟨⟨h1, h2⟩, h3⟩, h4⟩ := h
      obtain ⟨ps, rfl, hk, c⟩ := a.calleeK h1
      obtain ⟨g1, g2⟩ := a.gl h2
      exact r_fnk c a.gd.gua a.tk g1 (sndK l a h3 h4) g2 hk
    · cases h
  | .lcl u, sc, X, Z, x, a, h => by
    unfold cv at h
    split at h
    · simp only [Bool.and_eq_true, beq_iff_eq] at h
      obtain ⟨⟨⟨rfl, h1⟩, h3⟩, h4⟩ := h
      exact r_lcl a.gd.calm (a.bl h1).1 (a.bl h1).2 (sndE u a h4) h3
    · cases h
  | .dcp u, sc, X, Z, x, a, h => by
    unfold cv at h
    split at h
    · simp only [Bool.and_eq_true, beq_iff_eq] at h
      obtain ⟨⟨⟨rfl, h1⟩, h3⟩, h4⟩ := h
      exact r_dcp a.gd.calm (a.bl h1).1 (a.bl h1).2 (sndE u a h4) (star_of h3)
    · cases h
  | .lr1 u, sc, X, Z, x, a, h => by
    unfold cv at h
    split at h
    · simp only [Bool.and_eq_true, beq_iff_eq] at h
      obtain ⟨⟨⟨⟨⟨rfl, h1⟩, rfl⟩, h2⟩, h3⟩, h4⟩ := h
      exact r_lrg1 a.gd.calm (a.bl h1).1 (a.bl h1).2 (a.bl h2).1 (a.bl h2).2 (sndE u a h4) h3
    · cases h
  | .lr2 u v, sc, X, Z, x, a, h => by
    unfold cv at h
    split at h
    · simp only [Bool.and_eq_true, beq_iff_eq] at h
      obtain ⟨⟨⟨⟨⟨⟨⟨rfl, h1⟩, rfl⟩, h2⟩, h3⟩, h4⟩, h5⟩, h6⟩ := h
      exact r_lrg2 a.gd.calm (a.bl h1).1 (a.bl h1).2 (a.bl h2).1 (a.bl h2).2 (sndE u a h5) (sndE v a h6) h3 h4
    · cases h
  | .lc b k ia t vs c e, sc, X, Z, x, a, h => by
    obtain ⟨elt, tg, iter, ifs, scope, lp, rfl, L⟩ := sndLc b k ia t vs c e a h
    have e1 : (ownC C vs).map (·.2) = vs := by unfold ownC; rw [List.map_map]; exact List.map_id _
    have z1 := r_lc (pos := lp) L
    have z2 := r_lcc (pos := lp) L
    rw [e1] at z1 z2
    cases b with
    | true => exact z2
    | false => exact z1
termination_by e => 2 * sizeOf e
theorem sndLc : ∀ (b : Bool) (k : ItK) (ia : EL) (t : Tg) (vs : List Nat) (c : B) (e : E) {sc : Sc} {X : Cx} {Z : ZS} {x : Expr}, At er C us sc X Z → cv C (.lc b k ia t vs c e) sc x = true →
    ∃ elt tg iter ifs scope lp, x = .ListComp elt [⟨tg, iter, ifs, 0⟩] scope lp ∧ LcOk X Z elt tg iter ifs scope (ownC C vs) (denI k (denL us ia)) t (denB us c) (den us e)
  | b, k, ia, t, vs, c, e, sc, X, Z, x, a, h => by
    unfold cv at h
    split at h
    · rename_i elt tg iter ifs ay scope lp
      rw [Bool.and_eq_true, Bool.and_eq_true, Bool.and_eq_true, Bool.and_eq_true, Bool.and_eq_true, Bool.and_eq_true, Bool.and_eq_true, decide_eq_true_eq] at h
      obtain ⟨⟨⟨⟨⟨⟨⟨rfl, h1⟩, h2⟩, h3⟩, h4⟩, h5⟩, h6⟩, h7⟩ := h
      refine ⟨elt, tg, iter, ifs, scope, lp, rfl, a.gd.calm, by rw [a.N]; exact a.nd, ?_, by rw [a.N, a.scp]; exact blkOk_by h1, fun s H Ca cl fp => sndT (a.blk s H Ca cl fp) h4, fun s H Ca cl fp => ?_, fun s H Ca cl fp => sndE e (a.blk s H Ca cl fp) h6, fs_of h2, fun i hi => ?_⟩
      · by_cases hk : k.plain = true
        · rw [if_pos hk, Bool.and_eq_true] at h3
          cases ia with
          | nil => cases h3.1
          | star _ _ => cases iter <;> first | (cases h3.1; done) | (cases h3.2; done)
          | cons u l =>
            replace h3 : (nStar iter && cv C u sc iter && cvL C l sc []) = true ∧ nStar iter = true := ⟨h3.1, h3.2⟩
            rw [Bool.and_eq_true, Bool.and_eq_true] at h3
            have hu := sndE u a h3.1.1.2
            cases l with
            | nil =>
              cases k with
              | lst => exact i_one (i_list hu)
              | tup => exact i_one (i_tup hu)
              | str => exact i_one (i_str hu)
              | _ => cases hk
            | cons _ _ => cases h3.1.2
            | star _ _ => cases h3.1.2
        · rw [if_neg hk, Bool.and_eq_true, Bool.and_eq_true, Bool.and_eq_true, Bool.and_eq_true, decide_eq_true_eq] at h3
          obtain ⟨⟨⟨⟨g1, g2⟩, g3⟩, g4⟩, g5⟩ := h3
          exact snd_iter a (by simpa using hk) g1 g2 g3 (sndL ia a g4) fun z => by rw [z] at g5; simpa using g5
      · split at h7
        · split at h7
          · exact ⟨fun pins s' σ H' Q I ⟨δ, r, M, E, S, w⟩ => pts_nil.run pins s' σ H' Q I (w _ r Ext.refl S)⟩
          · cases h7
        · exact pts_one (sndB c (a.blk s H Ca cl fp) h7)
        · cases h7
      · have z := List.all_eq_true.mp h5 i hi
        unfold ownC
        rw [List.map_map]
        have e1 : List.map ((fun x : Str × Nat => x.2) ∘ fun i => (C.N.getD i ⟨#[]⟩, i)) vs = vs := List.map_id _
        show i ∈ List.map ((fun x : Str × Nat => x.2) ∘ fun i => (C.N.getD i ⟨#[]⟩, i)) vs
        rw [e1]
        simpa using z
    · cases h
termination_by b k ia t vs c e => 2 * (sizeOf ia + sizeOf c + sizeOf e) + 1
theorem sndB : ∀ (b : B) {sc : Sc} {X : Cx} {Z : ZS} {x : Expr}, At er C us sc X Z → cvB C b sc x = true → PT X x (Wn.tB X.K Z (denB us b))
  | .yes, sc, X, Z, x, a, h => by cases h
  | .tru e, sc, X, Z, x, a, h => by
    replace h : (cv C e sc x && (okTe x || isCmp x)) = true := h
    rw [Bool.and_eq_true, Bool.or_eq_true] at h
    obtain ⟨h1, h2⟩ := h
    rcases h2 with h2 | h2
    · exact t_tru (sndE e a h1) (te_of h2)
    · cases e with
      | cmp o u v =>
        unfold cv at h1
        split at h1
        · simp only [Bool.and_eq_true, decide_eq_true_eq] at h1
          obtain ⟨⟨⟨rfl, g0⟩, g1⟩, g2⟩ := h1
          exact t_cmp (o.ok X a.gd) (sndE u a g1) (sndE v a g2) (bi_of g0)
        · cases h1
      | chn o o' u v t =>
        unfold cv at h1
        split at h1
        · simp only [Bool.and_eq_true, decide_eq_true_eq] at h1
          obtain ⟨⟨⟨⟨⟨rfl, rfl⟩, g0⟩, g1⟩, g2⟩, g3⟩ := h1
          exact t_chain (o.ok X a.gd) (o'.ok X a.gd) (sndE u a g1) (sndE v a g2) (sndE t a g3) (lm_of g0)
        · cases h1
      | _ =>
        unfold cv at h1
        split at h1 <;> first | (cases h2; done) | (cases h1; done)
  | .not u, sc, X, Z, x, a, h => by
    unfold cvB at h
    split at h
    · exact t_not (sndB u a h)
    · cases h
  | .and u v, sc, X, Z, x, a, h => by
    unfold cvB at h
    split at h
    · rw [Bool.and_eq_true] at h
      obtain ⟨h1, h2⟩ := h
      split at h2
      · exact (w_and (sndB u a h1) (w_and1 (sndB v a h2))).pt
      · exact (w_and (sndB u a h1) (sndW v a h2)).pt
    · cases h
  | .or u v, sc, X, Z, x, a, h => by
    unfold cvB at h
    split at h
    · rw [Bool.and_eq_true] at h
      obtain ⟨h1, h2⟩ := h
      split at h2
      · exact (w_or (sndB u a h1) (w_or1 (sndB v a h2))).pt
      · exact (w_or (sndB u a h1) (sndW v a h2)).pt
    · cases h
termination_by b => 2 * sizeOf b
theorem sndW : ∀ (b : B) {sc : Sc} {X : Cx} {Z : ZS} {op : BoolOp} {vs : List Expr} {p : Pos}, At er C us sc X Z → cvB C b sc (.BoolOp op vs p) = true → PW X (.BoolOp op vs p) (Wn.tB X.K Z (denB us b))
  | .yes, sc, X, Z, op, vs, p, a, h => by cases h
  | .tru e, sc, X, Z, op, vs, p, a, h => by
    replace h : (cv C e sc (.BoolOp op vs p) && (false || false)) = true := h
    simp at h
  | .not u, sc, X, Z, op, vs, p, a, h => by cases h
  | .and u v, sc, X, Z, op, vs, p, a, h => by
    unfold cvB at h
    split at h
    · rename_i x y rest p' heq
      cases heq
      rw [Bool.and_eq_true] at h
      obtain ⟨h1, h2⟩ := h
      split at h2
      · exact w_and (sndB u a h1) (w_and1 (sndB v a h2))
      · exact w_and (sndB u a h1) (sndW v a h2)
    · cases h
  | .or u v, sc, X, Z, op, vs, p, a, h => by
    unfold cvB at h
    split at h
    · rename_i x y rest p' heq
      cases heq
      rw [Bool.and_eq_true] at h
      obtain ⟨h1, h2⟩ := h
      split at h2
      · exact w_or (sndB u a h1) (w_or1 (sndB v a h2))
      · exact w_or (sndB u a h1) (sndW v a h2)
    · cases h
termination_by b => 2 * sizeOf b
theorem sndL : ∀ (l : EL) {sc : Sc} {X : Cx} {Z : ZS} {xs : List Expr}, At er C us sc X Z → cvL C l sc xs = true → PA X xs (tL X.K Z (denL us l))
  | .nil, sc, X, Z, xs, a, h => by
    unfold cvL at h
    split at h
    · exact l_nil
    · cases h
  | .cons u l, sc, X, Z, xs, a, h => by
    unfold cvL at h
    split at h
    · simp only [Bool.and_eq_true] at h
      exact l_cons (sndE u a h.1.2) (sndL l a h.2) (star_of h.1.1)
    · cases h
  | .star u l, sc, X, Z, xs, a, h => by
    unfold cvL at h
    split at h
    · simp only [Bool.and_eq_true] at h
      exact l_star (sndE u a h.1) (sndL l a h.2)
    · cases h
termination_by l => 2 * sizeOf l
theorem sndK : ∀ (l : EL) {sc : Sc} {X : Cx} {Z : ZS} {ks : List Keyword}, At er C us sc X Z → noStars (kwV ks) = true → cvL C l sc (kwV ks) = true → PK X ks (tL X.K Z (denL us l))
  | .nil, sc, X, Z, ks, a, hn, h => by
    cases ks with
    | nil => exact k_nil
    | cons k ks => obtain ⟨n, v, p⟩ := k; cases h
  | .cons u l, sc, X, Z, ks, a, hn, h => by
    cases ks with
    | nil => cases h
    | cons k ks =>
      obtain ⟨n, v, p⟩ := k
      replace h : (nStar v && cv C u sc v && cvL C l sc (kwV ks)) = true := h
      simp only [Bool.and_eq_true] at h
      exact k_cons (sndE u a h.1.2) (sndK l a (Bool.and_eq_true_iff.mp hn).2 h.2)
  | .star u l, sc, X, Z, ks, a, hn, h => by
    cases ks with
    | nil => cases h
    | cons k ks =>
      obtain ⟨n, v, p⟩ := k
      have n1 := (Bool.and_eq_true_iff.mp (show (nStar v && noStars (kwV ks)) = true from hn)).1
      cases v <;> first | (cases h; done) | (cases n1; done)
termination_by l => 2 * sizeOf l
end
end
end Wn
end

section
set_option Elab.async false
set_option linter.all false
set_option maxRecDepth 100000
set_option maxHeartbeats 800000
namespace Wn
open PySem PySem.Spec PyProof.Rows L2
section
variable {er : ER} {C : Ct} {us : List Fun}
theorem sw_yes {elt : Expr} {gs : List Comprehension} {scope : Scope} {pos py : Pos} {y : Str} {l : Nat} {env : PySem.Env} {sc : Scope} (he : env.scope = sc) (h : swC sc y py pos scope = true) : swapsWith (.ListComp elt gs scope pos) (some (.Name y py)) l env = pure true := by
  unfold swC at h
  simp only [Bool.and_eq_true, Bool.not_eq_true'] at h
  obtain ⟨⟨⟨h1, h2⟩, h3⟩, h4⟩ := h
  subst he
  refine sw_true ?_ (isK_eq h2) h3 h4
  split at h1
  · assumption
  · cases h1
/-- a def's body: what is given of the context beside -/
structure Bo (X : Cx) : Prop where
  own : PassesOwn (model X.prog X.w) X.A X.env X.xe
  kind : X.env.scope.kind = .function
mutual
theorem sndS : ∀ (s : S) {sc : Sc} {X : Cx} {Z : ZS} {x : Stmt}, At er C us sc X Z → Bo X → cvS C s sc x = true → PS X x (tS X.K Z (denS us s))
  | .asg t e, sc, X, Z, x, a, b, h => by
    unfold cvS at h
    split at h
    · rename_i tg y p
      rw [Bool.and_eq_true, Bool.and_eq_true, Bool.and_eq_true] at h
      obtain ⟨⟨⟨h1, h2⟩, h3⟩, h4⟩ := h
      by_cases h5 : ((okSw y || isTu tg) && (okTu tg || okTv y || foldT tg y)) = true
      · rw [Bool.and_eq_true] at h5
        obtain ⟨h6, h7⟩ := h5
        refine s_asg (sndE e a h2) (sndT a h1) ?_ ?_ (ae_of (es := []) h3)
        · rw [Bool.or_eq_true] at h6
          rcases h6 with h6 | h6
          · exact sws_of h6
          · cases tg with
            | Tuple es k p => exact sws_tup
            | _ => cases h6
        · rw [Bool.or_eq_true, Bool.or_eq_true] at h7
          rcases h7 with (h7 | h7) | h7
          · exact st_of h7
          · exact st_of' h7
          · unfold foldT at h7
            split at h7
            · exact st_fold h7
            · cases h7
      · rw [Bool.or_eq_true] at h4
        have h4 := h4.resolve_left h5
        unfold lcN at h4
        split at h4
        · rename_i i ny py elt gs scope lp hh0
          cases e with
          | lc bb k ia t vs c e =>
            obtain ⟨elt', tg', iter, ifs, scope', lp', he, L⟩ := sndLc bb k ia t vs c e a h2
            cases he
            replace h1 : (atC C.N i ny && locC sc.ow ny) = true := h1
            rw [Bool.and_eq_true] at h1
            have e1 : (ownC C vs).map (·.2) = vs := by unfold ownC; rw [List.map_map]; exact List.map_id _
            have hl : X.env.scope.names.lookup ny = some .local := by
              unfold swC at h4
              simp only [Bool.and_eq_true] at h4
              rw [a.scp]
              exact isK_eq h4.1.1.2
            have z1 := s_setLc (spos := p) L (by rw [a.N]; exact at_of h1.1) hl (sw_yes a.scp h4)
            have z2 := s_setLcC (spos := p) L (by rw [a.N]; exact at_of h1.1) hl (sw_yes a.scp h4)
            rw [e1] at z1 z2
            cases bb with
            | true => exact z2
            | false => exact z1
          | _ =>
            unfold cv at h2
            split at h2 <;> first | (cases h2; done) | (rename_i hh; cases hh; done)
        · cases h4
    · cases h
  | .par is l, sc, X, Z, x, a, b, h => by
    unfold cvS at h
    have hbk : X.env.blockKind = .function := by unfold Env.blockKind; rw [b.kind]; rfl
    have kof : ∀ {y : Str}, isK (sc.sc.names.lookup y) .local = true → X.env.scope.names.lookup y = some .local := fun {y} h => by rw [a.scp]; exact isK_eq h
    split at h
    · simp only [Bool.and_eq_true, Bool.not_eq_true', decide_eq_true_eq] at h
      obtain ⟨⟨⟨⟨⟨⟨⟨⟨⟨⟨h1, h2⟩, h3⟩, h4⟩, h5⟩, h6⟩, h7⟩, h8⟩, h9⟩, h10⟩, h11⟩ := h
      exact s_par2 a.gd.calm (by rw [a.N]; exact a.nd) (by rw [a.N]; exact at_of h1) (by rw [a.N]; exact at_of h2) h3 (kof h4) (kof h5) (sndL l a h11) (sp2 hbk (kof h4) (kof h5) h6 (by simpa using h10) h7 h8 h9) sws_tup
    · simp only [Bool.and_eq_true, Bool.not_eq_true', decide_eq_true_eq] at h
      obtain ⟨⟨⟨⟨⟨⟨⟨⟨⟨⟨⟨⟨⟨⟨⟨⟨⟨h1, h2⟩, h3⟩, i1⟩, i2⟩, i3⟩, h4⟩, h5⟩, h6⟩, l1⟩, l2⟩, h7⟩, h8⟩, h9⟩, n1⟩, n2⟩, n3⟩, h11⟩ := h
      exact s_par3 a.gd.calm (by rw [a.N]; exact a.nd) (by rw [a.N]; exact at_of h1) (by rw [a.N]; exact at_of h2) (by rw [a.N]; exact at_of h3) i1 i2 i3 (kof h4) (kof h5) (kof h6) (sndL l a h11)
        (sp3 hbk (kof h4) (kof h5) (kof h6) l1 l2 (by simpa using n1) (by simpa using n2) (by simpa using n3) h7 h8 h9) sws_tup
    · cases h
  | .set o i e, sc, X, Z, x, a, b, h => by
    unfold cvS at h
    split at h
    · simp only [Bool.and_eq_true] at h
      obtain ⟨⟨⟨⟨h1, h2⟩, h3⟩, h4⟩, h5⟩ := h
      exact s_setA (by have := a.gd.un; omega) (sndE e a h5) (sndE o a h3) (sndE i a h4) (sws_of h2) (st_of rfl) (ae_of (es := []) rfl) (as_sub h1)
    · cases h
  | .ex e, sc, X, Z, x, a, b, h => by
    unfold cvS at h
    split at h
    · simp only [Bool.and_eq_true] at h
      exact s_ex (sndE e a h.2) (sw_of h.1)
    · cases h
  | .doc, sc, X, Z, x, a, b, h => by
    unfold cvS at h
    split at h
    · exact s_doc
    · cases h
  | .ife c u v, sc, X, Z, x, a, b, h => by
    unfold cvS at h
    split at h
    · simp only [Bool.and_eq_true] at h
      exact s_if (sndB c a h.1.1) (sndSL u a b h.1.2) (sndSL v a b h.2)
    · cases h
  | .whl n c u, sc, X, Z, x, a, b, h => by
    unfold cvS at h
    split at h
    · simp only [Bool.and_eq_true] at h
      exact s_while b.own (sndB c a h.1) (sndSL u a b h.2)
    · cases h
  | .for k ia t u, sc, X, Z, x, a, b, h => by
    unfold cvS at h
    split at h
    · rename_i tg iter body p
      rw [Bool.and_eq_true, Bool.and_eq_true, Bool.and_eq_true] at h
      obtain ⟨⟨⟨h2, h3⟩, h4⟩, h5⟩ := h
      refine s_for b.own a.gd.calm ?_ (sndT a h4) (sndSL u a b h5) (fs_of h2)
      by_cases hk : k.plain = true
      · rw [if_pos hk, Bool.and_eq_true] at h3
        cases ia with
        | nil => cases h3.1
        | star _ _ => cases iter <;> first | (cases h3.1; done) | (cases h3.2; done)
        | cons w l =>
          replace h3 : (nStar iter && cv C w sc iter && cvL C l sc []) = true ∧ nStar iter = true := ⟨h3.1, h3.2⟩
          rw [Bool.and_eq_true, Bool.and_eq_true] at h3
          have hu := sndE w a h3.1.1.2
          cases l with
          | nil =>
            cases k with
            | lst => exact i_one (i_list hu)
            | tup => exact i_one (i_tup hu)
            | str => exact i_one (i_str hu)
            | _ => cases hk
          | cons _ _ => cases h3.1.2
          | star _ _ => cases h3.1.2
      · rw [if_neg hk, Bool.and_eq_true, Bool.and_eq_true, Bool.and_eq_true, Bool.and_eq_true, decide_eq_true_eq] at h3
        obtain ⟨⟨⟨⟨g1, g2⟩, g3⟩, g4⟩, g5⟩ := h3
        exact snd_iter a (by simpa using hk) g1 g2 g3 (sndL ia a g4) fun z => by rw [z] at g5; simpa using g5
    · cases h
  | .ret e, sc, X, Z, x, a, b, h => by
    unfold cvS at h
    split at h
    · exact s_ret (sndE e a h)
    · cases h
  | .retn, sc, X, Z, x, a, b, h => by
    unfold cvS at h
    split at h
    · exact s_retN
    · cases h
  | .brk, sc, X, Z, x, a, b, h => by
    unfold cvS at h
    split at h
    · exact s_brk
    · cases h
  | .cnt, sc, X, Z, x, a, b, h => by
    unfold cvS at h
    split at h
    · exact s_cnt
    · cases h
  | .pas, sc, X, Z, x, a, b, h => by
    unfold cvS at h
    split at h
    · exact s_pass
    · cases h
  | .frz i, sc, X, Z, x, a, b, h => by cases h
  | .nev, sc, X, Z, x, a, b, h => PS.cons ps_never fun E σ H ⟨δ, r, M, e, S, w⟩ => w.elim
termination_by s => sizeOf s
theorem sndSL : ∀ (l : SL) {sc : Sc} {X : Cx} {Z : ZS} {xs : List Stmt}, At er C us sc X Z → Bo X → cvSL C l sc xs = true → PSs X xs (tS X.K Z (denSL us l))
  | .nil, sc, X, Z, xs, a, b, h => by
    unfold cvSL at h
    split at h
    · exact ss_nil
    · cases h
  | .cons s l, sc, X, Z, xs, a, b, h => by
    unfold cvSL at h
    by_cases hf : isFrz s = true
    · rw [if_pos hf] at h
      cases s with
      | frz i => exact ss_frz (sndSL l a b h)
      | _ => cases hf
    · rw [if_neg hf] at h
      split at h
      · rw [Bool.and_eq_true] at h
        exact ss_cons (sndS s a b h.1) (sndSL l a b h.2)
      · cases h
termination_by l => sizeOf l
end
end

/-! ### the rule for a def -/
noncomputable def fnDef (us : List Fun) (tr : Bool) (n : Nat) (body : SL) : Fun := fnOf tr n (denSL us body)
/-- what stands in a def of a program: its parameters are plain ones -/
def pars (a : Arguments) : List Str := a.args.map (·.arg)
/-- a module's def known to the object -/
structure Def (K : PySem.W.Frag) (mg : Str → Option Value) (x : Str) (ps : List Str) (body : List Stmt) (scope : Scope) (f : Addr) (fd : FuncData) : Prop where
  g : mg x = some (.ref f)
  kp : PySem.W.keepIn K (.ref f) = true
  fn : ∃ (name qual : Str) (params : Arguments) (oc dV kV doc pm cdv ct : Value) (od an : Option Addr) (osl : Array (Option Value)), fd = PySem.W.fnOf name qual params body scope dV kV doc pm an cdv ct ∧ K.lookup f = some ⟨oc, od, .func fd, osl⟩ ∧ PySem.W.codeIn K cdv qual = true
  b1 : ∀ (s : Shared) (us : List Value), us.length = ps.length → BindsTo s fd ⟨us, []⟩ (ps.zip us)
  b2 : ∀ (s : Shared) (us : List Value), us.length = ps.length → BindsTo s fd ⟨[], ps.zip us⟩ (ps.zip us)
  b3 : ∀ o ∈ ords ps.length, ∀ (s : Shared) (us : List Value), us.length = ps.length → BindsTo s fd ⟨[], (kwN ps o).zip us⟩ (ps.zip (arr o .none us))
/-- a promise of a module's def, whatever is to be called at that depth -/
def Prm (er : ER) (P : Program) (w : World) (K : PySem.W.Frag) (mg : Str → Option Value) (base : Heap) (k : Nat) (x : Str) (ps : List Str) (F : Fun) : Prop :=
  ∃ f fd, mg x = some (.ref f) ∧ PySem.W.keepIn K (.ref f) = true ∧ FnG er P w K mg base k f fd ps F ∧ (∀ s us, us.length = ps.length → BindsTo s fd ⟨us, []⟩ (ps.zip us)) ∧ (∀ s us, us.length = ps.length → BindsTo s fd ⟨[], ps.zip us⟩ (ps.zip us)) ∧ ∀ o ∈ ords ps.length, ∀ s us, us.length = ps.length → BindsTo s fd ⟨[], (kwN ps o).zip us⟩ (ps.zip (arr o .none us))
theorem Prm.mono {er : ER} {P : Program} {w : World} {K : PySem.W.Frag} {mg : Str → Option Value} {base : Heap} {j k : Nat} {x : Str} {ps : List Str} {F : Fun} (p : Prm er P w K mg base j x ps F) (h : j ≤ k) : Prm er P w K mg base k x ps F :=
  let ⟨f, fd, a, b, c, d, e⟩ := p; ⟨f, fd, a, b, c.mono h, d, e⟩
def scopeC (N ps : List Str) (sc : Scope) : Bool := (match sc.kind with | .function => true | _ => false) && !sc.isCoroutine && !sc.isGenerator && decide N.Nodup && decide (N.take ps.length = ps) && (ps.all fun x => locC sc x) && (sc.names.all fun y => match y.2 with | .free => false | _ => true)
theorem scope_of {N ps : List Str} {sc : Scope} (h : scopeC N ps sc = true) : FnScope N ps sc := by
  unfold scopeC at h
  simp only [Bool.and_eq_true, Bool.not_eq_true', decide_eq_true_eq, List.all_eq_true] at h
  obtain ⟨⟨⟨⟨⟨⟨h1, h2⟩, h3⟩, h4⟩, h5⟩, h6⟩, h7⟩ := h
  refine ⟨?_, h2, h3, h4, h5, fun x hx => loc_of (h6 x hx), fun y hy z => ?_⟩
  · split at h1
    · assumption
    · cases h1
  · have q := h7 y hy
    rw [z] at q
    cases q
theorem def_ok {er : ER} {P : Program} {w : World} {K : PySem.W.Frag} {mg : Str → Option Value} {base : Heap} {k : Nat} {x : Str} {ps : List Str} {body : List Stmt} {scope : Scope} {f : Addr} {fd : FuncData} {C : Ct} {us : List Fun} {tr : Bool} {l : SL}
    (d : Def K mg x ps body scope f fd) (hs : scopeC C.N ps scope = true) (hcv : cvSL C l ⟨scope, scope⟩ body = true)
    (con : ∀ p ∈ C.cons, ∃ u v, mg p.1 = some u ∧ RelV v u ∧ ∀ H r, Rep K H r p.2 v) (blt : ∀ y, C.blts.contains y = true → mg y = none)
    (cal : ∀ i y qs, C.calls[i]? = some (y, qs) → Prm er P w K mg base k y qs (us.getD i fun _ _ => .bad)) : Prm er P w K mg base (k + 1) x ps (fnDef us tr C.N.length l) := by
  obtain ⟨name, qual, params, oc, dV, kV, doc, pm, cdv, ct, od, an, osl, e, lk, hcd⟩ := d.fn
  refine ⟨f, fd, d.g, d.kp, ?_, d.b1, d.b2, d.b3⟩
  subst e
  have S := scope_of hs
  refine fng_of lk hcd S fun A outer s H E hr hga => ?_
  refine sndSL (er := er) l (sc := ⟨scope, scope⟩) (Z := fun _ => ZC er E) ⟨rfl, S.nd, rfl, ⟨rfl, ?_, hga⟩, fun y h => ⟨loc_of h, .inl rfl⟩, con, blt, fun i y qs e => ?_, ?_⟩ ⟨?_, S.kind⟩ hcv
  · have := hr.un
    show (A.deeper _).units + 66 < cLine
    omega
  · obtain ⟨g, gd, a1, a2, a3, a4, a5⟩ := cal i y qs e
    exact ⟨k, g, gd, a1, a2, hr, a3, a4, a5⟩
  · have tk := takes_of (X := cxOf (L2.CX P w) P w K mg base C.N qual scope f cdv A outer s H E) (E := E) rfl rfl rfl (E₁ := fun e' s'' => L2.CX P w outer H s E e' s'') rfl
    exact tk.imp fun c d σ H' ⟨e, r, M, h1, h2, h3⟩ => h3 c d h1
  · exact passes_of (X := cxOf (L2.CX P w) P w K mg base C.N qual scope f cdv A outer s H E) (K := fun e s'' => L2.CX P w outer H s E e s'') (E₁ := fun e' s'' => L2.CX P w outer H s E e' s'') rfl
end Wn
end

section
set_option Elab.async false
set_option linter.all false
set_option maxRecDepth 100000
set_option maxHeartbeats 800000
namespace Wn
open PySem PySem.Spec PyProof.Rows L2

/-! ### repr of lists and tuples -/
def isSeq : D → Bool
  | .tup _ => true
  | .lst _ => true
  | _ => false
/-- of what is no list and no tuple -/
def fReprA : D → Option D
  | .non => some (.str "None")
  | .bl b => some (.str (if b = true then "True" else "False"))
  | .int i => if i.natAbs.log2 < 1920 then some (.str (toString i)) else none
  | .str z => if (reprText z).length ≤ sizeLine then some (.str (reprText z)) else none
  | _ => none
def fRepr : Mem → D → Option D := fun _ x => if isSeq x = true then (match toPy x with
  | some p => if p.showable = true ∧ p.hasDict = false ∧ p.depth ≤ 60 ∧ p.shown.length ≤ sizeLine then some (.str p.shown) else none
  | none => none) else fReprA x
theorem c_repr {X : Cx} (g : Gd X) : CallS X (.builtin "repr") (g1 fRepr) := by
  intro pins s σ H r M xs us ds d Q I rx S qx e w
  unfold g1 at e
  split at e
  · rename_i y
    unfold fRepr at e
    split at e
    · rename_i hs
      split at e
      · rename_i p hp
        split at e
        · rename_i hc
          cases e
          obtain ⟨v, _, rfl, qy, hn⟩ := qx
          cases hn
          obtain ⟨u, rfl, ru⟩ := Vals.one rx
          obtain ⟨as, R⟩ := Dp.reads I p v u (dp_of qy hp) ru
          have hu := g.un
          have go : ∀ a, u = .ref a → wpAny (model X.prog X.w) X.A (call (.builtin "repr") [u]) (EP X pins σ Q) X.xe s := fun a ea => by
            subst ea
            exact repr_of_reads' R hc.1 (PyData.noDict_hsm hc.2.1) g.gua (by omega) (fun _ _ z => z) (fun h' t tk hk => ⟨.str p.shown, H, I.kept (t' := tk) hk, ⟨t, rfl⟩, w.here S (d := .str p.shown) rfl⟩) hc.2.2.2
          cases y with
          | tup es => obtain ⟨a, vs, rfl, _⟩ := qy; cases ru; exact go a rfl
          | lst es => obtain ⟨a, vs, rfl, _⟩ := qy; cases ru; exact go a rfl
          | _ => cases hs
        · cases e
      · cases e
    · obtain ⟨v, _, rfl, qy, hn⟩ := qx
      cases hn
      obtain ⟨u, rfl, ru⟩ := Vals.one rx
      unfold fReprA at e
      split at e
      · cases e; cases qy; cases ru
        exact PySem.P.repr_of_none ⟨.str _, H, I.tok _, ⟨_, rfl⟩, w.here S (d := .str _) rfl⟩
      · rename_i b
        cases e; cases qy; cases ru
        exact PySem.P.repr_of_bool ⟨.str _, H, I.tok _, ⟨_, rfl⟩, w.here S (d := .str _) rfl⟩
      · rename_i i
        split at e
        · rename_i hi
          cases e; cases qy
          obtain ⟨t, rfl⟩ := ru
          exact PySem.P.repr_of_int hi ⟨.str _, H, I.tok _, ⟨_, rfl⟩, w.here S (d := .str _) rfl⟩
        · cases e
      · rename_i z
        split at e
        · rename_i hz
          cases e; cases qy
          obtain ⟨t, rfl⟩ := ru
          exact PySem.P.repr_of_str ⟨.str _, H, I.tok _, ⟨_, rfl⟩, w.here S (d := .str _) rfl⟩ (hsz := hz)
        · cases e
      · cases e
  · cases e
/-! ### isinstance -/
def tyN : D → Option String
  | .non => some "NoneType"
  | .bl _ => some "bool"
  | .int _ => some "int"
  | .str _ => some "str"
  | .tup _ => some "tuple"
  | .lst _ => some "list"
  | .scr _ => some "list"
  | .ref _ => some "list"
  | .ty _ => none
def fIsi : Mem → D → D → Option D := fun M x y => match y with
  | .ty n => (match x with
    | .ref m => (match M[m]? with
      | some (.lst _) => (kitB "list" n).map .bl
      | _ => none)
    | x => (tyN x).bind fun t => (kitB t n).map .bl)
  | _ => none
theorem c_isi {X : Cx} : CallS X (.builtin "isinstance") (g2 fIsi) := CallS.of call_isi fun H r M xs ds d Q S qx e w => by
  unfold g2 at e
  split at e
  · rename_i x y
    obtain ⟨v, _, rfl, q1, v2, _, rfl, q2, hn⟩ := qx
    cases hn
    cases y with
    | ty n =>
      cases q2
      have fin : ∀ (t : String), TyX X.K H v (.type t) → (kitB t n).map D.bl = some d → rIsi X.K [v, .ty n] H Q := fun t ht e => by
        obtain ⟨b, e1, rfl⟩ := Option.map_eq_some_iff.mp e
        exact ⟨v, .ty n, .type t, .type n, b, rfl, .ty n, ht, kit_ty e1, w.here S (d := .bl b) rfl⟩
      cases x with
      | non => cases q1; exact fin "NoneType" (.base .non) e
      | bl b => cases q1; exact fin "bool" (.base (.bl b)) e
      | int i => cases q1; exact fin "int" (.base (.int i)) e
      | str z => cases q1; exact fin "str" (.base (.str z)) e
      | tup es =>
        obtain ⟨a, vs, rfl, h1, h2⟩ := q1
        refine fin "tuple" ?_ e
        rcases h1 with (h1 | ⟨o, h1⟩) | ⟨o, its, n, h1, h3, _⟩
        · exact .base (.tup h1)
        · exact .fTuple h1
        · exact .kTuple h1 h3
      | lst es =>
        obtain ⟨a, vs, rfl, ⟨o, h1⟩, h2⟩ := q1
        exact fin "list" (.base (.frz h1)) e
      | scr es =>
        obtain ⟨a, vs, rfl, h1, h2⟩ := q1
        refine fin "list" ?_ e
        rcases h1 with ⟨o, h1⟩ | ⟨o, its, n, h1, h3, _⟩
        · exact .base (.frz h1)
        · exact .kList h1 h3
      | ref m =>
        obtain ⟨a, rfl, ra⟩ := q1
        replace e : (match M[m]? with | some (.lst _) => (kitB "list" n).map D.bl | _ => none) = some d := e
        cases f : M[m]? with
        | none => rw [f] at e; cases e
        | some c =>
          cases c with
          | dead => rw [f] at e; cases e
          | dct _ => rw [f] at e; cases e
          | lst es =>
            rw [f] at e
            obtain ⟨vs, h1, _⟩ := S.cell m a _ ra f
            exact fin "list" (.base (.lst h1)) e
      | ty _ => cases e
    | _ => cases e
  · cases e

/-! ### the words -/
def oAdd : BOp := ⟨.Add, fun M a b => (gAdd M a b).or (gAddL M a b), fun X _ => Op2.or o2_add o2_addL⟩
def oSub : BOp := ⟨.Sub, gSub, fun X _ => o2_sub⟩
def oMul : BOp := ⟨.Mult, gMul, fun X _ => o2_mul⟩
def oMod : BOp := ⟨.Mod, gMod, fun X _ => o2_mod⟩
def oDiv : BOp := ⟨.FloorDiv, gDiv, fun X _ => o2_div⟩
def oPow : BOp := ⟨.Pow, gPow, fun X _ => o2_pow⟩
def cEq : COp := ⟨.Eq, gEq, fun X g => o2_eq (by have := g.un; omega)⟩
def cNe : COp := ⟨.NotEq, gNe, fun X g => o2_ne (by have := g.un; omega)⟩
def cLt : COp := ⟨.Lt, gLt, fun X _ => o2_lt⟩
def cLe : COp := ⟨.LtE, gLe, fun X _ => o2_le⟩
def cGt : COp := ⟨.Gt, gGt, fun X _ => o2_gt⟩
def cGe : COp := ⟨.GtE, gGe, fun X _ => o2_ge⟩
def cIn : COp := ⟨.In, fun M a b => (gIn M a b).or (gInD M a b), fun X g => Op2.or (o2_in (by have := g.un; omega)) (o2_inD (by have := g.un; omega))⟩
def cNi : COp := ⟨.NotIn, fun M a b => (gNotIn M a b).or (gNotInD M a b), fun X g => Op2.or (o2_notIn (by have := g.un; omega)) (o2_notInD (by have := g.un; omega))⟩
def cIs : COp := ⟨.Is, gIs, fun X _ => o2_is⟩
def cIn' : COp := ⟨.IsNot, gIsNot, fun X _ => o2_isNot⟩
def bLen : Bf := ⟨"len", "len", g1 fLen, fun X _ => c_len, by kernel_rfl, by decide, by decide⟩
def bAbs : Bf := ⟨"abs", "abs", g1 fAbs, fun X _ => c_abs, by kernel_rfl, by decide, by decide⟩
def bMax : Bf := ⟨"max", "max", g2 fMax2, fun X g => c_max2 g.calm, by kernel_rfl, by decide, by decide⟩
def bMin : Bf := ⟨"min", "min", g2 fMin2, fun X g => c_min2 g.calm, by kernel_rfl, by decide, by decide⟩
def bMinL : Bf := ⟨"min", "min", g1 fMinL, fun X g => c_minL g.calm, by kernel_rfl, by decide, by decide⟩
def bSum : Bf := ⟨"sum", "sum", g1 fSum, fun X g => c_sum g.calm, by kernel_rfl, by decide, by decide⟩
def bAll : Bf := ⟨"all", "all", g1 fAll, fun X g => c_all g.calm, by kernel_rfl, by decide, by decide⟩
def bAny : Bf := ⟨"any", "any", g1 fAny, fun X g => c_any g.calm, by kernel_rfl, by decide, by decide⟩
def bOrd : Bf := ⟨"ord", "ord", g1 fOrd, fun X _ => c_ord, by kernel_rfl, by decide, by decide⟩
def bRepr : Bf := ⟨"repr", "repr", g1 fRepr, fun X g => c_repr g, by kernel_rfl, by decide, by decide⟩
def bIsi : Bf := ⟨"isinstance", "isinstance", g2 fIsi, fun X _ => c_isi, by kernel_rfl, by decide, by decide⟩
def tInt : Bt := ⟨"int", "int", g1 fInt, fun X _ => c_int, by kernel_rfl, by decide, by decide⟩
def tTup : Bt := ⟨"tuple", "tuple", g1 fTuple, fun X _ => c_tuple, by kernel_rfl, by decide, by decide⟩
def tLst : Bt := ⟨"list", "list", g1 fList, fun X g => c_list g.calm, by kernel_rfl, by decide, by decide⟩
def nInt : Tn := ⟨"int", "int", by kernel_rfl, by decide, by decide⟩
def nStr : Tn := ⟨"str", "str", by kernel_rfl, by decide, by decide⟩
def nBool : Tn := ⟨"bool", "bool", by kernel_rfl, by decide, by decide⟩
def nTup : Tn := ⟨"tuple", "tuple", by kernel_rfl, by decide, by decide⟩
def nLst : Tn := ⟨"list", "list", by kernel_rfl, by decide, by decide⟩
def mIndex : Ms := ⟨"index", "str.index", gIndex, fun X _ => m_index, F.slot_str_index, by rfl⟩
def mJoin : Ms := ⟨"join", "str.join", gJoin, fun X _ => m_join, F.slot_str_join, by rfl⟩
def mSplit : Ms := ⟨"split", "str.split", gSplit, fun X _ => m_split, F.slot_str_split, by rfl⟩
def tStr : Bt := ⟨"str", "str", g1 fStr, fun X _ => c_str, by kernel_rfl, by decide, by decide⟩
def tIntS : Bt := ⟨"int", "int", g1 fIntS, fun X _ => c_intS, by kernel_rfl, by decide, by decide⟩
def mAppend : Ml := ⟨"append", "list.append", fAppend, fun X _ => m_append, F.slot_list_append, by rfl⟩
def mExtend : Ml := ⟨"extend", "list.extend", fExtend, fun X _ => m_extend, F.slot_list_extend, by rfl⟩
def mGet : Md := ⟨"get", "dict.get", fGetD, fun X g => m_get (by have := g.un; omega), F.slot_dict_get, by rfl⟩
def mPopD : Md := ⟨"pop", "dict.pop", fPopD, fun X _ => m_pop, F.slot_dict_pop, by rfl⟩
end Wn
end

section
set_option Elab.async false
set_option linter.all false
set_option maxRecDepth 100000
set_option maxHeartbeats 800000
namespace Wn
open PySem PySem.Spec PyProof.Rows L2

/-! ### what is told of the module behind its top -/
mutual
/-- a module's constant -/
def repC (K : PySem.W.Frag) : D → Value → Bool
  | .non, .none => true
  | .bl b, .bool c => b == c
  | .int i, .int j _ => i == j
  | .str x, .str y _ => x == y
  | .tup ds, .ref a => (match K.lookup a with
    | some ⟨.type c, none, .seq its _, _⟩ => c == "tuple" && decide (its.size ≤ sizeLine) && repCs K ds its.toList
    | _ => false)
  | _, _ => false
def repCs (K : PySem.W.Frag) : List D → List Value → Bool
  | [], [] => true
  | d :: ds, u :: us => repC K d u && repCs K ds us
  | _, _ => false
end
mutual
theorem repC_ok {K : PySem.W.Frag} : ∀ {d : D} {u : Value}, repC K d u = true → ∃ v, RelV v u ∧ ∀ H r, Rep K H r d v
  | .non, u, h => by
    cases u with
    | none => exact ⟨.non, rfl, fun _ _ => rfl⟩
    | _ => cases h
  | .bl b, u, h => by
    cases u with
    | bool c => exact ⟨.bl c, rfl, fun _ _ => by rw [eq_of_beq (show (b == c) = true from h)]; exact rfl⟩
    | _ => cases h
  | .int i, u, h => by
    cases u with
    | int j t => exact ⟨.int j, ⟨t, rfl⟩, fun _ _ => by rw [eq_of_beq (show (i == j) = true from h)]; exact rfl⟩
    | _ => cases h
  | .str x, u, h => by
    cases u with
    | str y t => exact ⟨.str y, ⟨t, rfl⟩, fun _ _ => by rw [eq_of_beq (show (x == y) = true from h)]; exact rfl⟩
    | _ => cases h
  | .tup ds, u, h => by
    cases u with
    | ref a =>
      replace h : (match K.lookup a with
        | some ⟨.type c, none, .seq its _, _⟩ => c == "tuple" && decide (its.size ≤ sizeLine) && repCs K ds its.toList
        | _ => false) = true := h
      split at h
      · rename_i c its n sl e
        simp only [Bool.and_eq_true, beq_iff_eq, decide_eq_true_eq] at h
        obtain ⟨⟨rfl, h2⟩, h3⟩ := h
        obtain ⟨vs, rv, q⟩ := repCs_ok h3
        exact ⟨.ref a, rfl, fun H r => ⟨a, vs, rfl, .inr ⟨_, its, n, e, rfl, rfl, h2, rv⟩, q H r⟩⟩
      · cases h
    | _ => cases h
  | .lst _, u, h => by cases u <;> cases h
  | .scr _, u, h => by cases u <;> cases h
  | .ref _, u, h => by cases u <;> cases h
  | .ty _, u, h => by cases u <;> cases h
theorem repCs_ok {K : PySem.W.Frag} : ∀ {ds : List D} {us : List Value}, repCs K ds us = true → ∃ vs, Vals vs us ∧ ∀ H r, Reps K H r ds vs
  | [], [], _ => ⟨[], .nil, fun _ _ => rfl⟩
  | [], _ :: _, h => by cases h
  | _ :: _, [], h => by cases h
  | d :: ds, u :: us, h => by
    obtain ⟨h1, h2⟩ := Bool.and_eq_true_iff.mp (show (repC K d u && repCs K ds us) = true from h)
    obtain ⟨v, r, q⟩ := repC_ok h1
    obtain ⟨vs, rs, qs⟩ := repCs_ok h2
    exact ⟨v :: vs, .cons r rs, fun H rr => ⟨v, vs, rfl, q H rr, qs H rr⟩⟩
end
/-- the constants, the built-in names that are free, the defs' names -/
def exW (cons : List (Str × D)) (blts : List Str) (fns : List Str) (K : PySem.W.Frag) : Bool :=
  (cons.all fun p => match PySem.W.nsIn K mainGlobals p.1 with
    | some (some u) => repC K p.2 u
    | _ => false) && (blts.all fun x => He.eqO (PySem.W.nsIn K mainGlobals x) (some none)) && fns.all fun x => He.eqO (PySem.W.nsIn K mainGlobals x) (some (some (.ref (He.ga K x))))
abbrev AlW : Type := He.AlD × Bool
def obsW (n : Nat) (fn : List He.DefD) (ex : PySem.W.Frag → Bool) (g : Addr → Option Obj) : AlW := (He.obsD [] fn (He.frG g (He.asD g n)), ex (He.frG g (He.asD g n)))
def hookW (n : Nat) (fn : List He.DefD) (ex : PySem.W.Frag → Bool) : PySem.W.Hook where
  α := AlW
  obs := fun s => obsW n fn ex s.heap.get?
  val := fun _ => (He.valD fn, true)
  says := fun _ h => ∃ K : PySem.W.Frag, K.In h ∧ He.SaysD [] fn K ∧ ex K = true
  of := fun _ s e => ⟨_, He.frG_in, congrArg Prod.fst e, congrArg Prod.snd e⟩
  keeps := fun _ _ _ ⟨K, hK, c⟩ k => ⟨K, PySem.W.Frag.In.keeps hK k, c⟩
theorem obsW_eq {n : Nat} {fn : List He.DefD} {ex : PySem.W.Frag → Bool} {g : Addr → Option Obj} {s : Shared} (h : ∀ a, g a = s.heap.get? a) : obsW n fn ex g = (hookW n fn ex).obs s := by
  have e : g = s.heap.get? := funext h
  rw [e]; rfl
section
variable {K : PySem.W.Frag} {h : Heap} {mg : Str → Option Value} {cons : List (Str × D)} {blts fns : List Str}
theorem exW_con (KX : K.In h) (G : h.Ns mainGlobals mg) (e : exW cons blts fns K = true) : ∀ p ∈ cons, ∃ u v, mg p.1 = some u ∧ RelV v u ∧ ∀ H r, Rep K H r p.2 v := fun p hp => by
  have z := List.all_eq_true.mp (Bool.and_eq_true_iff.mp (Bool.and_eq_true_iff.mp e).1).1 p hp
  split at z
  · rename_i u q
    obtain ⟨v, r, w⟩ := repC_ok z
    exact ⟨u, v, PySem.W.mg_of KX G q, r, w⟩
  · cases z
theorem exW_blt (KX : K.In h) (G : h.Ns mainGlobals mg) (e : exW cons blts fns K = true) : ∀ x, blts.contains x = true → mg x = none := fun x hx => by
  have z := List.all_eq_true.mp (Bool.and_eq_true_iff.mp (Bool.and_eq_true_iff.mp e).1).2 x (by simpa using hx)
  exact PySem.W.mg_none_of KX G (He.eqO_ok z)
theorem exW_fn (KX : K.In h) (G : h.Ns mainGlobals mg) (e : exW cons blts fns K = true) {x : Str} (hx : fns.contains x = true) : mg x = some (.ref (He.ga K x)) := by
  have z := List.all_eq_true.mp (Bool.and_eq_true_iff.mp e).2 x (by simpa using hx)
  exact PySem.W.mg_of KX G (He.eqO_ok z)
end
/-! ### from a def's datum -/
theorem def_of {K : PySem.W.Frag} {mg : Str → Option Value} {x qual : Str} {params : Arguments} {body : List Stmt} {scope : Scope} {f : Addr} {fd : FuncData} {ps : List Str} (F : FunD K x qual params body scope [] [] f fd) (g : mg x = some (.ref f))
    (h1 : ∀ (kV doc pm : Value) (an : Option Addr) (cdv ct : Value) (us : List Value), us.length = ps.length → bindArgs (PySem.W.fnOf x qual params body scope .none kV doc pm an cdv ct) ⟨us, []⟩ = pure (ps.zip us))
    (h2 : ∀ (kV doc pm : Value) (an : Option Addr) (cdv ct : Value) (us : List Value), us.length = ps.length → bindArgs (PySem.W.fnOf x qual params body scope .none kV doc pm an cdv ct) ⟨[], ps.zip us⟩ = pure (ps.zip us))
    (h3 : ∀ (kV doc pm : Value) (an : Option Addr) (cdv ct : Value) (us : List Value), us.length = ps.length → ∀ o ∈ ords ps.length, bindArgs (PySem.W.fnOf x qual params body scope .none kV doc pm an cdv ct) ⟨[], (kwN ps o).zip us⟩ = pure (ps.zip (arr o .none us))) : Def K mg x ps body scope f fd := by
  have kp := F.kp
  obtain ⟨oc, od, dV, kV, doc, pm, an, cdv, ct, osl, e, lk, hcd, hD, _⟩ := F.ex
  have eD : dV = .none := by
    rcases hD with ⟨_, z⟩ | ⟨z, _⟩
    · exact z
    · exact absurd rfl z
  subst eD
  refine ⟨g, kp, ⟨x, qual, params, oc, .none, kV, doc, pm, cdv, ct, od, an, osl, e, lk, hcd⟩, fun s us hl => ?_, fun s us hl => ?_, fun o ho s us hl => ?_⟩
  · rw [e]; exact .of_eq (h1 kV doc pm an cdv ct us hl)
  · rw [e]; exact .of_eq (h2 kV doc pm an cdv ct us hl)
  · rw [e]; exact .of_eq (h3 kV doc pm an cdv ct us hl o ho)
/-- the defs that may be called -/
inductive Prms (er : ER) (P : Program) (w : World) (K : PySem.W.Frag) (mg : Str → Option Value) (base : Heap) (k : Nat) : List (Str × List Str) → List Fun → Prop
  | nil : Prms er P w K mg base k [] []
  | cons {j : Nat} {x : Str} {ps : List Str} {F : Fun} {cs : List (Str × List Str)} {us : List Fun} : Prm er P w K mg base j x ps F → j ≤ k → Prms er P w K mg base k cs us → Prms er P w K mg base k ((x, ps) :: cs) (F :: us)
theorem Prms.get {er : ER} {P : Program} {w : World} {K : PySem.W.Frag} {mg : Str → Option Value} {base : Heap} {k : Nat} : ∀ {cs : List (Str × List Str)} {us : List Fun}, Prms er P w K mg base k cs us → ∀ i y qs, cs[i]? = some (y, qs) → Prm er P w K mg base k y qs (us.getD i fun _ _ => .bad)
  | _, _, .nil, i, y, qs, h => by simp at h
  | _, _, .cons p hj t, 0, y, qs, h => by
    simp at h
    obtain ⟨rfl, rfl⟩ := h
    exact p.mono hj
  | _, _, .cons p hj t, i + 1, y, qs, h => by
    have z := t.get i y qs (by simpa using h)
    simpa using z
/-- a row's def from its datum -/
def allO {α : Type} (P : α → Prop) : List α → Prop
  | [] => True
  | a :: l => P a ∧ allO P l
theorem allO_mem {α : Type} {P : α → Prop} : ∀ {l : List α}, allO P l → ∀ a ∈ l, P a
  | [], _, _, h => by cases h
  | b :: l, h, a, m => by
    rcases List.mem_cons.mp m with e | m
    · rw [e]; exact h.1
    · exact allO_mem h.2 a m
theorem row_def {er : ER} {P : Program} {w : World} {K : PySem.W.Frag} {mg : Str → Option Value} {base h : Heap} {cons : List (Str × D)} {blts fns : List Str} {fn : List He.DefD} {k i : Nat} {x : Str} {params : Arguments} {body : List Stmt} {scope : Scope} {ps N : List Str} {calls : List (Str × List Str)} {us : List Fun} {tr : Bool} {l : SL}
    (KX : K.In h) (G : h.Ns mainGlobals mg) (sd : He.SaysD [] fn K) (e : exW cons blts fns K = true) (hi : fn[i]? = some ⟨(x, none), x, x, params, body, scope, [], []⟩) (hx : fns.contains x = true)
    (h1 : ∀ (kV doc pm : Value) (an : Option Addr) (cdv ct : Value) (us : List Value), us.length = ps.length → bindArgs (PySem.W.fnOf x x params body scope .none kV doc pm an cdv ct) ⟨us, []⟩ = pure (ps.zip us))
    (h2 : ∀ (kV doc pm : Value) (an : Option Addr) (cdv ct : Value) (us : List Value), us.length = ps.length → bindArgs (PySem.W.fnOf x x params body scope .none kV doc pm an cdv ct) ⟨[], ps.zip us⟩ = pure (ps.zip us))
    (h3 : ∀ (kV doc pm : Value) (an : Option Addr) (cdv ct : Value) (us : List Value), us.length = ps.length → ∀ o ∈ ords ps.length, bindArgs (PySem.W.fnOf x x params body scope .none kV doc pm an cdv ct) ⟨[], (kwN ps o).zip us⟩ = pure (ps.zip (arr o .none us)))
    (hs : scopeC N ps scope = true) (hcv : cvSL ⟨N, calls, cons, blts⟩ l ⟨scope, scope⟩ body = true) (cal : Prms er P w K mg base k calls us) : Prm er P w K mg base (k + 1) x ps (fnDef us tr N.length l) := by
  obtain ⟨fd, F⟩ := sd.def_ i hi
  exact def_ok (C := ⟨N, calls, cons, blts⟩) (def_of F (exW_fn KX G e hx) h1 h2 h3) hs hcv (exW_con KX G e) (exW_blt KX G e) cal.get
/-! ### a law's end -/
theorem scL_of {K : PySem.W.Frag} {H : Hp} {a : Addr} {xs : List V} (o : Only H) (h : SqL K H a xs) : ScL K H a xs := by
  rcases h with (h | h) | h
  · rcases o a with z | ⟨ob, ys, z⟩
    · rw [z] at h; cases h
    · rw [z] at h; cases h
  · exact .inl h
  · exact .inr h
theorem reps_ints {K : PySem.W.Frag} {H : Hp} {r : List Addr} : ∀ ns : List Int, Reps K H r (ns.map D.int) (ns.map V.int)
  | [] => rfl
  | _ :: ns => ⟨_, _, rfl, rfl, reps_ints ns⟩
theorem cx_false {P : Program} {w : World} {H : Hp} {s s' : Shared} {e : Value} (c : L2.CX P w [] H s (fun _ _ _ => False) e s') : False := by
  obtain ⟨_, _, _, _, _, _, _, _, _, _, _, _, z⟩ := c
  exact z
theorem law_run {er : ER} {P : Program} {w : World} {K : PySem.W.Frag} {mg mb : Str → Option Value} {k : Nat} {x : Str} {F : Fun} {fa a : Addr} {s₁ : Shared} {us : List Value} {ns : List Int} {M' : Mem}
    (KX : K.In s₁.heap) (G1 : s₁.heap.Ns mainGlobals mg) (G2 : s₁.heap.Ns builtinsNs mb) (G3 : ∀ y : Str, y ≠ "__name__" → mb y = bootBuiltins y) (G4 : s₁.heap.NoLimit) (G5 : s₁.gens = #[]) (hfa : mg x = some (.ref fa))
    (ha : s₁.heap.get? a = some { cls := .type "list", data := .seq us.toArray }) (hi : IntsAre us ns) (hl : ns.length ≤ sizeLine) (hr : Room k callerA)
    (pF : ∀ base : Heap, K.In base → base.Ns mainGlobals mg → ∃ p, Prm er P w K mg base k x [p] F) (hlaw : F [.scr (ns.map D.int)] [] = .ok (.bl true) M') :
    codeAny (model P w) callerA (.call (.ref fa) ⟨[.ref a], []⟩) (fun r s' => r = .ok (.ret (.bool true)) ∧ OldK s₁.heap s'.heap ∧ s'.os = s₁.os ∧ AllBare s'.gens) s₁ := by
  have ri := vals_ints hi
  have li := hi.length
  have go : ∀ H : Hp, Only H → ScL K H a (ns.map V.int) → HOk P w H s₁.heap → (∀ b, H b ≠ none → b = a) → (H a ≠ none → K.lookup a = none) →
      codeAny (model P w) callerA (.call (.ref fa) ⟨[.ref a], []⟩) (fun r s' => r = .ok (.ret (.bool true)) ∧ OldK s₁.heap s'.heap ∧ s'.os = s₁.os ∧ AllBare s'.gens) s₁ := by
    intro H o1 o2 o3 o4 o5
    have dictFree : ∀ {b : Addr} {q : Obj} {es : Array DictEntry} {n : Nat}, s₁.heap.get? b = some q → q.data = .dict es n → H b = none := fun {b q es n} e1 e2 => Classical.byContradiction fun hb => by
      have eb : b = a := o4 b hb
      subst eb
      rw [ha] at e1
      cases e1
      exact Data.noConfusion e2
    have keepNs : ∀ {b : Addr} {m : Str → Option Value}, s₁.heap.Ns b m → (hidT s₁.heap H).Ns b m := fun {b m} ⟨q, es, n, e1, e2, e3⟩ => ⟨q, es, n, hidT_get e1 (dictFree e1 e2), e2, e3⟩
    have KB : K.In (hidT s₁.heap H) := fun b q e1 => hidT_get (KX b q e1) (Classical.byContradiction fun hb => by
      have eb : b = a := o4 b hb
      subst eb
      rw [o5 hb] at e1
      cases e1)
    have lim : (hidT s₁.heap H).NoLimit := by
      obtain ⟨mc, z1, z2⟩ := G4
      exact ⟨mc, keepNs z1, z2⟩
    have ev : Env0 P w K mg (hidT s₁.heap H) callerA [] s₁ H :=
      { frames := rfl, mod := { kin := KB, glob := keepNs G1, blt := ⟨mb, keepNs G2, G3⟩, nolimit := lim }, bs := fun b q e1 => of_hidT e1, bsz := Nat.le_of_eq (hidT_size _ _), funs := trivial, frf := fun b hb => (by cases hb), hok := o3, bare := .of_eq G5 }
    obtain ⟨p, f, fd, g1, _, FG, b1, _⟩ := pF _ KB (keepNs G1)
    rw [hfa] at g1
    cases g1
    have Sm : Sim K H [] [] := ⟨rfl, fun i j b e1 => by simp at e1, fun n b c e1 => by simp at e1⟩
    refine codeAny_mono (FG.run callerA [] s₁ H ⟨[.ref a], []⟩ [.ref a] [.ref a] [.scr (ns.map D.int)] [] [] (fun v _ => v = .bl true) (fun _ _ _ => False) hr rfl ev (b1 s₁ [.ref a] rfl) (.cons rfl .nil) ⟨_, _, rfl, ⟨a, _, rfl, o2, reps_ints ns⟩, rfl⟩ Sm rfl (by rw [hlaw]; exact fun v H' r' x s q => q)) fun rr s' hq => ?_
    match rr, hq with
    | .error e, hq => exact (cx_false hq).elim
    | .ok (.ret u), ⟨v, H', os, bare, un, hok', rv, qv⟩ =>
      subst qv
      cases (show u = Value.bool true from rv)
      refine ⟨rfl, OldK.of_keep fun b q e1 => ?_, os, bare⟩
      rcases o1 b with z | ⟨ob, ys, z⟩
      · exact un.keep b q e1 z (fun w => (by cases w)) (fun w => (by cases w))
      · have z3 := (hok' b _ (un.frzs b ob _ z)).1
        have z4 := (o3 b _ z).1
        rw [e1] at z4
        cases z4
        exact z3
    | .ok .next, hq => exact hq.elim
    | .ok .brk, hq => exact hq.elim
    | .ok .cont, hq => exact hq.elim
  cases hk : K.lookup a with
  | some q =>
    have e1 := KX a q hk
    rw [ha] at e1
    cases e1
    exact go (fun _ => none) (fun _ => .inl rfl) (.inr ⟨_, us.toArray, _, hk, rfl, rfl, rfl, by rw [List.size_toArray, li]; exact hl, by simpa using ri⟩) (fun b u z => by cases z) (fun b z => absurd rfl z) fun z => absurd rfl z
  | none =>
    have at_ : ∀ {b : Addr} {u : HO}, (if b = a then some (HO.frz { cls := .type "list", data := .seq us.toArray } (.lst (ns.map V.int))) else none) = some u → b = a ∧ u = HO.frz { cls := .type "list", data := .seq us.toArray } (.lst (ns.map V.int)) := fun {b u} z => by
      by_cases hb : b = a
      · rw [if_pos hb] at z
        cases z
        exact ⟨hb, rfl⟩
      · rw [if_neg hb] at z
        cases z
    refine go (fun b => if b = a then some (.frz { cls := .type "list", data := .seq us.toArray } (.lst (ns.map V.int))) else none) (fun b => ?_) (.inl ⟨_, if_pos rfl⟩) (fun b u z => ?_) (fun b z => ?_) fun _ => hk
    · by_cases hb : b = a
      · exact .inr ⟨_, _, if_pos hb⟩
      · exact .inl (if_neg hb)
    · obtain ⟨rfl, rfl⟩ := at_ z
      exact ⟨ha, by rw [List.length_map]; exact hl, us, _, ri, ha⟩
    · by_cases hb : b = a
      · exact hb
      · exact absurd (if_neg hb) z
theorem walk_law {er : ER} {l : PySem.W.OpenLaw} {n k : Nat} {q : Program} {loose : List Str} {XP : (Str → Option Value) → Heap → Prop} {YP : World → Heap → Prop} {d : DefRec} {F : Fun}
    (hn : l.most = some n) (hn2 : n ≤ sizeLine) (hdf : d.params.defaults = []) (hr : Room k callerA)
    (hF : ∀ (w : World) (mg : Str → Option Value) (h : Heap), YP w h → h.Ns mainGlobals mg → ∃ K : PySem.W.Frag, K.In h ∧ ∀ base : Heap, K.In base → base.Ns mainGlobals mg → ∃ p, Prm er l.prog w K mg base k d.name [p] F)
    (hlaw : ∀ ns : List Int, ns.length ≤ n → (∀ i ∈ ns, Builtin.Int.intBits i ≤ 1048576) → ∃ M', F [.scr (ns.map D.int)] [] = .ok (.bl true) M') :
    PySem.W.WalkO q loose XP YP l.row.toRowW d [] (fun f vs => PySem.call f vs) := by
  refine Att.attach_callB hn hdf fun w s₀ s₁ mg mb fa o pm cd doc a vs ns G Y ho hd hcd hmg hobj hints hlen hbits hg => ?_
  obtain ⟨K, KX, pF⟩ := hF w mg _ Y G.T.g
  obtain ⟨M', hM⟩ := hlaw ns hlen hbits
  exact law_run KX G.T.g G.T.b G.T.builtins G.T.nolimit hg hmg hobj hints (Nat.le_trans hlen hn2) hr pF hM
end Wn
end

section
set_option Elab.async false
set_option linter.all false
set_option maxRecDepth 100000
set_option maxHeartbeats 800000
namespace Wn
open PySem

/-! ### evaluation: single steps -/
theorem bnd_ok {α β : Type} {m : Mem → Res α} {k : α → Mem → Res β} {M M1 : Mem} {a : α} (h : m M = .ok a M1) : bnd m k M = k a M1 := by
  unfold bnd; rw [h]
theorem bndS_ok {α : Type} {δ : Env} {m : Mem → Res α} {k : α → Mem → SR} {M M1 : Mem} {a : α} (h : m M = .ok a M1) : bndS δ m k M = k a M1 := by
  unfold bndS; rw [h]
theorem seq_nx {a b : Fs} {δ δ1 : Env} {M M1 : Mem} (h : a δ M = .nx δ1 M1) : sSeq a b δ M = b δ1 M1 := by
  unfold sSeq; rw [h]
theorem seq_rt {a b : Fs} {δ : Env} {M M1 : Mem} {d : D} (h : a δ M = .rt d M1) : sSeq a b δ M = .rt d M1 := by
  unfold sSeq; rw [h]
/-- a comprehension whose element leaves the cells -/
theorem lc_map {i : Nat} {e : Fe} {δ : Env} {M : Mem} {g : D → D} : ∀ {ds : List D}, (∀ d ∈ ds, e (δ.set i (some d)) M = .ok (g d) M) → lcGo (.nm i) bYes e δ ds M = .ok (ds.map g) M
  | [], _ => rfl
  | d :: ds, h => by
    have h1 := h d (List.mem_cons_self ..)
    have h2 := lc_map fun x hx => h x (List.mem_cons_of_mem _ hx)
    rw [lcGo_cons]
    simp only [Tg.put, bYes, ret, h1, h2, List.map_cons]
theorem for_nx {t : Tg} {b : Fs} {d : D} {ds : List D} {δ δ1 δ2 : Env} {M M2 : Mem} (h1 : t.put M d δ = some δ1) (h2 : b δ1 M = .nx δ2 M2) : forGo t b (d :: ds) δ M = forGo t b ds δ2 M2 := by
  rw [forGo_cons, h1]
  simp only [h2]

/-! ### texts as lists of numbers -/
def st (l : List Nat) : Str := ⟨l.toArray⟩
theorem st_len (l : List Nat) : (st l).length = l.length := by simp [st, Str.length]
theorem st_tl (l : List Nat) : (st l).cps.toList = l := by simp [st]
theorem st_app (a b : List Nat) : st a ++ st b = st (a ++ b) := by
  show Str.append (st a) (st b) = _
  simp [Str.append, st]
theorem st_inj {a b : List Nat} : st a = st b ↔ a = b := ⟨fun h => by rw [← st_tl a, h, st_tl], fun h => by rw [h]⟩
theorem st_sgn (l : List Nat) : sgn (st l) = l.map fun c => D.str (st [c]) := by simp [sgn, st]
theorem st_cut (l : List Nat) (lo hi : Option Int) : L2.cutS (st l) lo hi = st (cutD l lo hi) := by
  unfold L2.cutS cutD
  rw [st_tl, st_len]; rfl
theorem gSl_st {M : Mem} {l : List Nat} {lo hi : Option Int} (h : l.length ≤ sizeLine) : gSl M (.str (st l)) lo hi = some (.str (st (cutD l lo hi))) := by
  show (if (st l).length ≤ sizeLine then some (D.str (L2.cutS (st l) lo hi)) else none) = _
  rw [st_len, if_pos h, st_cut]
theorem gAdd_st {M : Mem} {a b : List Nat} (h : a.length + b.length ≤ sizeLine) : gAdd M (.str (st a)) (.str (st b)) = some (.str (st (a ++ b))) := by
  show (if (st a).length + (st b).length ≤ sizeLine then some (D.str (st a ++ st b)) else none) = _
  rw [st_len, st_len, if_pos h, st_app]
theorem gIx_st {M : Mem} {l : List Nat} {i : Nat} {c : Nat} (h : l.length ≤ sizeLine) (e : l[i]? = some c) : gIx M (.str (st l)) (.int (i : Nat)) = some (.str (st [c])) := by
  have hi := (List.getElem?_eq_some_iff.mp e).1
  show (if (st l).length ≤ sizeLine then (L2.atI (st l).cps.toList ((i : Nat) : Int)).map fun c => D.str ⟨#[c]⟩ else none) = _
  rw [st_len, if_pos h, st_tl]
  unfold L2.atI L2.ixN
  rw [if_pos (by omega), if_pos (by omega)]
  show ((some i).bind fun j => l[j]?).map _ = _
  show (l[i]?).map _ = _
  rw [e]; rfl
theorem gEq_str {M : Mem} {a b : Str} (ha : PyData.strOk a = true) (hb : PyData.strOk b = true) : gEq M (.str a) (.str b) = some (.bl (a == b)) := by
  have s1 : SeqAt.shaped (.str a) = true := by unfold SeqAt.shaped; rw [Bool.and_eq_true]; exact ⟨ha, rfl⟩
  have s2 : SeqAt.shaped (.str b) = true := by unfold SeqAt.shaped; rw [Bool.and_eq_true]; exact ⟨hb, rfl⟩
  show (if SeqAt.shaped (.str a) = true ∧ SeqAt.shaped (.str b) = true then some (D.bl (PyData.eqv (.str a) (.str b))) else none) = _
  rw [if_pos ⟨s1, s2⟩]; rfl
theorem gNe_str {M : Mem} {a b : Str} (ha : PyData.strOk a = true) (hb : PyData.strOk b = true) : gNe M (.str a) (.str b) = some (.bl (!(a == b))) := by
  have s1 : SeqAt.shaped (.str a) = true := by unfold SeqAt.shaped; rw [Bool.and_eq_true]; exact ⟨ha, rfl⟩
  have s2 : SeqAt.shaped (.str b) = true := by unfold SeqAt.shaped; rw [Bool.and_eq_true]; exact ⟨hb, rfl⟩
  show (if SeqAt.shaped (.str a) = true ∧ SeqAt.shaped (.str b) = true then some (D.bl (!PyData.eqv (.str a) (.str b))) else none) = _
  rw [if_pos ⟨s1, s2⟩]; rfl
theorem st_beq (a b : List Nat) : (st a == st b) = decide (a = b) := by
  by_cases h : a = b
  · subst h; simp
  · have : st a ≠ st b := fun z => h (st_inj.mp z)
    simp [h, this]
theorem strsOf_st : ∀ ls : List (List Nat), strsOf (ls.map fun l => D.str (st l)) = some (ls.map st)
  | [] => rfl
  | l :: ls => by
    have ih := strsOf_st ls
    unfold strsOf at ih ⊢
    rw [List.map_cons, List.mapM_cons, ih]; rfl
theorem joinL_nil : ∀ ls : List (List Nat), TL.joinL [] ls = ls.flatten
  | [] => rfl
  | [p] => by simp [TL.joinL]
  | p :: q :: r => by
    have ih := joinL_nil (q :: r)
    show p ++ ([] ++ TL.joinL [] (q :: r)) = _
    rw [ih]; simp
theorem join_st (ls : List (List Nat)) : Txt.join (st []) (ls.map st) = st ls.flatten := by
  have h : (Txt.join (st []) (ls.map st)).cps.toList = ls.flatten := by
    rw [TL.join_eq]
    show TL.tl (Str.join (st []) (ls.map st)) = _
    rw [TL.tl_join]
    have e : (ls.map st).map TL.tl = ls := by
      rw [List.map_map]
      have : (TL.tl ∘ st) = id := by funext l; exact st_tl l
      rw [this, List.map_id]
    rw [e, show TL.tl (st []) = [] from rfl, joinL_nil]
  have : Txt.join (st []) (ls.map st) = ⟨(Txt.join (st []) (ls.map st)).cps.toList.toArray⟩ := by simp
  rw [this, h]; rfl
theorem gJoin_st {M : Mem} {ls : List (List Nat)} (h : (ls.map List.length).sum ≤ 16777216) : gJoin M (.str (st [])) [.lst (ls.map fun l => D.str (st l))] = some (.str (st ls.flatten)) := by
  have e : ((ls.map st).map (·.length)).sum + (ls.map st).length * (st []).length = (ls.map List.length).sum := by
    rw [List.map_map]
    have : ((fun x : Str => x.length) ∘ st) = List.length := by funext l; exact st_len l
    rw [this, st_len]; simp
  show (match seqJ M (.lst (ls.map fun l => D.str (st l))) with
    | some ds => (match strsOf ds with
      | some ys => if (List.map Str.length ys).sum + ys.length * (st []).length ≤ 16777216 then some (D.str (Txt.join (st []) ys)) else none
      | none => none)
    | none => none) = _
  simp only [seqJ, lstOf, strsOf_st]
  rw [if_pos (by rw [e]; exact h), join_st]
theorem mul_st (c : Nat) (n : Nat) : Txt.mul (st [c]) (n : Nat) = st (List.replicate n c) := by
  unfold Txt.mul
  match n with
  | 0 => rfl
  | 1 => rfl
  | n + 2 =>
    rw [if_neg (by omega), if_neg (by rw [st_len]; simp; omega)]
    have key : ∀ (m : Nat) (acc : List Nat), (List.replicate m (st [c]).cps).foldl (· ++ ·) acc.toArray = (acc ++ List.replicate m c).toArray := by
      intro m
      induction m with
      | zero => intro acc; simp
      | succ m ih =>
        intro acc
        rw [List.replicate_succ, List.foldl_cons]
        have : acc.toArray ++ (st [c]).cps = (acc ++ [c]).toArray := by simp [st]
        rw [this, ih]
        simp [List.replicate_succ]
    have := key ((n + 2 : Nat) : Int).toNat []
    simp only [Int.toNat_natCast] at this ⊢
    unfold st
    rw [show (#[] : Array Nat) = ([] : List Nat).toArray from rfl]
    simpa [st] using this
theorem gMul_st {M : Mem} {c n : Nat} (h : n ≤ 1048576) : gMul M (.str (st [c])) (.int (n : Nat)) = some (.str (st (List.replicate n c))) := by
  show (if (st [c]).length ≤ 16 ∧ ((n : Nat) : Int).natAbs ≤ 1048576 then some (D.str (Txt.mul (st [c]) (n : Nat))) else none) = _
  rw [if_pos ⟨by rw [st_len]; simp, by omega⟩, mul_st]

/-! ### cells of pages -/
def hexc (v : Nat) : Nat := if v < 10 then 48 + v else 87 + v
def CS : Str := "0123456789abcdef"
/-- a string of cells -/
def cs (vs : List Nat) : Str := st (vs.map hexc)
def Cells (vs : List Nat) : Prop := ∀ v ∈ vs, v < 16
theorem hexc_lt : ∀ v, v < 16 → hexc v < 0x110000 := by decide
theorem hexc_inj : ∀ v, v < 16 → ∀ w, w < 16 → hexc v = hexc w → v = w := by decide
theorem occ_cell : ∀ v, v < 16 → Builtin.Str.occurrences CS (st [hexc v]) 0 CS.length 1 = [v] := by decide +kernel
theorem idx_cell {v : Nat} {M : Mem} (h : v < 16) : gIndex M (.str CS) [.str (st [hexc v])] = some (.int (v : Nat)) := by
  show (match Builtin.Str.occurrences CS (st [hexc v]) 0 CS.length 1 with | i :: _ => some (D.int (i : Nat)) | [] => none) = _
  rw [occ_cell v h]
theorem cs_at {v : Nat} {M : Mem} (h : v < 16) : gIx M (.str CS) (.int (v : Nat)) = some (.str (st [hexc v])) := by
  have key : ∀ v, v < 16 → L2.atI CS.cps.toList ((v : Nat) : Int) = some (hexc v) := by decide +kernel
  show (if CS.length ≤ sizeLine then (L2.atI CS.cps.toList ((v : Nat) : Int)).map fun c => D.str ⟨#[c]⟩ else none) = _
  rw [if_pos (by decide), key v h]
  rfl
theorem cs_len (vs : List Nat) : (cs vs).length = vs.length := by rw [cs, st_len, List.length_map]
theorem cs_sgn (vs : List Nat) : sgn (cs vs) = vs.map fun v => D.str (st [hexc v]) := by rw [cs, st_sgn, List.map_map]; rfl
theorem cutD_map {α β : Type} (f : α → β) (l : List α) (lo hi : Option Int) : cutD (l.map f) lo hi = (cutD l lo hi).map f := by
  unfold cutD
  rw [List.length_map, List.map_take, List.map_drop]
theorem gSl_cs {M : Mem} {vs : List Nat} {lo hi : Option Int} (h : vs.length ≤ sizeLine) : gSl M (.str (cs vs)) lo hi = some (.str (cs (cutD vs lo hi))) := by
  unfold cs
  rw [gSl_st (by simpa using h), cutD_map]
theorem gAdd_cs {M : Mem} {a b : List Nat} (h : a.length + b.length ≤ sizeLine) : gAdd M (.str (cs a)) (.str (cs b)) = some (.str (cs (a ++ b))) := by
  unfold cs
  rw [gAdd_st (by simpa using h), List.map_append]
theorem cs_ok {vs : List Nat} (h : Cells vs) : PyData.strOk (cs vs) = true := by
  unfold PyData.strOk cs st
  simp only [Array.all_eq_true', List.mem_toArray, List.mem_map, decide_eq_true_eq]
  rintro x ⟨v, hv, rfl⟩
  exact hexc_lt v (h v hv)
theorem cs_inj : ∀ {a b : List Nat}, Cells a → Cells b → (cs a = cs b ↔ a = b) := fun {a b} ha hb => ⟨fun h => by
  have h : a.map hexc = b.map hexc := st_inj.mp h
  induction a generalizing b with
  | nil => cases b with
    | nil => rfl
    | cons _ _ => cases h
  | cons x xs ih => cases b with
    | nil => cases h
    | cons y ys =>
      rw [List.map_cons, List.map_cons] at h
      injection h with h1 h2
      rw [hexc_inj x (ha x (List.mem_cons_self ..)) y (hb y (List.mem_cons_self ..)) h1, ih (fun v hv => ha v (List.mem_cons_of_mem _ hv)) (fun v hv => hb v (List.mem_cons_of_mem _ hv)) (by rw [cs, cs, h2]) h2], fun h => by rw [h]⟩
theorem gEq_cs {M : Mem} {a b : List Nat} (ha : Cells a) (hb : Cells b) : gEq M (.str (cs a)) (.str (cs b)) = some (.bl (decide (a = b))) := by
  rw [gEq_str (cs_ok ha) (cs_ok hb)]
  by_cases h : a = b
  · subst h; simp
  · have : cs a ≠ cs b := fun z => h ((cs_inj ha hb).mp z)
    simp [h, this]
theorem gNe_cs {M : Mem} {a b : List Nat} (ha : Cells a) (hb : Cells b) : gNe M (.str (cs a)) (.str (cs b)) = some (.bl (!decide (a = b))) := by
  rw [gNe_str (cs_ok ha) (cs_ok hb)]
  by_cases h : a = b
  · subst h; simp
  · have : cs a ≠ cs b := fun z => h ((cs_inj ha hb).mp z)
    simp [h, this]
/-! ### slices, pairs -/
theorem cutD_hi {α : Type} (l : List α) (k : Nat) : cutD l none (some ((k : Nat) : Int)) = l.take k := by
  unfold cutD
  rw [HT.sIx_none, HT.sIx_nat, List.drop_zero, Nat.sub_zero]
  by_cases h : k ≤ l.length
  · rw [Nat.min_eq_left h]
  · rw [Nat.min_eq_right (by omega), List.take_of_length_le (Nat.le_refl _), List.take_of_length_le (by omega)]
theorem cutD_lo {α : Type} (l : List α) (k : Nat) : cutD l (some ((k : Nat) : Int)) none = l.drop k := by
  unfold cutD
  rw [HT.sIx_none, HT.sIx_nat]
  by_cases h : k ≤ l.length
  · rw [Nat.min_eq_left h, List.take_of_length_le (by rw [List.length_drop]; omega)]
  · rw [Nat.min_eq_right (by omega), List.drop_eq_nil_of_le (Nat.le_refl _), List.drop_eq_nil_of_le (by omega)]; simp
theorem cutD_both {α : Type} (l : List α) (a b : Nat) : cutD l (some ((a : Nat) : Int)) (some ((b : Nat) : Int)) = (l.drop a).take (b - a) := by
  unfold cutD
  rw [HT.sIx_nat, HT.sIx_nat]
  by_cases h : a ≤ l.length
  · rw [Nat.min_eq_left h]
    by_cases h2 : b ≤ l.length
    · rw [Nat.min_eq_left h2]
    · rw [Nat.min_eq_right (by omega), List.take_of_length_le (by rw [List.length_drop]; omega), List.take_of_length_le (by rw [List.length_drop]; omega)]
  · rw [Nat.min_eq_right (by omega : l.length ≤ a), List.drop_eq_nil_of_le (Nat.le_refl _), List.drop_eq_nil_of_le (by omega)]; simp
/-- pairs of numbers and items -/
def enumD : Nat → List D → List D
  | _, [] => []
  | k, d :: ds => .tup [.int (k : Nat), d] :: enumD (k + 1) ds
theorem pairs_enum : ∀ (k : Nat) (l : List D), pairs ((List.range' k l.length).map fun i => D.int ((i : Nat) : Int)) l = enumD k l
  | _, [] => by simp [pairs, enumD]
  | k, d :: ds => by
    rw [List.length_cons, List.range'_succ, List.map_cons]
    show D.tup [.int (k : Nat), d] :: pairs _ ds = _
    rw [pairs_enum (k + 1) ds]; rfl
theorem pairs_nums (l : List D) : pairs (nums l.length) l = enumD 0 l := by
  rw [← pairs_enum 0 l, nums, List.range_eq_range']
theorem isS_ite {α : Type} (x : Str) (a b : α) : (if isS (.str x) = true then a else b) = a := rfl
theorem if_le_sz {α : Type} {n : Nat} (h : n ≤ 1000) (a b : α) : (if n ≤ sizeLine then a else b) = a := if_pos (Nat.le_trans h (by decide))
theorem add_int {a b : Int} {M : Mem} : gAdd M (.int a) (.int b) = some (.int (a + b)) := rfl
theorem sub_int {a b : Int} {M : Mem} : gSub M (.int a) (.int b) = some (.int (a - b)) := rfl
theorem eq_int {M : Mem} {a b : Int} : gEq M (.int a) (.int b) = some (.bl (decide (a = b))) := by
  show some (D.bl (a == b)) = _
  congr 2
theorem ne_int {M : Mem} {a b : Int} : gNe M (.int a) (.int b) = some (.bl (!decide (a = b))) := by
  show some (D.bl (!(a == b))) = _
  congr 2
theorem le_int {M : Mem} {a b : Int} : gLe M (.int a) (.int b) = some (.bl (decide (a ≤ b))) := rfl
theorem lt_int {M : Mem} {a b : Int} : gLt M (.int a) (.int b) = some (.bl (decide (a < b))) := rfl
theorem gt_int {M : Mem} {a b : Int} : gGt M (.int a) (.int b) = some (.bl (decide (b < a))) := rfl
theorem ge_int {M : Mem} {a b : Int} : gGe M (.int a) (.int b) = some (.bl (decide (b ≤ a))) := rfl
theorem len_str {M : Mem} {s : Str} (h : s.length ≤ sizeLine) : fLen M (.str s) = some (.int (s.length : Nat)) := if_pos h
theorem is_non {M : Mem} {d : D} : gIs M d .non = some (.bl (isNon d)) := rfl
theorem isnot_non {M : Mem} {d : D} : gIsNot M d .non = some (.bl (!isNon d)) := rfl
theorem append_ok {M : Mem} {n : Nat} {ds : List D} {y : D} (h : M[n]? = some (.lst ds)) (hz : ds.length < sizeLine) : fAppend (.ref n) [y] M = .ok .non (M.set n (.lst (ds ++ [y]))) := by
  unfold fAppend
  simp only [h]
  rw [if_pos hz]
theorem isL_ref {M : Mem} {n : Nat} {ds : List D} (h : M[n]? = some (.lst ds)) : isL M (.ref n) = true := by
  unfold isL lstOf
  simp only [h]; rfl
theorem get_end {M : Mem} {c : Cell} : (M ++ [c])[M.length]? = some c := by rw [List.getElem?_append_right (Nat.le_refl _)]; simp
theorem set_end {M : Mem} {c d : Cell} : (M ++ [c]).set M.length d = M ++ [d] := by rw [List.set_append_right _ _ (Nat.le_refl _)]; simp
theorem lstX_lst {M : Mem} {ds : List D} : lstX M (.lst ds) = some ds := rfl
theorem lstOf_lst {M : Mem} {ds : List D} : lstOf M (.lst ds) = some ds := rfl
end Wn
end

section
set_option Elab.async false
set_option linter.all false
set_option maxRecDepth 100000
set_option maxHeartbeats 0
namespace Lw
open PySem Wn
/-- is_whole(value) -/
def N_is_whole : List Str := ["value"]
def B_is_whole : SL := .cons (.ret (.and (.bf bIsi (.cons (.var 0) (.cons (.tyn nInt) (.nil)))) (.not (.bf bIsi (.cons (.var 0) (.cons (.tyn nBool) (.nil))))))) (.nil)
noncomputable def F_is_whole : Fun := fnDef [] false 1 B_is_whole
/-- is_integer(value, low, high) -/
def N_is_integer : List Str := ["value", "low", "high"]
def B_is_integer : SL := .cons (.ret (.and (.fn 0 1 (.cons (.var 0) (.nil))) (.chn cLe cLe (.var 1) (.var 0) (.var 2)))) (.nil)
noncomputable def F_is_integer : Fun := fnDef [F_is_whole] false 3 B_is_integer
/-- is_tuple(value, low, high) -/
def N_is_tuple : List Str := ["value", "low", "high"]
def B_is_tuple : SL := .cons (.ret (.and (.bf bIsi (.cons (.var 0) (.cons (.tyn nTup) (.nil)))) (.chn cLe cLe (.var 1) (.bf bLen (.cons (.var 0) (.nil))) (.var 2)))) (.nil)
noncomputable def F_is_tuple : Fun := fnDef [] false 3 B_is_tuple
/-- is_string(value, some) -/
def N_is_string : List Str := ["value", "some"]
def B_is_string : SL := .cons (.ret (.and (.bf bIsi (.cons (.var 0) (.cons (.tyn nStr) (.nil)))) (.cmp cIn (.var 0) (.var 1)))) (.nil)
noncomputable def F_is_string : Fun := fnDef [] false 2 B_is_string
/-- are_signs(value, low, high, first, sign) -/
def N_are_signs : List Str := ["value", "low", "high", "first", "sign"]
def X1_are_signs : E := .and (.cmp cLe (.var 3) (.var 4)) (.or (.cmp cIn (.var 4) (.glo "LOW_SIGNS" (.str " !\"#$"))) (.cmp cIn (.var 4) (.glo "HIGH_SIGNS" (.str "&'()*+,-./0123456789:;<=>?@ABCDEFGHIJKLMNOPQRSTUVWXYZ[\\]^_`abcdefghijklmnopqrstuvwxyz{|}~"))))
def B_are_signs : SL := .cons (.ife (.or (.not (.tru (.bf bIsi (.cons (.var 0) (.cons (.tyn nStr) (.nil)))))) (.not (.tru (.chn cLe cLe (.var 1) (.bf bLen (.cons (.var 0) (.nil))) (.var 2))))) (.cons (.ret (.cst (.bl false))) (.nil)) (.nil)) (.cons (.ret (.bf bAll (.cons (.lc false .str (.cons (.var 0) (.nil)) (.nm 4) [4] (.yes) (X1_are_signs)) (.nil)))) (.nil))
noncomputable def F_are_signs : Fun := fnDef [] false 5 B_are_signs
/-- is_page_text(value, sign) -/
def N_is_page_text : List Str := ["value", "sign"]
def X1_is_page_text : E := .or (.cmp cEq (.var 1) (.glo "FEED" (.str "\n"))) (.or (.cmp cIn (.var 1) (.glo "LOW_SIGNS" (.str " !\"#$"))) (.cmp cIn (.var 1) (.glo "HIGH_SIGNS" (.str "&'()*+,-./0123456789:;<=>?@ABCDEFGHIJKLMNOPQRSTUVWXYZ[\\]^_`abcdefghijklmnopqrstuvwxyz{|}~"))))
def B_is_page_text : SL := .cons (.ife (.or (.not (.tru (.bf bIsi (.cons (.var 0) (.cons (.tyn nStr) (.nil)))))) (.tru (.cmp cGt (.bf bLen (.cons (.var 0) (.nil))) (.glo "MOST_PAGE_SIGNS" (.int 113))))) (.cons (.ret (.cst (.bl false))) (.nil)) (.nil)) (.cons (.ret (.bf bAll (.cons (.lc false .str (.cons (.var 0) (.nil)) (.nm 1) [1] (.yes) (X1_is_page_text)) (.nil)))) (.nil))
noncomputable def F_is_page_text : Fun := fnDef [] false 2 B_is_page_text
/-- is_key(value) -/
def N_is_key : List Str := ["value"]
def B_is_key : SL := .cons (.ret (.fn 0 4 (.cons (.var 0) (.cons (.cst (.int 1)) (.cons (.glo "MOST_KEY_SIGNS" (.int 13)) (.cons (.glo "FIRST_KEY_SIGN" (.str "!")) (.nil))))))) (.nil)
noncomputable def F_is_key : Fun := fnDef [F_are_signs] false 1 B_is_key
/-- is_value(value) -/
def N_is_value : List Str := ["value"]
def B_is_value : SL := .cons (.ret (.fn 0 4 (.cons (.var 0) (.cons (.cst (.int 1)) (.cons (.glo "MOST_VALUE_SIGNS" (.int 13)) (.cons (.glo "FIRST_SIGN" (.str " ")) (.nil))))))) (.nil)
noncomputable def F_is_value : Fun := fnDef [F_are_signs] false 1 B_is_value
/-- long_whole_in(word, figures, sign) -/
def N_long_whole_in : List Str := ["word", "figures", "sign"]
def X1_long_whole_in : E := .cmp cIn (.var 2) (.glo "FIGURES" (.str "0123456789"))
def B_long_whole_in : SL := .cons (.asg (.nm 1) (.ife (.tru (.cmp cEq (.sl2 (.var 0) (.cst (.int 1))) (.glo "MINUS" (.str "-")))) (.sl1 (.var 0) (.cst (.int 1))) (.var 0))) (.cons (.ife (.or (.not (.tru (.chn cLe cLe (.cst (.int 1)) (.bf bLen (.cons (.var 1) (.nil))) (.glo "MOST_PAGE_SIGNS" (.int 113))))) (.not (.tru (.bf bAll (.cons (.lc false .str (.cons (.var 1) (.nil)) (.nm 2) [2] (.yes) (X1_long_whole_in)) (.nil)))))) (.cons (.ret (.cst (.non))) (.nil)) (.nil)) (.cons (.ret (.ife (.tru (.cmp cEq (.bt tStr (.cons (.bt tIntS (.cons (.var 0) (.nil))) (.nil))) (.var 0))) (.bt tIntS (.cons (.var 0) (.nil))) (.cst (.non)))) (.nil)))
noncomputable def F_long_whole_in : Fun := fnDef [] false 3 B_long_whole_in
/-- whole_in(word, figures) -/
def N_whole_in : List Str := ["word", "figures"]
def B_whole_in : SL := .cons (.asg (.nm 1) (.ife (.tru (.cmp cEq (.sl2 (.var 0) (.cst (.int 1))) (.glo "MINUS" (.str "-")))) (.sl1 (.var 0) (.cst (.int 1))) (.var 0))) (.cons (.ret (.ife (.tru (.cmp cLe (.bf bLen (.cons (.var 1) (.nil))) (.glo "MOST_FIGURES" (.int 12)))) (.fn 0 1 (.cons (.var 0) (.nil))) (.cst (.non)))) (.nil))
noncomputable def F_whole_in : Fun := fnDef [F_long_whole_in] false 2 B_whole_in
/-- are_ascending(keys, key, one, other) -/
def N_are_ascending : List Str := ["keys", "key", "one", "other"]
def X1_are_ascending : E := .cmp cLt (.var 2) (.var 3)
def X2_are_ascending : E := .fn 0 1 (.cons (.var 1) (.nil))
def B_are_ascending : SL := .cons (.ret (.and (.bf bAll (.cons (.lc false .lst (.cons (.var 0) (.nil)) (.nm 1) [1] (.yes) (X2_are_ascending)) (.nil))) (.bf bAll (.cons (.lc false .zip (.cons (.var 0) (.cons (.sl1 (.var 0) (.cst (.int 1))) (.nil))) (.tp (.cons (.nm 2) (.cons (.nm 3) (.nil)))) [2, 3] (.yes) (X1_are_ascending)) (.nil))))) (.nil)
noncomputable def F_are_ascending : Fun := fnDef [F_is_key] false 4 B_are_ascending
/-- is_child(value) -/
def N_is_child : List Str := ["value"]
def B_is_child : SL := .cons (.ife (.tru (.fn 0 3 (.cons (.var 0) (.cons (.glo "PAIR" (.int 2)) (.cons (.glo "PAIR" (.int 2)) (.nil)))))) (.cons (.ret (.and (.fn 2 2 (.cons (.ix (.var 0) (.cst (.int 0))) (.cons (.tup (.cons (.glo "NEW" (.str "new")) (.nil))) (.nil)))) (.fn 1 3 (.cons (.ix (.var 0) (.cst (.int 1))) (.cons (.cst (.int 0)) (.cons (.glo "MOST_PLACE" (.int 999999999999)) (.nil))))))) (.nil)) (.nil)) (.cons (.ret (.fn 1 3 (.cons (.var 0) (.cons (.cst (.int 0)) (.cons (.glo "MOST_PLACE" (.int 999999999999)) (.nil)))))) (.nil))
noncomputable def F_is_child : Fun := fnDef [F_is_tuple, F_is_integer, F_is_string] false 1 B_is_child
/-- is_sheet(value, low, entry) -/
def N_is_sheet : List Str := ["value", "low", "entry"]
def X1_is_sheet : E := .fn 1 3 (.cons (.var 2) (.cons (.glo "PAIR" (.int 2)) (.cons (.glo "PAIR" (.int 2)) (.nil))))
def X2_is_sheet : E := .ix (.var 2) (.cst (.int 0))
def X3_is_sheet : E := .ife (.tru (.cmp cEq (.ix (.var 0) (.cst (.int 0))) (.glo "LEAF" (.str "leaf")))) (.fn 3 1 (.cons (.ix (.var 2) (.cst (.int 1))) (.nil))) (.fn 4 1 (.cons (.ix (.var 2) (.cst (.int 1))) (.nil)))
def B_is_sheet : SL := .cons (.ife (.or (.not (.tru (.fn 1 3 (.cons (.var 0) (.cons (.glo "PAIR" (.int 2)) (.cons (.glo "PAIR" (.int 2)) (.nil))))))) (.not (.tru (.fn 0 2 (.cons (.ix (.var 0) (.cst (.int 0))) (.cons (.tup (.cons (.glo "LEAF" (.str "leaf")) (.cons (.glo "FORK" (.str "fork")) (.nil)))) (.nil))))))) (.cons (.ret (.cst (.bl false))) (.nil)) (.nil)) (.cons (.asg (.nm 1) (.ife (.tru (.cmp cEq (.ix (.var 0) (.cst (.int 0))) (.glo "LEAF" (.str "leaf")))) (.cst (.int 1)) (.glo "FEWEST" (.int 2)))) (.cons (.ife (.or (.not (.tru (.fn 1 3 (.cons (.ix (.var 0) (.cst (.int 1))) (.cons (.var 1) (.cons (.glo "MOST" (.int 4)) (.nil))))))) (.not (.tru (.bf bAll (.cons (.lc false .tup (.cons (.ix (.var 0) (.cst (.int 1))) (.nil)) (.nm 2) [2] (.yes) (X1_is_sheet)) (.nil)))))) (.cons (.ret (.cst (.bl false))) (.nil)) (.nil)) (.cons (.ife (.not (.tru (.fn 2 1 (.cons (.lc false .tup (.cons (.ix (.var 0) (.cst (.int 1))) (.nil)) (.nm 2) [2] (.yes) (X2_is_sheet)) (.nil))))) (.cons (.ret (.cst (.bl false))) (.nil)) (.nil)) (.cons (.ret (.bf bAll (.cons (.lc false .tup (.cons (.ix (.var 0) (.cst (.int 1))) (.nil)) (.nm 2) [2] (.yes) (X3_is_sheet)) (.nil)))) (.nil)))))
noncomputable def F_is_sheet : Fun := fnDef [F_is_string, F_is_tuple, F_are_ascending, F_is_value, F_is_child] false 3 B_is_sheet
/-- sheet_of(text, words, told, found, word) -/
def N_sheet_of : List Str := ["text", "words", "told", "found", "word"]
def X1_sheet_of : E := .fn 0 1 (.cons (.var 4) (.nil))
def B_sheet_of : SL := .cons (.asg (.nm 1) (.ms mSplit (.var 0) (.cons (.glo "FEED" (.str "\n")) (.nil)))) (.cons (.ife (.or (.tru (.cmp cNi (.ix (.var 1) (.cst (.int 0))) (.tup (.cons (.glo "LEAF_WORD" (.str "l")) (.cons (.glo "FORK_WORD" (.str "f")) (.nil)))))) (.tru (.cmp cEq (.op oMod (.bf bLen (.cons (.var 1) (.nil))) (.glo "PAIR" (.int 2))) (.cst (.int 0))))) (.cons (.ret (.cst (.non))) (.nil)) (.nil)) (.cons (.asg (.nm 2) (.stp (.var 1) (.glo "PAIR" (.int 2)) (.glo "PAIR" (.int 2)))) (.cons (.ife (.tru (.cmp cEq (.ix (.var 1) (.cst (.int 0))) (.glo "FORK_WORD" (.str "f")))) (.cons (.asg (.nm 2) (.lc false .lst (.cons (.var 2) (.nil)) (.nm 4) [4] (.yes) (X1_sheet_of))) (.cons (.ife (.tru (.cmp cIn (.cst (.non)) (.var 2))) (.cons (.ret (.cst (.non))) (.nil)) (.nil)) (.nil))) (.nil)) (.cons (.asg (.nm 3) (.tup (.cons (.ife (.tru (.cmp cEq (.ix (.var 1) (.cst (.int 0))) (.glo "LEAF_WORD" (.str "l")))) (.glo "LEAF" (.str "leaf")) (.glo "FORK" (.str "fork"))) (.cons (.bt tTup (.cons (.lzp (.cons (.stp (.var 1) (.cst (.int 1)) (.glo "PAIR" (.int 2))) (.cons (.var 2) (.nil)))) (.nil))) (.nil))))) (.cons (.ret (.ife (.tru (.fn 1 1 (.cons (.var 3) (.nil)))) (.var 3) (.cst (.non)))) (.nil))))))
noncomputable def F_sheet_of : Fun := fnDef [F_whole_in, F_is_sheet] false 5 B_sheet_of
/-- sheet_in(text) -/
def N_sheet_in : List Str := ["text"]
def B_sheet_in : SL := .cons (.ife (.not (.tru (.fn 0 1 (.cons (.var 0) (.nil))))) (.cons (.nev) (.nil)) (.nil)) (.cons (.ret (.fn 1 1 (.cons (.var 0) (.nil)))) (.nil))
noncomputable def F_sheet_in : Fun := fnDef [F_is_page_text, F_sheet_of] false 1 B_sheet_in
/-- sheet_text(sheet, places, words, key, told) -/
def N_sheet_text : List Str := ["sheet", "places", "words", "key", "told"]
def L1_sheet_text : SL := .cons (.ife (.tru (.cmp cEq (.ix (.var 0) (.cst (.int 0))) (.glo "FORK" (.str "fork")))) (.cons (.asg (.nm 4) (.bt tStr (.cons (.ife (.tru (.bf bIsi (.cons (.var 4) (.cons (.tyn nTup) (.nil))))) (.ix (.var 1) (.ix (.var 4) (.cst (.int 1)))) (.var 4)) (.nil)))) (.nil)) (.nil)) (.cons (.ex (.ml mExtend (.var 2) (.cons (.cel (.cons (.var 3) (.cons (.var 4) (.nil)))) (.nil)))) (.nil))
def B_sheet_text : SL := .cons (.asg (.nm 2) (.cel (.cons (.ife (.tru (.cmp cEq (.ix (.var 0) (.cst (.int 0))) (.glo "LEAF" (.str "leaf")))) (.glo "LEAF_WORD" (.str "l")) (.glo "FORK_WORD" (.str "f"))) (.nil)))) (.cons (.for .tup (.cons (.ix (.var 0) (.cst (.int 1))) (.nil)) (.tp (.cons (.nm 3) (.cons (.nm 4) (.nil)))) (L1_sheet_text)) (.cons (.frz 2) (.cons (.ret (.ms mJoin (.glo "FEED" (.str "\n")) (.cons (.var 2) (.nil)))) (.nil))))
noncomputable def F_sheet_text : Fun := fnDef [] true 5 B_sheet_text
/-- written(sheet, places, children, key, told, child, place) -/
def N_written : List Str := ["sheet", "places", "children", "key", "told", "child", "place"]
def X1_written : E := .fn 1 3 (.cons (.var 6) (.cons (.cst (.int 0)) (.cons (.glo "MOST_PLACE" (.int 999999999999)) (.nil))))
def X2_written : E := .var 4
def X3_written : E := .cmp cGe (.ix (.var 5) (.cst (.int 1))) (.bf bLen (.cons (.var 1) (.nil)))
def B_written : SL := .cons (.ife (.not (.tru (.fn 0 1 (.cons (.var 0) (.nil))))) (.cons (.nev) (.nil)) (.nil)) (.cons (.ife (.or (.not (.tru (.bf bIsi (.cons (.var 1) (.cons (.tyn nTup) (.nil)))))) (.not (.tru (.bf bAll (.cons (.lc false .tup (.cons (.var 1) (.nil)) (.nm 6) [6] (.yes) (X1_written)) (.nil)))))) (.cons (.nev) (.nil)) (.nil)) (.cons (.asg (.nm 2) (.lc false .tup (.cons (.ix (.var 0) (.cst (.int 1))) (.nil)) (.tp (.cons (.nm 3) (.cons (.nm 4) (.nil)))) [3, 4] (.and (.tru (.cmp cEq (.ix (.var 0) (.cst (.int 0))) (.glo "FORK" (.str "fork")))) (.tru (.bf bIsi (.cons (.var 4) (.cons (.tyn nTup) (.nil)))))) (X2_written))) (.cons (.ife (.tru (.bf bAny (.cons (.lc false .lst (.cons (.var 2) (.nil)) (.nm 5) [5] (.yes) (X3_written)) (.nil)))) (.cons (.nev) (.nil)) (.nil)) (.cons (.ret (.fn 2 2 (.cons (.var 0) (.cons (.var 1) (.nil))))) (.nil)))))
noncomputable def F_written : Fun := fnDef [F_is_sheet, F_is_integer, F_sheet_text] false 7 B_written
/-- _law_pot(script, place, cell, own, small) -/
def N_law_pot : List Str := ["script", "place", "cell", "own", "small"]
def B_law_pot : SL := .cons (.asg (.nm 2) (.ife (.tru (.cmp cLt (.var 1) (.bf bLen (.cons (.var 0) (.nil))))) (.ix (.var 0) (.var 1)) (.op oAdd (.op oAdd (.op oMod (.bf bSum (.cons (.sl2 (.var 0) (.cst (.int 1))) (.nil))) (.cst (.int 1000003))) (.op oMul (.cst (.int 2314)) (.var 1))) (.cst (.int 1376))))) (.cons (.asg (.nm 3) (.op oMul (.op oMod (.bt tInt (.cons (.bf bAbs (.cons (.var 2) (.nil))) (.nil))) (.op oPow (.op oPow (.cst (.int 10)) (.cst (.int 60))) (.cst (.int 5)))) (.bt tInt (.cons (.cmp cGe (.bf bAbs (.cons (.var 2) (.nil))) (.op oPow (.cst (.int 10)) (.cst (.int 18)))) (.nil))))) (.cons (.asg (.nm 4) (.op oMod (.bt tInt (.cons (.var 2) (.nil))) (.cst (.int 2305843009213693951)))) (.cons (.ret (.cel (.cons (.var 3) (.cons (.op oMod (.bt tInt (.cons (.op oAdd (.op oAdd (.op oMul (.var 4) (.cst (.int 80846))) (.op oMul (.op oMul (.cst (.int 11032)) (.var 1)) (.var 1))) (.cst (.int 1444))) (.nil))) (.cst (.int 2305843009213693921))) (.cons (.cst (.int 0)) (.nil)))))) (.nil))))
noncomputable def F_law_pot : Fun := fnDef [] true 5 B_law_pot
/-- _law_take(pot, upto, prime, blend, digit) -/
def N_law_take : List Str := ["pot", "upto", "prime", "blend", "digit"]
def B_law_take : SL := .cons (.ife (.tru (.cmp cGt (.ix (.var 0) (.cst (.int 0))) (.cst (.int 0)))) (.cons (.asg (.nm 4) (.op oMod (.bt tInt (.cons (.ix (.var 0) (.cst (.int 0))) (.nil))) (.var 1))) (.cons (.set (.var 0) (.cst (.int 0)) (.op oDiv (.ix (.var 0) (.cst (.int 0))) (.var 1))) (.cons (.ret (.var 4)) (.nil)))) (.nil)) (.cons (.set (.var 0) (.cst (.int 2)) (.op oAdd (.ix (.var 0) (.cst (.int 2))) (.cst (.int 1)))) (.cons (.asg (.nm 2) (.ix (.lst (.cons (.cst (.int 2147483647)) (.cons (.cst (.int 2147483629)) (.cons (.cst (.int 2147483587)) (.cons (.cst (.int 2147483579)) (.cons (.cst (.int 2147483563)) (.nil))))))) (.op oMod (.bt tInt (.cons (.ix (.var 0) (.cst (.int 2))) (.nil))) (.cst (.int 5))))) (.cons (.asg (.nm 3) (.op oMod (.bt tInt (.cons (.op oPow (.bt tInt (.cons (.op oAdd (.op oAdd (.ix (.var 0) (.cst (.int 1))) (.op oMul (.op oMul (.cst (.int 104728)) (.ix (.var 0) (.cst (.int 2)))) (.ix (.var 0) (.cst (.int 2))))) (.cst (.int 1912))) (.nil))) (.cst (.int 3))) (.nil))) (.var 2))) (.cons (.asg (.nm 3) (.op oMod (.bt tInt (.cons (.op oMul (.var 3) (.op oAdd (.op oMod (.bt tInt (.cons (.var 3) (.nil))) (.cst (.int 12226))) (.op oMul (.cst (.int 794)) (.ix (.var 0) (.cst (.int 2)))))) (.nil))) (.cst (.int 2305843009213693907)))) (.cons (.ret (.op oMod (.bt tInt (.cons (.op oDiv (.var 3) (.cst (.int 167))) (.nil))) (.var 1))) (.nil))))))
noncomputable def F_law_take : Fun := fnDef [] false 5 B_law_take
/-- _law_of(pot, some) -/
def N_law_of : List Str := ["pot", "some"]
def B_law_of : SL := .cons (.ret (.ix (.var 1) (.fn 0 2 (.cons (.var 0) (.cons (.bf bLen (.cons (.var 1) (.nil))) (.nil)))))) (.nil)
noncomputable def F_law_of : Fun := fnDef [F_law_take] false 2 B_law_of
/-- _law_cells(script, most) -/
def N_law_cells : List Str := ["script", "most"]
def B_law_cells : SL := .cons (.ret (.lr1 (.bf bMax (.cons (.cst (.int 1)) (.cons (.bf bMin (.cons (.var 1) (.cons (.bf bLen (.cons (.var 0) (.nil))) (.nil)))) (.nil)))))) (.nil)
noncomputable def F_law_cells : Fun := fnDef [] false 2 B_law_cells
/-- _law_map_is_key(value, sign) -/
def N_law_map_is_key : List Str := ["value", "sign"]
def X1_law_map_is_key : E := .chn cLe cLe (.cst (.str "!")) (.var 1) (.cst (.str "~"))
def B_law_map_is_key : SL := .cons (.ret (.and (.bf bIsi (.cons (.var 0) (.cons (.tyn nStr) (.nil)))) (.and (.chn cLe cLe (.cst (.int 1)) (.bf bLen (.cons (.var 0) (.nil))) (.cst (.int 13))) (.bf bAll (.cons (.lc false .str (.cons (.var 0) (.nil)) (.nm 1) [1] (.yes) (X1_law_map_is_key)) (.nil)))))) (.nil)
noncomputable def F_law_map_is_key : Fun := fnDef [] false 2 B_law_map_is_key
/-- _law_map_is_value(value, sign) -/
def N_law_map_is_value : List Str := ["value", "sign"]
def X1_law_map_is_value : E := .chn cLe cLe (.cst (.str " ")) (.var 1) (.cst (.str "~"))
def B_law_map_is_value : SL := .cons (.ret (.and (.bf bIsi (.cons (.var 0) (.cons (.tyn nStr) (.nil)))) (.and (.chn cLe cLe (.cst (.int 1)) (.bf bLen (.cons (.var 0) (.nil))) (.cst (.int 13))) (.bf bAll (.cons (.lc false .str (.cons (.var 0) (.nil)) (.nm 1) [1] (.yes) (X1_law_map_is_value)) (.nil)))))) (.nil)
noncomputable def F_law_map_is_value : Fun := fnDef [] false 2 B_law_map_is_value
/-- _law_map_number(word, sign) -/
def N_law_map_number : List Str := ["word", "sign"]
def X1_law_map_number : E := .cmp cIn (.var 1) (.cst (.str "0123456789"))
def B_law_map_number : SL := .cons (.ife (.or (.not (.tru (.chn cLe cLe (.cst (.int 1)) (.bf bLen (.cons (.var 0) (.nil))) (.cst (.int 12))))) (.not (.tru (.bf bAll (.cons (.lc false .str (.cons (.var 0) (.nil)) (.nm 1) [1] (.yes) (X1_law_map_number)) (.nil)))))) (.cons (.ret (.cst (.non))) (.nil)) (.nil)) (.cons (.ret (.ife (.or (.tru (.cmp cEq (.var 0) (.cst (.str "0")))) (.tru (.cmp cNe (.ix (.var 0) (.cst (.int 0))) (.cst (.str "0"))))) (.bt tIntS (.cons (.var 0) (.nil))) (.cst (.non)))) (.nil))
noncomputable def F_law_map_number : Fun := fnDef [] false 2 B_law_map_number
/-- _law_map_sheet(text, words, kind, told, keys, word, key, one) -/
def N_law_map_sheet : List Str := ["text", "words", "kind", "told", "keys", "word", "key", "one"]
def X1_law_map_sheet : E := .fn 0 1 (.cons (.var 5) (.nil))
def X2_law_map_sheet : E := .fn 1 1 (.cons (.var 6) (.nil))
def X3_law_map_sheet : E := .fn 2 1 (.cons (.var 7) (.nil))
def B_law_map_sheet : SL := .cons (.asg (.nm 1) (.ms mSplit (.var 0) (.cons (.cst (.str "\n")) (.nil)))) (.cons (.asg (.nm 2) (.md mGet (.dsp [("l", .str "leaf"), ("f", .str "fork")]) (.cons (.ix (.var 1) (.cst (.int 0))) (.nil)))) (.cons (.ife (.or (.tru (.cmp cIs (.var 2) (.cst (.non)))) (.tru (.cmp cEq (.op oMod (.bf bLen (.cons (.var 1) (.nil))) (.cst (.int 2))) (.cst (.int 0))))) (.cons (.ret (.cst (.non))) (.nil)) (.nil)) (.cons (.par [4, 3] (.cons (.stp (.var 1) (.cst (.int 1)) (.cst (.int 2))) (.cons (.stp (.var 1) (.cst (.int 2)) (.cst (.int 2))) (.nil)))) (.cons (.asg (.nm 3) (.ife (.tru (.cmp cEq (.var 2) (.cst (.str "leaf")))) (.var 3) (.lc false .lst (.cons (.var 3) (.nil)) (.nm 5) [5] (.yes) (X1_law_map_sheet)))) (.cons (.ife (.or (.not (.tru (.chn cLe cLe (.ife (.tru (.cmp cEq (.var 2) (.cst (.str "leaf")))) (.cst (.int 1)) (.cst (.int 2))) (.bf bLen (.cons (.var 4) (.nil))) (.cst (.int 4))))) (.not (.tru (.bf bAll (.cons (.lc false .lst (.cons (.var 4) (.nil)) (.nm 6) [6] (.yes) (X2_law_map_sheet)) (.nil)))))) (.cons (.ret (.cst (.non))) (.nil)) (.nil)) (.cons (.ife (.or (.tru (.cmp cNe (.var 4) (.sst (.var 4)))) (.tru (.cmp cIn (.cst (.non)) (.var 3)))) (.cons (.ret (.cst (.non))) (.nil)) (.nil)) (.cons (.ife (.and (.tru (.cmp cEq (.var 2) (.cst (.str "leaf")))) (.not (.tru (.bf bAll (.cons (.lc false .lst (.cons (.var 3) (.nil)) (.nm 7) [7] (.yes) (X3_law_map_sheet)) (.nil)))))) (.cons (.ret (.cst (.non))) (.nil)) (.nil)) (.cons (.ret (.tup (.cons (.var 2) (.cons (.lzp (.cons (.var 4) (.cons (.var 3) (.nil)))) (.nil))))) (.nil)))))))))
noncomputable def F_law_map_sheet : Fun := fnDef [F_law_map_number, F_law_map_is_key, F_law_map_is_value] true 8 B_law_map_sheet
/-- _law_map_key_drawn(pot, way) -/
def N_law_map_key_drawn : List Str := ["pot", "way"]
def B_law_map_key_drawn : SL := .cons (.asg (.nm 1) (.fn 0 2 (.cons (.var 0) (.cons (.cst (.int 8)) (.nil))))) (.cons (.ife (.tru (.cmp cEq (.var 1) (.cst (.int 0)))) (.cons (.ret (.fn 1 2 (.cons (.var 0) (.cons (.lst (.cons (.cst (.str "!")) (.cons (.cst (.str "~")) (.cons (.cst (.str "l")) (.cons (.cst (.str "f")) (.cons (.cst (.str "0")) (.cons (.cst (.str "root")) (.cons (.cst (.str "n0001")) (.cons (.cst (.str "zzzzzzzzzzzzz")) (.nil)))))))))) (.nil))))) (.nil)) (.nil)) (.cons (.ret (.op oAdd (.op oAdd (.fn 1 2 (.cons (.var 0) (.cons (.cst (.str "abcdkz")) (.nil)))) (.bt tStr (.cons (.fn 0 2 (.cons (.var 0) (.cons (.cst (.int 9)) (.nil)))) (.nil)))) (.op oMul (.cst (.str "!")) (.op oMul (.cst (.int 11)) (.bt tInt (.cons (.cmp cEq (.var 1) (.cst (.int 1))) (.nil))))))) (.nil)))
noncomputable def F_law_map_key_drawn : Fun := fnDef [F_law_take, F_law_of] false 2 B_law_map_key_drawn
/-- _law_map_value_drawn(pot, some) -/
def N_law_map_value_drawn : List Str := ["pot", "some"]
def B_law_map_value_drawn : SL := .cons (.asg (.nm 1) (.lst (.cons (.cst (.str "one")) (.cons (.cst (.str " ")) (.cons (.cst (.str "6")) (.cons (.cst (.str "-1")) (.cons (.cst (.str "two words")) (.cons (.cst (.str "l")) (.cons (.cst (.str "~~~~~~~~~~~~~")) (.cons (.cst (.str "f 2 2")) (.nil))))))))))) (.cons (.ret (.ife (.tru (.cmp cEq (.fn 0 2 (.cons (.var 0) (.cons (.cst (.int 2)) (.nil)))) (.cst (.int 0)))) (.fn 1 2 (.cons (.var 0) (.cons (.var 1) (.nil)))) (.bt tStr (.cons (.fn 0 2 (.cons (.var 0) (.cons (.cst (.int 99)) (.nil)))) (.nil))))) (.nil))
noncomputable def F_law_map_value_drawn : Fun := fnDef [F_law_take, F_law_of] false 2 B_law_map_value_drawn
/-- _law_sheet(pot, kind, keys, found, key, way, child, lap) -/
def N_law_sheet : List Str := ["pot", "kind", "keys", "found", "key", "way", "child", "lap"]
def X1_law_sheet : E := .fn 1 1 (.cons (.var 0) (.nil))
def L1_law_sheet : SL := .cons (.asg (.nm 5) (.fn 2 2 (.cons (.var 0) (.cons (.cst (.int 3)) (.nil))))) (.cons (.asg (.nm 6) (.ife (.tru (.cmp cEq (.var 5) (.cst (.int 0)))) (.tup (.cons (.cst (.str "new")) (.cons (.fn 2 2 (.cons (.var 0) (.cons (.cst (.int 5)) (.nil)))) (.nil)))) (.fn 0 2 (.cons (.var 0) (.cons (.lst (.cons (.cst (.int 0)) (.cons (.cst (.int 7)) (.cons (.cst (.int 12)) (.cons (.cst (.int 511)) (.cons (.op oPow (.cst (.int 10)) (.cst (.int 10))) (.nil))))))) (.nil)))))) (.cons (.ex (.ml mAppend (.var 3) (.cons (.tup (.cons (.var 4) (.cons (.ife (.tru (.cmp cEq (.var 1) (.cst (.str "leaf")))) (.fn 3 1 (.cons (.var 0) (.nil))) (.var 6)) (.nil)))) (.nil)))) (.nil)))
def B_law_sheet : SL := .cons (.asg (.nm 1) (.fn 0 2 (.cons (.var 0) (.cons (.lst (.cons (.cst (.str "leaf")) (.cons (.cst (.str "fork")) (.nil)))) (.nil))))) (.cons (.asg (.nm 2) (.sl2 (.sst (.lc false .rng1 (.cons (.cst (.int 4)) (.nil)) (.nm 7) [7] (.yes) (X1_law_sheet))) (.op oAdd (.cst (.int 1)) (.fn 2 2 (.cons (.var 0) (.cons (.cst (.int 4)) (.nil))))))) (.cons (.ife (.and (.tru (.cmp cEq (.var 1) (.cst (.str "fork")))) (.tru (.cmp cLt (.bf bLen (.cons (.var 2) (.nil))) (.cst (.int 2))))) (.cons (.asg (.nm 2) (.lst (.cons (.cst (.str "a")) (.cons (.cst (.str "b")) (.nil))))) (.nil)) (.nil)) (.cons (.asg (.nm 3) (.cel (.nil))) (.cons (.for .lst (.cons (.var 2) (.nil)) (.nm 4) (L1_law_sheet)) (.cons (.frz 3) (.cons (.ret (.tup (.cons (.var 1) (.cons (.bt tTup (.cons (.var 3) (.nil))) (.nil))))) (.nil)))))))
noncomputable def F_law_sheet : Fun := fnDef [F_law_of, F_law_map_key_drawn, F_law_take, F_law_map_value_drawn] true 8 B_law_sheet
/-- _law_text(sheet, places, words, key, told, place) -/
def N_law_text : List Str := ["sheet", "places", "words", "key", "told", "place"]
def L1_law_text : SL := .cons (.asg (.nm 5) (.ife (.tru (.bf bIsi (.cons (.var 4) (.cons (.tyn nTup) (.nil))))) (.ix (.var 1) (.ix (.var 4) (.cst (.int 1)))) (.var 4))) (.cons (.ex (.ml mExtend (.var 2) (.cons (.cel (.cons (.var 3) (.cons (.ife (.tru (.cmp cEq (.ix (.var 0) (.cst (.int 0))) (.cst (.str "leaf")))) (.var 4) (.bt tStr (.cons (.var 5) (.nil)))) (.nil)))) (.nil)))) (.nil))
def B_law_text : SL := .cons (.asg (.nm 2) (.cel (.cons (.ife (.tru (.cmp cEq (.ix (.var 0) (.cst (.int 0))) (.cst (.str "leaf")))) (.cst (.str "l")) (.cst (.str "f"))) (.nil)))) (.cons (.for .tup (.cons (.ix (.var 0) (.cst (.int 1))) (.nil)) (.tp (.cons (.nm 3) (.cons (.nm 4) (.nil)))) (L1_law_text)) (.cons (.frz 2) (.cons (.ret (.ms mJoin (.cst (.str "\n")) (.cons (.var 2) (.nil)))) (.nil))))
noncomputable def F_law_text : Fun := fnDef [] true 6 B_law_text
/-- _law_read(text, told) -/
def N_law_read : List Str := ["text", "told"]
def B_law_read : SL := .cons (.asg (.nm 1) (.fn 0 1 (.cons (.var 0) (.nil)))) (.cons (.ret (.ife (.tru (.cmp cIs (.var 1) (.cst (.non)))) (.cst (.non)) (.tup (.cons (.ix (.var 1) (.cst (.int 0))) (.cons (.bt tTup (.cons (.ix (.var 1) (.cst (.int 1))) (.nil))) (.nil)))))) (.nil))
noncomputable def F_law_read : Fun := fnDef [F_law_map_sheet] false 2 B_law_read
/-- _law_near(pot, text, lap, words, found, at, more, rows, one) -/
def N_law_near : List Str := ["pot", "text", "lap", "words", "found", "at", "more", "rows", "one"]
def L1_law_near : SL := .cons (.asg (.nm 5) (.fn 0 2 (.cons (.var 0) (.cons (.bf bLen (.cons (.var 3) (.nil))) (.nil))))) (.cons (.asg (.nm 6) (.fn 1 2 (.cons (.var 0) (.cons (.lst (.cons (.cst (.str "l")) (.cons (.cst (.str "f")) (.cons (.cst (.str "a")) (.cons (.cst (.str "")) (.cons (.cst (.str "7")) (.cons (.cst (.str "007")) (.cons (.cst (.str "-1")) (.cons (.cst (.str " ")) (.cons (.cst (.str "z z")) (.cons (.cst (.str "1.5")) (.cons (.cst (.str "zzzzzzzzzzzzzz")) (.nil))))))))))))) (.nil))))) (.cons (.asg (.nm 7) (.lst (.cons (.op oAdd (.sl2 (.var 3) (.var 5)) (.sl1 (.var 3) (.op oAdd (.var 5) (.cst (.int 1))))) (.cons (.op oAdd (.op oAdd (.sl2 (.var 3) (.var 5)) (.lst (.cons (.var 6) (.nil)))) (.sl1 (.var 3) (.op oAdd (.var 5) (.cst (.int 1))))) (.cons (.op oAdd (.sl2 (.var 3) (.op oAdd (.var 5) (.cst (.int 1)))) (.sl1 (.var 3) (.var 5))) (.nil)))))) (.cons (.asg (.nm 7) (.op oAdd (.var 7) (.lst (.cons (.op oAdd (.var 3) (.lst (.cons (.var 6) (.nil)))) (.cons (.op oAdd (.sl2 (.var 3) (.cst (.int 1))) (.st0 (.sl1 (.var 3) (.cst (.int 1))) (.neg (.cst (.int 1))))) (.cons (.op oAdd (.op oAdd (.op oAdd (.sl2 (.var 3) (.cst (.int 1))) (.sl3 (.var 3) (.cst (.int 3)) (.cst (.int 5)))) (.sl3 (.var 3) (.cst (.int 1)) (.cst (.int 3)))) (.sl1 (.var 3) (.cst (.int 5)))) (.nil))))))) (.cons (.ex (.ml mAppend (.var 4) (.cons (.ms mJoin (.cst (.str "\n")) (.cons (.fn 1 2 (.cons (.var 0) (.cons (.var 7) (.nil)))) (.nil))) (.nil)))) (.nil)))))
def X1_law_near : E := .var 8
def B_law_near : SL := .cons (.par [3, 4] (.cons (.ms mSplit (.var 1) (.cons (.cst (.str "\n")) (.nil))) (.cons (.cel (.nil)) (.nil)))) (.cons (.for .rng1 (.cons (.cst (.int 8)) (.nil)) (.nm 2) (L1_law_near)) (.cons (.frz 4) (.cons (.ret (.lc false .lst (.cons (.var 4) (.nil)) (.nm 8) [8] (.tru (.cmp cLe (.bf bLen (.cons (.var 8) (.nil))) (.cst (.int 113)))) (X1_law_near))) (.nil))))
noncomputable def F_law_near : Fun := fnDef [F_law_take, F_law_of] true 9 B_law_near
/-- _law_right(pot, lap, sheet, places, due, text, child) -/
def N_law_right : List Str := ["pot", "lap", "sheet", "places", "due", "text", "child"]
def X1_law_right : E := .fn 1 2 (.cons (.var 0) (.cons (.cst (.int 600)) (.nil)))
def L1_law_right : SL := .cons (.ife (.tru (.cmp cNe (.bf bRepr (.cons (.fk 5 1 (.cons (.var 5) (.nil))) (.nil))) (.bf bRepr (.cons (.fn 6 1 (.cons (.var 5) (.nil))) (.nil))))) (.cons (.ret (.cst (.bl false))) (.nil)) (.nil)) (.nil)
def L2_law_right : SL := .cons (.asg (.nm 2) (.fn 0 1 (.cons (.var 0) (.nil)))) (.cons (.asg (.nm 3) (.bt tTup (.cons (.lc false .rng1 (.cons (.cst (.int 5)) (.nil)) (.nm 6) [6] (.yes) (X1_law_right)) (.nil)))) (.cons (.asg (.nm 4) (.fn 2 2 (.cons (.var 2) (.cons (.var 3) (.nil))))) (.cons (.ife (.tru (.cmp cNe (.fp 3 2 [1, 0] (.cons (.var 3) (.cons (.var 2) (.nil)))) (.var 4))) (.cons (.ret (.cst (.bl false))) (.nil)) (.nil)) (.cons (.for .lst (.cons (.op oAdd (.lst (.cons (.var 4) (.nil))) (.fn 4 2 (.cons (.var 0) (.cons (.var 4) (.nil))))) (.nil)) (.nm 5) (L1_law_right)) (.nil)))))
def B_law_right : SL := .cons (.for .rng1 (.cons (.cst (.int 5)) (.nil)) (.nm 1) (L2_law_right)) (.cons (.ret (.cmp cEq (.bf bRepr (.cons (.fn 5 1 (.cons (.cst (.str "")) (.nil))) (.nil))) (.cst (.str "None")))) (.nil))
noncomputable def F_law_right : Fun := fnDef [F_law_sheet, F_law_take, F_law_text, F_written, F_law_near, F_sheet_in, F_law_read] false 7 B_law_right
/-- law(script, place) -/
def N_law : List Str := ["script", "place"]
def X1_law : E := .fn 1 1 (.cons (.fn 2 2 (.cons (.var 0) (.cons (.var 1) (.nil)))) (.nil))
def B_law : SL := .cons (.ret (.bf bAll (.cons (.lc false .lst (.cons (.fn 0 2 (.cons (.var 0) (.cons (.cst (.int 2)) (.nil)))) (.nil)) (.nm 1) [1] (.yes) (X1_law)) (.nil)))) (.nil)
noncomputable def F_law : Fun := fnDef [F_law_cells, F_law_right, F_law_pot] false 2 B_law
end Lw
end

section
set_option Elab.async false
set_option linter.all false
set_option maxRecDepth 100000
set_option maxHeartbeats 4000000
namespace Lw
open PySem Wn
local macro_rules | `(tactic| walk_at "ev") => `(tactic| simp only [fnDef, fnOf, denSL, denS, den, denL, denB, denI, sSeq, sAsg, sRet, sRetN, sEx, sIf, sFor, sPar, sSet, sPass, sBrk, sCnt, bndS, bnd, Wn.ret, stuck, opt, eVar, eCst, eOp, eCall, eChain, bTru, bNot, bAnd, bOr, eOr, eAnd, eNot, eIf, lNil, lCons, eTup, eLst, eCell, eMt, eMl, eSl, oNo, oAt, eNeg, eLc, lcRun, fnDo, startE, fin, Tg.put, TgL.puts, isS_ite, if_le_sz, lstX_lst, lstOf_lst, add_int, sub_int, eq_int, ne_int, le_int, lt_int, gt_int, ge_int, is_non, isnot_non, isNon, asTru, truD, iArg, wipeE,
  List.map_cons, List.map_nil, List.length_cons, List.length_nil, List.getElem?_cons_zero, List.getElem?_cons_succ, List.set_cons_zero, List.set_cons_succ, List.getD_cons_zero, List.getD_cons_succ, List.cons_append, List.nil_append, List.replicate_succ, List.replicate_zero, Nat.zero_add, Nat.sub_self, Nat.add_one_sub_one, Nat.reduceAdd, Nat.reduceSub, Nat.reduceLeDiff, Nat.reduceEqDiff, if_true, if_false, Bool.false_eq_true, Bool.not_true, Bool.not_false, decide_true, decide_false, g1, g2, List.zip_cons_cons, List.zip_nil_right, List.foldl_cons, List.foldl_nil,
  mIndex, mJoin, mSplit, tStr, tIntS, mAppend, mExtend, mGet, eMd, eDcp, gDcp, sSetA, setA, eRv, eSst, eStp, eDsp, eLzp, fnDoP, bMinL, bLen, bAbs, bMax, bMin, bSum, bAll, bAny, bOrd, bRepr, bIsi, tInt, tTup, tLst, nInt, nStr, nBool, nTup, nLst, oAdd, oSub, oMul, oMod, oDiv, oPow, cEq, cNe, cLt, cLe, cGt, cGe, cIn, cNi, cIs, cIn', Option.some_or, Option.or_none, Option.none_or])
local macro_rules | `(tactic| walk_at "evh") => `(tactic| simp only [*, fnDef, fnOf, denSL, denS, den, denL, denB, denI, sSeq, sAsg, sRet, sRetN, sEx, sIf, sFor, sPar, sSet, sPass, sBrk, sCnt, bndS, bnd, Wn.ret, stuck, opt, eVar, eCst, eOp, eCall, eChain, bTru, bNot, bAnd, bOr, eOr, eAnd, eNot, eIf, lNil, lCons, eTup, eLst, eCell, eMt, eMl, eSl, oNo, oAt, eNeg, eLc, lcRun, fnDo, startE, fin, Tg.put, TgL.puts, isS_ite, if_le_sz, lstX_lst, lstOf_lst, add_int, sub_int, eq_int, ne_int, le_int, lt_int, gt_int, ge_int, is_non, isnot_non, isNon, asTru, truD, iArg, wipeE,
  List.map_cons, List.map_nil, List.length_cons, List.length_nil, List.getElem?_cons_zero, List.getElem?_cons_succ, List.set_cons_zero, List.set_cons_succ, List.getD_cons_zero, List.getD_cons_succ, List.cons_append, List.nil_append, List.replicate_succ, List.replicate_zero, Nat.zero_add, Nat.sub_self, Nat.add_one_sub_one, Nat.reduceAdd, Nat.reduceSub, Nat.reduceLeDiff, Nat.reduceEqDiff, if_true, if_false, Bool.false_eq_true, Bool.not_true, Bool.not_false, decide_true, decide_false, g1, g2, List.zip_cons_cons, List.zip_nil_right, List.foldl_cons, List.foldl_nil,
  mIndex, mJoin, mSplit, tStr, tIntS, mAppend, mExtend, mGet, eMd, eDcp, gDcp, sSetA, setA, eRv, eSst, eStp, eDsp, eLzp, fnDoP, bMinL, bLen, bAbs, bMax, bMin, bSum, bAll, bAny, bOrd, bRepr, bIsi, tInt, tTup, tLst, nInt, nStr, nBool, nTup, nLst, oAdd, oSub, oMul, oMod, oDiv, oPow, cEq, cNe, cLt, cLe, cGt, cGe, cIn, cNi, cIs, cIn', Option.some_or, Option.or_none, Option.none_or])
/-! ### the evaluator's arithmetic, walks -/
theorem mul_ok {a b : Int} {M : Mem} (h : a.natAbs.log2 + b.natAbs.log2 < 1000000) : gMul M (.int a) (.int b) = some (.int (a * b)) := if_pos h
theorem log2_le {a n : Nat} (h : a < 2 ^ n) : a.log2 ≤ n := by
  by_cases h0 : a = 0
  · subst h0; simp
  · exact Nat.le_of_lt ((Nat.log2_lt h0).mpr h)
theorem mod_ok {a b : Int} {M : Mem} (h : 0 < b) : gMod M (.int a) (.int b) = some (.int (a % b)) := if_pos h
theorem div_ok {a b : Int} {M : Mem} (h : 0 < b) (h2 : b.natAbs.log2 < 9000) : gDiv M (.int a) (.int b) = some (.int (a / b)) := if_pos ⟨h, h2⟩
theorem fRng1_int {j : Int} {M : Mem} (h1 : j.natAbs < 2 ^ 62) : fRng1 [.int j] M = .ok (rng 0 j.toNat) M := by
  have e : fRng [.int j] M = (if j.natAbs < 2 ^ 62 then .ok (rng 0 j.toNat) M else .bad) := rfl
  have e2 : fRng1 [.int j] M = fRng [.int j] M := rfl
  rw [e2, e, if_pos h1]
theorem fRng1_nat {n : Nat} {M : Mem} (h : n ≤ 1000000000) : fRng1 [.int (n : Nat)] M = .ok (rng 0 n) M := by
  rw [fRng1_int (by omega)]; rfl
theorem rng_len (a : Int) (n : Nat) : (rng a n).length = n := by simp [rng]
theorem bYes_ok {δ : Wn.Env} {M : Mem} : bYes δ M = .ok true M := rfl
end Lw
end

section
set_option Elab.async false
set_option linter.all false
set_option maxRecDepth 100000
set_option maxHeartbeats 4000000
namespace Lw
open PySem Wn
local macro_rules | `(tactic| walk_at "ev") => `(tactic| simp only [fnDef, fnOf, denSL, denS, den, denL, denB, denI, sSeq, sAsg, sRet, sRetN, sEx, sIf, sFor, sPar, sSet, sPass, sBrk, sCnt, bndS, bnd, Wn.ret, stuck, opt, eVar, eCst, eOp, eCall, eChain, bTru, bNot, bAnd, bOr, eOr, eAnd, eNot, eIf, lNil, lCons, eTup, eLst, eCell, eMt, eMl, eSl, oNo, oAt, eNeg, eLc, lcRun, fnDo, startE, fin, Tg.put, TgL.puts, isS_ite, if_le_sz, lstX_lst, lstOf_lst, add_int, sub_int, eq_int, ne_int, le_int, lt_int, gt_int, ge_int, is_non, isnot_non, isNon, asTru, truD, iArg, wipeE,
  List.map_cons, List.map_nil, List.length_cons, List.length_nil, List.getElem?_cons_zero, List.getElem?_cons_succ, List.set_cons_zero, List.set_cons_succ, List.getD_cons_zero, List.getD_cons_succ, List.cons_append, List.nil_append, List.replicate_succ, List.replicate_zero, Nat.zero_add, Nat.sub_self, Nat.add_one_sub_one, Nat.reduceAdd, Nat.reduceSub, Nat.reduceLeDiff, Nat.reduceEqDiff, if_true, if_false, Bool.false_eq_true, Bool.not_true, Bool.not_false, decide_true, decide_false, g1, g2, List.zip_cons_cons, List.zip_nil_right, List.foldl_cons, List.foldl_nil,
  mIndex, mJoin, mAppend, mExtend, mGet, eMd, eDcp, gDcp, sSetA, setA, bLen, bAbs, bMax, bMin, bSum, bAll, bAny, bOrd, bRepr, bIsi, tInt, tTup, tLst, nInt, nStr, nBool, nTup, nLst, oAdd, oSub, oMul, oMod, oDiv, oPow, cEq, cNe, cLt, cLe, cGt, cGe, cIn, cNi, cIs, cIn', Option.some_or, Option.or_none, Option.none_or])
local macro_rules | `(tactic| walk_at "evh") => `(tactic| simp only [*, fnDef, fnOf, denSL, denS, den, denL, denB, denI, sSeq, sAsg, sRet, sRetN, sEx, sIf, sFor, sPar, sSet, sPass, sBrk, sCnt, bndS, bnd, Wn.ret, stuck, opt, eVar, eCst, eOp, eCall, eChain, bTru, bNot, bAnd, bOr, eOr, eAnd, eNot, eIf, lNil, lCons, eTup, eLst, eCell, eMt, eMl, eSl, oNo, oAt, eNeg, eLc, lcRun, fnDo, startE, fin, Tg.put, TgL.puts, isS_ite, if_le_sz, lstX_lst, lstOf_lst, add_int, sub_int, eq_int, ne_int, le_int, lt_int, gt_int, ge_int, is_non, isnot_non, isNon, asTru, truD, iArg, wipeE,
  List.map_cons, List.map_nil, List.length_cons, List.length_nil, List.getElem?_cons_zero, List.getElem?_cons_succ, List.set_cons_zero, List.set_cons_succ, List.getD_cons_zero, List.getD_cons_succ, List.cons_append, List.nil_append, List.replicate_succ, List.replicate_zero, Nat.zero_add, Nat.sub_self, Nat.add_one_sub_one, Nat.reduceAdd, Nat.reduceSub, Nat.reduceLeDiff, Nat.reduceEqDiff, if_true, if_false, Bool.false_eq_true, Bool.not_true, Bool.not_false, decide_true, decide_false, g1, g2, List.zip_cons_cons, List.zip_nil_right, List.foldl_cons, List.foldl_nil,
  mIndex, mJoin, mAppend, mExtend, mGet, eMd, eDcp, gDcp, sSetA, setA, bLen, bAbs, bMax, bMin, bSum, bAll, bAny, bOrd, bRepr, bIsi, tInt, tTup, tLst, nInt, nStr, nBool, nTup, nLst, oAdd, oSub, oMul, oMod, oDiv, oPow, cEq, cNe, cLt, cLe, cGt, cGe, cIn, cNi, cIs, cIn', Option.some_or, Option.or_none, Option.none_or])
/-! ### the pot from which the law draws -/
def potD (a b c : Nat) : List D := [.int (a : Nat), .int (b : Nat), .int (c : Nat)]
/-- a pot from which so much was drawn -/
def Pot (k : Nat) (p : List D) : Prop := ∃ a b c, p = potD a b c ∧ c ≤ k ∧ b < 2 ^ 62
def u32 : List Int := [2147483647, 2147483629, 2147483587, 2147483579, 2147483563]
theorem prime_at : ∀ r, r < 5 → ∃ p : Nat, 0 < p ∧ p < 2147483648 ∧ L2.atI [D.int 2147483647, .int 2147483629, .int 2147483587, .int 2147483579, .int 2147483563] ((r : Nat) : Int) = some (.int (p : Nat))
  | 0, _ => ⟨2147483647, by decide, by decide, rfl⟩
  | 1, _ => ⟨2147483629, by decide, by decide, rfl⟩
  | 2, _ => ⟨2147483587, by decide, by decide, rfl⟩
  | 3, _ => ⟨2147483579, by decide, by decide, rfl⟩
  | 4, _ => ⟨2147483563, by decide, by decide, rfl⟩
  | n + 5, h => by omega
theorem log_le {a n : Nat} (h : a < 2 ^ n) : a.log2 ≤ n := log2_le h
theorem ix_ref {M : Mem} {n : Nat} {p : List D} {i : Int} (h : M[n]? = some (.lst p)) : gIx M (.ref n) (.int i) = L2.atI p i := by
  show ((lstOf M (.ref n)).bind fun ds => L2.atI ds i) = _
  unfold lstOf
  simp only [h, Option.bind_some]
theorem set_ref {M : Mem} {n : Nat} {p : List D} {i : Int} {v : D} {j : Nat} (h : M[n]? = some (.lst p)) (e : L2.ixN p.length i = some j) : setD (.ref n) (.int i) v M = some (M.set n (.lst (p.set j v))) := by
  unfold setD
  simp only [h, e, Option.map_some]
theorem get_set {M : Mem} {n : Nat} {c d : Cell} (h : M[n]? = some c) : (M.set n d)[n]? = some d := by
  rw [List.getElem?_set_self (List.getElem?_eq_some_iff.mp h).1]
theorem ev_take {k u n : Nat} {M : Mem} {p : List D} (hM : M[n]? = some (.lst p)) (hp : Pot k p) (hk : k < 100000) (hu : 0 < u) (hu2 : u < 1000000) : ∃ r p', r < u ∧ Pot (k + 1) p' ∧ F_law_take [.ref n, .int (u : Nat)] M = .ok (.int (r : Nat)) (M.set n (.lst p')) := by
  obtain ⟨a, b, c, rfl, hc, hb⟩ := hp
  have f0 : gIx M (.ref n) (.int 0) = some (.int (a : Nat)) := by rw [ix_ref hM]; rfl
  by_cases ha : 0 < a
  · refine ⟨a % u, potD (a / u) b c, Nat.mod_lt _ hu, ⟨_, _, _, rfl, by omega, hb⟩, ?_⟩
    have c1 : ((0 : Int) < ((a : Nat) : Int)) = True := by simp; omega
    have e0 : fInt M (.int (a : Nat)) = some (.int (a : Nat)) := rfl
    have e1 : gMod M (.int (a : Nat)) (.int (u : Nat)) = some (.int ((a % u : Nat) : Int)) := by rw [mod_ok (by omega)]; rfl
    have e2 : gDiv M (.int (a : Nat)) (.int (u : Nat)) = some (.int ((a / u : Nat) : Int)) := by
      rw [div_ok (by omega)]
      · rfl
      · have := log_le (a := u) (n := 30) (by omega)
        simp only [Int.natAbs_natCast]
        omega
    have e3 : setD (.ref n) (.int 0) (.int ((a / u : Nat) : Int)) M = some (M.set n (.lst (potD (a / u) b c))) := by rw [set_ref hM (j := 0) rfl]; rfl
    clear hM hc hb hk hu hu2 ha
    unfold F_law_take B_law_take
    walk_at "evh"
  · have c1 : ((0 : Int) < ((a : Nat) : Int)) = False := by simp; omega
    have f2 : gIx M (.ref n) (.int 2) = some (.int (c : Nat)) := by rw [ix_ref hM]; rfl
    have e0 : ((c : Nat) : Int) + 1 = ((c + 1 : Nat) : Int) := by omega
    have e3 : setD (.ref n) (.int 2) (.int ((c + 1 : Nat) : Int)) M = some (M.set n (.lst (potD a b (c + 1)))) := by rw [set_ref hM (j := 2) rfl]; rfl
    have hM1 : (M.set n (.lst (potD a b (c + 1))))[n]? = some (.lst (potD a b (c + 1))) := get_set hM
    generalize hN : M.set n (.lst (potD a b (c + 1))) = N at *
    have g2 : gIx N (.ref n) (.int 2) = some (.int ((c + 1 : Nat) : Int)) := by rw [ix_ref hM1]; rfl
    have g1 : gIx N (.ref n) (.int 1) = some (.int (b : Nat)) := by rw [ix_ref hM1]; rfl
    have i0 : ∀ j : Int, fInt N (.int j) = some (.int j) := fun _ => rfl
    have m0 : gMod N (.int ((c + 1 : Nat) : Int)) (.int 5) = some (.int (((c + 1) % 5 : Nat) : Int)) := by rw [mod_ok (by omega)]; rfl
    obtain ⟨q, hq, hq2, hq3⟩ := prime_at ((c + 1) % 5) (by omega)
    have m1 : gIx N (.lst [D.int 2147483647, .int 2147483629, .int 2147483587, .int 2147483579, .int 2147483563]) (.int (((c + 1) % 5 : Nat) : Int)) = some (.int (q : Nat)) := by
      show ((lstOf N (.lst _)).bind fun ds => L2.atI ds _) = _
      rw [lstOf_lst]; exact hq3
    have l0 := log_le (a := c + 1) (n := 20) (by omega)
    have l1 : Nat.log2 104728 ≤ 20 := by decide
    have m2 : gMul N (.int 104728) (.int ((c + 1 : Nat) : Int)) = some (.int ((104728 * (c + 1) : Nat) : Int)) := by
      rw [mul_ok (by show Nat.log2 104728 + (c + 1).log2 < 1000000; omega)]; rfl
    have l2 := log_le (a := 104728 * (c + 1)) (n := 40) (by omega)
    have m3 : gMul N (.int ((104728 * (c + 1) : Nat) : Int)) (.int ((c + 1 : Nat) : Int)) = some (.int ((104728 * (c + 1) * (c + 1) : Nat) : Int)) := by
      rw [mul_ok (by show (104728 * (c + 1)).log2 + (c + 1).log2 < 1000000; omega)]; rfl
    obtain ⟨x, hx, l3⟩ : ∃ x, 104728 * (c + 1) * (c + 1) = x ∧ x < 2 ^ 60 := ⟨_, rfl, Nat.lt_of_le_of_lt (Nat.mul_le_mul (show 104728 * (c + 1) ≤ 104728 * 100000 by omega) (show c + 1 ≤ 100000 by omega)) (by decide)⟩
    rw [hx] at m3
    have a1 : ((b : Nat) : Int) + ((x : Nat) : Int) = ((b + x : Nat) : Int) := by omega
    have a2 : ((b + x : Nat) : Int) + 1912 = ((b + x + 1912 : Nat) : Int) := by omega
    have m4 : gPow N (.int ((b + x + 1912 : Nat) : Int)) (.int 3) = some (.int (((b + x + 1912) ^ 3 : Nat) : Int)) := by
      show (if 0 ≤ (3 : Int) ∧ (3 : Int).natAbs ≤ 1000 ∧ (b + x + 1912).log2 < 10000 then some (D.int (((b + x + 1912 : Nat) : Int) ^ (3 : Int).toNat)) else none) = _
      have := log_le (a := b + x + 1912) (n := 70) (by omega)
      rw [if_pos ⟨by decide, by decide, by omega⟩]
      congr 2
    obtain ⟨y, hy⟩ : ∃ y, (b + x + 1912) ^ 3 = y := ⟨_, rfl⟩
    rw [hy] at m4
    have m5 : gMod N (.int (y : Nat)) (.int (q : Nat)) = some (.int ((y % q : Nat) : Int)) := by rw [mod_ok (by omega)]; rfl
    have hz : y % q < 2147483648 := Nat.lt_trans (Nat.mod_lt _ hq) hq2
    generalize y % q = z at *
    have m6 : gMod N (.int (z : Nat)) (.int 12226) = some (.int ((z % 12226 : Nat) : Int)) := by rw [mod_ok (by omega)]; rfl
    have m7 : gMul N (.int 794) (.int ((c + 1 : Nat) : Int)) = some (.int ((794 * (c + 1) : Nat) : Int)) := by
      rw [mul_ok (by
        show Nat.log2 794 + (c + 1).log2 < 1000000
        have : Nat.log2 794 ≤ 20 := by decide
        omega)]; rfl
    have a3 : ((z % 12226 : Nat) : Int) + ((794 * (c + 1) : Nat) : Int) = ((z % 12226 + 794 * (c + 1) : Nat) : Int) := by omega
    have hw : z % 12226 + 794 * (c + 1) < 2 ^ 40 := by omega
    generalize z % 12226 + 794 * (c + 1) = w at *
    have m8 : gMul N (.int (z : Nat)) (.int (w : Nat)) = some (.int ((z * w : Nat) : Int)) := by
      have l4 := log_le (a := z) (n := 40) (by omega)
      have l5 := log_le (a := w) (n := 40) (by omega)
      rw [mul_ok (by show z.log2 + w.log2 < 1000000; omega)]; rfl
    generalize z * w = v at *
    have m9 : gMod N (.int (v : Nat)) (.int 2305843009213693907) = some (.int ((v % 2305843009213693907 : Nat) : Int)) := by rw [mod_ok (by decide)]; rfl
    generalize v % 2305843009213693907 = v2 at *
    have m10 : gDiv N (.int (v2 : Nat)) (.int 167) = some (.int ((v2 / 167 : Nat) : Int)) := by rw [div_ok (by decide) (by decide)]; rfl
    have m11 : gMod N (.int ((v2 / 167 : Nat) : Int)) (.int (u : Nat)) = some (.int ((v2 / 167 % u : Nat) : Int)) := by rw [mod_ok (by omega)]; rfl
    refine ⟨v2 / 167 % u, potD a b (c + 1), Nat.mod_lt _ hu, ⟨_, _, _, rfl, by omega, hb⟩, ?_⟩
    rw [hN]
    clear hM hc hb hk hu hu2 ha hN hM1 hq hq2 hq3 l0 l1 l2 l3 hx hy hz hw
    unfold F_law_take B_law_take
    walk_at "evh"
theorem ev_of {k n : Nat} {M : Mem} {p ds : List D} (hM : M[n]? = some (.lst p)) (hp : Pot k p) (hk : k < 100000) (h0 : ds ≠ []) (hl : ds.length ≤ 1000) : ∃ d ∈ ds, ∃ p', Pot (k + 1) p' ∧ F_law_of [.ref n, .lst ds] M = .ok d (M.set n (.lst p')) := by
  have h1 : 0 < ds.length := List.length_pos_iff.mpr h0
  obtain ⟨r, p', hr, hp', e⟩ := ev_take hM hp hk h1 (by omega)
  refine ⟨ds[r], List.getElem_mem hr, p', hp', ?_⟩
  have e1 : fLen M (.lst ds) = some (.int (ds.length : Nat)) := rfl
  have e2 : ∀ M, gIx M (.lst ds) (.int (r : Nat)) = some ds[r] := fun M => by
    show ((lstOf M (.lst _)).bind fun ds => L2.atI ds _) = _
    rw [lstOf_lst]
    show L2.atI ds _ = _
    unfold L2.atI L2.ixN
    rw [if_pos (by omega), if_pos (by omega)]
    show ((some r).bind fun j => ds[j]?) = _
    show ds[r]? = _
    rw [List.getElem?_eq_getElem hr]
  clear hM hp hk h0 hl hp' h1
  unfold F_law_of B_law_of
  walk_at "evh"
end Lw
end

section
set_option Elab.async false
set_option linter.all false
set_option maxRecDepth 100000
set_option maxHeartbeats 4000000
namespace Lw
open PySem Wn
local macro_rules | `(tactic| walk_at "ev") => `(tactic| simp only [fnDef, fnOf, denSL, denS, den, denL, denB, denI, sSeq, sAsg, sRet, sRetN, sEx, sIf, sFor, sPar, sSet, sPass, sBrk, sCnt, bndS, bnd, Wn.ret, stuck, opt, eVar, eCst, eOp, eCall, eChain, bTru, bNot, bAnd, bOr, eOr, eAnd, eNot, eIf, lNil, lCons, eTup, eLst, eCell, eMt, eMl, eSl, oNo, oAt, eNeg, eLc, lcRun, fnDo, startE, fin, Tg.put, TgL.puts, isS_ite, if_le_sz, lstX_lst, lstOf_lst, add_int, sub_int, eq_int, ne_int, le_int, lt_int, gt_int, ge_int, is_non, isnot_non, isNon, asTru, truD, iArg, wipeE,
  List.map_cons, List.map_nil, List.length_cons, List.length_nil, List.getElem?_cons_zero, List.getElem?_cons_succ, List.set_cons_zero, List.set_cons_succ, List.getD_cons_zero, List.getD_cons_succ, List.cons_append, List.nil_append, List.replicate_succ, List.replicate_zero, Nat.zero_add, Nat.sub_self, Nat.add_one_sub_one, Nat.reduceAdd, Nat.reduceSub, Nat.reduceLeDiff, Nat.reduceEqDiff, if_true, if_false, Bool.false_eq_true, Bool.not_true, Bool.not_false, decide_true, decide_false, g1, g2, List.zip_cons_cons, List.zip_nil_right, List.foldl_cons, List.foldl_nil,
  mIndex, mJoin, mSplit, tStr, tIntS, mAppend, mExtend, mGet, eMd, eDcp, gDcp, sSetA, setA, eRv, eSst, eStp, eDsp, eLzp, fnDoP, bMinL, bLen, bAbs, bMax, bMin, bSum, bAll, bAny, bOrd, bRepr, bIsi, tInt, tTup, tLst, nInt, nStr, nBool, nTup, nLst, oAdd, oSub, oMul, oMod, oDiv, oPow, cEq, cNe, cLt, cLe, cGt, cGe, cIn, cNi, cIs, cIn', Option.some_or, Option.or_none, Option.none_or])
local macro_rules | `(tactic| walk_at "evh") => `(tactic| simp only [*, fnDef, fnOf, denSL, denS, den, denL, denB, denI, sSeq, sAsg, sRet, sRetN, sEx, sIf, sFor, sPar, sSet, sPass, sBrk, sCnt, bndS, bnd, Wn.ret, stuck, opt, eVar, eCst, eOp, eCall, eChain, bTru, bNot, bAnd, bOr, eOr, eAnd, eNot, eIf, lNil, lCons, eTup, eLst, eCell, eMt, eMl, eSl, oNo, oAt, eNeg, eLc, lcRun, fnDo, startE, fin, Tg.put, TgL.puts, isS_ite, if_le_sz, lstX_lst, lstOf_lst, add_int, sub_int, eq_int, ne_int, le_int, lt_int, gt_int, ge_int, is_non, isnot_non, isNon, asTru, truD, iArg, wipeE,
  List.map_cons, List.map_nil, List.length_cons, List.length_nil, List.getElem?_cons_zero, List.getElem?_cons_succ, List.set_cons_zero, List.set_cons_succ, List.getD_cons_zero, List.getD_cons_succ, List.cons_append, List.nil_append, List.replicate_succ, List.replicate_zero, Nat.zero_add, Nat.sub_self, Nat.add_one_sub_one, Nat.reduceAdd, Nat.reduceSub, Nat.reduceLeDiff, Nat.reduceEqDiff, if_true, if_false, Bool.false_eq_true, Bool.not_true, Bool.not_false, decide_true, decide_false, g1, g2, List.zip_cons_cons, List.zip_nil_right, List.foldl_cons, List.foldl_nil,
  mIndex, mJoin, mSplit, tStr, tIntS, mAppend, mExtend, mGet, eMd, eDcp, gDcp, sSetA, setA, eRv, eSst, eStp, eDsp, eLzp, fnDoP, bMinL, bLen, bAbs, bMax, bMin, bSum, bAll, bAny, bOrd, bRepr, bIsi, tInt, tTup, tLst, nInt, nStr, nBool, nTup, nLst, oAdd, oSub, oMul, oMod, oDiv, oPow, cEq, cNe, cLt, cLe, cGt, cGe, cIn, cNi, cIs, cIn', Option.some_or, Option.or_none, Option.none_or])
/-! ### signs of pages, texts of pages -/
def LOW : Str := " !\"#$"
def HIGH : Str := "&'()*+,-./0123456789:;<=>?@ABCDEFGHIJKLMNOPQRSTUVWXYZ[\\]^_`abcdefghijklmnopqrstuvwxyz{|}~"
def okSign (c : Nat) : Bool := decide (c = 10) || (decide (32 ≤ c) && decide (c ≤ 36)) || (decide (38 ≤ c) && decide (c ≤ 126))
theorem low_in : ∀ c, c < 127 → strIn (st [c]) LOW = (decide (32 ≤ c) && decide (c ≤ 36)) := by decide +kernel
theorem high_in : ∀ c, c < 127 → strIn (st [c]) HIGH = (decide (38 ≤ c) && decide (c ≤ 126)) := by decide +kernel
theorem okSign_lt {c : Nat} (h : okSign c = true) : c < 127 := by
  unfold okSign at h
  simp only [Bool.or_eq_true, Bool.and_eq_true, decide_eq_true_eq] at h
  omega
theorem st_ok {l : List Nat} (h : ∀ c ∈ l, c < 0x110000) : PyData.strOk (st l) = true := by
  unfold PyData.strOk st
  simp only [Array.all_eq_true', List.mem_toArray, decide_eq_true_eq]
  exact h
theorem feed_eq {M : Mem} {c : Nat} (h : c < 127) : gEq M (.str (st [c])) (.str (Str.ofString "\n")) = some (.bl (decide (c = 10))) := by
  have e : (Str.ofString "\n") = st [10] := rfl
  rw [e, gEq_str (st_ok fun x hx => by rw [List.mem_singleton.mp hx]; omega) (st_ok fun x hx => by rw [List.mem_singleton.mp hx]; omega), st_beq]
  simp
def okText (l : List Nat) : Bool := decide (l.length ≤ 113) && l.all okSign
/-- all of a list of truths -/
theorem dBools_map {α : Type} (f : α → Bool) : ∀ l : List α, dBools (l.map fun x => D.bl (f x)) = some (l.map f)
  | [] => rfl
  | x :: l => by
    show Option.map (fun r => f x :: r) (dBools (l.map fun x => D.bl (f x))) = _
    rw [dBools_map f l]; rfl
theorem all_map {α : Type} {M : Mem} (f : α → Bool) (l : List α) : fAll M (.lst (l.map fun x => D.bl (f x))) = some (.bl (l.all f)) := by
  show ((dBools (l.map fun x => D.bl (f x))).map fun is => D.bl (is.all id)) = _
  rw [dBools_map]
  simp [List.all_map, Function.comp_def]
/-- a comprehension over items, each to a value -/
theorem lc_vals {α : Type} {i : Nat} {e : Fe} {δ : Wn.Env} {M : Mem} {f g : α → D} : ∀ {l : List α}, (∀ x ∈ l, e (δ.set i (some (f x))) M = .ok (g x) M) → lcGo (.nm i) bYes e δ (l.map f) M = .ok (l.map g) M
  | [], _ => rfl
  | x :: l, h => by
    have h1 := h x (List.mem_cons_self ..)
    have h2 := lc_vals (l := l) fun y hy => h y (List.mem_cons_of_mem _ hy)
    rw [List.map_cons, lcGo_cons]
    simp only [Tg.put, bYes_ok, h1, h2, List.map_cons]
theorem sign_test {c : Nat} {M : Mem} {s : D} (hc : c < 127) : den [] X1_is_page_text [some s, some (.str (st [c]))] M = .ok (.bl (okSign c)) M := by
  have e1 := feed_eq (M := M) hc
  have e2 : gIn M (.str (st [c])) (.str LOW) = some (.bl (decide (32 ≤ c) && decide (c ≤ 36))) := by
    show some (D.bl (strIn (st [c]) LOW)) = _
    rw [low_in c hc]
  have e3 : gIn M (.str (st [c])) (.str HIGH) = some (.bl (decide (38 ≤ c) && decide (c ≤ 126))) := by
    show some (D.bl (strIn (st [c]) HIGH)) = _
    rw [high_in c hc]
  unfold LOW at e2
  unfold HIGH at e3
  unfold X1_is_page_text okSign
  try walk_at "ev"
  simp only [e1]
  by_cases h0 : c = 10
  · simp only [h0, decide_true, Bool.true_or]
    rfl
  · simp only [h0, decide_false, Bool.false_or]
    try walk_at "ev"
    simp only [e2, Option.some_or]
    by_cases h1 : 32 ≤ c ∧ c ≤ 36
    · simp only [h1.1, h1.2, decide_true, Bool.and_self, Bool.true_or]
      rfl
    · have : (decide (32 ≤ c) && decide (c ≤ 36)) = false := by simp; omega
      simp only [this, Bool.false_or]
      try walk_at "ev"
      simp only [e3, Option.some_or]
theorem ev_is_page_text {l : List Nat} {M : Mem} (h : ∀ c ∈ l, c < 127) (hl : l.length ≤ 1000) : F_is_page_text [.str (st l)] M = .ok (.bl (okText l)) M := by
  unfold F_is_page_text B_is_page_text
  try walk_at "ev"
  have i1 : fIsi M (.str (st l)) (.ty "str") = some (.bl true) := rfl
  have i2 : fLen M (.str (st l)) = some (.int (l.length : Nat)) := by rw [len_str (by rw [st_len]; unfold sizeLine; omega), st_len]
  simp only [i1]
  try walk_at "ev"
  simp only [i2, gt_int]
  have hz : (l.map fun c => D.str (st [c])).length ≤ sizeLine := by rw [List.length_map]; unfold sizeLine; omega
  by_cases h1 : l.length ≤ 113
  · have h1' : ¬ (113 : Int) < ((l.length : Nat) : Int) := by omega
    simp only [h1', decide_false]
    try walk_at "ev"
    simp only [itS, st_sgn]
    rw [if_pos hz, lc_vals (g := fun c => D.bl (okSign c)) fun c hc => sign_test (h c hc)]
    simp only [all_map]
    unfold okText
    simp only [h1, decide_true, Bool.true_and]
  · have h1' : (113 : Int) < ((l.length : Nat) : Int) := by omega
    unfold okText
    simp only [h1', h1, decide_true, decide_false, Bool.false_and]
    rfl
end Lw
end

section
set_option Elab.async false
set_option linter.all false
set_option maxRecDepth 100000
set_option maxHeartbeats 4000000
namespace Lw
open PySem Wn
local macro_rules | `(tactic| walk_at "ev") => `(tactic| simp only [fnDef, fnOf, denSL, denS, den, denL, denB, denI, sSeq, sAsg, sRet, sRetN, sEx, sIf, sFor, sPar, sSet, sPass, sBrk, sCnt, bndS, bnd, Wn.ret, stuck, opt, eVar, eCst, eOp, eCall, eChain, bTru, bNot, bAnd, bOr, eOr, eAnd, eNot, eIf, lNil, lCons, eTup, eLst, eCell, eMt, eMl, eSl, oNo, oAt, eNeg, eLc, lcRun, fnDo, startE, fin, Tg.put, TgL.puts, isS_ite, if_le_sz, lstX_lst, lstOf_lst, add_int, sub_int, eq_int, ne_int, le_int, lt_int, gt_int, ge_int, is_non, isnot_non, isNon, asTru, truD, iArg, wipeE,
  List.map_cons, List.map_nil, List.length_cons, List.length_nil, List.getElem?_cons_zero, List.getElem?_cons_succ, List.set_cons_zero, List.set_cons_succ, List.getD_cons_zero, List.getD_cons_succ, List.cons_append, List.nil_append, List.replicate_succ, List.replicate_zero, Nat.zero_add, Nat.sub_self, Nat.add_one_sub_one, Nat.reduceAdd, Nat.reduceSub, Nat.reduceLeDiff, Nat.reduceEqDiff, if_true, if_false, Bool.false_eq_true, Bool.not_true, Bool.not_false, decide_true, decide_false, g1, g2, List.zip_cons_cons, List.zip_nil_right, List.foldl_cons, List.foldl_nil,
  mIndex, mJoin, mSplit, tStr, tIntS, mAppend, mExtend, mGet, eMd, eDcp, gDcp, sSetA, setA, eRv, eSst, eStp, eDsp, eLzp, fnDoP, bMinL, bLen, bAbs, bMax, bMin, bSum, bAll, bAny, bOrd, bRepr, bIsi, tInt, tTup, tLst, nInt, nStr, nBool, nTup, nLst, oAdd, oSub, oMul, oMod, oDiv, oPow, cEq, cNe, cLt, cLe, cGt, cGe, cIn, cNi, cIs, cIn', Option.some_or, Option.or_none, Option.none_or])
local macro_rules | `(tactic| walk_at "evh") => `(tactic| simp only [*, fnDef, fnOf, denSL, denS, den, denL, denB, denI, sSeq, sAsg, sRet, sRetN, sEx, sIf, sFor, sPar, sSet, sPass, sBrk, sCnt, bndS, bnd, Wn.ret, stuck, opt, eVar, eCst, eOp, eCall, eChain, bTru, bNot, bAnd, bOr, eOr, eAnd, eNot, eIf, lNil, lCons, eTup, eLst, eCell, eMt, eMl, eSl, oNo, oAt, eNeg, eLc, lcRun, fnDo, startE, fin, Tg.put, TgL.puts, isS_ite, if_le_sz, lstX_lst, lstOf_lst, add_int, sub_int, eq_int, ne_int, le_int, lt_int, gt_int, ge_int, is_non, isnot_non, isNon, asTru, truD, iArg, wipeE,
  List.map_cons, List.map_nil, List.length_cons, List.length_nil, List.getElem?_cons_zero, List.getElem?_cons_succ, List.set_cons_zero, List.set_cons_succ, List.getD_cons_zero, List.getD_cons_succ, List.cons_append, List.nil_append, List.replicate_succ, List.replicate_zero, Nat.zero_add, Nat.sub_self, Nat.add_one_sub_one, Nat.reduceAdd, Nat.reduceSub, Nat.reduceLeDiff, Nat.reduceEqDiff, if_true, if_false, Bool.false_eq_true, Bool.not_true, Bool.not_false, decide_true, decide_false, g1, g2, List.zip_cons_cons, List.zip_nil_right, List.foldl_cons, List.foldl_nil,
  mIndex, mJoin, mSplit, tStr, tIntS, mAppend, mExtend, mGet, eMd, eDcp, gDcp, sSetA, setA, eRv, eSst, eStp, eDsp, eLzp, fnDoP, bMinL, bLen, bAbs, bMax, bMin, bSum, bAll, bAny, bOrd, bRepr, bIsi, tInt, tTup, tLst, nInt, nStr, nBool, nTup, nLst, oAdd, oSub, oMul, oMod, oDiv, oPow, cEq, cNe, cLt, cLe, cGt, cGe, cIn, cNi, cIs, cIn', Option.some_or, Option.or_none, Option.none_or])
/-! ### keys and values of maps -/
def okW (c : Nat) : Bool := decide (32 ≤ c) && decide (c ≤ 126) && decide (c ≠ 37)
theorem okW_lt {c : Nat} (h : okW c = true) : c < 127 := by
  unfold okW at h
  simp only [Bool.and_eq_true, decide_eq_true_eq] at h
  omega
theorem sign_le : ∀ c, c < 127 → ∀ f ∈ [32, 33], (!decide ((st [c]).cps.toList < (st [f]).cps.toList)) = decide (f ≤ c) := by decide +kernel
theorem sign_up : ∀ c, c < 127 → (!decide ((st [126]).cps.toList < (st [c]).cps.toList)) = decide (c ≤ 126) := by decide +kernel
theorem le_sign {c f : Nat} {M : Mem} (hc : c < 127) (hf : f ∈ [32, 33]) : gLe M (.str (st [f])) (.str (st [c])) = some (.bl (decide (f ≤ c))) := by
  show some (D.bl (!decide ((st [c]).cps.toList < (st [f]).cps.toList))) = _
  rw [sign_le c hc f hf]
theorem le_top {c : Nat} {M : Mem} (hc : c < 127) : gLe M (.str (st [c])) (.str (st [126])) = some (.bl (decide (c ≤ 126))) := by
  show some (D.bl (!decide ((st [126]).cps.toList < (st [c]).cps.toList))) = _
  rw [sign_up c hc]
/-- so many signs, none below f -/
def sgns (f : Nat) (l : List Nat) : Bool := decide (1 ≤ l.length) && decide (l.length ≤ 13) && l.all fun c => decide (f ≤ c)
theorem are_sign {c f : Nat} {M : Mem} {a0 a1 a2 : Option D} (h : okW c = true) (hf : f ∈ [32, 33]) : den [] X1_are_signs [a0, a1, a2, some (.str (st [f])), some (.str (st [c]))] M = .ok (.bl (decide (f ≤ c))) M := by
  have hc := okW_lt h
  have e1 : ∀ M, gLe M (.str (st [f])) (.str (st [c])) = some (.bl (decide (f ≤ c))) := fun M => le_sign hc hf
  have e2 : ∀ M, gIn M (.str (st [c])) (.str LOW) = some (.bl (decide (32 ≤ c) && decide (c ≤ 36))) := fun M => by
    show some (D.bl (strIn (st [c]) LOW)) = _
    rw [low_in c hc]
  have e3 : ∀ M, gIn M (.str (st [c])) (.str HIGH) = some (.bl (decide (38 ≤ c) && decide (c ≤ 126))) := fun M => by
    show some (D.bl (strIn (st [c]) HIGH)) = _
    rw [high_in c hc]
  unfold LOW at e2
  unfold HIGH at e3
  have hr : (decide (32 ≤ c) && decide (c ≤ 36)) = true ∨ (decide (32 ≤ c) && decide (c ≤ 36)) = false ∧ (decide (38 ≤ c) && decide (c ≤ 126)) = true := by
    unfold okW at h
    simp only [Bool.and_eq_true, decide_eq_true_eq] at h
    by_cases q : c ≤ 36
    · exact .inl (by simp; omega)
    · exact .inr ⟨by simp; omega, by simp; omega⟩
  by_cases q : f ≤ c
  · rw [decide_eq_true q] at e1 ⊢
    rcases hr with hr | ⟨hr, hr2⟩
    · rw [hr] at e2
      clear h hf hc q e3 hr
      unfold X1_are_signs
      walk_at "evh"
    · rw [hr] at e2
      rw [hr2] at e3
      clear h hf hc q hr hr2
      unfold X1_are_signs
      walk_at "evh"
  · rw [decide_eq_false q] at e1 ⊢
    clear h hf hc q e2 e3 hr
    unfold X1_are_signs
    walk_at "evh"
theorem ev_are_signs {l : List Nat} {f : Nat} {M : Mem} (h : ∀ c ∈ l, okW c = true) (hl : l.length ≤ 1000) (hf : f ∈ [32, 33]) : F_are_signs [.str (st l), .int 1, .int 13, .str (st [f])] M = .ok (.bl (sgns f l)) M := by
  have i1 : ∀ M, fIsi M (.str (st l)) (.ty "str") = some (.bl true) := fun _ => rfl
  have i2 : ∀ M, fLen M (.str (st l)) = some (.int (l.length : Nat)) := fun M => by rw [len_str (by rw [st_len]; unfold sizeLine; omega), st_len]
  have hz : (l.map fun c => D.str (st [c])).length ≤ sizeLine := by rw [List.length_map]; unfold sizeLine; omega
  have i3 : ∀ M, itS (.str (st l)) M = .ok (l.map fun c => D.str (st [c])) M := fun M => by
    simp only [itS, st_sgn]
  have i4 : ∀ M (a0 a1 a2 : Option D), lcGo (.nm 4) bYes (den [] X1_are_signs) [a0, a1, a2, some (.str (st [f])), none] (l.map fun c => D.str (st [c])) M = .ok (l.map fun c => D.bl (decide (f ≤ c))) M := fun M a0 a1 a2 =>
    lc_vals fun c hc => are_sign (h c hc) hf
  have i5 : ∀ M, fAll M (.lst (l.map fun c => D.bl (decide (f ≤ c)))) = some (.bl (l.all fun c => decide (f ≤ c))) := fun M => all_map _ l
  have z1 : (l.map fun c => D.str (st [c])).length ≤ 1000 := by rw [List.length_map]; exact hl
  have z2 : (l.map fun c => D.bl (decide (f ≤ c))).length ≤ 1000 := by rw [List.length_map]; exact hl
  by_cases h1 : 1 ≤ l.length
  · have c1 : ((1 : Int) ≤ ((l.length : Nat) : Int)) = True := by simp; omega
    by_cases h2 : l.length ≤ 13
    · have c2 : (((l.length : Nat) : Int) ≤ 13) = True := by simp; omega
      have e : sgns f l = l.all fun c => decide (f ≤ c) := by unfold sgns; simp only [h1, h2, decide_true, Bool.true_and]
      rw [e]
      generalize (l.map fun c => D.str (st [c])) = Z1 at *
      generalize (l.map fun c => D.bl (decide (f ≤ c))) = Z2 at *
      generalize (l.all fun c => decide (f ≤ c)) = Z3 at *
      clear h hl hf hz h1 h2 e
      unfold F_are_signs B_are_signs
      walk_at "evh"
    · have c2 : (((l.length : Nat) : Int) ≤ 13) = False := by simp; omega
      have e : sgns f l = false := by unfold sgns; simp only [h2, decide_false, Bool.and_false, Bool.false_and]
      rw [e]
      clear h hl hf hz h1 h2 e i3 i4 i5 z1 z2
      unfold F_are_signs B_are_signs
      walk_at "evh"
  · have c1 : ((1 : Int) ≤ ((l.length : Nat) : Int)) = False := by simp; omega
    have e : sgns f l = false := by unfold sgns; simp only [h1, decide_false, Bool.false_and]
    rw [e]
    clear h hl hf hz h1 e i3 i4 i5 z1 z2
    unfold F_are_signs B_are_signs
    walk_at "evh"
theorem first_key : Str.ofString "!" = st [33] ∧ Str.ofString " " = st [32] ∧ Str.ofString "~" = st [126] := by decide
theorem ev_is_key {l : List Nat} {M : Mem} (h : ∀ c ∈ l, okW c = true) (hl : l.length ≤ 1000) : F_is_key [.str (st l)] M = .ok (.bl (sgns 33 l)) M := by
  have e1 : ∀ M, F_are_signs [.str (st l), .int 1, .int 13, .str (st [33])] M = .ok (.bl (sgns 33 l)) M := fun M => ev_are_signs h hl (by simp)
  rw [← first_key.1] at e1
  clear h hl
  unfold F_is_key B_is_key
  walk_at "evh"
theorem ev_is_value {l : List Nat} {M : Mem} (h : ∀ c ∈ l, okW c = true) (hl : l.length ≤ 1000) : F_is_value [.str (st l)] M = .ok (.bl (sgns 32 l)) M := by
  have e1 : ∀ M, F_are_signs [.str (st l), .int 1, .int 13, .str (st [32])] M = .ok (.bl (sgns 32 l)) M := fun M => ev_are_signs h hl (by simp)
  rw [← first_key.2.1] at e1
  clear h hl
  unfold F_is_value B_is_value
  walk_at "evh"
end Lw
end

section
set_option Elab.async false
set_option linter.all false
set_option maxRecDepth 100000
set_option maxHeartbeats 4000000
namespace Lw
open PySem Wn
local macro_rules | `(tactic| walk_at "ev") => `(tactic| simp only [fnDef, fnOf, denSL, denS, den, denL, denB, denI, sSeq, sAsg, sRet, sRetN, sEx, sIf, sFor, sPar, sSet, sPass, sBrk, sCnt, bndS, bnd, Wn.ret, stuck, opt, eVar, eCst, eOp, eCall, eChain, bTru, bNot, bAnd, bOr, eOr, eAnd, eNot, eIf, lNil, lCons, eTup, eLst, eCell, eMt, eMl, eSl, oNo, oAt, eNeg, eLc, lcRun, fnDo, startE, fin, Tg.put, TgL.puts, isS_ite, if_le_sz, lstX_lst, lstOf_lst, add_int, sub_int, eq_int, ne_int, le_int, lt_int, gt_int, ge_int, is_non, isnot_non, isNon, asTru, truD, iArg, wipeE,
  List.map_cons, List.map_nil, List.length_cons, List.length_nil, List.getElem?_cons_zero, List.getElem?_cons_succ, List.set_cons_zero, List.set_cons_succ, List.getD_cons_zero, List.getD_cons_succ, List.cons_append, List.nil_append, List.replicate_succ, List.replicate_zero, Nat.zero_add, Nat.sub_self, Nat.add_one_sub_one, Nat.reduceAdd, Nat.reduceSub, Nat.reduceLeDiff, Nat.reduceEqDiff, if_true, if_false, Bool.false_eq_true, Bool.not_true, Bool.not_false, decide_true, decide_false, g1, g2, List.zip_cons_cons, List.zip_nil_right, List.foldl_cons, List.foldl_nil,
  mIndex, mJoin, mSplit, tStr, tIntS, mAppend, mExtend, mGet, eMd, eDcp, gDcp, sSetA, setA, eRv, eSst, eStp, eDsp, eLzp, fnDoP, bMinL, bLen, bAbs, bMax, bMin, bSum, bAll, bAny, bOrd, bRepr, bIsi, tInt, tTup, tLst, nInt, nStr, nBool, nTup, nLst, oAdd, oSub, oMul, oMod, oDiv, oPow, cEq, cNe, cLt, cLe, cGt, cGe, cIn, cNi, cIs, cIn', Option.some_or, Option.or_none, Option.none_or])
local macro_rules | `(tactic| walk_at "evh") => `(tactic| simp only [*, fnDef, fnOf, denSL, denS, den, denL, denB, denI, sSeq, sAsg, sRet, sRetN, sEx, sIf, sFor, sPar, sSet, sPass, sBrk, sCnt, bndS, bnd, Wn.ret, stuck, opt, eVar, eCst, eOp, eCall, eChain, bTru, bNot, bAnd, bOr, eOr, eAnd, eNot, eIf, lNil, lCons, eTup, eLst, eCell, eMt, eMl, eSl, oNo, oAt, eNeg, eLc, lcRun, fnDo, startE, fin, Tg.put, TgL.puts, isS_ite, if_le_sz, lstX_lst, lstOf_lst, add_int, sub_int, eq_int, ne_int, le_int, lt_int, gt_int, ge_int, is_non, isnot_non, isNon, asTru, truD, iArg, wipeE,
  List.map_cons, List.map_nil, List.length_cons, List.length_nil, List.getElem?_cons_zero, List.getElem?_cons_succ, List.set_cons_zero, List.set_cons_succ, List.getD_cons_zero, List.getD_cons_succ, List.cons_append, List.nil_append, List.replicate_succ, List.replicate_zero, Nat.zero_add, Nat.sub_self, Nat.add_one_sub_one, Nat.reduceAdd, Nat.reduceSub, Nat.reduceLeDiff, Nat.reduceEqDiff, if_true, if_false, Bool.false_eq_true, Bool.not_true, Bool.not_false, decide_true, decide_false, g1, g2, List.zip_cons_cons, List.zip_nil_right, List.foldl_cons, List.foldl_nil,
  mIndex, mJoin, mSplit, tStr, tIntS, mAppend, mExtend, mGet, eMd, eDcp, gDcp, sSetA, setA, eRv, eSst, eStp, eDsp, eLzp, fnDoP, bMinL, bLen, bAbs, bMax, bMin, bSum, bAll, bAny, bOrd, bRepr, bIsi, tInt, tTup, tLst, nInt, nStr, nBool, nTup, nLst, oAdd, oSub, oMul, oMod, oDiv, oPow, cEq, cNe, cLt, cLe, cGt, cGe, cIn, cNi, cIs, cIn', Option.some_or, Option.or_none, Option.none_or])
/-! ### the law's own looks at keys and values -/
theorem law_sign {c f : Nat} {M : Mem} {a0 : Option D} (h : okW c = true) (hf : f ∈ [32, 33]) : bnd (eChain gLe gLe (eCst (.str (st [f]))) (eVar 1) (eCst (.str (st [126]))) [a0, some (.str (st [c]))]) (fun d => Wn.ret d) M = .ok (.bl (decide (f ≤ c))) M := by
  have hc := okW_lt h
  have e1 : ∀ M, gLe M (.str (st [f])) (.str (st [c])) = some (.bl (decide (f ≤ c))) := fun M => le_sign hc hf
  have e2 : ∀ M, gLe M (.str (st [c])) (.str (st [126])) = some (.bl true) := fun M => by
    rw [le_top hc]
    unfold okW at h
    simp only [Bool.and_eq_true, decide_eq_true_eq] at h
    rw [decide_eq_true h.1.2]
  by_cases q : f ≤ c
  · rw [decide_eq_true q] at e1 ⊢
    clear h hf hc q
    walk_at "evh"
  · rw [decide_eq_false q] at e1 ⊢
    clear h hf hc q
    walk_at "evh"
theorem law_key_sign {c : Nat} {M : Mem} {a0 : Option D} (h : okW c = true) : den [] X1_law_map_is_key [a0, some (.str (st [c]))] M = .ok (.bl (decide (33 ≤ c))) M := by
  have e := law_sign (M := M) (a0 := a0) (f := 33) h (by simp)
  rw [← first_key.1, ← first_key.2.2] at e
  unfold X1_law_map_is_key
  simp only [den]
  simp only [bnd, Wn.ret] at e
  split at e
  · rename_i d M1 q
    cases e
    exact q
  · cases e
  · cases e
theorem law_value_sign {c : Nat} {M : Mem} {a0 : Option D} (h : okW c = true) : den [] X1_law_map_is_value [a0, some (.str (st [c]))] M = .ok (.bl (decide (32 ≤ c))) M := by
  have e := law_sign (M := M) (a0 := a0) (f := 32) h (by simp)
  rw [← first_key.2.1, ← first_key.2.2] at e
  unfold X1_law_map_is_value
  simp only [den]
  simp only [bnd, Wn.ret] at e
  split at e
  · rename_i d M1 q
    cases e
    exact q
  · cases e
  · cases e
theorem ev_law_map_is_key {l : List Nat} {M : Mem} (h : ∀ c ∈ l, okW c = true) (hl : l.length ≤ 1000) : F_law_map_is_key [.str (st l)] M = .ok (.bl (sgns 33 l)) M := by
  have i1 : ∀ M, fIsi M (.str (st l)) (.ty "str") = some (.bl true) := fun _ => rfl
  have i2 : ∀ M, fLen M (.str (st l)) = some (.int (l.length : Nat)) := fun M => by rw [len_str (by rw [st_len]; unfold sizeLine; omega), st_len]
  have i3 : ∀ M, itS (.str (st l)) M = .ok (l.map fun c => D.str (st [c])) M := fun M => by simp only [itS, st_sgn]
  have i4 : ∀ M (a0 : Option D), lcGo (.nm 1) bYes (den [] X1_law_map_is_key) [a0, none] (l.map fun c => D.str (st [c])) M = .ok (l.map fun c => D.bl (decide (33 ≤ c))) M := fun M a0 => lc_vals fun c hc => law_key_sign (h c hc)
  have i5 : ∀ M, fAll M (.lst (l.map fun c => D.bl (decide (33 ≤ c)))) = some (.bl (l.all fun c => decide (33 ≤ c))) := fun M => all_map _ l
  have z1 : (l.map fun c => D.str (st [c])).length ≤ 1000 := by rw [List.length_map]; exact hl
  have z2 : (l.map fun c => D.bl (decide (33 ≤ c))).length ≤ 1000 := by rw [List.length_map]; exact hl
  unfold sgns
  generalize (l.map fun c => D.str (st [c])) = Z1 at *
  generalize (l.map fun c => D.bl (decide (33 ≤ c))) = Z2 at *
  generalize (l.all fun c => decide (33 ≤ c)) = Z3 at *
  by_cases h1 : 1 ≤ l.length
  · have c1 : ((1 : Int) ≤ ((l.length : Nat) : Int)) = True := by simp; omega
    by_cases h2 : l.length ≤ 13
    · have c2 : (((l.length : Nat) : Int) ≤ 13) = True := by simp; omega
      simp only [h1, h2, decide_true, Bool.true_and]
      clear h hl h1 h2
      unfold F_law_map_is_key B_law_map_is_key
      walk_at "evh"
    · have c2 : (((l.length : Nat) : Int) ≤ 13) = False := by simp; omega
      simp only [h2, decide_false, Bool.and_false, Bool.false_and]
      clear h hl h1 h2
      unfold F_law_map_is_key B_law_map_is_key
      walk_at "evh"
  · have c1 : ((1 : Int) ≤ ((l.length : Nat) : Int)) = False := by simp; omega
    simp only [h1, decide_false, Bool.false_and]
    clear h hl h1
    unfold F_law_map_is_key B_law_map_is_key
    walk_at "evh"
theorem ev_law_map_is_value {l : List Nat} {M : Mem} (h : ∀ c ∈ l, okW c = true) (hl : l.length ≤ 1000) : F_law_map_is_value [.str (st l)] M = .ok (.bl (sgns 32 l)) M := by
  have i1 : ∀ M, fIsi M (.str (st l)) (.ty "str") = some (.bl true) := fun _ => rfl
  have i2 : ∀ M, fLen M (.str (st l)) = some (.int (l.length : Nat)) := fun M => by rw [len_str (by rw [st_len]; unfold sizeLine; omega), st_len]
  have i3 : ∀ M, itS (.str (st l)) M = .ok (l.map fun c => D.str (st [c])) M := fun M => by simp only [itS, st_sgn]
  have i4 : ∀ M (a0 : Option D), lcGo (.nm 1) bYes (den [] X1_law_map_is_value) [a0, none] (l.map fun c => D.str (st [c])) M = .ok (l.map fun c => D.bl (decide (32 ≤ c))) M := fun M a0 => lc_vals fun c hc => law_value_sign (h c hc)
  have i5 : ∀ M, fAll M (.lst (l.map fun c => D.bl (decide (32 ≤ c)))) = some (.bl (l.all fun c => decide (32 ≤ c))) := fun M => all_map _ l
  have z1 : (l.map fun c => D.str (st [c])).length ≤ 1000 := by rw [List.length_map]; exact hl
  have z2 : (l.map fun c => D.bl (decide (32 ≤ c))).length ≤ 1000 := by rw [List.length_map]; exact hl
  unfold sgns
  generalize (l.map fun c => D.str (st [c])) = Z1 at *
  generalize (l.map fun c => D.bl (decide (32 ≤ c))) = Z2 at *
  generalize (l.all fun c => decide (32 ≤ c)) = Z3 at *
  by_cases h1 : 1 ≤ l.length
  · have c1 : ((1 : Int) ≤ ((l.length : Nat) : Int)) = True := by simp; omega
    by_cases h2 : l.length ≤ 13
    · have c2 : (((l.length : Nat) : Int) ≤ 13) = True := by simp; omega
      simp only [h1, h2, decide_true, Bool.true_and]
      clear h hl h1 h2
      unfold F_law_map_is_value B_law_map_is_value
      walk_at "evh"
    · have c2 : (((l.length : Nat) : Int) ≤ 13) = False := by simp; omega
      simp only [h2, decide_false, Bool.and_false, Bool.false_and]
      clear h hl h1 h2
      unfold F_law_map_is_value B_law_map_is_value
      walk_at "evh"
  · have c1 : ((1 : Int) ≤ ((l.length : Nat) : Int)) = False := by simp; omega
    simp only [h1, decide_false, Bool.false_and]
    clear h hl h1
    unfold F_law_map_is_value B_law_map_is_value
    walk_at "evh"
/-! ### keys that ascend -/
def ascB : List (List Nat) → Bool
  | a :: b :: l => ltS (st a) (st b) && ascB (b :: l)
  | _ => true
theorem ascB_iff : ∀ l : List (List Nat), ascB l = true ↔ Asc (l.map st)
  | [] => ⟨fun _ => List.Pairwise.nil, fun _ => rfl⟩
  | [a] => ⟨fun _ => List.pairwise_singleton .., fun _ => rfl⟩
  | a :: b :: l => by
    have ih := ascB_iff (b :: l)
    constructor
    · intro h
      obtain ⟨h1, h2⟩ := Bool.and_eq_true_iff.mp (show (ltS (st a) (st b) && ascB (b :: l)) = true from h)
      have h3 := ih.mp h2
      refine List.pairwise_cons.mpr ⟨fun z hz => ?_, h3⟩
      rcases List.mem_cons.mp (show z ∈ st b :: l.map st from hz) with e | e
      · rw [e]; exact h1
      · exact ltS_trans h1 ((List.pairwise_cons.mp (show Asc (st b :: l.map st) from h3)).1 z e)
    · intro h
      obtain ⟨h1, h2⟩ := List.pairwise_cons.mp (show Asc (st a :: st b :: l.map st) from h)
      exact Bool.and_eq_true_iff.mpr ⟨h1 _ (List.mem_cons_self ..), ih.mpr h2⟩
theorem asc_srt (l : List (List Nat)) : ascB l = decide (l.map st = srtU (l.map st)) := by
  by_cases h : Asc (l.map st)
  · rw [(ascB_iff l).mpr h, decide_eq_true (asc_same h (srtU_asc _) fun x => srtU_mem.symm)]
  · have h1 : ascB l = false := by
      cases q : ascB l with
      | false => rfl
      | true => exact absurd ((ascB_iff l).mp q) h
    rw [h1, decide_eq_false fun e => h (by rw [e]; exact srtU_asc _)]
end Lw
end

section
set_option Elab.async false
set_option linter.all false
set_option maxRecDepth 100000
set_option maxHeartbeats 4000000
namespace Lw
open PySem Wn
local macro_rules | `(tactic| walk_at "ev") => `(tactic| simp only [fnDef, fnOf, denSL, denS, den, denL, denB, denI, sSeq, sAsg, sRet, sRetN, sEx, sIf, sFor, sPar, sSet, sPass, sBrk, sCnt, bndS, bnd, Wn.ret, stuck, opt, eVar, eCst, eOp, eCall, eChain, bTru, bNot, bAnd, bOr, eOr, eAnd, eNot, eIf, lNil, lCons, eTup, eLst, eCell, eMt, eMl, eSl, oNo, oAt, eNeg, eLc, lcRun, fnDo, startE, fin, Tg.put, TgL.puts, isS_ite, if_le_sz, lstX_lst, lstOf_lst, add_int, sub_int, eq_int, ne_int, le_int, lt_int, gt_int, ge_int, is_non, isnot_non, isNon, asTru, truD, iArg, wipeE,
  List.map_cons, List.map_nil, List.length_cons, List.length_nil, List.getElem?_cons_zero, List.getElem?_cons_succ, List.set_cons_zero, List.set_cons_succ, List.getD_cons_zero, List.getD_cons_succ, List.cons_append, List.nil_append, List.replicate_succ, List.replicate_zero, Nat.zero_add, Nat.sub_self, Nat.add_one_sub_one, Nat.reduceAdd, Nat.reduceSub, Nat.reduceLeDiff, Nat.reduceEqDiff, if_true, if_false, Bool.false_eq_true, Bool.not_true, Bool.not_false, decide_true, decide_false, g1, g2, List.zip_cons_cons, List.zip_nil_right, List.foldl_cons, List.foldl_nil,
  mIndex, mJoin, mSplit, tStr, tIntS, mAppend, mExtend, mGet, eMd, eDcp, gDcp, sSetA, setA, eRv, eSst, eStp, eDsp, eLzp, fnDoP, bMinL, bLen, bAbs, bMax, bMin, bSum, bAll, bAny, bOrd, bRepr, bIsi, tInt, tTup, tLst, nInt, nStr, nBool, nTup, nLst, oAdd, oSub, oMul, oMod, oDiv, oPow, cEq, cNe, cLt, cLe, cGt, cGe, cIn, cNi, cIs, cIn', Option.some_or, Option.or_none, Option.none_or])
local macro_rules | `(tactic| walk_at "evh") => `(tactic| simp only [*, fnDef, fnOf, denSL, denS, den, denL, denB, denI, sSeq, sAsg, sRet, sRetN, sEx, sIf, sFor, sPar, sSet, sPass, sBrk, sCnt, bndS, bnd, Wn.ret, stuck, opt, eVar, eCst, eOp, eCall, eChain, bTru, bNot, bAnd, bOr, eOr, eAnd, eNot, eIf, lNil, lCons, eTup, eLst, eCell, eMt, eMl, eSl, oNo, oAt, eNeg, eLc, lcRun, fnDo, startE, fin, Tg.put, TgL.puts, isS_ite, if_le_sz, lstX_lst, lstOf_lst, add_int, sub_int, eq_int, ne_int, le_int, lt_int, gt_int, ge_int, is_non, isnot_non, isNon, asTru, truD, iArg, wipeE,
  List.map_cons, List.map_nil, List.length_cons, List.length_nil, List.getElem?_cons_zero, List.getElem?_cons_succ, List.set_cons_zero, List.set_cons_succ, List.getD_cons_zero, List.getD_cons_succ, List.cons_append, List.nil_append, List.replicate_succ, List.replicate_zero, Nat.zero_add, Nat.sub_self, Nat.add_one_sub_one, Nat.reduceAdd, Nat.reduceSub, Nat.reduceLeDiff, Nat.reduceEqDiff, if_true, if_false, Bool.false_eq_true, Bool.not_true, Bool.not_false, decide_true, decide_false, g1, g2, List.zip_cons_cons, List.zip_nil_right, List.foldl_cons, List.foldl_nil,
  mIndex, mJoin, mSplit, tStr, tIntS, mAppend, mExtend, mGet, eMd, eDcp, gDcp, sSetA, setA, eRv, eSst, eStp, eDsp, eLzp, fnDoP, bMinL, bLen, bAbs, bMax, bMin, bSum, bAll, bAny, bOrd, bRepr, bIsi, tInt, tTup, tLst, nInt, nStr, nBool, nTup, nLst, oAdd, oSub, oMul, oMod, oDiv, oPow, cEq, cNe, cLt, cLe, cGt, cGe, cIn, cNi, cIs, cIn', Option.some_or, Option.or_none, Option.none_or])
/-! ### numbers in words -/
def isDg (l : List Nat) : Bool := l.all fun c => decide (48 ≤ c) && decide (c ≤ 57)
theorem isDg_all {l : List Nat} (h : isDg l = true) : NumText.AllDigits l := fun c hc => by
  have := List.all_eq_true.mp h c hc
  simpa using this
theorem fig_in : ∀ c, c < 127 → strIn (st [c]) (Str.ofString "0123456789") = (decide (48 ≤ c) && decide (c ≤ 57)) := by decide +kernel
theorem in_fig {c : Nat} {M : Mem} (h : c < 127) : gIn M (.str (st [c])) (.str (Str.ofString "0123456789")) = some (.bl (decide (48 ≤ c) && decide (c ≤ 57))) := by
  show some (D.bl (strIn (st [c]) (Str.ofString "0123456789"))) = _
  rw [fig_in c h]
theorem int_digits {l : List Nat} {M : Mem} (h : isDg l = true) (h1 : l ≠ []) (hl : l.length ≤ 600) : fIntS M (.str (st l)) = some (.int ((NumText.digitsVal l : Nat) : Int)) := by
  show (if (st l).length ≤ 640 then (PySem.intText? (st l)).map D.int else none) = _
  rw [st_len, if_pos (by omega), PySem.intText_digits (x := st l) (by rw [st_tl]; exact isDg_all h) (by rw [st_tl]; exact h1) (by rw [st_len]; omega), st_tl]; rfl
def lawNum (l : List Nat) : Option Nat := if 1 ≤ l.length ∧ l.length ≤ 12 ∧ isDg l = true ∧ (l = [48] ∨ l.getD 0 0 ≠ 48) then some (NumText.digitsVal l) else none
def optN : Option Nat → D
  | some n => .int (n : Nat)
  | none => .non
theorem eq_words {a b : List Nat} {M : Mem} (ha : ∀ c ∈ a, c < 127) (hb : ∀ c ∈ b, c < 127) : gEq M (.str (st a)) (.str (st b)) = some (.bl (decide (a = b))) := by
  rw [gEq_str (st_ok fun x hx => by have := ha x hx; omega) (st_ok fun x hx => by have := hb x hx; omega), st_beq]
theorem ne_words {a b : List Nat} {M : Mem} (ha : ∀ c ∈ a, c < 127) (hb : ∀ c ∈ b, c < 127) : gNe M (.str (st a)) (.str (st b)) = some (.bl (!decide (a = b))) := by
  rw [gNe_str (st_ok fun x hx => by have := ha x hx; omega) (st_ok fun x hx => by have := hb x hx; omega), st_beq]
theorem ev_law_map_number {l : List Nat} {M : Mem} (h : ∀ c ∈ l, okW c = true) (hl : l.length ≤ 600) : F_law_map_number [.str (st l)] M = .ok (optN (lawNum l)) M := by
  have h127 : ∀ c ∈ l, c < 127 := fun c hc => okW_lt (h c hc)
  have i2 : ∀ M, fLen M (.str (st l)) = some (.int (l.length : Nat)) := fun M => by rw [len_str (by rw [st_len]; unfold sizeLine; omega), st_len]
  have i3 : ∀ M, itS (.str (st l)) M = .ok (l.map fun c => D.str (st [c])) M := fun M => by simp only [itS, st_sgn]
  have i4 : ∀ M (a0 : Option D), lcGo (.nm 1) bYes (den [] X1_law_map_number) [a0, none] (l.map fun c => D.str (st [c])) M = .ok (l.map fun c => D.bl (decide (48 ≤ c) && decide (c ≤ 57))) M := fun M a0 => lc_vals fun c hc => by
    have e1 : ∀ M, gIn M (.str (st [c])) (.str (Str.ofString "0123456789")) = some (.bl (decide (48 ≤ c) && decide (c ≤ 57))) := fun M => in_fig (h127 c hc)
    clear h hl h127 i2 i3 hc
    unfold X1_law_map_number
    walk_at "evh"
  have i5 : ∀ M, fAll M (.lst (l.map fun c => D.bl (decide (48 ≤ c) && decide (c ≤ 57)))) = some (.bl (isDg l)) := fun M => all_map _ l
  have z1 : (l.map fun c => D.str (st [c])).length ≤ 1000 := by rw [List.length_map]; omega
  have z2 : (l.map fun c => D.bl (decide (48 ≤ c) && decide (c ≤ 57))).length ≤ 1000 := by rw [List.length_map]; omega
  have zz : Str.ofString "0" = st [48] := by decide
  have i6 : ∀ M, gEq M (.str (st l)) (.str (Str.ofString "0")) = some (.bl (decide (l = [48]))) := fun M => by rw [zz]; exact eq_words h127 (by simp)
  generalize (l.map fun c => D.str (st [c])) = Z1 at *
  generalize (l.map fun c => D.bl (decide (48 ≤ c) && decide (c ≤ 57))) = Z2 at *
  by_cases h1 : 1 ≤ l.length
  · have c1 : ((1 : Int) ≤ ((l.length : Nat) : Int)) = True := by simp; omega
    by_cases h2 : l.length ≤ 12
    · have c2 : (((l.length : Nat) : Int) ≤ 12) = True := by simp; omega
      by_cases h3 : isDg l = true
      · have i7 : ∀ M, fIntS M (.str (st l)) = some (.int ((NumText.digitsVal l : Nat) : Int)) := fun M => int_digits h3 (by intro z; rw [z] at h1; simp at h1) hl
        rw [h3] at i5
        by_cases h4 : l = [48]
        · have e : lawNum l = some (NumText.digitsVal l) := by unfold lawNum; rw [if_pos ⟨h1, h2, h3, .inl h4⟩]
          rw [e, show optN (some (NumText.digitsVal l)) = .int ((NumText.digitsVal l : Nat) : Int) from rfl]
          rw [decide_eq_true h4] at i6
          clear h hl h127 h1 h2 h3 h4 e zz
          unfold F_law_map_number B_law_map_number
          walk_at "evh"
        · rw [decide_eq_false h4] at i6
          have hd : l[0]? = some (l.getD 0 0) := by
            rw [List.getD_eq_getElem?_getD, List.getElem?_eq_getElem (by omega)]; rfl
          have i8 : ∀ M, gIx M (.str (st l)) (.int 0) = some (.str (st [l.getD 0 0])) := fun M => gIx_st (i := 0) (by unfold sizeLine; omega) hd
          have hm : l.getD 0 0 ∈ l := by
            have := List.mem_of_getElem? hd
            exact this
          have i9 : ∀ M, gNe M (.str (st [l.getD 0 0])) (.str (Str.ofString "0")) = some (.bl (!decide (l.getD 0 0 = 48))) := fun M => by
            rw [zz, ne_words (by intro c hc; rw [List.mem_singleton.mp hc]; exact h127 _ hm) (by simp)]
            simp
          generalize hh : l.getD 0 0 = hd0 at *
          by_cases h5 : hd0 = 48
          · have e : lawNum l = none := by
              unfold lawNum
              rw [if_neg (by rintro ⟨_, _, _, q | q⟩; exact h4 q; exact q (by rw [hh]; exact h5))]
            rw [e, show optN none = .non from rfl]
            rw [decide_eq_true h5] at i9
            clear h hl h127 h1 h2 h3 h4 h5 e zz hd hm hh
            unfold F_law_map_number B_law_map_number
            walk_at "evh"
          · have e : lawNum l = some (NumText.digitsVal l) := by unfold lawNum; rw [if_pos ⟨h1, h2, h3, .inr (by rw [hh]; exact h5)⟩]
            rw [e, show optN (some (NumText.digitsVal l)) = .int ((NumText.digitsVal l : Nat) : Int) from rfl]
            rw [decide_eq_false h5] at i9
            clear h hl h127 h1 h2 h3 h4 h5 e zz hd hm hh
            unfold F_law_map_number B_law_map_number
            walk_at "evh"
      · have e : lawNum l = none := by unfold lawNum; rw [if_neg (by rintro ⟨_, _, q, _⟩; exact h3 q)]
        have h3' : isDg l = false := by simpa using h3
        rw [e, show optN none = .non from rfl]
        rw [h3'] at i5
        clear h hl h127 h1 h2 h3 h3' e zz i6
        unfold F_law_map_number B_law_map_number
        walk_at "evh"
    · have c2 : (((l.length : Nat) : Int) ≤ 12) = False := by simp; omega
      have e : lawNum l = none := by unfold lawNum; rw [if_neg (by rintro ⟨_, q, _⟩; exact h2 q)]
      rw [e, show optN none = .non from rfl]
      clear h hl h127 h1 h2 e zz i3 i4 i5 i6 z1 z2
      unfold F_law_map_number B_law_map_number
      walk_at "evh"
  · have c1 : ((1 : Int) ≤ ((l.length : Nat) : Int)) = False := by simp; omega
    have e : lawNum l = none := by unfold lawNum; rw [if_neg (by rintro ⟨q, _⟩; exact h1 q)]
    rw [e, show optN none = .non from rfl]
    clear h hl h127 h1 e zz i3 i4 i5 i6 z1 z2
    unfold F_law_map_number B_law_map_number
    walk_at "evh"
end Lw
end

section
set_option Elab.async false
set_option linter.all false
set_option maxRecDepth 100000
set_option maxHeartbeats 4000000
namespace Lw
open PySem Wn
local macro_rules | `(tactic| walk_at "ev") => `(tactic| simp only [fnDef, fnOf, denSL, denS, den, denL, denB, denI, sSeq, sAsg, sRet, sRetN, sEx, sIf, sFor, sPar, sSet, sPass, sBrk, sCnt, bndS, bnd, Wn.ret, stuck, opt, eVar, eCst, eOp, eCall, eChain, bTru, bNot, bAnd, bOr, eOr, eAnd, eNot, eIf, lNil, lCons, eTup, eLst, eCell, eMt, eMl, eSl, oNo, oAt, eNeg, eLc, lcRun, fnDo, startE, fin, Tg.put, TgL.puts, isS_ite, if_le_sz, lstX_lst, lstOf_lst, add_int, sub_int, eq_int, ne_int, le_int, lt_int, gt_int, ge_int, is_non, isnot_non, isNon, asTru, truD, iArg, wipeE,
  List.map_cons, List.map_nil, List.length_cons, List.length_nil, List.getElem?_cons_zero, List.getElem?_cons_succ, List.set_cons_zero, List.set_cons_succ, List.getD_cons_zero, List.getD_cons_succ, List.cons_append, List.nil_append, List.replicate_succ, List.replicate_zero, Nat.zero_add, Nat.sub_self, Nat.add_one_sub_one, Nat.reduceAdd, Nat.reduceSub, Nat.reduceLeDiff, Nat.reduceEqDiff, if_true, if_false, Bool.false_eq_true, Bool.not_true, Bool.not_false, decide_true, decide_false, g1, g2, List.zip_cons_cons, List.zip_nil_right, List.foldl_cons, List.foldl_nil,
  mIndex, mJoin, mSplit, tStr, tIntS, mAppend, mExtend, mGet, eMd, eDcp, gDcp, sSetA, setA, eRv, eSst, eStp, eDsp, eLzp, fnDoP, bMinL, bLen, bAbs, bMax, bMin, bSum, bAll, bAny, bOrd, bRepr, bIsi, tInt, tTup, tLst, nInt, nStr, nBool, nTup, nLst, oAdd, oSub, oMul, oMod, oDiv, oPow, cEq, cNe, cLt, cLe, cGt, cGe, cIn, cNi, cIs, cIn', Option.some_or, Option.or_none, Option.none_or])
local macro_rules | `(tactic| walk_at "evh") => `(tactic| simp only [*, fnDef, fnOf, denSL, denS, den, denL, denB, denI, sSeq, sAsg, sRet, sRetN, sEx, sIf, sFor, sPar, sSet, sPass, sBrk, sCnt, bndS, bnd, Wn.ret, stuck, opt, eVar, eCst, eOp, eCall, eChain, bTru, bNot, bAnd, bOr, eOr, eAnd, eNot, eIf, lNil, lCons, eTup, eLst, eCell, eMt, eMl, eSl, oNo, oAt, eNeg, eLc, lcRun, fnDo, startE, fin, Tg.put, TgL.puts, isS_ite, if_le_sz, lstX_lst, lstOf_lst, add_int, sub_int, eq_int, ne_int, le_int, lt_int, gt_int, ge_int, is_non, isnot_non, isNon, asTru, truD, iArg, wipeE,
  List.map_cons, List.map_nil, List.length_cons, List.length_nil, List.getElem?_cons_zero, List.getElem?_cons_succ, List.set_cons_zero, List.set_cons_succ, List.getD_cons_zero, List.getD_cons_succ, List.cons_append, List.nil_append, List.replicate_succ, List.replicate_zero, Nat.zero_add, Nat.sub_self, Nat.add_one_sub_one, Nat.reduceAdd, Nat.reduceSub, Nat.reduceLeDiff, Nat.reduceEqDiff, if_true, if_false, Bool.false_eq_true, Bool.not_true, Bool.not_false, decide_true, decide_false, g1, g2, List.zip_cons_cons, List.zip_nil_right, List.foldl_cons, List.foldl_nil,
  mIndex, mJoin, mSplit, tStr, tIntS, mAppend, mExtend, mGet, eMd, eDcp, gDcp, sSetA, setA, eRv, eSst, eStp, eDsp, eLzp, fnDoP, bMinL, bLen, bAbs, bMax, bMin, bSum, bAll, bAny, bOrd, bRepr, bIsi, tInt, tTup, tLst, nInt, nStr, nBool, nTup, nLst, oAdd, oSub, oMul, oMod, oDiv, oPow, cEq, cNe, cLt, cLe, cGt, cGe, cIn, cNi, cIs, cIn', Option.some_or, Option.or_none, Option.none_or])
/-! ### numbers of the program -/
theorem strOk_of (s : String) : PyData.strOk (Str.ofString s) = true := by
  rw [Str.ofString_eq_toList]
  unfold PyData.strOk
  simp only [Array.all_eq_true', List.mem_toArray, List.mem_map, decide_eq_true_eq]
  rintro x ⟨c, _, rfl⟩
  have h := c.valid
  have h2 : c.toNat < 0xd800 ∨ 0xdfff < c.toNat ∧ c.toNat < 0x110000 := h
  omega
theorem dv_lt : ∀ (l : List Nat) (a : Nat), (∀ c ∈ l, c ≤ 57) → l.foldl (fun acc c => acc * 10 + (c - 48)) a < (a + 1) * 10 ^ l.length
  | [], a, _ => by simp
  | c :: l, a, h => by
    have hc := h c (List.mem_cons_self ..)
    have ih := dv_lt l (a * 10 + (c - 48)) fun d hd => h d (List.mem_cons_of_mem _ hd)
    rw [List.foldl_cons, List.length_cons, Nat.pow_succ]
    refine Nat.lt_of_lt_of_le ih ?_
    have : a * 10 + (c - 48) + 1 ≤ (a + 1) * 10 := by omega
    calc (a * 10 + (c - 48) + 1) * 10 ^ l.length ≤ (a + 1) * 10 * 10 ^ l.length := Nat.mul_le_mul this (Nat.le_refl _)
      _ = (a + 1) * (10 ^ l.length * 10) := by rw [Nat.mul_assoc, Nat.mul_comm 10]
theorem dv_12 {l : List Nat} (h : isDg l = true) (hl : l.length ≤ 12) : NumText.digitsVal l < 1000000000000 := by
  have h1 := dv_lt l 0 fun c hc => (isDg_all h c hc).2
  have h2 : (0 + 1) * 10 ^ l.length ≤ 10 ^ 12 := by rw [Nat.zero_add, Nat.one_mul]; exact Nat.pow_le_pow_right (by decide) hl
  exact Nat.lt_of_lt_of_le h1 h2
def figs (l : List Nat) : List Nat := if l.take 1 = [45] then l.drop 1 else l
def valW (l : List Nat) : Int := if l.take 1 = [45] then -((NumText.digitsVal (l.drop 1) : Nat) : Int) else ((NumText.digitsVal l : Nat) : Int)
def progNum (l : List Nat) : Option Int := if 1 ≤ (figs l).length ∧ (figs l).length ≤ 12 ∧ isDg (figs l) = true ∧ Str.ofString (toString (valW l)) = st l then some (valW l) else none
def optI : Option Int → D
  | some i => .int i
  | none => .non
theorem minus_st : Str.ofString "-" = st [45] := by decide
theorem int_minus {l : List Nat} {M : Mem} (m : l.take 1 = [45]) (h : isDg (l.drop 1) = true) (h1 : l.drop 1 ≠ []) (hl : l.length ≤ 600) : fIntS M (.str (st l)) = some (.int (-((NumText.digitsVal (l.drop 1) : Nat) : Int))) := by
  show (if (st l).length ≤ 640 then (PySem.intText? (st l)).map D.int else none) = _
  have e : l = 45 :: l.drop 1 := by
    cases l with
    | nil => cases m
    | cons c l => simp at m; simp [m]
  rw [st_len, if_pos (by omega), PySem.intText_neg (x := st l) (cs := l.drop 1) (by rw [st_tl]; exact e) (isDg_all h) h1 (by rw [st_len]; omega)]; rfl
theorem ev_long_whole_in {l : List Nat} {M : Mem} (h : ∀ c ∈ l, okW c = true) (hf : (figs l).length ≤ 12) : F_long_whole_in [.str (st l)] M = .ok (optI (progNum l)) M := by
  have h127 : ∀ c ∈ l, c < 127 := fun c hc => okW_lt (h c hc)
  have hll : l.length ≤ 13 := by
    unfold figs at hf
    split at hf
    · rw [List.length_drop] at hf; omega
    · omega
  have s1 : ∀ M, gSl M (.str (st l)) none (some 1) = some (.str (st (l.take 1))) := fun M => by
    rw [gSl_st (by unfold sizeLine; omega), show (some (1 : Int)) = some ((1 : Nat) : Int) from rfl, cutD_hi]
  have s2 : ∀ M, gSl M (.str (st l)) (some 1) none = some (.str (st (l.drop 1))) := fun M => by
    rw [gSl_st (by unfold sizeLine; omega), show (some (1 : Int)) = some ((1 : Nat) : Int) from rfl, cutD_lo]
  have s3 : ∀ M, gEq M (.str (st (l.take 1))) (.str (Str.ofString "-")) = some (.bl (decide (l.take 1 = [45]))) := fun M => by
    rw [minus_st]; exact eq_words (fun c hc => h127 c (List.mem_of_mem_take hc)) (by simp)
  have s4 : ∀ (v : Int) M, gEq M (.str (Str.ofString (toString v))) (.str (st l)) = some (.bl (Str.ofString (toString v) == st l)) := fun v M => gEq_str (strOk_of _) (st_ok fun x hx => by have := h127 x hx; omega)
  by_cases m : l.take 1 = [45]
  · rw [decide_eq_true m] at s3
    have ef : figs l = l.drop 1 := by unfold figs; rw [if_pos m]
    have ev : valW l = -((NumText.digitsVal (l.drop 1) : Nat) : Int) := by unfold valW; rw [if_pos m]
    rw [ef] at hf
    have hF : ∀ c ∈ l.drop 1, c < 127 := fun c hc => h127 c (List.mem_of_mem_drop hc)
    have i2 : ∀ M, fLen M (.str (st (l.drop 1))) = some (.int ((l.drop 1).length : Nat)) := fun M => by rw [len_str (by rw [st_len]; unfold sizeLine; omega), st_len]
    have i3 : ∀ M, itS (.str (st (l.drop 1))) M = .ok ((l.drop 1).map fun c => D.str (st [c])) M := fun M => by simp only [itS, st_sgn]
    have i4 : ∀ M (a0 a1 : Option D), lcGo (.nm 2) bYes (den [] X1_long_whole_in) [a0, a1, none] ((l.drop 1).map fun c => D.str (st [c])) M = .ok ((l.drop 1).map fun c => D.bl (decide (48 ≤ c) && decide (c ≤ 57))) M := fun M a0 a1 => lc_vals fun c hc => by
      have e1 : ∀ M, gIn M (.str (st [c])) (.str (Str.ofString "0123456789")) = some (.bl (decide (48 ≤ c) && decide (c ≤ 57))) := fun M => in_fig (hF c hc)
      clear h hf h127 i2 i3 hc s1 s2 s3 s4 m ef ev hF hll
      unfold X1_long_whole_in
      walk_at "evh"
    have i5 : ∀ M, fAll M (.lst ((l.drop 1).map fun c => D.bl (decide (48 ≤ c) && decide (c ≤ 57)))) = some (.bl (isDg (l.drop 1))) := fun M => all_map _ (l.drop 1)
    have z1 : ((l.drop 1).map fun c => D.str (st [c])).length ≤ 1000 := by rw [List.length_map]; omega
    have z2 : ((l.drop 1).map fun c => D.bl (decide (48 ≤ c) && decide (c ≤ 57))).length ≤ 1000 := by rw [List.length_map]; omega
    have c2 : ((((l.drop 1).length : Nat) : Int) ≤ 113) = True := eq_true (by omega)
    by_cases h1 : 1 ≤ (l.drop 1).length
    · have c1 : ((1 : Int) ≤ (((l.drop 1).length : Nat) : Int)) = True := eq_true (by omega)
      by_cases h3 : isDg (l.drop 1) = true
      · have i7 : ∀ M, fIntS M (.str (st l)) = some (.int (-((NumText.digitsVal (l.drop 1) : Nat) : Int))) := fun M => int_minus m h3 (by intro z; rw [z] at h1; simp at h1) (by omega)
        have hb := dv_12 h3 hf
        have i8 : ∀ M, fStr M (.int (-((NumText.digitsVal (l.drop 1) : Nat) : Int))) = some (.str (Str.ofString (toString (-((NumText.digitsVal (l.drop 1) : Nat) : Int))))) := fun M => by
          show (if (-((NumText.digitsVal (l.drop 1) : Nat) : Int)).natAbs.log2 < 1920 then some (D.str (toString (-((NumText.digitsVal (l.drop 1) : Nat) : Int)))) else none) = _
          refine (if_pos ?_).trans rfl
          have h9 : (-((NumText.digitsVal (l.drop 1) : Nat) : Int)).natAbs < 2 ^ 1000 := Nat.lt_of_lt_of_le (show (-((NumText.digitsVal (l.drop 1) : Nat) : Int)).natAbs < 1000000000000 by omega) (by decide +kernel)
          have h9 := log2_le h9
          omega
        have i9 := s4 (-((NumText.digitsVal (l.drop 1) : Nat) : Int))
        rw [h3] at i5
        by_cases q : Str.ofString (toString (-((NumText.digitsVal (l.drop 1) : Nat) : Int))) = st l
        · have e : progNum l = some (-((NumText.digitsVal (l.drop 1) : Nat) : Int)) := by
            unfold progNum
            rw [ef, ev, if_pos ⟨h1, hf, h3, q⟩]
          rw [e, show optI (some (-((NumText.digitsVal (l.drop 1) : Nat) : Int))) = .int (-((NumText.digitsVal (l.drop 1) : Nat) : Int)) from rfl]
          rw [beq_iff_eq.mpr q] at i9
          generalize Str.ofString (toString (-((NumText.digitsVal (l.drop 1) : Nat) : Int))) = TS at *
          generalize -((NumText.digitsVal (l.drop 1) : Nat) : Int) = vv at *
          generalize ((l.drop 1).map fun c => D.str (st [c])) = Z1 at *
          generalize ((l.drop 1).map fun c => D.bl (decide (48 ≤ c) && decide (c ≤ 57))) = Z2 at *
          clear h hf h127 hll s4 m ef ev hF h1 h3 hb q e
          unfold F_long_whole_in B_long_whole_in
          walk_at "evh"
        · have e : progNum l = none := by
            unfold progNum
            rw [ef, ev, if_neg (by rintro ⟨_, _, _, z⟩; exact q z)]
          rw [e, show optI none = .non from rfl]
          rw [beq_eq_false_iff_ne.mpr q] at i9
          generalize Str.ofString (toString (-((NumText.digitsVal (l.drop 1) : Nat) : Int))) = TS at *
          generalize -((NumText.digitsVal (l.drop 1) : Nat) : Int) = vv at *
          generalize ((l.drop 1).map fun c => D.str (st [c])) = Z1 at *
          generalize ((l.drop 1).map fun c => D.bl (decide (48 ≤ c) && decide (c ≤ 57))) = Z2 at *
          clear h hf h127 hll s4 m ef ev hF h1 h3 hb q e
          unfold F_long_whole_in B_long_whole_in
          walk_at "evh"
      · have e : progNum l = none := by
          unfold progNum
          rw [ef, if_neg (by rintro ⟨_, _, z, _⟩; exact h3 z)]
        have h3' : isDg (l.drop 1) = false := by simpa using h3
        rw [e, show optI none = .non from rfl]
        rw [h3'] at i5
        generalize ((l.drop 1).map fun c => D.str (st [c])) = Z1 at *
        generalize ((l.drop 1).map fun c => D.bl (decide (48 ≤ c) && decide (c ≤ 57))) = Z2 at *
        clear h hf h127 hll s4 m ef ev hF h1 h3 h3' e
        unfold F_long_whole_in B_long_whole_in
        walk_at "evh"
    · have c1 : ((1 : Int) ≤ (((l.drop 1).length : Nat) : Int)) = False := eq_false (by omega)
      have e : progNum l = none := by
        unfold progNum
        rw [ef, if_neg (by rintro ⟨z, _⟩; exact h1 z)]
      rw [e, show optI none = .non from rfl]
      clear h hf h127 hll s4 m ef ev hF h1 e i3 i4 i5 z1 z2
      unfold F_long_whole_in B_long_whole_in
      walk_at "evh"
  · rw [decide_eq_false m] at s3
    have ef : figs l = l := by unfold figs; rw [if_neg m]
    have ev : valW l = ((NumText.digitsVal l : Nat) : Int) := by unfold valW; rw [if_neg m]
    rw [ef] at hf
    have hF : ∀ c ∈ l, c < 127 := fun c hc => h127 c hc
    have i2 : ∀ M, fLen M (.str (st (l))) = some (.int ((l).length : Nat)) := fun M => by rw [len_str (by rw [st_len]; unfold sizeLine; omega), st_len]
    have i3 : ∀ M, itS (.str (st (l))) M = .ok ((l).map fun c => D.str (st [c])) M := fun M => by simp only [itS, st_sgn]
    have i4 : ∀ M (a0 a1 : Option D), lcGo (.nm 2) bYes (den [] X1_long_whole_in) [a0, a1, none] ((l).map fun c => D.str (st [c])) M = .ok ((l).map fun c => D.bl (decide (48 ≤ c) && decide (c ≤ 57))) M := fun M a0 a1 => lc_vals fun c hc => by
      have e1 : ∀ M, gIn M (.str (st [c])) (.str (Str.ofString "0123456789")) = some (.bl (decide (48 ≤ c) && decide (c ≤ 57))) := fun M => in_fig (hF c hc)
      clear h hf h127 i2 i3 hc s1 s2 s3 s4 m ef ev hF hll
      unfold X1_long_whole_in
      walk_at "evh"
    have i5 : ∀ M, fAll M (.lst ((l).map fun c => D.bl (decide (48 ≤ c) && decide (c ≤ 57)))) = some (.bl (isDg (l))) := fun M => all_map _ (l)
    have z1 : ((l).map fun c => D.str (st [c])).length ≤ 1000 := by rw [List.length_map]; omega
    have z2 : ((l).map fun c => D.bl (decide (48 ≤ c) && decide (c ≤ 57))).length ≤ 1000 := by rw [List.length_map]; omega
    have c2 : ((((l).length : Nat) : Int) ≤ 113) = True := eq_true (by omega)
    by_cases h1 : 1 ≤ (l).length
    · have c1 : ((1 : Int) ≤ (((l).length : Nat) : Int)) = True := eq_true (by omega)
      by_cases h3 : isDg (l) = true
      · have i7 : ∀ M, fIntS M (.str (st l)) = some (.int (((NumText.digitsVal l : Nat) : Int))) := fun M => int_digits h3 (by intro z; rw [z] at h1; simp at h1) (by omega)
        have hb := dv_12 h3 hf
        have i8 : ∀ M, fStr M (.int (((NumText.digitsVal l : Nat) : Int))) = some (.str (Str.ofString (toString (((NumText.digitsVal l : Nat) : Int))))) := fun M => by
          show (if (((NumText.digitsVal l : Nat) : Int)).natAbs.log2 < 1920 then some (D.str (toString (((NumText.digitsVal l : Nat) : Int)))) else none) = _
          refine (if_pos ?_).trans rfl
          have h9 : (((NumText.digitsVal l : Nat) : Int)).natAbs < 2 ^ 1000 := Nat.lt_of_lt_of_le (show (((NumText.digitsVal l : Nat) : Int)).natAbs < 1000000000000 by omega) (by decide +kernel)
          have h9 := log2_le h9
          omega
        have i9 := s4 (((NumText.digitsVal l : Nat) : Int))
        rw [h3] at i5
        by_cases q : Str.ofString (toString (((NumText.digitsVal l : Nat) : Int))) = st l
        · have e : progNum l = some (((NumText.digitsVal l : Nat) : Int)) := by
            unfold progNum
            rw [ef, ev, if_pos ⟨h1, hf, h3, q⟩]
          rw [e, show optI (some (((NumText.digitsVal l : Nat) : Int))) = .int (((NumText.digitsVal l : Nat) : Int)) from rfl]
          rw [beq_iff_eq.mpr q] at i9
          generalize Str.ofString (toString (((NumText.digitsVal l : Nat) : Int))) = TS at *
          generalize ((NumText.digitsVal l : Nat) : Int) = vv at *
          generalize ((l).map fun c => D.str (st [c])) = Z1 at *
          generalize ((l).map fun c => D.bl (decide (48 ≤ c) && decide (c ≤ 57))) = Z2 at *
          clear h hf h127 hll s4 m ef ev hF h1 h3 hb q e
          unfold F_long_whole_in B_long_whole_in
          walk_at "evh"
        · have e : progNum l = none := by
            unfold progNum
            rw [ef, ev, if_neg (by rintro ⟨_, _, _, z⟩; exact q z)]
          rw [e, show optI none = .non from rfl]
          rw [beq_eq_false_iff_ne.mpr q] at i9
          generalize Str.ofString (toString (((NumText.digitsVal l : Nat) : Int))) = TS at *
          generalize ((NumText.digitsVal l : Nat) : Int) = vv at *
          generalize ((l).map fun c => D.str (st [c])) = Z1 at *
          generalize ((l).map fun c => D.bl (decide (48 ≤ c) && decide (c ≤ 57))) = Z2 at *
          clear h hf h127 hll s4 m ef ev hF h1 h3 hb q e
          unfold F_long_whole_in B_long_whole_in
          walk_at "evh"
      · have e : progNum l = none := by
          unfold progNum
          rw [ef, if_neg (by rintro ⟨_, _, z, _⟩; exact h3 z)]
        have h3' : isDg (l) = false := by simpa using h3
        rw [e, show optI none = .non from rfl]
        rw [h3'] at i5
        generalize ((l).map fun c => D.str (st [c])) = Z1 at *
        generalize ((l).map fun c => D.bl (decide (48 ≤ c) && decide (c ≤ 57))) = Z2 at *
        clear h hf h127 hll s4 m ef ev hF h1 h3 h3' e
        unfold F_long_whole_in B_long_whole_in
        walk_at "evh"
    · have c1 : ((1 : Int) ≤ (((l).length : Nat) : Int)) = False := eq_false (by omega)
      have e : progNum l = none := by
        unfold progNum
        rw [ef, if_neg (by rintro ⟨z, _⟩; exact h1 z)]
      rw [e, show optI none = .non from rfl]
      clear h hf h127 hll s4 m ef ev hF h1 e i3 i4 i5 z1 z2
      unfold F_long_whole_in B_long_whole_in
      walk_at "evh"
end Lw
end

section
set_option Elab.async false
set_option linter.all false
set_option maxRecDepth 100000
set_option maxHeartbeats 4000000
namespace Lw
open PySem Wn
local macro_rules | `(tactic| walk_at "ev") => `(tactic| simp only [fnDef, fnOf, denSL, denS, den, denL, denB, denI, sSeq, sAsg, sRet, sRetN, sEx, sIf, sFor, sPar, sSet, sPass, sBrk, sCnt, bndS, bnd, Wn.ret, stuck, opt, eVar, eCst, eOp, eCall, eChain, bTru, bNot, bAnd, bOr, eOr, eAnd, eNot, eIf, lNil, lCons, eTup, eLst, eCell, eMt, eMl, eSl, oNo, oAt, eNeg, eLc, lcRun, fnDo, startE, fin, Tg.put, TgL.puts, isS_ite, if_le_sz, lstX_lst, lstOf_lst, add_int, sub_int, eq_int, ne_int, le_int, lt_int, gt_int, ge_int, is_non, isnot_non, isNon, asTru, truD, iArg, wipeE,
  List.map_cons, List.map_nil, List.length_cons, List.length_nil, List.getElem?_cons_zero, List.getElem?_cons_succ, List.set_cons_zero, List.set_cons_succ, List.getD_cons_zero, List.getD_cons_succ, List.cons_append, List.nil_append, List.replicate_succ, List.replicate_zero, Nat.zero_add, Nat.sub_self, Nat.add_one_sub_one, Nat.reduceAdd, Nat.reduceSub, Nat.reduceLeDiff, Nat.reduceEqDiff, if_true, if_false, Bool.false_eq_true, Bool.not_true, Bool.not_false, decide_true, decide_false, g1, g2, List.zip_cons_cons, List.zip_nil_right, List.foldl_cons, List.foldl_nil,
  mIndex, mJoin, mSplit, tStr, tIntS, mAppend, mExtend, mGet, eMd, eDcp, gDcp, sSetA, setA, eRv, eSst, eStp, eDsp, eLzp, fnDoP, bMinL, bLen, bAbs, bMax, bMin, bSum, bAll, bAny, bOrd, bRepr, bIsi, tInt, tTup, tLst, nInt, nStr, nBool, nTup, nLst, oAdd, oSub, oMul, oMod, oDiv, oPow, cEq, cNe, cLt, cLe, cGt, cGe, cIn, cNi, cIs, cIn', Option.some_or, Option.or_none, Option.none_or])
local macro_rules | `(tactic| walk_at "evh") => `(tactic| simp only [*, fnDef, fnOf, denSL, denS, den, denL, denB, denI, sSeq, sAsg, sRet, sRetN, sEx, sIf, sFor, sPar, sSet, sPass, sBrk, sCnt, bndS, bnd, Wn.ret, stuck, opt, eVar, eCst, eOp, eCall, eChain, bTru, bNot, bAnd, bOr, eOr, eAnd, eNot, eIf, lNil, lCons, eTup, eLst, eCell, eMt, eMl, eSl, oNo, oAt, eNeg, eLc, lcRun, fnDo, startE, fin, Tg.put, TgL.puts, isS_ite, if_le_sz, lstX_lst, lstOf_lst, add_int, sub_int, eq_int, ne_int, le_int, lt_int, gt_int, ge_int, is_non, isnot_non, isNon, asTru, truD, iArg, wipeE,
  List.map_cons, List.map_nil, List.length_cons, List.length_nil, List.getElem?_cons_zero, List.getElem?_cons_succ, List.set_cons_zero, List.set_cons_succ, List.getD_cons_zero, List.getD_cons_succ, List.cons_append, List.nil_append, List.replicate_succ, List.replicate_zero, Nat.zero_add, Nat.sub_self, Nat.add_one_sub_one, Nat.reduceAdd, Nat.reduceSub, Nat.reduceLeDiff, Nat.reduceEqDiff, if_true, if_false, Bool.false_eq_true, Bool.not_true, Bool.not_false, decide_true, decide_false, g1, g2, List.zip_cons_cons, List.zip_nil_right, List.foldl_cons, List.foldl_nil,
  mIndex, mJoin, mSplit, tStr, tIntS, mAppend, mExtend, mGet, eMd, eDcp, gDcp, sSetA, setA, eRv, eSst, eStp, eDsp, eLzp, fnDoP, bMinL, bLen, bAbs, bMax, bMin, bSum, bAll, bAny, bOrd, bRepr, bIsi, tInt, tTup, tLst, nInt, nStr, nBool, nTup, nLst, oAdd, oSub, oMul, oMod, oDiv, oPow, cEq, cNe, cLt, cLe, cGt, cGe, cIn, cNi, cIs, cIn', Option.some_or, Option.or_none, Option.none_or])
theorem ev_whole_in {l : List Nat} {M : Mem} (h : ∀ c ∈ l, okW c = true) (hl : l.length ≤ 600) : F_whole_in [.str (st l)] M = .ok (optI (progNum l)) M := by
  have h127 : ∀ c ∈ l, c < 127 := fun c hc => okW_lt (h c hc)
  have s1 : ∀ M, gSl M (.str (st l)) none (some 1) = some (.str (st (l.take 1))) := fun M => by
    rw [gSl_st (by unfold sizeLine; omega), show (some (1 : Int)) = some ((1 : Nat) : Int) from rfl, cutD_hi]
  have s2 : ∀ M, gSl M (.str (st l)) (some 1) none = some (.str (st (l.drop 1))) := fun M => by
    rw [gSl_st (by unfold sizeLine; omega), show (some (1 : Int)) = some ((1 : Nat) : Int) from rfl, cutD_lo]
  have s3 : ∀ M, gEq M (.str (st (l.take 1))) (.str (Str.ofString "-")) = some (.bl (decide (l.take 1 = [45]))) := fun M => by
    rw [minus_st]; exact eq_words (fun c hc => h127 c (List.mem_of_mem_take hc)) (by simp)
  have i1 : ∀ M, fLen M (.str (st l)) = some (.int (l.length : Nat)) := fun M => by rw [len_str (by rw [st_len]; unfold sizeLine; omega), st_len]
  have i2 : ∀ M, fLen M (.str (st (l.drop 1))) = some (.int ((l.drop 1).length : Nat)) := fun M => by rw [len_str (by rw [st_len, List.length_drop]; unfold sizeLine; omega), st_len]
  by_cases hf : (figs l).length ≤ 12
  · have e1 : ∀ M, F_long_whole_in [.str (st l)] M = .ok (optI (progNum l)) M := fun M => ev_long_whole_in h hf
    by_cases m : l.take 1 = [45]
    · rw [decide_eq_true m] at s3
      have c1 : ((((l.drop 1).length : Nat) : Int) ≤ 12) = True := eq_true (by unfold figs at hf; rw [if_pos m] at hf; omega)
      clear h hl h127 hf m
      unfold F_whole_in B_whole_in
      walk_at "evh"
    · rw [decide_eq_false m] at s3
      have c1 : (((l.length : Nat) : Int) ≤ 12) = True := eq_true (by unfold figs at hf; rw [if_neg m] at hf; omega)
      clear h hl h127 hf m
      unfold F_whole_in B_whole_in
      walk_at "evh"
  · have e : progNum l = none := by unfold progNum; rw [if_neg (by rintro ⟨_, z, _⟩; exact hf z)]
    rw [e, show optI none = .non from rfl]
    by_cases m : l.take 1 = [45]
    · rw [decide_eq_true m] at s3
      have c1 : ((((l.drop 1).length : Nat) : Int) ≤ 12) = False := eq_false (by unfold figs at hf; rw [if_pos m] at hf; omega)
      clear h hl h127 hf m e
      unfold F_whole_in B_whole_in
      walk_at "evh"
    · rw [decide_eq_false m] at s3
      have c1 : (((l.length : Nat) : Int) ≤ 12) = False := eq_false (by unfold figs at hf; rw [if_neg m] at hf; omega)
      clear h hl h127 hf m e
      unfold F_whole_in B_whole_in
      walk_at "evh"
/-! ### both numbers -/
theorem back_nat {l : List Nat} (h : isDg l = true) : (l.map Char.ofNat).map Char.toNat = l := by
  rw [List.map_map]
  have : ∀ c ∈ l, (Char.toNat ∘ Char.ofNat) c = c := fun c hc => by
    have h1 := isDg_all h c hc
    have key : ∀ d, d < 58 → (Char.ofNat d).toNat = d := by decide
    exact key c (by omega)
  rw [List.map_congr_left this, List.map_id']
theorem no_minus {l : List Nat} (h : isDg l = true) : l.take 1 ≠ [45] := fun m => by
  cases l with
  | nil => cases m
  | cons c l =>
    simp at m
    have := isDg_all h c (List.mem_cons_self ..)
    omega
theorem str_dec (m : Nat) (l : List Nat) : Str.ofString (toString ((m : Nat) : Int)) = st l ↔ (Nat.toDigits 10 m).map Char.toNat = l := by
  rw [← PySem.W.KIN.signs_num]
  constructor
  · intro e
    rw [e, st_tl]
  · intro e
    refine str_ext ?_
    rw [st_tl]; exact e
theorem law_prog {l : List Nat} {n : Nat} (h : lawNum l = some n) : progNum l = some (n : Int) ∧ n ≤ 999999999999 := by
  unfold lawNum at h
  split at h
  · rename_i c
    obtain ⟨h1, h2, h3, h4⟩ := c
    cases h
    have nm := no_minus h3
    have ef : figs l = l := by unfold figs; rw [if_neg nm]
    have ev : valW l = ((NumText.digitsVal l : Nat) : Int) := by unfold valW; rw [if_neg nm]
    have ht : Nat.toDigits 10 (NumText.digitsVal l) = l.map Char.ofNat := by
      refine NumText.toDigits_digitsVal (l.length - 1) l (by omega) (isDg_all h3) ?_
      rcases h4 with e | e
      · exact .inl (by rw [e]; rfl)
      · cases l with
        | nil => simp at h1
        | cons c r =>
          have := isDg_all h3 c (List.mem_cons_self ..)
          have e' : c ≠ 48 := e
          exact .inr ⟨c, r, rfl, by omega⟩
    have h5 : Str.ofString (toString ((NumText.digitsVal l : Nat) : Int)) = st l := by
      rw [str_dec, ht, back_nat h3]
    refine ⟨?_, Nat.le_of_lt_succ (dv_12 h3 h2)⟩
    unfold progNum
    rw [ef, ev, if_pos ⟨h1, h2, h3, h5⟩]
  · cases h
theorem prog_law {l : List Nat} {i : Int} (h : progNum l = some i) (h0 : 0 ≤ i) : lawNum l = some i.toNat := by
  unfold progNum at h
  split at h
  · rename_i c
    obtain ⟨h1, h2, h3, h4⟩ := c
    cases h
    by_cases m : l.take 1 = [45]
    · have ev : valW l = -((NumText.digitsVal (l.drop 1) : Nat) : Int) := by unfold valW; rw [if_pos m]
      have e0 : valW l = ((0 : Nat) : Int) := by omega
      rw [e0, str_dec] at h4
      have : l = [48] := h4.symm
      rw [this] at m
      cases m
    · have ef : figs l = l := by unfold figs; rw [if_neg m]
      have ev : valW l = ((NumText.digitsVal l : Nat) : Int) := by unfold valW; rw [if_neg m]
      rw [ef] at h1 h2 h3
      rw [ev, str_dec] at h4
      rw [ev, Int.toNat_natCast]
      have key : l = [48] ∨ l.getD 0 0 ≠ 48 := by
        rw [NumText.toDigits_all l (isDg_all h3)] at h4
        split at h4
        · exact .inl h4.symm
        · rename_i c r e
          refine .inr fun z => ?_
          have h5 : ((c :: r).map Char.ofNat).map Char.toNat = l := h4
          have hsub : ∀ d ∈ c :: r, d ∈ l := fun d hd => (List.dropWhile_sublist _).mem (by rw [e]; exact hd)
          have hdg : isDg (c :: r) = true := List.all_eq_true.mpr fun d hd => List.all_eq_true.mp h3 d (hsub d hd)
          rw [back_nat hdg] at h5
          have hc : (c == 48) = false := by
            have := List.head?_dropWhile_not (fun x : Nat => x == 48) l
            rw [e] at this
            simpa using this
          rw [← h5] at z
          have z' : c = 48 := z
          rw [z'] at hc
          cases hc
      unfold lawNum
      rw [if_pos ⟨h1, h2, h3, key⟩]
  · cases h
end Lw
end

section
set_option Elab.async false
set_option linter.all false
set_option maxRecDepth 100000
set_option maxHeartbeats 4000000
namespace Lw
open PySem Wn
local macro_rules | `(tactic| walk_at "ev") => `(tactic| simp only [fnDef, fnOf, denSL, denS, den, denL, denB, denI, sSeq, sAsg, sRet, sRetN, sEx, sIf, sFor, sPar, sSet, sPass, sBrk, sCnt, bndS, bnd, Wn.ret, stuck, opt, eVar, eCst, eOp, eCall, eChain, bTru, bNot, bAnd, bOr, eOr, eAnd, eNot, eIf, lNil, lCons, eTup, eLst, eCell, eMt, eMl, eSl, oNo, oAt, eNeg, eLc, lcRun, fnDo, startE, fin, Tg.put, TgL.puts, isS_ite, if_le_sz, lstX_lst, lstOf_lst, add_int, sub_int, eq_int, ne_int, le_int, lt_int, gt_int, ge_int, is_non, isnot_non, isNon, asTru, truD, iArg, wipeE,
  List.map_cons, List.map_nil, List.length_cons, List.length_nil, List.getElem?_cons_zero, List.getElem?_cons_succ, List.set_cons_zero, List.set_cons_succ, List.getD_cons_zero, List.getD_cons_succ, List.cons_append, List.nil_append, List.replicate_succ, List.replicate_zero, Nat.zero_add, Nat.sub_self, Nat.add_one_sub_one, Nat.reduceAdd, Nat.reduceSub, Nat.reduceLeDiff, Nat.reduceEqDiff, if_true, if_false, Bool.false_eq_true, Bool.not_true, Bool.not_false, decide_true, decide_false, g1, g2, List.zip_cons_cons, List.zip_nil_right, List.foldl_cons, List.foldl_nil,
  mIndex, mJoin, mSplit, tStr, tIntS, mAppend, mExtend, mGet, eMd, eDcp, gDcp, sSetA, setA, eRv, eSst, eStp, eDsp, eLzp, fnDoP, bMinL, bLen, bAbs, bMax, bMin, bSum, bAll, bAny, bOrd, bRepr, bIsi, tInt, tTup, tLst, nInt, nStr, nBool, nTup, nLst, oAdd, oSub, oMul, oMod, oDiv, oPow, cEq, cNe, cLt, cLe, cGt, cGe, cIn, cNi, cIs, cIn', Option.some_or, Option.or_none, Option.none_or])
local macro_rules | `(tactic| walk_at "evh") => `(tactic| simp only [*, fnDef, fnOf, denSL, denS, den, denL, denB, denI, sSeq, sAsg, sRet, sRetN, sEx, sIf, sFor, sPar, sSet, sPass, sBrk, sCnt, bndS, bnd, Wn.ret, stuck, opt, eVar, eCst, eOp, eCall, eChain, bTru, bNot, bAnd, bOr, eOr, eAnd, eNot, eIf, lNil, lCons, eTup, eLst, eCell, eMt, eMl, eSl, oNo, oAt, eNeg, eLc, lcRun, fnDo, startE, fin, Tg.put, TgL.puts, isS_ite, if_le_sz, lstX_lst, lstOf_lst, add_int, sub_int, eq_int, ne_int, le_int, lt_int, gt_int, ge_int, is_non, isnot_non, isNon, asTru, truD, iArg, wipeE,
  List.map_cons, List.map_nil, List.length_cons, List.length_nil, List.getElem?_cons_zero, List.getElem?_cons_succ, List.set_cons_zero, List.set_cons_succ, List.getD_cons_zero, List.getD_cons_succ, List.cons_append, List.nil_append, List.replicate_succ, List.replicate_zero, Nat.zero_add, Nat.sub_self, Nat.add_one_sub_one, Nat.reduceAdd, Nat.reduceSub, Nat.reduceLeDiff, Nat.reduceEqDiff, if_true, if_false, Bool.false_eq_true, Bool.not_true, Bool.not_false, decide_true, decide_false, g1, g2, List.zip_cons_cons, List.zip_nil_right, List.foldl_cons, List.foldl_nil,
  mIndex, mJoin, mSplit, tStr, tIntS, mAppend, mExtend, mGet, eMd, eDcp, gDcp, sSetA, setA, eRv, eSst, eStp, eDsp, eLzp, fnDoP, bMinL, bLen, bAbs, bMax, bMin, bSum, bAll, bAny, bOrd, bRepr, bIsi, tInt, tTup, tLst, nInt, nStr, nBool, nTup, nLst, oAdd, oSub, oMul, oMod, oDiv, oPow, cEq, cNe, cLt, cLe, cGt, cGe, cIn, cNi, cIs, cIn', Option.some_or, Option.or_none, Option.none_or])
/-! ### small looks -/
theorem ev_is_tuple {ds : List D} {lo hi : Nat} {M : Mem} (hl : ds.length ≤ 1000) : F_is_tuple [.tup ds, .int (lo : Nat), .int (hi : Nat)] M = .ok (.bl (decide (lo ≤ ds.length) && decide (ds.length ≤ hi))) M := by
  have i1 : ∀ M, fIsi M (.tup ds) (.ty "tuple") = some (.bl true) := fun _ => rfl
  have i2 : ∀ M, fLen M (.tup ds) = some (.int (ds.length : Nat)) := fun _ => rfl
  by_cases h1 : lo ≤ ds.length
  · have c1 : (((lo : Nat) : Int) ≤ ((ds.length : Nat) : Int)) = True := eq_true (by omega)
    by_cases h2 : ds.length ≤ hi
    · have c2 : (((ds.length : Nat) : Int) ≤ ((hi : Nat) : Int)) = True := eq_true (by omega)
      simp only [h1, h2, decide_true, Bool.and_self]
      clear h1 h2 hl
      unfold F_is_tuple B_is_tuple
      walk_at "evh"
    · have c2 : (((ds.length : Nat) : Int) ≤ ((hi : Nat) : Int)) = False := eq_false (by omega)
      simp only [h1, h2, decide_true, decide_false, Bool.true_and]
      clear h1 h2 hl
      unfold F_is_tuple B_is_tuple
      walk_at "evh"
  · have c1 : (((lo : Nat) : Int) ≤ ((ds.length : Nat) : Int)) = False := eq_false (by omega)
    simp only [h1, decide_false, Bool.false_and]
    clear h1 hl
    unfold F_is_tuple B_is_tuple
    walk_at "evh"
theorem ev_is_tuple_int {i : Int} {lo hi : D} {M : Mem} : F_is_tuple [.int i, lo, hi] M = .ok (.bl false) M := by
  have i1 : ∀ M, fIsi M (.int i) (.ty "tuple") = some (.bl false) := fun _ => rfl
  unfold F_is_tuple B_is_tuple
  walk_at "evh"
theorem ev_is_integer {i : Int} {lo hi : Int} {M : Mem} : F_is_integer [.int i, .int lo, .int hi] M = .ok (.bl (decide (lo ≤ i) && decide (i ≤ hi))) M := by
  have e1 : ∀ M, F_is_whole [.int i] M = .ok (.bl true) M := fun M => by
    have i1 : ∀ M, fIsi M (.int i) (.ty "int") = some (.bl true) := fun _ => rfl
    have i2 : ∀ M, fIsi M (.int i) (.ty "bool") = some (.bl false) := fun _ => rfl
    unfold F_is_whole B_is_whole
    walk_at "evh"
  by_cases h1 : lo ≤ i
  · have c1 : (lo ≤ i) = True := eq_true h1
    by_cases h2 : i ≤ hi
    · have c2 : (i ≤ hi) = True := eq_true h2
      simp only [h1, h2, decide_true, Bool.and_self]
      clear h1 h2
      unfold F_is_integer B_is_integer
      walk_at "evh"
    · have c2 : (i ≤ hi) = False := eq_false h2
      simp only [h1, h2, decide_true, decide_false, Bool.true_and]
      clear h1 h2
      unfold F_is_integer B_is_integer
      walk_at "evh"
  · have c1 : (lo ≤ i) = False := eq_false h1
    simp only [h1, decide_false, Bool.false_and]
    clear h1
    unfold F_is_integer B_is_integer
    walk_at "evh"
/-! ### keys that ascend -/
def txD (l : List Nat) : D := .str (st l)
def adj : List (List Nat) → List Bool
  | a :: b :: l => ltS (st a) (st b) :: adj (b :: l)
  | _ => []
theorem adj_all : ∀ ks, (adj ks).all (fun b => b) = ascB ks
  | [] => rfl
  | [_] => rfl
  | a :: b :: l => by
    have ih := adj_all (b :: l)
    show (ltS (st a) (st b) && (adj (b :: l)).all fun b => b) = (ltS (st a) (st b) && ascB (b :: l))
    rw [ih]
theorem adj_len : ∀ ks, (adj ks).length ≤ ks.length
  | [] => Nat.le_refl _
  | [_] => Nat.zero_le _
  | a :: b :: l => by
    have := adj_len (b :: l)
    show (adj (b :: l)).length + 1 ≤ (b :: l).length + 1
    omega
theorem asc_go {a0 a1 a2 a3 : Option D} {M : Mem} : ∀ ks : List (List Nat), lcGo (.tp (.cons (.nm 2) (.cons (.nm 3) .nil))) bYes (den [F_is_key] X1_are_ascending) [a0, a1, a2, a3] (pairs (ks.map txD) ((ks.drop 1).map txD)) M = .ok ((adj ks).map D.bl) M
  | [] => rfl
  | [a] => rfl
  | a :: b :: l => by
    have ih := asc_go (a0 := a0) (a1 := a1) (a2 := a2) (a3 := a3) (M := M) (b :: l)
    have e2 : den [F_is_key] X1_are_ascending [a0, a1, some (txD a), some (txD b)] M = .ok (.bl (ltS (st a) (st b))) M := rfl
    show lcGo _ _ _ _ (D.tup [txD a, txD b] :: pairs ((b :: l).map txD) (((b :: l).drop 1).map txD)) M = _
    rw [lcGo_cons]
    simp only [Tg.put, TgL.puts, bYes_ok, List.set_cons_succ, List.set_cons_zero, e2, ih]
    rfl
theorem ev_are_ascending {ks : List (List Nat)} {M : Mem} (hk : ∀ l ∈ ks, (∀ c ∈ l, okW c = true) ∧ l.length ≤ 600) (hl : ks.length ≤ 900) : F_are_ascending [.lst (ks.map txD)] M = .ok (.bl (ks.all (sgns 33) && ascB ks)) M := by
  have i1 : ∀ M (a0 a2 a3 : Option D), lcGo (.nm 1) bYes (den [F_is_key] X2_are_ascending) [a0, none, a2, a3] (ks.map txD) M = .ok (ks.map fun l => D.bl (sgns 33 l)) M := fun M a0 a2 a3 => lc_vals fun l hm => by
    have e1 : ∀ M, F_is_key [.str (st l)] M = .ok (.bl (sgns 33 l)) M := fun M => ev_is_key (hk l hm).1 (by have := (hk l hm).2; omega)
    clear hk hl hm
    unfold X2_are_ascending txD
    walk_at "evh"
  have i2 : ∀ M, fAll M (.lst (ks.map fun l => D.bl (sgns 33 l))) = some (.bl (ks.all (sgns 33))) := fun M => all_map _ ks
  have i3 : ∀ M, gSl M (.lst (ks.map txD)) (some 1) none = some (.lst ((ks.drop 1).map txD)) := fun M => by
    show some (D.lst (cutD (ks.map txD) (some 1) none)) = _
    rw [show (some (1 : Int)) = some ((1 : Nat) : Int) from rfl, cutD_lo, List.map_drop]
  have i4 : ∀ M, fZip2 [.lst (ks.map txD), .lst ((ks.drop 1).map txD)] M = .ok (pairs (ks.map txD) ((ks.drop 1).map txD)) M := fun M => rfl
  have i5 : ∀ M (a0 a1 a2 a3 : Option D), lcGo (.tp (.cons (.nm 2) (.cons (.nm 3) .nil))) bYes (den [F_is_key] X1_are_ascending) [a0, a1, a2, a3] (pairs (ks.map txD) ((ks.drop 1).map txD)) M = .ok ((adj ks).map D.bl) M := fun M a0 a1 a2 a3 => asc_go ks
  have i6 : ∀ M, fAll M (.lst ((adj ks).map D.bl)) = some (.bl (ascB ks)) := fun M => by
    have := all_map (M := M) (fun b : Bool => b) (adj ks)
    rw [adj_all] at this
    exact this
  have i7 : ∀ (ds : List D) M, itL (.lst ds) M = .ok ds M := fun _ _ => rfl
  have z1 : (ks.map txD).length ≤ 1000 := by rw [List.length_map]; omega
  have z2 : (ks.map fun l => D.bl (sgns 33 l)).length ≤ 1000 := by rw [List.length_map]; omega
  have z3 : (pairs (ks.map txD) ((ks.drop 1).map txD)).length ≤ 1000 := by rw [pairs_length, List.length_map, List.length_map, List.length_drop]; omega
  have z4 : ((adj ks).map D.bl).length ≤ 1000 := by rw [List.length_map]; have := adj_len ks; omega
  generalize pairs (ks.map txD) ((ks.drop 1).map txD) = PP at *
  generalize (ks.drop 1).map txD = K1 at *
  generalize ks.map txD = K0 at *
  generalize (adj ks).map D.bl = K2 at *
  generalize (ks.map fun l => D.bl (sgns 33 l)) = K3 at *
  generalize ascB ks = as at *
  generalize hq : ks.all (sgns 33) = q at *
  cases q with
  | true =>
    clear hk hl hq
    unfold F_are_ascending B_are_ascending
    walk_at "evh"
    simp only [Bool.true_and]
  | false =>
    clear hk hl hq
    unfold F_are_ascending B_are_ascending
    walk_at "evh"
    simp only [Bool.false_and]
end Lw
end

section
set_option Elab.async false
set_option linter.all false
set_option maxRecDepth 100000
set_option maxHeartbeats 4000000
namespace Lw
open PySem Wn
local macro_rules | `(tactic| walk_at "ev") => `(tactic| simp only [fnDef, fnOf, denSL, denS, den, denL, denB, denI, sSeq, sAsg, sRet, sRetN, sEx, sIf, sFor, sPar, sSet, sPass, sBrk, sCnt, bndS, bnd, Wn.ret, stuck, opt, eVar, eCst, eOp, eCall, eChain, bTru, bNot, bAnd, bOr, eOr, eAnd, eNot, eIf, lNil, lCons, eTup, eLst, eCell, eMt, eMl, eSl, oNo, oAt, eNeg, eLc, lcRun, fnDo, startE, fin, Tg.put, TgL.puts, isS_ite, if_le_sz, lstX_lst, lstOf_lst, add_int, sub_int, eq_int, ne_int, le_int, lt_int, gt_int, ge_int, is_non, isnot_non, isNon, asTru, truD, iArg, wipeE,
  List.map_cons, List.map_nil, List.length_cons, List.length_nil, List.getElem?_cons_zero, List.getElem?_cons_succ, List.set_cons_zero, List.set_cons_succ, List.getD_cons_zero, List.getD_cons_succ, List.cons_append, List.nil_append, List.replicate_succ, List.replicate_zero, Nat.zero_add, Nat.sub_self, Nat.add_one_sub_one, Nat.reduceAdd, Nat.reduceSub, Nat.reduceLeDiff, Nat.reduceEqDiff, if_true, if_false, Bool.false_eq_true, Bool.not_true, Bool.not_false, decide_true, decide_false, g1, g2, List.zip_cons_cons, List.zip_nil_right, List.foldl_cons, List.foldl_nil,
  mIndex, mJoin, mSplit, tStr, tIntS, mAppend, mExtend, mGet, eMd, eDcp, gDcp, sSetA, setA, eRv, eSst, eStp, eDsp, eLzp, fnDoP, bMinL, bLen, bAbs, bMax, bMin, bSum, bAll, bAny, bOrd, bRepr, bIsi, tInt, tTup, tLst, nInt, nStr, nBool, nTup, nLst, oAdd, oSub, oMul, oMod, oDiv, oPow, cEq, cNe, cLt, cLe, cGt, cGe, cIn, cNi, cIs, cIn', Option.some_or, Option.or_none, Option.none_or])
local macro_rules | `(tactic| walk_at "evh") => `(tactic| simp only [*, fnDef, fnOf, denSL, denS, den, denL, denB, denI, sSeq, sAsg, sRet, sRetN, sEx, sIf, sFor, sPar, sSet, sPass, sBrk, sCnt, bndS, bnd, Wn.ret, stuck, opt, eVar, eCst, eOp, eCall, eChain, bTru, bNot, bAnd, bOr, eOr, eAnd, eNot, eIf, lNil, lCons, eTup, eLst, eCell, eMt, eMl, eSl, oNo, oAt, eNeg, eLc, lcRun, fnDo, startE, fin, Tg.put, TgL.puts, isS_ite, if_le_sz, lstX_lst, lstOf_lst, add_int, sub_int, eq_int, ne_int, le_int, lt_int, gt_int, ge_int, is_non, isnot_non, isNon, asTru, truD, iArg, wipeE,
  List.map_cons, List.map_nil, List.length_cons, List.length_nil, List.getElem?_cons_zero, List.getElem?_cons_succ, List.set_cons_zero, List.set_cons_succ, List.getD_cons_zero, List.getD_cons_succ, List.cons_append, List.nil_append, List.replicate_succ, List.replicate_zero, Nat.zero_add, Nat.sub_self, Nat.add_one_sub_one, Nat.reduceAdd, Nat.reduceSub, Nat.reduceLeDiff, Nat.reduceEqDiff, if_true, if_false, Bool.false_eq_true, Bool.not_true, Bool.not_false, decide_true, decide_false, g1, g2, List.zip_cons_cons, List.zip_nil_right, List.foldl_cons, List.foldl_nil,
  mIndex, mJoin, mSplit, tStr, tIntS, mAppend, mExtend, mGet, eMd, eDcp, gDcp, sSetA, setA, eRv, eSst, eStp, eDsp, eLzp, fnDoP, bMinL, bLen, bAbs, bMax, bMin, bSum, bAll, bAny, bOrd, bRepr, bIsi, tInt, tTup, tLst, nInt, nStr, nBool, nTup, nLst, oAdd, oSub, oMul, oMod, oDiv, oPow, cEq, cNe, cLt, cLe, cGt, cGe, cIn, cNi, cIs, cIn', Option.some_or, Option.or_none, Option.none_or])
/-! ### sheets, as the program looks at them -/
def ent (e : List Nat × D) : D := .tup [txD e.1, e.2]
theorem kinds_in {w : Str} {M : Mem} (h : w = "leaf" ∨ w = "fork") : F_is_string [.str w, .tup [.str "leaf", .str "fork"]] M = .ok (.bl true) M := by
  have i1 : ∀ M, fIsi M (.str w) (.ty "str") = some (.bl true) := fun _ => rfl
  have i2 : ∀ M, gIn M (.str w) (.tup [.str "leaf", .str "fork"]) = some (.bl true) := fun M => by
    rcases h with rfl | rfl
    · show (if SeqAt.shaped (.str "leaf") = true ∧ PyData.canLayAll0 [.str "leaf", .str "fork"] = true then some (D.bl _) else none) = _
      rw [if_pos ⟨by decide +kernel, by decide +kernel⟩]; rfl
    · show (if SeqAt.shaped (.str "fork") = true ∧ PyData.canLayAll0 [.str "leaf", .str "fork"] = true then some (D.bl _) else none) = _
      rw [if_pos ⟨by decide +kernel, by decide +kernel⟩]; rfl
  clear h
  unfold F_is_string B_is_string
  walk_at "evh"
theorem leaf_eq {M : Mem} : gEq M (.str "leaf") (.str "leaf") = some (.bl true) := by
  rw [gEq_str (by decide +kernel) (by decide +kernel)]; rfl
theorem fork_ne {M : Mem} : gEq M (.str "fork") (.str "leaf") = some (.bl false) := by
  rw [gEq_str (by decide +kernel) (by decide +kernel)]; rfl
theorem ev_is_sheet {leaf : Bool} {w : Str} {lo : Nat} {es : List (List Nat × D)} {g : List Nat × D → Bool} {M : Mem} (hw : w = (if leaf = true then "leaf" else "fork")) (hlo : lo = if leaf = true then 1 else 2) (hk : ∀ e ∈ es, (∀ c ∈ e.1, okW c = true) ∧ e.1.length ≤ 600) (hl : es.length ≤ 900)
    (hv : ∀ e ∈ es, ∀ M, (if leaf = true then F_is_value else F_is_child) [e.2] M = .ok (.bl (g e)) M) : F_is_sheet [.tup [.str w, .tup (es.map ent)]] M = .ok (.bl (decide (lo ≤ es.length) && decide (es.length ≤ 4) && ((es.map (·.1)).all (sgns 33) && ascB (es.map (·.1))) && es.all g)) M := by
  have t2 : ∀ (a b : D) M, F_is_tuple [.tup [a, b], .int 2, .int 2] M = .ok (.bl true) M := fun a b M => ev_is_tuple (ds := [a, b]) (lo := 2) (hi := 2) (by simp)
  have s1 : ∀ M, F_is_string [.str w, .tup [.str "leaf", .str "fork"]] M = .ok (.bl true) M := fun M => kinds_in (by rw [hw]; cases leaf <;> simp)
  have tn : ∀ M, F_is_tuple [.tup (es.map ent), .int (lo : Nat), .int 4] M = .ok (.bl (decide (lo ≤ es.length) && decide (es.length ≤ 4))) M := fun M => by
    have := ev_is_tuple (ds := es.map ent) (lo := lo) (hi := 4) (M := M) (by rw [List.length_map]; omega)
    rw [List.length_map] at this
    exact this
  have v0 : ∀ (a b : D) M, gIx M (.tup [a, b]) (.int 0) = some a := fun _ _ _ => rfl
  have v1 : ∀ (a b : D) M, gIx M (.tup [a, b]) (.int 1) = some b := fun _ _ _ => rfl
  have it : ∀ (ds : List D) M, itT (.tup ds) M = .ok ds M := fun _ _ => rfl
  have eqw : ∀ M, gEq M (.str w) (.str "leaf") = some (.bl leaf) := fun M => by
    rw [hw]
    cases leaf
    · exact fork_ne
    · exact leaf_eq
  have x1 : ∀ M (a0 a1 : Option D), lcGo (.nm 2) bYes (den [F_is_string, F_is_tuple, F_are_ascending, F_is_value, F_is_child] X1_is_sheet) [a0, a1, none] (es.map ent) M = .ok (es.map fun _ => D.bl true) M := fun M a0 a1 => lc_vals fun e he => by
    clear hw hlo hk hl hv s1 tn eqw he
    unfold X1_is_sheet ent
    walk_at "evh"
  have x2 : ∀ M (a0 a1 : Option D), lcGo (.nm 2) bYes (den [F_is_string, F_is_tuple, F_are_ascending, F_is_value, F_is_child] X2_is_sheet) [a0, a1, none] (es.map ent) M = .ok (es.map fun e => txD e.1) M := fun M a0 a1 => lc_vals fun e he => by
    clear hw hlo hk hl hv s1 tn eqw he
    unfold X2_is_sheet ent
    walk_at "evh"
  have x3 : ∀ M (a1 : Option D), lcGo (.nm 2) bYes (den [F_is_string, F_is_tuple, F_are_ascending, F_is_value, F_is_child] X3_is_sheet) [some (.tup [.str w, .tup (es.map ent)]), a1, none] (es.map ent) M = .ok (es.map fun e => D.bl (g e)) M := fun M a1 => lc_vals fun e he => by
    have hve := hv e he
    generalize es.map ent = EE at *
    cases leaf with
    | true =>
      replace hve : ∀ M, F_is_value [e.2] M = .ok (.bl (g e)) M := hve
      clear hw hlo hk hl hv s1 tn he x1 x2
      unfold X3_is_sheet ent
      walk_at "evh"
    | false =>
      replace hve : ∀ M, F_is_child [e.2] M = .ok (.bl (g e)) M := hve
      clear hw hlo hk hl hv s1 tn he x1 x2
      unfold X3_is_sheet ent
      walk_at "evh"
  have y1 : ∀ M, fAll M (.lst (es.map fun _ => D.bl true)) = some (.bl true) := fun M => by rw [all_map (fun _ => true) es]; simp
  have y2 : ∀ M, F_are_ascending [.lst (es.map fun e => txD e.1)] M = .ok (.bl ((es.map (·.1)).all (sgns 33) && ascB (es.map (·.1)))) M := fun M => by
    have := ev_are_ascending (ks := es.map (·.1)) (M := M) (by intro l hm; obtain ⟨e, he, rfl⟩ := List.mem_map.mp hm; exact hk e he) (by rw [List.length_map]; exact hl)
    rw [List.map_map] at this
    exact this
  have y3 : ∀ M, fAll M (.lst (es.map fun e => D.bl (g e))) = some (.bl (es.all g)) := fun M => all_map g es
  have z0 : (es.map ent).length ≤ 1000 := by rw [List.length_map]; omega
  have z1 : (es.map fun _ => D.bl true).length ≤ 1000 := by rw [List.length_map]; omega
  have z2 : (es.map fun e => txD e.1).length ≤ 1000 := by rw [List.length_map]; omega
  have z3 : (es.map fun e => D.bl (g e)).length ≤ 1000 := by rw [List.length_map]; omega
  have l1 : leaf = true → ((lo : Nat) : Int) = 1 := fun e => by rw [hlo, if_pos e]; rfl
  have l2 : leaf = false → ((lo : Nat) : Int) = 2 := fun e => by rw [hlo, if_neg (by rw [e]; simp)]; rfl
  generalize es.map ent = EE at *
  generalize (es.map fun _ => D.bl true) = E1 at *
  generalize (es.map fun e => txD e.1) = E2 at *
  generalize (es.map fun e => D.bl (g e)) = E3 at *
  generalize (decide (lo ≤ es.length) && decide (es.length ≤ 4)) = b1 at *
  generalize ((es.map (·.1)).all (sgns 33) && ascB (es.map (·.1))) = b2 at *
  generalize es.all g = b3 at *
  clear hk hl hv hw hlo
  cases leaf with
  | true =>
    have l1 := l1 rfl
    rw [l1] at tn
    clear l1 l2
    cases b1 <;> cases b2 <;> cases b3 <;> (unfold F_is_sheet B_is_sheet; walk_at "evh"; try rfl)
  | false =>
    have l2 := l2 rfl
    rw [l2] at tn
    clear l1 l2
    cases b1 <;> cases b2 <;> cases b3 <;> (unfold F_is_sheet B_is_sheet; walk_at "evh"; try rfl)
end Lw
end

section
set_option Elab.async false
set_option linter.all false
set_option maxRecDepth 100000
set_option maxHeartbeats 4000000
namespace Lw
open PySem Wn
local macro_rules | `(tactic| walk_at "ev") => `(tactic| simp only [fnDef, fnOf, denSL, denS, den, denL, denB, denI, sSeq, sAsg, sRet, sRetN, sEx, sIf, sFor, sPar, sSet, sPass, sBrk, sCnt, bndS, bnd, Wn.ret, stuck, opt, eVar, eCst, eOp, eCall, eChain, bTru, bNot, bAnd, bOr, eOr, eAnd, eNot, eIf, lNil, lCons, eTup, eLst, eCell, eMt, eMl, eSl, oNo, oAt, eNeg, eLc, lcRun, fnDo, startE, fin, Tg.put, TgL.puts, isS_ite, if_le_sz, lstX_lst, lstOf_lst, add_int, sub_int, eq_int, ne_int, le_int, lt_int, gt_int, ge_int, is_non, isnot_non, isNon, asTru, truD, iArg, wipeE,
  List.map_cons, List.map_nil, List.length_cons, List.length_nil, List.getElem?_cons_zero, List.getElem?_cons_succ, List.set_cons_zero, List.set_cons_succ, List.getD_cons_zero, List.getD_cons_succ, List.cons_append, List.nil_append, List.replicate_succ, List.replicate_zero, Nat.zero_add, Nat.sub_self, Nat.add_one_sub_one, Nat.reduceAdd, Nat.reduceSub, Nat.reduceLeDiff, Nat.reduceEqDiff, if_true, if_false, Bool.false_eq_true, Bool.not_true, Bool.not_false, decide_true, decide_false, g1, g2, List.zip_cons_cons, List.zip_nil_right, List.foldl_cons, List.foldl_nil,
  mIndex, mJoin, mSplit, tStr, tIntS, mAppend, mExtend, mGet, eMd, eDcp, gDcp, sSetA, setA, eRv, eSst, eStp, eDsp, eLzp, fnDoP, bMinL, bLen, bAbs, bMax, bMin, bSum, bAll, bAny, bOrd, bRepr, bIsi, tInt, tTup, tLst, nInt, nStr, nBool, nTup, nLst, oAdd, oSub, oMul, oMod, oDiv, oPow, cEq, cNe, cLt, cLe, cGt, cGe, cIn, cNi, cIs, cIn', Option.some_or, Option.or_none, Option.none_or])
local macro_rules | `(tactic| walk_at "evh") => `(tactic| simp only [*, fnDef, fnOf, denSL, denS, den, denL, denB, denI, sSeq, sAsg, sRet, sRetN, sEx, sIf, sFor, sPar, sSet, sPass, sBrk, sCnt, bndS, bnd, Wn.ret, stuck, opt, eVar, eCst, eOp, eCall, eChain, bTru, bNot, bAnd, bOr, eOr, eAnd, eNot, eIf, lNil, lCons, eTup, eLst, eCell, eMt, eMl, eSl, oNo, oAt, eNeg, eLc, lcRun, fnDo, startE, fin, Tg.put, TgL.puts, isS_ite, if_le_sz, lstX_lst, lstOf_lst, add_int, sub_int, eq_int, ne_int, le_int, lt_int, gt_int, ge_int, is_non, isnot_non, isNon, asTru, truD, iArg, wipeE,
  List.map_cons, List.map_nil, List.length_cons, List.length_nil, List.getElem?_cons_zero, List.getElem?_cons_succ, List.set_cons_zero, List.set_cons_succ, List.getD_cons_zero, List.getD_cons_succ, List.cons_append, List.nil_append, List.replicate_succ, List.replicate_zero, Nat.zero_add, Nat.sub_self, Nat.add_one_sub_one, Nat.reduceAdd, Nat.reduceSub, Nat.reduceLeDiff, Nat.reduceEqDiff, if_true, if_false, Bool.false_eq_true, Bool.not_true, Bool.not_false, decide_true, decide_false, g1, g2, List.zip_cons_cons, List.zip_nil_right, List.foldl_cons, List.foldl_nil,
  mIndex, mJoin, mSplit, tStr, tIntS, mAppend, mExtend, mGet, eMd, eDcp, gDcp, sSetA, setA, eRv, eSst, eStp, eDsp, eLzp, fnDoP, bMinL, bLen, bAbs, bMax, bMin, bSum, bAll, bAny, bOrd, bRepr, bIsi, tInt, tTup, tLst, nInt, nStr, nBool, nTup, nLst, oAdd, oSub, oMul, oMod, oDiv, oPow, cEq, cNe, cLt, cLe, cGt, cGe, cIn, cNi, cIs, cIn', Option.some_or, Option.or_none, Option.none_or])
/-! ### words of a text, places in steps -/
theorem mem_join {c : Nat} {sep : List Nat} : ∀ {ls : List (List Nat)} {p : List Nat}, p ∈ ls → c ∈ p → c ∈ TL.joinL sep ls
  | [x], p, hp, hc => by rw [List.mem_singleton.mp hp] at hc; simpa [TL.joinL] using hc
  | x :: y :: r, p, hp, hc => by
    show c ∈ x ++ (sep ++ TL.joinL sep (y :: r))
    rcases List.mem_cons.mp hp with e | e
    · rw [e] at hc; exact List.mem_append_left _ hc
    · exact List.mem_append_right _ (List.mem_append_right _ (mem_join e hc))
theorem split_words {t : List Nat} (h : okText t = true) : ∃ ws : List (List Nat), Txt.split (st t) (st [10]) = ws.map st ∧ ws ≠ [] ∧ ws.length ≤ 115 ∧ ∀ w ∈ ws, (∀ c ∈ w, okW c = true) ∧ w.length ≤ 113 := by
  obtain ⟨hl, hs⟩ := Bool.and_eq_true_iff.mp (show (decide (t.length ≤ 113) && t.all okSign) = true from h)
  have hl := of_decide_eq_true hl
  have hs := List.all_eq_true.mp hs
  have es : Txt.split (st t) (st [10]) = (TL.spl [10] 0 [] t).map st := SX.split_S (a := t) (b := [10]) (by simp) (by decide)
  refine ⟨TL.spl [10] 0 [] t, es, ?_, ?_, fun w hw => ?_⟩
  · intro z
    have := PyProof.Rows.split_pos (st t) (st [10])
    rw [es, z] at this
    simp at this
  · have := PyProof.Rows.split_le (st t) (st [10])
    rw [es, List.length_map, st_len] at this
    omega
  · have hm : st w ∈ Txt.split (st t) (st [10]) := by rw [es]; exact List.mem_map_of_mem hw
    have hlen : (st w).length ≤ (st t).length := PyProof.Rows.part_short hm
    rw [st_len, st_len] at hlen
    refine ⟨fun c hc => ?_, by omega⟩
    have hfree : 10 ∉ (st w).cps.toList := PySem.StrLaws.split_free (st t) 10 _ hm
    rw [st_tl] at hfree
    have hj := congrArg TL.tl (PySem.StrLaws.join_split (st t) (st [10]))
    rw [TL.tl_join, es, List.map_map] at hj
    have e2 : (TL.spl [10] 0 [] t).map (TL.tl ∘ st) = TL.spl [10] 0 [] t := by
      have : (TL.tl ∘ st) = id := by funext l; exact st_tl l
      rw [this, List.map_id]
    rw [e2] at hj
    have hct : c ∈ t := by
      have := mem_join (sep := TL.tl (st [10])) hw hc
      rw [hj] at this
      exact this
    have h1 := hs c hct
    have h2 : c ≠ 10 := fun e => hfree (e ▸ hc)
    unfold okSign at h1
    unfold okW
    simp only [Bool.or_eq_true, Bool.and_eq_true, decide_eq_true_eq] at h1 ⊢
    omega
theorem pick_map {α β : Type} (f : α → β) (xs : List α) (l k : Option Int) : pickD (xs.map f) l k = (pickD xs l k).map f := by
  unfold pickD
  rw [List.length_map, List.map_filterMap]
  congr 1
  funext i
  rw [List.getElem?_map]
theorem pick_mem {α : Type} {xs : List α} {l k : Option Int} {x : α} (h : x ∈ pickD xs l k) : x ∈ xs := by
  unfold pickD at h
  obtain ⟨i, _, e⟩ := List.mem_filterMap.mp h
  exact List.mem_of_getElem? e
theorem filterMap_len {α β : Type} (f : α → Option β) : ∀ l : List α, (∀ a ∈ l, (f a).isSome = true) → (l.filterMap f).length = l.length
  | [], _ => rfl
  | a :: l, h => by
    obtain ⟨b, hb⟩ := Option.isSome_iff_exists.mp (h a (List.mem_cons_self ..))
    rw [List.filterMap_cons, hb]
    show (List.filterMap f l).length + 1 = l.length + 1
    rw [filterMap_len f l fun x hx => h x (List.mem_cons_of_mem _ hx)]
theorem pick_len {α : Type} {xs : List α} {n : Nat} (h : xs.length = 2 * n + 1) (l : Nat) (hl : l = 1 ∨ l = 2) : (pickD xs (some (l : Nat)) (some 2)).length = n := by
  have e : sliceBounds (some ((l : Nat) : Int)) none (some 2) xs.length = (((min l xs.length : Nat) : Int), ((xs.length : Nat) : Int), 2) := by
    simp only [sliceBounds, Option.getD_none, Option.getD_some, show (2 : Int) > 0 by decide, if_true]
    have : ¬ (((l : Nat) : Int) < 0) := by omega
    simp only [this, if_false]
    congr 1
    omega
  unfold pickD
  rw [e]
  dsimp only
  have hc : sliceRange ((min l xs.length : Nat) : Int) ((xs.length : Nat) : Int) 2 = (List.range n).map fun (k : Nat) => (((min l xs.length : Nat) : Int) + 2 * (k : Int)).toNat := by
    unfold sliceRange
    have : (if (2 : Int) > 0 then (if ((min l xs.length : Nat) : Int) < ((xs.length : Nat) : Int) then (((xs.length : Nat) : Int) - ((min l xs.length : Nat) : Int) + 2 - 1) / 2 else 0) else (if ((min l xs.length : Nat) : Int) > ((xs.length : Nat) : Int) then (((min l xs.length : Nat) : Int) - ((xs.length : Nat) : Int) - 2 - 1) / (-2) else 0)).toNat = n := by
      rw [if_pos (by decide)]
      split <;> omega
    dsimp only
    rw [this]
  rw [hc, filterMap_len, List.length_map, List.length_range]
  intro i hi
  obtain ⟨k, hk, rfl⟩ := List.mem_map.mp hi
  have hk := List.mem_range.mp hk
  rw [List.getElem?_eq_getElem (by omega)]; rfl
end Lw
end

section
set_option Elab.async false
set_option linter.all false
set_option maxRecDepth 100000
set_option maxHeartbeats 4000000
namespace Lw
open PySem Wn
local macro_rules | `(tactic| walk_at "ev") => `(tactic| simp only [fnDef, fnOf, denSL, denS, den, denL, denB, denI, sSeq, sAsg, sRet, sRetN, sEx, sIf, sFor, sPar, sSet, sPass, sBrk, sCnt, bndS, bnd, Wn.ret, stuck, opt, eVar, eCst, eOp, eCall, eChain, bTru, bNot, bAnd, bOr, eOr, eAnd, eNot, eIf, lNil, lCons, eTup, eLst, eCell, eMt, eMl, eSl, oNo, oAt, eNeg, eLc, lcRun, fnDo, startE, fin, Tg.put, TgL.puts, isS_ite, if_le_sz, lstX_lst, lstOf_lst, add_int, sub_int, eq_int, ne_int, le_int, lt_int, gt_int, ge_int, is_non, isnot_non, isNon, asTru, truD, iArg, wipeE,
  List.map_cons, List.map_nil, List.length_cons, List.length_nil, List.getElem?_cons_zero, List.getElem?_cons_succ, List.set_cons_zero, List.set_cons_succ, List.getD_cons_zero, List.getD_cons_succ, List.cons_append, List.nil_append, List.replicate_succ, List.replicate_zero, Nat.zero_add, Nat.sub_self, Nat.add_one_sub_one, Nat.reduceAdd, Nat.reduceSub, Nat.reduceLeDiff, Nat.reduceEqDiff, if_true, if_false, Bool.false_eq_true, Bool.not_true, Bool.not_false, decide_true, decide_false, g1, g2, List.zip_cons_cons, List.zip_nil_right, List.foldl_cons, List.foldl_nil,
  mIndex, mJoin, mSplit, tStr, tIntS, mAppend, mExtend, mGet, eMd, eDcp, gDcp, sSetA, setA, eRv, eSst, eStp, eDsp, eLzp, fnDoP, bMinL, bLen, bAbs, bMax, bMin, bSum, bAll, bAny, bOrd, bRepr, bIsi, tInt, tTup, tLst, nInt, nStr, nBool, nTup, nLst, oAdd, oSub, oMul, oMod, oDiv, oPow, cEq, cNe, cLt, cLe, cGt, cGe, cIn, cNi, cIs, cIn', Option.some_or, Option.or_none, Option.none_or])
local macro_rules | `(tactic| walk_at "evh") => `(tactic| simp only [*, fnDef, fnOf, denSL, denS, den, denL, denB, denI, sSeq, sAsg, sRet, sRetN, sEx, sIf, sFor, sPar, sSet, sPass, sBrk, sCnt, bndS, bnd, Wn.ret, stuck, opt, eVar, eCst, eOp, eCall, eChain, bTru, bNot, bAnd, bOr, eOr, eAnd, eNot, eIf, lNil, lCons, eTup, eLst, eCell, eMt, eMl, eSl, oNo, oAt, eNeg, eLc, lcRun, fnDo, startE, fin, Tg.put, TgL.puts, isS_ite, if_le_sz, lstX_lst, lstOf_lst, add_int, sub_int, eq_int, ne_int, le_int, lt_int, gt_int, ge_int, is_non, isnot_non, isNon, asTru, truD, iArg, wipeE,
  List.map_cons, List.map_nil, List.length_cons, List.length_nil, List.getElem?_cons_zero, List.getElem?_cons_succ, List.set_cons_zero, List.set_cons_succ, List.getD_cons_zero, List.getD_cons_succ, List.cons_append, List.nil_append, List.replicate_succ, List.replicate_zero, Nat.zero_add, Nat.sub_self, Nat.add_one_sub_one, Nat.reduceAdd, Nat.reduceSub, Nat.reduceLeDiff, Nat.reduceEqDiff, if_true, if_false, Bool.false_eq_true, Bool.not_true, Bool.not_false, decide_true, decide_false, g1, g2, List.zip_cons_cons, List.zip_nil_right, List.foldl_cons, List.foldl_nil,
  mIndex, mJoin, mSplit, tStr, tIntS, mAppend, mExtend, mGet, eMd, eDcp, gDcp, sSetA, setA, eRv, eSst, eStp, eDsp, eLzp, fnDoP, bMinL, bLen, bAbs, bMax, bMin, bSum, bAll, bAny, bOrd, bRepr, bIsi, tInt, tTup, tLst, nInt, nStr, nBool, nTup, nLst, oAdd, oSub, oMul, oMod, oDiv, oPow, cEq, cNe, cLt, cLe, cGt, cGe, cIn, cNi, cIs, cIn', Option.some_or, Option.or_none, Option.none_or])
/-! ### a sheet's text, read by the program -/
def ksOf (ws : List (List Nat)) : List (List Nat) := pickD ws (some 1) (some 2)
def vsOf (ws : List (List Nat)) : List (List Nat) := pickD ws (some 2) (some 2)
theorem st_l : Str.ofString "l" = st [108] := by decide
theorem st_f : Str.ofString "f" = st [102] := by decide
theorem first_in {w : List Nat} {M : Mem} (h : ∀ c ∈ w, c < 127) : gIn M (txD w) (.tup [.str "l", .str "f"]) = some (.bl (decide (w = [108]) || decide (w = [102]))) := by
  have s0 : PyData.strOk (st w) = true := st_ok fun x hx => by have := h x hx; omega
  have s1 : SeqAt.shaped (.str (st w)) = true := by unfold SeqAt.shaped; rw [Bool.and_eq_true]; exact ⟨s0, rfl⟩
  show (if SeqAt.shaped (.str (st w)) = true ∧ PyData.canLayAll0 [.str "l", .str "f"] = true then some (D.bl ([PyData.str "l", .str "f"].any fun q => PyData.eqv q (.str (st w)))) else none) = _
  rw [if_pos ⟨s1, by decide +kernel⟩]
  show some (D.bl ((Str.ofString "l" == st w) || ((Str.ofString "f" == st w) || false))) = _
  rw [st_l, st_f, st_beq, st_beq, Bool.or_false]
  congr 2
  rw [show decide ([108] = w) = decide (w = [108]) by congr 1; exact propext ⟨Eq.symm, Eq.symm⟩, show decide ([102] = w) = decide (w = [102]) by congr 1; exact propext ⟨Eq.symm, Eq.symm⟩]
theorem first_ni {w : List Nat} {M : Mem} (h : ∀ c ∈ w, c < 127) : gNotIn M (txD w) (.tup [.str "l", .str "f"]) = some (.bl (!(decide (w = [108]) || decide (w = [102])))) := by
  unfold gNotIn
  rw [first_in h]
theorem split_feed {t : List Nat} {ws : List (List Nat)} {M : Mem} (hl : t.length ≤ 600) (es : Txt.split (st t) (st [10]) = ws.map st) : gSplit M (.str (st t)) [.str (Str.ofString "\n")] = some (.lst (ws.map txD)) := by
  have e : (Str.ofString "\n") = st [10] := rfl
  rw [e]
  show (if (((st [10]).length == 0) = false ∧ (st t).length + 2 ≤ sizeLine) then some (D.lst ((Txt.split (st t) (st [10])).map D.str)) else none) = _
  rw [if_pos ⟨by decide, by rw [st_len]; unfold sizeLine; omega⟩, es, List.map_map]; rfl
theorem gIx0 {M : Mem} {d : D} {ds : List D} : gIx M (.lst (d :: ds)) (.int 0) = some d := by
  show L2.atI (d :: ds) 0 = _
  unfold L2.atI L2.ixN
  rw [if_pos (by decide), if_pos (by rw [List.length_cons]; omega)]
  rfl
theorem ev_sheet_of_no {t w : List Nat} {ws : List (List Nat)} {M : Mem} (hl : t.length ≤ 600) (es : Txt.split (st t) (st [10]) = (w :: ws).map st) (hw : ∀ c ∈ w, c < 127) (hn : (w ≠ [108] ∧ w ≠ [102]) ∨ (ws.length + 1) % 2 = 0) : F_sheet_of [.str (st t)] M = .ok .non M := by
  have sp : ∀ M, gSplit M (.str (st t)) [.str (Str.ofString "\n")] = some (.lst ((w :: ws).map txD)) := fun M => split_feed hl es
  have i0 : ∀ M, gIx M (.lst ((w :: ws).map txD)) (.int 0) = some (txD w) := fun _ => gIx0
  have ni := fun M => first_ni (w := w) (M := M) hw
  have ln : ∀ M, fLen M (.lst ((w :: ws).map txD)) = some (.int ((ws.length + 1 : Nat))) := fun M => by
    show some (D.int (((w :: ws).map txD).length : Nat)) = _
    rw [List.length_map]; rfl
  have md : ∀ M, gMod M (.int ((ws.length + 1 : Nat))) (.int 2) = some (.int (((ws.length + 1) % 2 : Nat))) := fun M => by
    show (if (0 : Int) < 2 then some (D.int _) else none) = _
    rw [if_pos (by decide)]; rfl
  generalize (w :: ws).map txD = L at *
  by_cases h1 : w = [108]
  · have hn : (ws.length + 1) % 2 = 0 := by
      rcases hn with ⟨a, _⟩ | a
      · exact absurd h1 a
      · exact a
    rw [hn] at md
    replace md : ∀ M, gMod M (.int ((ws.length + 1 : Nat))) (.int 2) = some (.int 0) := md
    have c0 : ((0 : Int) = 0) = True := eq_true rfl
    generalize ws.length + 1 = n at *
    rw [h1] at ni i0
    simp only [decide_true, Bool.true_or, Bool.not_true] at ni
    clear hl es hw hn h1
    unfold F_sheet_of B_sheet_of
    walk_at "evh"
  · by_cases h2 : w = [102]
    · have hn : (ws.length + 1) % 2 = 0 := by
        rcases hn with ⟨_, a⟩ | a
        · exact absurd h2 a
        · exact a
      rw [hn] at md
      replace md : ∀ M, gMod M (.int ((ws.length + 1 : Nat))) (.int 2) = some (.int 0) := md
      have c0 : ((0 : Int) = 0) = True := eq_true rfl
      generalize ws.length + 1 = n at *
      rw [h2] at ni i0
      simp only [decide_true, Bool.or_true, Bool.not_true] at ni
      clear hl es hw hn h1 h2
      unfold F_sheet_of B_sheet_of
      walk_at "evh"
    · simp only [h1, h2, decide_false, Bool.or_false, Bool.not_false] at ni
      clear hl es hw hn h1 h2 md ln
      unfold F_sheet_of B_sheet_of
      walk_at "evh"
end Lw
end

section
set_option Elab.async false
set_option linter.all false
set_option maxRecDepth 100000
set_option maxHeartbeats 4000000
namespace Lw
open PySem Wn
local macro_rules | `(tactic| walk_at "ev") => `(tactic| simp only [fnDef, fnOf, denSL, denS, den, denL, denB, denI, sSeq, sAsg, sRet, sRetN, sEx, sIf, sFor, sPar, sSet, sPass, sBrk, sCnt, bndS, bnd, Wn.ret, stuck, opt, eVar, eCst, eOp, eCall, eChain, bTru, bNot, bAnd, bOr, eOr, eAnd, eNot, eIf, lNil, lCons, eTup, eLst, eCell, eMt, eMl, eSl, oNo, oAt, eNeg, eLc, lcRun, fnDo, startE, fin, Tg.put, TgL.puts, isS_ite, if_le_sz, lstX_lst, lstOf_lst, add_int, sub_int, eq_int, ne_int, le_int, lt_int, gt_int, ge_int, is_non, isnot_non, isNon, asTru, truD, iArg, wipeE,
  List.map_cons, List.map_nil, List.length_cons, List.length_nil, List.getElem?_cons_zero, List.getElem?_cons_succ, List.set_cons_zero, List.set_cons_succ, List.getD_cons_zero, List.getD_cons_succ, List.cons_append, List.nil_append, List.replicate_succ, List.replicate_zero, Nat.zero_add, Nat.sub_self, Nat.add_one_sub_one, Nat.reduceAdd, Nat.reduceSub, Nat.reduceLeDiff, Nat.reduceEqDiff, if_true, if_false, Bool.false_eq_true, Bool.not_true, Bool.not_false, decide_true, decide_false, g1, g2, List.zip_cons_cons, List.zip_nil_right, List.foldl_cons, List.foldl_nil,
  mIndex, mJoin, mSplit, tStr, tIntS, mAppend, mExtend, mGet, eMd, eDcp, gDcp, sSetA, setA, eRv, eSst, eStp, eDsp, eLzp, fnDoP, bMinL, bLen, bAbs, bMax, bMin, bSum, bAll, bAny, bOrd, bRepr, bIsi, tInt, tTup, tLst, nInt, nStr, nBool, nTup, nLst, oAdd, oSub, oMul, oMod, oDiv, oPow, cEq, cNe, cLt, cLe, cGt, cGe, cIn, cNi, cIs, cIn', Option.some_or, Option.or_none, Option.none_or])
local macro_rules | `(tactic| walk_at "evh") => `(tactic| simp only [*, fnDef, fnOf, denSL, denS, den, denL, denB, denI, sSeq, sAsg, sRet, sRetN, sEx, sIf, sFor, sPar, sSet, sPass, sBrk, sCnt, bndS, bnd, Wn.ret, stuck, opt, eVar, eCst, eOp, eCall, eChain, bTru, bNot, bAnd, bOr, eOr, eAnd, eNot, eIf, lNil, lCons, eTup, eLst, eCell, eMt, eMl, eSl, oNo, oAt, eNeg, eLc, lcRun, fnDo, startE, fin, Tg.put, TgL.puts, isS_ite, if_le_sz, lstX_lst, lstOf_lst, add_int, sub_int, eq_int, ne_int, le_int, lt_int, gt_int, ge_int, is_non, isnot_non, isNon, asTru, truD, iArg, wipeE,
  List.map_cons, List.map_nil, List.length_cons, List.length_nil, List.getElem?_cons_zero, List.getElem?_cons_succ, List.set_cons_zero, List.set_cons_succ, List.getD_cons_zero, List.getD_cons_succ, List.cons_append, List.nil_append, List.replicate_succ, List.replicate_zero, Nat.zero_add, Nat.sub_self, Nat.add_one_sub_one, Nat.reduceAdd, Nat.reduceSub, Nat.reduceLeDiff, Nat.reduceEqDiff, if_true, if_false, Bool.false_eq_true, Bool.not_true, Bool.not_false, decide_true, decide_false, g1, g2, List.zip_cons_cons, List.zip_nil_right, List.foldl_cons, List.foldl_nil,
  mIndex, mJoin, mSplit, tStr, tIntS, mAppend, mExtend, mGet, eMd, eDcp, gDcp, sSetA, setA, eRv, eSst, eStp, eDsp, eLzp, fnDoP, bMinL, bLen, bAbs, bMax, bMin, bSum, bAll, bAny, bOrd, bRepr, bIsi, tInt, tTup, tLst, nInt, nStr, nBool, nTup, nLst, oAdd, oSub, oMul, oMod, oDiv, oPow, cEq, cNe, cLt, cLe, cGt, cGe, cIn, cNi, cIs, cIn', Option.some_or, Option.or_none, Option.none_or])
/-! ### the program's reading of a leaf and of a fork -/
theorem toPys_map {α : Type} {f : α → D} {p : α → PyData} : ∀ {l : List α}, (∀ a ∈ l, toPy (f a) = some (p a)) → toPys (l.map f) = some (l.map p)
  | [], _ => rfl
  | a :: l, h => by
    have e1 := h a (List.mem_cons_self ..)
    have e2 := toPys_map (l := l) fun x hx => h x (List.mem_cons_of_mem _ hx)
    rw [List.map_cons, List.map_cons, toPys, e1, e2]
theorem lay_map {α : Type} {p : α → PyData} : ∀ {l : List α}, (∀ a ∈ l, (p a).canLay0 = true) → PyData.canLayAll0 (l.map p) = true
  | [], _ => rfl
  | a :: l, h => by
    rw [List.map_cons, PyData.canLayAll0, h a (List.mem_cons_self ..), lay_map (l := l) fun x hx => h x (List.mem_cons_of_mem _ hx)]; rfl
theorem any_congr {α : Type} {f g : α → Bool} : ∀ {l : List α}, (∀ a ∈ l, f a = g a) → l.any f = l.any g
  | [], _ => rfl
  | a :: l, h => by
    rw [List.any_cons, List.any_cons, h a (List.mem_cons_self ..), any_congr (l := l) fun x hx => h x (List.mem_cons_of_mem _ hx)]
theorem non_in {α : Type} {f : α → D} {p : α → PyData} {b : α → Bool} {M : Mem} {l : List α} (h : ∀ a ∈ l, toPy (f a) = some (p a) ∧ (p a).canLay0 = true ∧ PyData.eqv (p a) .none = b a) : gIn M .non (.lst (l.map f)) = some (.bl (l.any b)) := by
  have e : gIn M .non (.lst (l.map f)) = opt2 (some PyData.none) (toPys (l.map f)) fun q ps => if SeqAt.shaped q = true ∧ PyData.canLayAll0 ps = true then some (D.bl (ps.any fun z => PyData.eqv z q)) else none := rfl
  rw [e, toPys_map fun a ha => (h a ha).1]
  show (if SeqAt.shaped PyData.none = true ∧ PyData.canLayAll0 (l.map p) = true then some (D.bl ((l.map p).any fun z => PyData.eqv z .none)) else none) = _
  rw [if_pos ⟨by decide +kernel, lay_map fun a ha => (h a ha).2.1⟩, List.any_map, any_congr (f := (fun z => PyData.eqv z .none) ∘ p) (g := b) fun a ha => (h a ha).2.2]
def optP : Option Int → PyData
  | some i => .int i
  | none => .none
theorem non_in_nums {M : Mem} (vs : List (List Nat)) : gIn M .non (.lst (vs.map fun v => optI (progNum v))) = some (.bl (vs.any fun v => (progNum v).isNone)) :=
  non_in (p := fun v => optP (progNum v)) fun v _ => by
    cases progNum v with
    | none => exact ⟨rfl, rfl, rfl⟩
    | some i => exact ⟨rfl, rfl, rfl⟩
def gV : List Nat × D → Bool := fun e => match e.2 with
  | .str z => sgns 32 z.cps.toList
  | _ => false
def gC : List Nat × D → Bool := fun e => match e.2 with
  | .int i => decide (0 ≤ i) && decide (i ≤ 999999999999)
  | _ => false
def zipW (f : List Nat → D) (ks vs : List (List Nat)) : List (List Nat × D) := (ks.zip vs).map fun p => (p.1, f p.2)
theorem pairs_zip (f : List Nat → D) : ∀ ks vs : List (List Nat), pairs (ks.map txD) (vs.map f) = (zipW f ks vs).map ent
  | [], _ => rfl
  | _ :: _, [] => rfl
  | k :: ks, v :: vs => by
    have ih := pairs_zip f ks vs
    show D.tup [txD k, f v] :: pairs (ks.map txD) (vs.map f) = _
    rw [ih]; rfl
def shB (lo : Nat) (es : List (List Nat × D)) (g : List Nat × D → Bool) : Bool := decide (lo ≤ es.length) && decide (es.length ≤ 4) && ((es.map (·.1)).all (sgns 33) && ascB (es.map (·.1))) && es.all g
def shD (w : Str) (es : List (List Nat × D)) : D := .tup [.str w, .tup (es.map ent)]
theorem zipW_mem {f : List Nat → D} {ks vs : List (List Nat)} {e : List Nat × D} (h : e ∈ zipW f ks vs) : e.1 ∈ ks ∧ ∃ v ∈ vs, e.2 = f v := by
  obtain ⟨p, hp, rfl⟩ := List.mem_map.mp h
  obtain ⟨h1, h2⟩ := List.of_mem_zip (show (p.1, p.2) ∈ ks.zip vs from hp)
  exact ⟨h1, p.2, h2, rfl⟩
theorem zipW_len {f : List Nat → D} {ks vs : List (List Nat)} : (zipW f ks vs).length ≤ ks.length := by
  unfold zipW
  rw [List.length_map, List.length_zip]; omega
theorem pick_le {α : Type} {xs : List α} (h : xs.length % 2 = 1) (l : Nat) (hl : l = 1 ∨ l = 2) : (pickD xs (some (l : Nat)) (some 2)).length ≤ xs.length := by
  rw [pick_len (n := xs.length / 2) (by omega) l hl]; omega
theorem stp_words {M : Mem} {ws : List (List Nat)} (h : ws.length % 2 = 1) (l : Nat) (hl : l = 1 ∨ l = 2) : gStp M (.lst (ws.map txD)) (some (l : Nat)) (some 2) = some (.lst ((pickD ws (some (l : Nat)) (some 2)).map txD)) := by
  have e : pickD (ws.map txD) (some ((l : Nat) : Int)) (some 2) = (pickD ws (some (l : Nat)) (some 2)).map txD := pick_map txD ws _ _
  show (if (2 : Int) ≠ 0 ∧ (pickD (ws.map txD) (some ((l : Nat) : Int)) (some 2)).length ≤ (ws.map txD).length then some (D.lst (pickD (ws.map txD) (some ((l : Nat) : Int)) (some 2))) else none) = _
  rw [e, if_pos ⟨by decide, by rw [List.length_map, List.length_map]; exact pick_le h l hl⟩]
theorem ev_is_child_int {i : Int} {M : Mem} : F_is_child [.int i] M = .ok (.bl (decide (0 ≤ i) && decide (i ≤ 999999999999))) M := by
  have e1 : ∀ (lo hi : D) M, F_is_tuple [.int i, lo, hi] M = .ok (.bl false) M := fun _ _ M => ev_is_tuple_int
  have e2 : ∀ M, F_is_integer [.int i, .int 0, .int 999999999999] M = .ok (.bl (decide (0 ≤ i) && decide (i ≤ 999999999999))) M := fun M => ev_is_integer
  generalize (decide (0 ≤ i) && decide (i ≤ 999999999999)) = b at *
  unfold F_is_child B_is_child
  walk_at "evh"
end Lw
end

section
set_option Elab.async false
set_option linter.all false
set_option maxRecDepth 100000
set_option maxHeartbeats 4000000
namespace Lw
open PySem Wn
local macro_rules | `(tactic| walk_at "ev") => `(tactic| simp only [fnDef, fnOf, denSL, denS, den, denL, denB, denI, sSeq, sAsg, sRet, sRetN, sEx, sIf, sFor, sPar, sSet, sPass, sBrk, sCnt, bndS, bnd, Wn.ret, stuck, opt, eVar, eCst, eOp, eCall, eChain, bTru, bNot, bAnd, bOr, eOr, eAnd, eNot, eIf, lNil, lCons, eTup, eLst, eCell, eMt, eMl, eSl, oNo, oAt, eNeg, eLc, lcRun, fnDo, startE, fin, Tg.put, TgL.puts, isS_ite, if_le_sz, lstX_lst, lstOf_lst, add_int, sub_int, eq_int, ne_int, le_int, lt_int, gt_int, ge_int, is_non, isnot_non, isNon, asTru, truD, iArg, wipeE,
  List.map_cons, List.map_nil, List.length_cons, List.length_nil, List.getElem?_cons_zero, List.getElem?_cons_succ, List.set_cons_zero, List.set_cons_succ, List.getD_cons_zero, List.getD_cons_succ, List.cons_append, List.nil_append, List.replicate_succ, List.replicate_zero, Nat.zero_add, Nat.sub_self, Nat.add_one_sub_one, Nat.reduceAdd, Nat.reduceSub, Nat.reduceLeDiff, Nat.reduceEqDiff, if_true, if_false, Bool.false_eq_true, Bool.not_true, Bool.not_false, decide_true, decide_false, g1, g2, List.zip_cons_cons, List.zip_nil_right, List.foldl_cons, List.foldl_nil,
  mIndex, mJoin, mSplit, tStr, tIntS, mAppend, mExtend, mGet, eMd, eDcp, gDcp, sSetA, setA, eRv, eSst, eStp, eDsp, eLzp, fnDoP, bMinL, bLen, bAbs, bMax, bMin, bSum, bAll, bAny, bOrd, bRepr, bIsi, tInt, tTup, tLst, nInt, nStr, nBool, nTup, nLst, oAdd, oSub, oMul, oMod, oDiv, oPow, cEq, cNe, cLt, cLe, cGt, cGe, cIn, cNi, cIs, cIn', Option.some_or, Option.or_none, Option.none_or])
local macro_rules | `(tactic| walk_at "evh") => `(tactic| simp only [*, fnDef, fnOf, denSL, denS, den, denL, denB, denI, sSeq, sAsg, sRet, sRetN, sEx, sIf, sFor, sPar, sSet, sPass, sBrk, sCnt, bndS, bnd, Wn.ret, stuck, opt, eVar, eCst, eOp, eCall, eChain, bTru, bNot, bAnd, bOr, eOr, eAnd, eNot, eIf, lNil, lCons, eTup, eLst, eCell, eMt, eMl, eSl, oNo, oAt, eNeg, eLc, lcRun, fnDo, startE, fin, Tg.put, TgL.puts, isS_ite, if_le_sz, lstX_lst, lstOf_lst, add_int, sub_int, eq_int, ne_int, le_int, lt_int, gt_int, ge_int, is_non, isnot_non, isNon, asTru, truD, iArg, wipeE,
  List.map_cons, List.map_nil, List.length_cons, List.length_nil, List.getElem?_cons_zero, List.getElem?_cons_succ, List.set_cons_zero, List.set_cons_succ, List.getD_cons_zero, List.getD_cons_succ, List.cons_append, List.nil_append, List.replicate_succ, List.replicate_zero, Nat.zero_add, Nat.sub_self, Nat.add_one_sub_one, Nat.reduceAdd, Nat.reduceSub, Nat.reduceLeDiff, Nat.reduceEqDiff, if_true, if_false, Bool.false_eq_true, Bool.not_true, Bool.not_false, decide_true, decide_false, g1, g2, List.zip_cons_cons, List.zip_nil_right, List.foldl_cons, List.foldl_nil,
  mIndex, mJoin, mSplit, tStr, tIntS, mAppend, mExtend, mGet, eMd, eDcp, gDcp, sSetA, setA, eRv, eSst, eStp, eDsp, eLzp, fnDoP, bMinL, bLen, bAbs, bMax, bMin, bSum, bAll, bAny, bOrd, bRepr, bIsi, tInt, tTup, tLst, nInt, nStr, nBool, nTup, nLst, oAdd, oSub, oMul, oMod, oDiv, oPow, cEq, cNe, cLt, cLe, cGt, cGe, cIn, cNi, cIs, cIn', Option.some_or, Option.or_none, Option.none_or])
theorem ev_sheet_of_leaf {t : List Nat} {ws : List (List Nat)} {M : Mem} (hl : t.length ≤ 600) (es : Txt.split (st t) (st [10]) = ([108] :: ws).map st) (ho : (ws.length + 1) % 2 = 1) (hk : ∀ w ∈ [108] :: ws, (∀ c ∈ w, okW c = true) ∧ w.length ≤ 600) (hL : ws.length ≤ 800) :
    F_sheet_of [.str (st t)] M = .ok (if shB 1 (zipW txD (ksOf ([108] :: ws)) (vsOf ([108] :: ws))) gV = true then shD "leaf" (zipW txD (ksOf ([108] :: ws)) (vsOf ([108] :: ws))) else .non) M := by
  have hlen : ([108] :: ws).length = ws.length + 1 := rfl
  have sp : ∀ M, gSplit M (.str (st t)) [.str (Str.ofString "\n")] = some (.lst (([108] :: ws).map txD)) := fun M => split_feed hl es
  have i0 : ∀ M, gIx M (.lst (([108] :: ws).map txD)) (.int 0) = some (txD [108]) := fun _ => gIx0
  have ni : ∀ M, gNotIn M (txD [108]) (.tup [.str "l", .str "f"]) = some (.bl false) := fun M => first_ni (by simp)
  have ln : ∀ M, fLen M (.lst (([108] :: ws).map txD)) = some (.int ((ws.length + 1 : Nat))) := fun M => by
    show some (D.int ((([108] :: ws).map txD).length : Nat)) = _
    rw [List.length_map]; rfl
  have md : ∀ M, gMod M (.int ((ws.length + 1 : Nat))) (.int 2) = some (.int 1) := fun M => by
    show (if (0 : Int) < 2 then some (D.int (((ws.length + 1) % 2 : Nat) : Int)) else none) = _
    rw [if_pos (by decide), ho]; rfl
  have c0 : ((1 : Int) = 0) = False := eq_false (by decide)
  have p1 : ∀ M, gStp M (.lst (([108] :: ws).map txD)) (some 1) (some 2) = some (.lst ((ksOf ([108] :: ws)).map txD)) := fun M => stp_words (by rw [hlen]; exact ho) 1 (.inl rfl)
  have p2 : ∀ M, gStp M (.lst (([108] :: ws).map txD)) (some 2) (some 2) = some (.lst ((vsOf ([108] :: ws)).map txD)) := fun M => stp_words (by rw [hlen]; exact ho) 2 (.inr rfl)
  have q1 : ∀ M, gEq M (txD [108]) (.str (Str.ofString "f")) = some (.bl false) := fun M => by
    rw [st_f]; exact eq_words (by simp) (by simp)
  have q2 : ∀ M, gEq M (txD [108]) (.str (Str.ofString "l")) = some (.bl true) := fun M => by
    rw [st_l]; exact eq_words (by simp) (by simp)
  have lz : ∀ M, gLzp [.lst ((ksOf ([108] :: ws)).map txD), .lst ((vsOf ([108] :: ws)).map txD)] M = .ok (.lst ((zipW txD (ksOf ([108] :: ws)) (vsOf ([108] :: ws))).map ent)) M := fun M => by
    rw [← pairs_zip]; rfl
  have tp : ∀ M ds, fTuple M (.lst ds) = some (.tup ds) := fun _ _ => rfl
  have kl : (ksOf ([108] :: ws)).length ≤ 801 := Nat.le_trans (pick_le (by rw [hlen]; exact ho) 1 (.inl rfl)) (by rw [hlen]; omega)
  have is : ∀ M, F_is_sheet [.tup [.str "leaf", .tup ((zipW txD (ksOf ([108] :: ws)) (vsOf ([108] :: ws))).map ent)]] M = .ok (.bl (shB 1 (zipW txD (ksOf ([108] :: ws)) (vsOf ([108] :: ws))) gV)) M := fun M =>
    ev_is_sheet (leaf := true) (lo := 1) rfl rfl (fun e he => hk _ (pick_mem (zipW_mem he).1)) (Nat.le_trans zipW_len (by omega)) fun e he M => by
      obtain ⟨v, hv, q⟩ := (zipW_mem he).2
      have hv := hk _ (pick_mem hv)
      have : gV e = sgns 32 v := by
        unfold gV
        rw [q]
        show sgns 32 (st v).cps.toList = _
        rw [st_tl]
      rw [this, if_pos rfl, q]
      exact ev_is_value hv.1 (by omega)
  unfold shD
  generalize shB 1 (zipW txD (ksOf ([108] :: ws)) (vsOf ([108] :: ws))) gV = bb at *
  generalize (zipW txD (ksOf ([108] :: ws)) (vsOf ([108] :: ws))).map ent = ZZ at *
  generalize (ksOf ([108] :: ws)).map txD = KK at *
  generalize (vsOf ([108] :: ws)).map txD = VV at *
  generalize ([108] :: ws).map txD = LL at *
  generalize ws.length + 1 = n at *
  generalize hq : txD [108] = q0 at *
  clear hl es ho hk hL hlen kl hq
  cases bb <;> (unfold F_sheet_of B_sheet_of; walk_at "evh"; try rfl)
end Lw
end

section
set_option Elab.async false
set_option linter.all false
set_option maxRecDepth 100000
set_option maxHeartbeats 4000000
namespace Lw
open PySem Wn
local macro_rules | `(tactic| walk_at "ev") => `(tactic| simp only [fnDef, fnOf, denSL, denS, den, denL, denB, denI, sSeq, sAsg, sRet, sRetN, sEx, sIf, sFor, sPar, sSet, sPass, sBrk, sCnt, bndS, bnd, Wn.ret, stuck, opt, eVar, eCst, eOp, eCall, eChain, bTru, bNot, bAnd, bOr, eOr, eAnd, eNot, eIf, lNil, lCons, eTup, eLst, eCell, eMt, eMl, eSl, oNo, oAt, eNeg, eLc, lcRun, fnDo, startE, fin, Tg.put, TgL.puts, isS_ite, if_le_sz, lstX_lst, lstOf_lst, add_int, sub_int, eq_int, ne_int, le_int, lt_int, gt_int, ge_int, is_non, isnot_non, isNon, asTru, truD, iArg, wipeE,
  List.map_cons, List.map_nil, List.length_cons, List.length_nil, List.getElem?_cons_zero, List.getElem?_cons_succ, List.set_cons_zero, List.set_cons_succ, List.getD_cons_zero, List.getD_cons_succ, List.cons_append, List.nil_append, List.replicate_succ, List.replicate_zero, Nat.zero_add, Nat.sub_self, Nat.add_one_sub_one, Nat.reduceAdd, Nat.reduceSub, Nat.reduceLeDiff, Nat.reduceEqDiff, if_true, if_false, Bool.false_eq_true, Bool.not_true, Bool.not_false, decide_true, decide_false, g1, g2, List.zip_cons_cons, List.zip_nil_right, List.foldl_cons, List.foldl_nil,
  mIndex, mJoin, mSplit, tStr, tIntS, mAppend, mExtend, mGet, eMd, eDcp, gDcp, sSetA, setA, eRv, eSst, eStp, eDsp, eLzp, fnDoP, bMinL, bLen, bAbs, bMax, bMin, bSum, bAll, bAny, bOrd, bRepr, bIsi, tInt, tTup, tLst, nInt, nStr, nBool, nTup, nLst, oAdd, oSub, oMul, oMod, oDiv, oPow, cEq, cNe, cLt, cLe, cGt, cGe, cIn, cNi, cIs, cIn', Option.some_or, Option.or_none, Option.none_or])
local macro_rules | `(tactic| walk_at "evh") => `(tactic| simp only [*, fnDef, fnOf, denSL, denS, den, denL, denB, denI, sSeq, sAsg, sRet, sRetN, sEx, sIf, sFor, sPar, sSet, sPass, sBrk, sCnt, bndS, bnd, Wn.ret, stuck, opt, eVar, eCst, eOp, eCall, eChain, bTru, bNot, bAnd, bOr, eOr, eAnd, eNot, eIf, lNil, lCons, eTup, eLst, eCell, eMt, eMl, eSl, oNo, oAt, eNeg, eLc, lcRun, fnDo, startE, fin, Tg.put, TgL.puts, isS_ite, if_le_sz, lstX_lst, lstOf_lst, add_int, sub_int, eq_int, ne_int, le_int, lt_int, gt_int, ge_int, is_non, isnot_non, isNon, asTru, truD, iArg, wipeE,
  List.map_cons, List.map_nil, List.length_cons, List.length_nil, List.getElem?_cons_zero, List.getElem?_cons_succ, List.set_cons_zero, List.set_cons_succ, List.getD_cons_zero, List.getD_cons_succ, List.cons_append, List.nil_append, List.replicate_succ, List.replicate_zero, Nat.zero_add, Nat.sub_self, Nat.add_one_sub_one, Nat.reduceAdd, Nat.reduceSub, Nat.reduceLeDiff, Nat.reduceEqDiff, if_true, if_false, Bool.false_eq_true, Bool.not_true, Bool.not_false, decide_true, decide_false, g1, g2, List.zip_cons_cons, List.zip_nil_right, List.foldl_cons, List.foldl_nil,
  mIndex, mJoin, mSplit, tStr, tIntS, mAppend, mExtend, mGet, eMd, eDcp, gDcp, sSetA, setA, eRv, eSst, eStp, eDsp, eLzp, fnDoP, bMinL, bLen, bAbs, bMax, bMin, bSum, bAll, bAny, bOrd, bRepr, bIsi, tInt, tTup, tLst, nInt, nStr, nBool, nTup, nLst, oAdd, oSub, oMul, oMod, oDiv, oPow, cEq, cNe, cLt, cLe, cGt, cGe, cIn, cNi, cIs, cIn', Option.some_or, Option.or_none, Option.none_or])
theorem ev_sheet_of_fork {t : List Nat} {ws : List (List Nat)} {M : Mem} (hl : t.length ≤ 600) (es : Txt.split (st t) (st [10]) = ([102] :: ws).map st) (ho : (ws.length + 1) % 2 = 1) (hk : ∀ w ∈ [102] :: ws, (∀ c ∈ w, okW c = true) ∧ w.length ≤ 600) (hL : ws.length ≤ 800) :
    F_sheet_of [.str (st t)] M = .ok (if ((vsOf ([102] :: ws)).any fun v => (progNum v).isNone) = true then .non else if shB 2 (zipW (fun v => optI (progNum v)) (ksOf ([102] :: ws)) (vsOf ([102] :: ws))) gC = true then shD "fork" (zipW (fun v => optI (progNum v)) (ksOf ([102] :: ws)) (vsOf ([102] :: ws))) else .non) M := by
  have hlen : ([102] :: ws).length = ws.length + 1 := rfl
  have sp : ∀ M, gSplit M (.str (st t)) [.str (Str.ofString "\n")] = some (.lst (([102] :: ws).map txD)) := fun M => split_feed hl es
  have i0 : ∀ M, gIx M (.lst (([102] :: ws).map txD)) (.int 0) = some (txD [102]) := fun _ => gIx0
  have ni : ∀ M, gNotIn M (txD [102]) (.tup [.str "l", .str "f"]) = some (.bl false) := fun M => first_ni (by simp)
  have ln : ∀ M, fLen M (.lst (([102] :: ws).map txD)) = some (.int ((ws.length + 1 : Nat))) := fun M => by
    show some (D.int ((([102] :: ws).map txD).length : Nat)) = _
    rw [List.length_map]; rfl
  have md : ∀ M, gMod M (.int ((ws.length + 1 : Nat))) (.int 2) = some (.int 1) := fun M => by
    show (if (0 : Int) < 2 then some (D.int (((ws.length + 1) % 2 : Nat) : Int)) else none) = _
    rw [if_pos (by decide), ho]; rfl
  have c0 : ((1 : Int) = 0) = False := eq_false (by decide)
  have p1 : ∀ M, gStp M (.lst (([102] :: ws).map txD)) (some 1) (some 2) = some (.lst ((ksOf ([102] :: ws)).map txD)) := fun M => stp_words (by rw [hlen]; exact ho) 1 (.inl rfl)
  have p2 : ∀ M, gStp M (.lst (([102] :: ws).map txD)) (some 2) (some 2) = some (.lst ((vsOf ([102] :: ws)).map txD)) := fun M => stp_words (by rw [hlen]; exact ho) 2 (.inr rfl)
  have q1 : ∀ M, gEq M (txD [102]) (.str (Str.ofString "f")) = some (.bl true) := fun M => by
    rw [st_f]; exact eq_words (by simp) (by simp)
  have q2 : ∀ M, gEq M (txD [102]) (.str (Str.ofString "l")) = some (.bl false) := fun M => by
    rw [st_l]; exact eq_words (by simp) (by simp)
  have lz : ∀ M, gLzp [.lst ((ksOf ([102] :: ws)).map txD), .lst ((vsOf ([102] :: ws)).map fun v => optI (progNum v))] M = .ok (.lst ((zipW (fun v => optI (progNum v)) (ksOf ([102] :: ws)) (vsOf ([102] :: ws))).map ent)) M := fun M => by
    rw [← pairs_zip]; rfl
  have tp : ∀ M ds, fTuple M (.lst ds) = some (.tup ds) := fun _ _ => rfl
  have kl : (ksOf ([102] :: ws)).length ≤ 801 := Nat.le_trans (pick_le (by rw [hlen]; exact ho) 1 (.inl rfl)) (by rw [hlen]; omega)
  have n1 : ∀ M (a0 a1 a2 a3 : Option D), lcGo (.nm 4) bYes (den [F_whole_in, F_is_sheet] X1_sheet_of) [a0, a1, a2, a3, none] ((vsOf ([102] :: ws)).map txD) M = .ok ((vsOf ([102] :: ws)).map fun v => optI (progNum v)) M := fun M a0 a1 a2 a3 => lc_vals fun v hv => by
    have hv := hk _ (pick_mem hv)
    have e1 : ∀ M, F_whole_in [.str (st v)] M = .ok (optI (progNum v)) M := fun M => ev_whole_in hv.1 hv.2
    clear hl es ho hk hL hlen sp i0 ni ln md c0 p1 p2 q1 q2 lz tp kl hv
    generalize optI (progNum v) = o at *
    unfold X1_sheet_of txD
    walk_at "evh"
  have n2 : ∀ M, gIn M .non (.lst ((vsOf ([102] :: ws)).map fun v => optI (progNum v))) = some (.bl ((vsOf ([102] :: ws)).any fun v => (progNum v).isNone)) := fun M => non_in_nums _
  have vl : (vsOf ([102] :: ws)).length ≤ 801 := Nat.le_trans (pick_le (by rw [hlen]; exact ho) 2 (.inr rfl)) (by rw [hlen]; omega)
  have z1 : ((vsOf ([102] :: ws)).map fun v => optI (progNum v)).length ≤ 1000 := by rw [List.length_map]; omega
  have z2 : ((vsOf ([102] :: ws)).map txD).length ≤ 1000 := by rw [List.length_map]; omega
  have it : ∀ (ds : List D) M, itL (.lst ds) M = .ok ds M := fun _ _ => rfl
  have is : ((vsOf ([102] :: ws)).any fun v => (progNum v).isNone) = false → ∀ M, F_is_sheet [.tup [.str "fork", .tup ((zipW (fun v => optI (progNum v)) (ksOf ([102] :: ws)) (vsOf ([102] :: ws))).map ent)]] M = .ok (.bl (shB 2 (zipW (fun v => optI (progNum v)) (ksOf ([102] :: ws)) (vsOf ([102] :: ws))) gC)) M := fun hn M =>
    ev_is_sheet (leaf := false) (lo := 2) rfl rfl (fun e he => hk _ (pick_mem (zipW_mem he).1)) (Nat.le_trans zipW_len (by omega)) fun e he M => by
      obtain ⟨v, hv, q⟩ := (zipW_mem he).2
      cases hp : progNum v with
      | none =>
        have := List.any_eq_false.mp hn v hv
        rw [hp] at this
        exact absurd rfl this
      | some i =>
        rw [hp] at q
        have : gC e = (decide (0 ≤ i) && decide (i ≤ 999999999999)) := by
          unfold gC
          rw [q]; rfl
        rw [this, if_neg (by decide), q]
        exact ev_is_child_int
  unfold shD
  generalize ((vsOf ([102] :: ws)).any fun v => (progNum v).isNone) = nn at *
  generalize shB 2 (zipW (fun v => optI (progNum v)) (ksOf ([102] :: ws)) (vsOf ([102] :: ws))) gC = bb at *
  generalize (zipW (fun v => optI (progNum v)) (ksOf ([102] :: ws)) (vsOf ([102] :: ws))).map ent = ZZ at *
  generalize (ksOf ([102] :: ws)).map txD = KK at *
  generalize ((vsOf ([102] :: ws)).map fun v => optI (progNum v)) = NV at *
  generalize (vsOf ([102] :: ws)).map txD = VV at *
  generalize ([102] :: ws).map txD = LL at *
  generalize ws.length + 1 = n at *
  generalize hq : txD [102] = q0 at *
  clear hl es ho hk hL hlen kl hq vl
  cases nn with
  | true =>
    clear is
    unfold F_sheet_of B_sheet_of
    walk_at "evh"
  | false =>
    have is := is rfl
    cases bb <;> (unfold F_sheet_of B_sheet_of; walk_at "evh"; try rfl)
end Lw
end

section
set_option Elab.async false
set_option linter.all false
set_option maxRecDepth 100000
set_option maxHeartbeats 4000000
namespace Lw
open PySem Wn
local macro_rules | `(tactic| walk_at "ev") => `(tactic| simp only [fnDef, fnOf, denSL, denS, den, denL, denB, denI, sSeq, sAsg, sRet, sRetN, sEx, sIf, sFor, sPar, sSet, sPass, sBrk, sCnt, bndS, bnd, Wn.ret, stuck, opt, eVar, eCst, eOp, eCall, eChain, bTru, bNot, bAnd, bOr, eOr, eAnd, eNot, eIf, lNil, lCons, eTup, eLst, eCell, eMt, eMl, eSl, oNo, oAt, eNeg, eLc, lcRun, fnDo, startE, fin, Tg.put, TgL.puts, isS_ite, if_le_sz, lstX_lst, lstOf_lst, add_int, sub_int, eq_int, ne_int, le_int, lt_int, gt_int, ge_int, is_non, isnot_non, isNon, asTru, truD, iArg, wipeE,
  List.map_cons, List.map_nil, List.length_cons, List.length_nil, List.getElem?_cons_zero, List.getElem?_cons_succ, List.set_cons_zero, List.set_cons_succ, List.getD_cons_zero, List.getD_cons_succ, List.cons_append, List.nil_append, List.replicate_succ, List.replicate_zero, Nat.zero_add, Nat.sub_self, Nat.add_one_sub_one, Nat.reduceAdd, Nat.reduceSub, Nat.reduceLeDiff, Nat.reduceEqDiff, if_true, if_false, Bool.false_eq_true, Bool.not_true, Bool.not_false, decide_true, decide_false, g1, g2, List.zip_cons_cons, List.zip_nil_right, List.foldl_cons, List.foldl_nil,
  mIndex, mJoin, mSplit, tStr, tIntS, mAppend, mExtend, mGet, eMd, eDcp, gDcp, sSetA, setA, eRv, eSst, eStp, eDsp, eLzp, fnDoP, bMinL, bLen, bAbs, bMax, bMin, bSum, bAll, bAny, bOrd, bRepr, bIsi, tInt, tTup, tLst, nInt, nStr, nBool, nTup, nLst, oAdd, oSub, oMul, oMod, oDiv, oPow, cEq, cNe, cLt, cLe, cGt, cGe, cIn, cNi, cIs, cIn', Option.some_or, Option.or_none, Option.none_or])
local macro_rules | `(tactic| walk_at "evh") => `(tactic| simp only [*, fnDef, fnOf, denSL, denS, den, denL, denB, denI, sSeq, sAsg, sRet, sRetN, sEx, sIf, sFor, sPar, sSet, sPass, sBrk, sCnt, bndS, bnd, Wn.ret, stuck, opt, eVar, eCst, eOp, eCall, eChain, bTru, bNot, bAnd, bOr, eOr, eAnd, eNot, eIf, lNil, lCons, eTup, eLst, eCell, eMt, eMl, eSl, oNo, oAt, eNeg, eLc, lcRun, fnDo, startE, fin, Tg.put, TgL.puts, isS_ite, if_le_sz, lstX_lst, lstOf_lst, add_int, sub_int, eq_int, ne_int, le_int, lt_int, gt_int, ge_int, is_non, isnot_non, isNon, asTru, truD, iArg, wipeE,
  List.map_cons, List.map_nil, List.length_cons, List.length_nil, List.getElem?_cons_zero, List.getElem?_cons_succ, List.set_cons_zero, List.set_cons_succ, List.getD_cons_zero, List.getD_cons_succ, List.cons_append, List.nil_append, List.replicate_succ, List.replicate_zero, Nat.zero_add, Nat.sub_self, Nat.add_one_sub_one, Nat.reduceAdd, Nat.reduceSub, Nat.reduceLeDiff, Nat.reduceEqDiff, if_true, if_false, Bool.false_eq_true, Bool.not_true, Bool.not_false, decide_true, decide_false, g1, g2, List.zip_cons_cons, List.zip_nil_right, List.foldl_cons, List.foldl_nil,
  mIndex, mJoin, mSplit, tStr, tIntS, mAppend, mExtend, mGet, eMd, eDcp, gDcp, sSetA, setA, eRv, eSst, eStp, eDsp, eLzp, fnDoP, bMinL, bLen, bAbs, bMax, bMin, bSum, bAll, bAny, bOrd, bRepr, bIsi, tInt, tTup, tLst, nInt, nStr, nBool, nTup, nLst, oAdd, oSub, oMul, oMod, oDiv, oPow, cEq, cNe, cLt, cLe, cGt, cGe, cIn, cNi, cIs, cIn', Option.some_or, Option.or_none, Option.none_or])
/-! ### facts for the law's reading of a sheet -/
def kinds : List (L2.Key × D) := [(.inr "l", .str "leaf"), (.inr "f", .str "fork")]
theorem kinds_is : mergeD [] (aPair [("l", .str "leaf"), ("f", .str "fork")]) = kinds := by
  have n : ¬ ((Sum.inr (Str.ofString "l") : L2.Key) = Sum.inr (Str.ofString "f")) := by rw [Sum.inr.injEq]; decide
  show putD (putD [] (.inr "l") (.str "leaf")) (.inr "f") (.str "fork") = kinds
  have e : putD [] (.inr "l") (.str "leaf") = [((.inr "l" : L2.Key), D.str "leaf")] := rfl
  rw [e]
  unfold putD
  rw [List.any_cons, decide_eq_false n]; rfl
def kindOf (w : List Nat) : D := if w = [108] then .str "leaf" else if w = [102] then .str "fork" else .non
theorem kinds_get {M : Mem} {w : List Nat} : fGetD (.ref M.length) [txD w] (M ++ [.dct kinds]) = .ok (kindOf w) (M ++ [.dct kinds]) := by
  have e0 : dctOf (M ++ [.dct kinds]) (.ref M.length) = some kinds := by
    show (match (M ++ [Cell.dct kinds])[M.length]? with | some (.dct kvs) => some kvs | _ => none) = some kinds
    rw [List.getElem?_append_right (Nat.le_refl _), Nat.sub_self]; rfl
  unfold fGetD
  rw [e0]
  show Res.ok ((valD kinds (.inr (st w))).getD .non) (M ++ [.dct kinds]) = _
  congr 1
  unfold valD kinds kindOf
  have a1 : (decide ((Sum.inr (Str.ofString "l") : L2.Key) = Sum.inr (st w))) = decide (w = [108]) := by
    congr 1
    rw [st_l, Sum.inr.injEq, st_inj]
    exact propext ⟨Eq.symm, Eq.symm⟩
  have a2 : (decide ((Sum.inr (Str.ofString "f") : L2.Key) = Sum.inr (st w))) = decide (w = [102]) := by
    congr 1
    rw [st_f, Sum.inr.injEq, st_inj]
    exact propext ⟨Eq.symm, Eq.symm⟩
  by_cases h1 : w = [108]
  · rw [List.find?_cons, a1, decide_eq_true h1, if_pos h1]; rfl
  · rw [List.find?_cons, a1, decide_eq_false h1, if_neg h1]
    by_cases h2 : w = [102]
    · show Option.getD (Option.map (·.2) (List.find? _ [(_, _)])) _ = _
      rw [List.find?_cons, a2, decide_eq_true h2, if_pos h2]; rfl
    · show Option.getD (Option.map (·.2) (List.find? _ [(_, _)])) _ = _
      rw [List.find?_cons, a2, decide_eq_false h2, if_neg h2]; rfl
theorem eqv_strs : ∀ a b : List Str, PyData.eqvAll (a.map PyData.str) (b.map PyData.str) = decide (a = b)
  | [], [] => by rw [decide_eq_true rfl]; rfl
  | [], _ :: _ => by rw [decide_eq_false (by simp)]; rfl
  | _ :: _, [] => by rw [decide_eq_false (by simp)]; rfl
  | x :: a, y :: b => by
    show (PyData.eqv (.str x) (.str y) && PyData.eqvAll (a.map PyData.str) (b.map PyData.str)) = _
    rw [eqv_strs a b]
    show ((x == y) && decide (a = b)) = _
    rw [Bool.eq_iff_iff]
    simp
theorem strs_ok : ∀ a : List Str, (∀ s ∈ a, PyData.strOk s = true) → SeqAt.shaped (.list (a.map PyData.str)) = true := fun a h => by
  have l : PyData.canLayAll0 (a.map PyData.str) = true := lay_map fun s hs => by
    show PyData.canLay0 (.str s) = true
    rw [PyData.canLay0]; exact h s hs
  have d : ∀ a : List Str, PyData.depthAll (a.map PyData.str) = 0 := fun a => by
    induction a with
    | nil => rfl
    | cons s a ih => rw [List.map_cons, PyData.depthAll, ih, PyData.depth]; rfl
  unfold SeqAt.shaped
  rw [PyData.canLay0, PyData.depth, l, d a]; rfl
theorem ne_lists {M : Mem} {a b : List Str} (ha : ∀ s ∈ a, PyData.strOk s = true) (hb : ∀ s ∈ b, PyData.strOk s = true) : gNe M (.lst (a.map D.str)) (.lst (b.map D.str)) = some (.bl (!decide (a = b))) := by
  have e : ∀ c : List Str, toPyM M (.lst (c.map D.str)) = some (.list (c.map PyData.str)) := fun c => by
    show (toPys (c.map D.str)).map PyData.list = _
    rw [toPys_map (p := PyData.str) fun _ _ => rfl]; rfl
  unfold gNe
  rw [e, e]
  show (if SeqAt.shaped (.list (a.map PyData.str)) = true ∧ SeqAt.shaped (.list (b.map PyData.str)) = true then some (D.bl (!PyData.eqvAll (a.map PyData.str) (b.map PyData.str))) else none) = _
  rw [if_pos ⟨strs_ok a ha, strs_ok b hb⟩, eqv_strs]
theorem sst_words {M : Mem} {ks : List (List Nat)} (h : ks.length < 64) : gSst M (.lst (ks.map txD)) = some (.lst ((srtU (ks.map st)).map D.str)) := by
  have e : strsOf (ks.map txD) = some (ks.map st) := by
    unfold strsOf
    induction ks with
    | nil => rfl
    | cons k ks ih =>
      rw [List.map_cons, List.mapM_cons, ih (by rw [List.length_cons] at h; omega)]; rfl
  show (match (some (ks.map txD)).bind strsOf with | some ys => if ys.length < 64 then some (D.lst ((srtU ys).map D.str)) else none | none => none) = _
  rw [Option.bind_some, e]
  show (if (ks.map st).length < 64 then some (D.lst ((srtU (ks.map st)).map D.str)) else none) = _
  rw [if_pos (by rw [List.length_map]; exact h)]
theorem ne_sorted {M : Mem} {ks : List (List Nat)} (h : ∀ k ∈ ks, ∀ c ∈ k, c < 127) : gNe M (.lst (ks.map txD)) (.lst ((srtU (ks.map st)).map D.str)) = some (.bl (!ascB ks)) := by
  have e : ks.map txD = (ks.map st).map D.str := by rw [List.map_map]; rfl
  have ok : ∀ s ∈ ks.map st, PyData.strOk s = true := fun s hs => by
    obtain ⟨k, hk, rfl⟩ := List.mem_map.mp hs
    exact st_ok fun x hx => by have := h k hk x hx; omega
  rw [e, ne_lists ok fun s hs => ok s (srtU_mem.mp hs), asc_srt]
theorem non_in_words {M : Mem} {vs : List (List Nat)} (h : ∀ v ∈ vs, ∀ c ∈ v, c < 127) : gIn M .non (.lst (vs.map txD)) = some (.bl false) := by
  have := non_in (M := M) (f := txD) (p := fun v => .str (st v)) (b := fun _ => false) (l := vs) fun v hv => ⟨rfl, by rw [PyData.canLay0]; exact st_ok fun x hx => by have := h v hv x hx; omega, rfl⟩
  rw [this]
  congr 2
  induction vs with
  | nil => rfl
  | cons v vs ih =>
    rw [List.any_cons]
    simp
def optQ : Option Nat → PyData
  | some i => .int (i : Nat)
  | none => .none
theorem non_in_law {M : Mem} (vs : List (List Nat)) : gIn M .non (.lst (vs.map fun v => optN (lawNum v))) = some (.bl (vs.any fun v => (lawNum v).isNone)) :=
  non_in (p := fun v => optQ (lawNum v)) fun v _ => by
    cases lawNum v with
    | none => exact ⟨rfl, rfl, rfl⟩
    | some i => exact ⟨rfl, rfl, rfl⟩
end Lw
end

section
set_option Elab.async false
set_option linter.all false
set_option maxRecDepth 100000
set_option maxHeartbeats 4000000
namespace Lw
open PySem Wn
local macro_rules | `(tactic| walk_at "ev") => `(tactic| simp only [fnDef, fnOf, denSL, denS, den, denL, denB, denI, sSeq, sAsg, sRet, sRetN, sEx, sIf, sFor, sPar, sSet, sPass, sBrk, sCnt, bndS, bnd, Wn.ret, stuck, opt, eVar, eCst, eOp, eCall, eChain, bTru, bNot, bAnd, bOr, eOr, eAnd, eNot, eIf, lNil, lCons, eTup, eLst, eCell, eMt, eMl, eSl, oNo, oAt, eNeg, eLc, lcRun, fnDo, startE, fin, Tg.put, TgL.puts, isS_ite, if_le_sz, lstX_lst, lstOf_lst, add_int, sub_int, eq_int, ne_int, le_int, lt_int, gt_int, ge_int, is_non, isnot_non, isNon, asTru, truD, iArg, wipeE,
  List.map_cons, List.map_nil, List.length_cons, List.length_nil, List.getElem?_cons_zero, List.getElem?_cons_succ, List.set_cons_zero, List.set_cons_succ, List.getD_cons_zero, List.getD_cons_succ, List.cons_append, List.nil_append, List.replicate_succ, List.replicate_zero, Nat.zero_add, Nat.sub_self, Nat.add_one_sub_one, Nat.reduceAdd, Nat.reduceSub, Nat.reduceLeDiff, Nat.reduceEqDiff, if_true, if_false, Bool.false_eq_true, Bool.not_true, Bool.not_false, decide_true, decide_false, g1, g2, List.zip_cons_cons, List.zip_nil_right, List.foldl_cons, List.foldl_nil,
  mIndex, mJoin, mSplit, tStr, tIntS, mAppend, mExtend, mGet, eMd, eDcp, gDcp, sSetA, setA, eRv, eSst, eStp, eDsp, eLzp, fnDoP, bMinL, bLen, bAbs, bMax, bMin, bSum, bAll, bAny, bOrd, bRepr, bIsi, tInt, tTup, tLst, nInt, nStr, nBool, nTup, nLst, oAdd, oSub, oMul, oMod, oDiv, oPow, cEq, cNe, cLt, cLe, cGt, cGe, cIn, cNi, cIs, cIn', Option.some_or, Option.or_none, Option.none_or])
local macro_rules | `(tactic| walk_at "evh") => `(tactic| simp only [*, fnDef, fnOf, denSL, denS, den, denL, denB, denI, sSeq, sAsg, sRet, sRetN, sEx, sIf, sFor, sPar, sSet, sPass, sBrk, sCnt, bndS, bnd, Wn.ret, stuck, opt, eVar, eCst, eOp, eCall, eChain, bTru, bNot, bAnd, bOr, eOr, eAnd, eNot, eIf, lNil, lCons, eTup, eLst, eCell, eMt, eMl, eSl, oNo, oAt, eNeg, eLc, lcRun, fnDo, startE, fin, Tg.put, TgL.puts, isS_ite, if_le_sz, lstX_lst, lstOf_lst, add_int, sub_int, eq_int, ne_int, le_int, lt_int, gt_int, ge_int, is_non, isnot_non, isNon, asTru, truD, iArg, wipeE,
  List.map_cons, List.map_nil, List.length_cons, List.length_nil, List.getElem?_cons_zero, List.getElem?_cons_succ, List.set_cons_zero, List.set_cons_succ, List.getD_cons_zero, List.getD_cons_succ, List.cons_append, List.nil_append, List.replicate_succ, List.replicate_zero, Nat.zero_add, Nat.sub_self, Nat.add_one_sub_one, Nat.reduceAdd, Nat.reduceSub, Nat.reduceLeDiff, Nat.reduceEqDiff, if_true, if_false, Bool.false_eq_true, Bool.not_true, Bool.not_false, decide_true, decide_false, g1, g2, List.zip_cons_cons, List.zip_nil_right, List.foldl_cons, List.foldl_nil,
  mIndex, mJoin, mSplit, tStr, tIntS, mAppend, mExtend, mGet, eMd, eDcp, gDcp, sSetA, setA, eRv, eSst, eStp, eDsp, eLzp, fnDoP, bMinL, bLen, bAbs, bMax, bMin, bSum, bAll, bAny, bOrd, bRepr, bIsi, tInt, tTup, tLst, nInt, nStr, nBool, nTup, nLst, oAdd, oSub, oMul, oMod, oDiv, oPow, cEq, cNe, cLt, cLe, cGt, cGe, cIn, cNi, cIs, cIn', Option.some_or, Option.or_none, Option.none_or])
/-! ### the law's reading of a sheet -/
theorem zipW_eq {f : List Nat → D} : ∀ {ks vs : List (List Nat)}, ks.length = vs.length → (zipW f ks vs).length = ks.length
  | ks, vs, h => by unfold zipW; rw [List.length_map, List.length_zip, h, Nat.min_self]
theorem zipW_fst {f : List Nat → D} : ∀ {ks vs : List (List Nat)}, ks.length = vs.length → (zipW f ks vs).map (·.1) = ks
  | [], [], _ => rfl
  | k :: ks, v :: vs, h => by
    have ih := zipW_fst (f := f) (ks := ks) (vs := vs) (by simpa using h)
    show k :: (zipW f ks vs).map (·.1) = _
    rw [ih]
  | [], _ :: _, h => by simp at h
  | _ :: _, [], h => by simp at h
theorem zipW_all {f : List Nat → D} {g : List Nat × D → Bool} {q : List Nat → Bool} (hq : ∀ k v, g (k, f v) = q v) : ∀ {ks vs : List (List Nat)}, ks.length = vs.length → (zipW f ks vs).all g = vs.all q
  | [], [], _ => rfl
  | k :: ks, v :: vs, h => by
    have ih := zipW_all hq (ks := ks) (vs := vs) (by simpa using h)
    show (g (k, f v) && (zipW f ks vs).all g) = _
    rw [ih, hq]; rfl
  | [], _ :: _, h => by simp at h
  | _ :: _, [], h => by simp at h
theorem gV_tx (k v : List Nat) : gV (k, txD v) = sgns 32 v := by
  show sgns 32 (st v).cps.toList = _
  rw [st_tl]
theorem both_len {ws : List (List Nat)} (ho : ws.length % 2 = 1) : (ksOf ws).length = (vsOf ws).length := by
  have a := pick_len (xs := ws) (n := ws.length / 2) (by omega) 1 (.inl rfl)
  have b := pick_len (xs := ws) (n := ws.length / 2) (by omega) 2 (.inr rfl)
  unfold ksOf vsOf
  exact a.trans b.symm
theorem isDct_end {M : Mem} {kvs : List (L2.Key × D)} : isDct (M ++ [.dct kvs]) (.ref M.length) = true := by
  show (match (M ++ [Cell.dct kvs])[M.length]? with | some (.dct kvs) => some kvs | _ => none).isSome = true
  rw [List.getElem?_append_right (Nat.le_refl _), Nat.sub_self]; rfl
theorem clos_ents {n : Nat} : ∀ {es : List (List Nat × D)}, (∀ e ∈ es, clo n e.2 = true) → clos n (es.map ent) = true
  | [], _ => rfl
  | e :: es, h => by
    have ih := clos_ents (n := n) (es := es) fun x hx => h x (List.mem_cons_of_mem _ hx)
    show ((true && (clo n e.2 && true)) && clos n (es.map ent)) = true
    rw [ih, h e (List.mem_cons_self ..)]; rfl
theorem st_n : Str.ofString "\n" = st [10] := rfl
/-- what is alike in all readings -/
structure Rd (t : List Nat) (w : List Nat) (ws : List (List Nat)) : Prop where
  tl : t.length ≤ 600
  es : Txt.split (st t) (st [10]) = (w :: ws).map st
  ok : ∀ v ∈ w :: ws, (∀ c ∈ v, okW c = true) ∧ v.length ≤ 600
  wl : ws.length ≤ 800
theorem law_sheet_no {t w : List Nat} {ws : List (List Nat)} {M : Mem} (R : Rd t w ws) (hn : (w ≠ [108] ∧ w ≠ [102]) ∨ (ws.length + 1) % 2 = 0) : F_law_map_sheet [.str (st t)] M = .ok .non M := by
  have sp : ∀ M, gSplit M (.str (st t)) [.str (Str.ofString "\n")] = some (.lst ((w :: ws).map txD)) := fun M => split_feed R.tl R.es
  have i0 : ∀ M, gIx M (.lst ((w :: ws).map txD)) (.int 0) = some (txD w) := fun _ => gIx0
  have ln : ∀ M, fLen M (.lst ((w :: ws).map txD)) = some (.int ((ws.length + 1 : Nat))) := fun M => by
    show some (D.int (((w :: ws).map txD).length : Nat)) = _
    rw [List.length_map]; rfl
  have md : ∀ M, gMod M (.int ((ws.length + 1 : Nat))) (.int 2) = some (.int (((ws.length + 1) % 2 : Nat))) := fun M => by
    show (if (0 : Int) < 2 then some (D.int _) else none) = _
    rw [if_pos (by decide)]; rfl
  have kg : fGetD (.ref M.length) [txD w] (M ++ [.dct kinds]) = .ok (kindOf w) (M ++ [.dct kinds]) := kinds_get
  have k0 := kinds_is
  have k1 : isDct (M ++ [.dct kinds]) (.ref M.length) = true := isDct_end
  have ne : ∀ (d : D) M, noErr (.ok d M) = .ok d M := fun _ _ => rfl
  have tr : trim M (.ok .non (M ++ [.dct kinds])) = .ok .non M := trim_same rfl
  generalize (w :: ws).map txD = L at *
  generalize kinds = KS at *
  by_cases h1 : w = [108]
  · have hn : (ws.length + 1) % 2 = 0 := by
      rcases hn with ⟨a, _⟩ | a
      · exact absurd h1 a
      · exact a
    rw [hn] at md
    replace md : ∀ M, gMod M (.int ((ws.length + 1 : Nat))) (.int 2) = some (.int 0) := md
    have c0 : ((0 : Int) = 0) = True := eq_true rfl
    have kw : kindOf w = .str "leaf" := if_pos h1
    rw [kw] at kg
    generalize ws.length + 1 = n at *
    clear R hn h1 kw
    unfold F_law_map_sheet B_law_map_sheet
    walk_at "evh"
  · by_cases h2 : w = [102]
    · have hn : (ws.length + 1) % 2 = 0 := by
        rcases hn with ⟨_, a⟩ | a
        · exact absurd h2 a
        · exact a
      rw [hn] at md
      replace md : ∀ M, gMod M (.int ((ws.length + 1 : Nat))) (.int 2) = some (.int 0) := md
      have c0 : ((0 : Int) = 0) = True := eq_true rfl
      have kw : kindOf w = .str "fork" := by unfold kindOf; rw [if_neg h1, if_pos h2]
      rw [kw] at kg
      generalize ws.length + 1 = n at *
      clear R hn h1 h2 kw
      unfold F_law_map_sheet B_law_map_sheet
      walk_at "evh"
    · have kw : kindOf w = .non := by unfold kindOf; rw [if_neg h1, if_neg h2]
      rw [kw] at kg
      clear R hn h1 h2 kw md ln
      unfold F_law_map_sheet B_law_map_sheet
      walk_at "evh"
end Lw
end

section
set_option Elab.async false
set_option linter.all false
set_option maxRecDepth 100000
set_option maxHeartbeats 4000000
namespace Lw
open PySem Wn
local macro_rules | `(tactic| walk_at "ev") => `(tactic| simp only [fnDef, fnOf, denSL, denS, den, denL, denB, denI, sSeq, sAsg, sRet, sRetN, sEx, sIf, sFor, sPar, sSet, sPass, sBrk, sCnt, bndS, bnd, Wn.ret, stuck, opt, eVar, eCst, eOp, eCall, eChain, bTru, bNot, bAnd, bOr, eOr, eAnd, eNot, eIf, lNil, lCons, eTup, eLst, eCell, eMt, eMl, eSl, oNo, oAt, eNeg, eLc, lcRun, fnDo, startE, fin, Tg.put, TgL.puts, isS_ite, if_le_sz, lstX_lst, lstOf_lst, add_int, sub_int, eq_int, ne_int, le_int, lt_int, gt_int, ge_int, is_non, isnot_non, isNon, asTru, truD, iArg, wipeE,
  List.map_cons, List.map_nil, List.length_cons, List.length_nil, List.getElem?_cons_zero, List.getElem?_cons_succ, List.set_cons_zero, List.set_cons_succ, List.getD_cons_zero, List.getD_cons_succ, List.cons_append, List.nil_append, List.replicate_succ, List.replicate_zero, Nat.zero_add, Nat.sub_self, Nat.add_one_sub_one, Nat.reduceAdd, Nat.reduceSub, Nat.reduceLeDiff, Nat.reduceEqDiff, if_true, if_false, Bool.false_eq_true, Bool.not_true, Bool.not_false, decide_true, decide_false, g1, g2, List.zip_cons_cons, List.zip_nil_right, List.foldl_cons, List.foldl_nil,
  mIndex, mJoin, mSplit, tStr, tIntS, mAppend, mExtend, mGet, eMd, eDcp, gDcp, sSetA, setA, eRv, eSst, eStp, eDsp, eLzp, fnDoP, bMinL, bLen, bAbs, bMax, bMin, bSum, bAll, bAny, bOrd, bRepr, bIsi, tInt, tTup, tLst, nInt, nStr, nBool, nTup, nLst, oAdd, oSub, oMul, oMod, oDiv, oPow, cEq, cNe, cLt, cLe, cGt, cGe, cIn, cNi, cIs, cIn', Option.some_or, Option.or_none, Option.none_or])
local macro_rules | `(tactic| walk_at "evh") => `(tactic| simp only [*, fnDef, fnOf, denSL, denS, den, denL, denB, denI, sSeq, sAsg, sRet, sRetN, sEx, sIf, sFor, sPar, sSet, sPass, sBrk, sCnt, bndS, bnd, Wn.ret, stuck, opt, eVar, eCst, eOp, eCall, eChain, bTru, bNot, bAnd, bOr, eOr, eAnd, eNot, eIf, lNil, lCons, eTup, eLst, eCell, eMt, eMl, eSl, oNo, oAt, eNeg, eLc, lcRun, fnDo, startE, fin, Tg.put, TgL.puts, isS_ite, if_le_sz, lstX_lst, lstOf_lst, add_int, sub_int, eq_int, ne_int, le_int, lt_int, gt_int, ge_int, is_non, isnot_non, isNon, asTru, truD, iArg, wipeE,
  List.map_cons, List.map_nil, List.length_cons, List.length_nil, List.getElem?_cons_zero, List.getElem?_cons_succ, List.set_cons_zero, List.set_cons_succ, List.getD_cons_zero, List.getD_cons_succ, List.cons_append, List.nil_append, List.replicate_succ, List.replicate_zero, Nat.zero_add, Nat.sub_self, Nat.add_one_sub_one, Nat.reduceAdd, Nat.reduceSub, Nat.reduceLeDiff, Nat.reduceEqDiff, if_true, if_false, Bool.false_eq_true, Bool.not_true, Bool.not_false, decide_true, decide_false, g1, g2, List.zip_cons_cons, List.zip_nil_right, List.foldl_cons, List.foldl_nil,
  mIndex, mJoin, mSplit, tStr, tIntS, mAppend, mExtend, mGet, eMd, eDcp, gDcp, sSetA, setA, eRv, eSst, eStp, eDsp, eLzp, fnDoP, bMinL, bLen, bAbs, bMax, bMin, bSum, bAll, bAny, bOrd, bRepr, bIsi, tInt, tTup, tLst, nInt, nStr, nBool, nTup, nLst, oAdd, oSub, oMul, oMod, oDiv, oPow, cEq, cNe, cLt, cLe, cGt, cGe, cIn, cNi, cIs, cIn', Option.some_or, Option.or_none, Option.none_or])
theorem law_x1 {k : List Nat} {o : D} {M : Mem} {a0 a1 a2 a3 a4 a6 a7 : Option D} (e1 : ∀ M, F_law_map_number [txD k] M = .ok o M) : den [F_law_map_number, F_law_map_is_key, F_law_map_is_value] X1_law_map_sheet [a0, a1, a2, a3, a4, some (txD k), a6, a7] M = .ok o M := by
  unfold X1_law_map_sheet
  walk_at "evh"
theorem law_x2 {k : List Nat} {b : Bool} {M : Mem} {a0 a1 a2 a3 a4 a5 a7 : Option D} (e1 : ∀ M, F_law_map_is_key [txD k] M = .ok (.bl b) M) : den [F_law_map_number, F_law_map_is_key, F_law_map_is_value] X2_law_map_sheet [a0, a1, a2, a3, a4, a5, some (txD k), a7] M = .ok (.bl b) M := by
  unfold X2_law_map_sheet
  walk_at "evh"
theorem law_x3 {k : List Nat} {b : Bool} {M : Mem} {a0 a1 a2 a3 a4 a5 a6 : Option D} (e1 : ∀ M, F_law_map_is_value [txD k] M = .ok (.bl b) M) : den [F_law_map_number, F_law_map_is_key, F_law_map_is_value] X3_law_map_sheet [a0, a1, a2, a3, a4, a5, a6, some (txD k)] M = .ok (.bl b) M := by
  unfold X3_law_map_sheet
  walk_at "evh"
theorem law_sheet_leaf {t : List Nat} {ws : List (List Nat)} {M : Mem} (R : Rd t [108] ws) (ho : (ws.length + 1) % 2 = 1) :
    F_law_map_sheet [.str (st t)] M = .ok (if shB 1 (zipW txD (ksOf ([108] :: ws)) (vsOf ([108] :: ws))) gV = true then .tup [.str "leaf", .lst ((zipW txD (ksOf ([108] :: ws)) (vsOf ([108] :: ws))).map ent)] else .non) M := by
  have hlen : ([108] :: ws).length = ws.length + 1 := rfl
  have hb : (ksOf ([108] :: ws)).length = (vsOf ([108] :: ws)).length := both_len (by rw [hlen]; exact ho)
  have hkk : ∀ k ∈ ksOf ([108] :: ws), (∀ c ∈ k, okW c = true) ∧ k.length ≤ 600 := fun k hk => R.ok k (pick_mem hk)
  have hvv : ∀ k ∈ vsOf ([108] :: ws), (∀ c ∈ k, okW c = true) ∧ k.length ≤ 600 := fun k hk => R.ok k (pick_mem hk)
  have kl : (ksOf ([108] :: ws)).length ≤ 801 := Nat.le_trans (pick_le (by rw [hlen]; exact ho) 1 (.inl rfl)) (by rw [hlen]; have := R.wl; omega)
  have sh : shB 1 (zipW txD (ksOf ([108] :: ws)) (vsOf ([108] :: ws))) gV = (decide (1 ≤ (ksOf ([108] :: ws)).length) && decide ((ksOf ([108] :: ws)).length ≤ 4) && ((ksOf ([108] :: ws)).all (sgns 33) && ascB (ksOf ([108] :: ws))) && (vsOf ([108] :: ws)).all (sgns 32)) := by
    unfold shB
    rw [zipW_eq hb, zipW_fst hb, zipW_all gV_tx hb]
  have sp : ∀ M, gSplit M (.str (st t)) [.str (Str.ofString "\n")] = some (.lst (([108] :: ws).map txD)) := fun M => split_feed R.tl R.es
  have i0 : ∀ M, gIx M (.lst (([108] :: ws).map txD)) (.int 0) = some (txD [108]) := fun _ => gIx0
  have ln : ∀ M, fLen M (.lst (([108] :: ws).map txD)) = some (.int ((ws.length + 1 : Nat))) := fun M => by
    show some (D.int ((([108] :: ws).map txD).length : Nat)) = _
    rw [List.length_map]; rfl
  have md : ∀ M, gMod M (.int ((ws.length + 1 : Nat))) (.int 2) = some (.int 1) := fun M => by
    show (if (0 : Int) < 2 then some (D.int (((ws.length + 1) % 2 : Nat) : Int)) else none) = _
    rw [if_pos (by decide), ho]; rfl
  have c0 : ((1 : Int) = 0) = False := eq_false (by decide)
  have kg : fGetD (.ref M.length) [txD [108]] (M ++ [.dct kinds]) = .ok (.str "leaf") (M ++ [.dct kinds]) := kinds_get
  have k0 := kinds_is
  have k1 : isDct (M ++ [.dct kinds]) (.ref M.length) = true := isDct_end
  have ne : ∀ (d : D) M, noErr (.ok d M) = .ok d M := fun _ _ => rfl
  have p1 : ∀ M, gStp M (.lst (([108] :: ws).map txD)) (some 1) (some 2) = some (.lst ((ksOf ([108] :: ws)).map txD)) := fun M => stp_words (by rw [hlen]; exact ho) 1 (.inl rfl)
  have p2 : ∀ M, gStp M (.lst (([108] :: ws).map txD)) (some 2) (some 2) = some (.lst ((vsOf ([108] :: ws)).map txD)) := fun M => stp_words (by rw [hlen]; exact ho) 2 (.inr rfl)
  have q1 : ∀ M, gEq M (.str "leaf") (.str "leaf") = some (.bl true) := fun M => leaf_eq
  have lz : ∀ M, gLzp [.lst ((ksOf ([108] :: ws)).map txD), .lst ((vsOf ([108] :: ws)).map txD)] M = .ok (.lst ((zipW txD (ksOf ([108] :: ws)) (vsOf ([108] :: ws))).map ent)) M := fun M => by
    rw [← pairs_zip]; rfl
  have tr : ∀ (c : Cell), trim M (.ok .non (M ++ [c])) = .ok .non M := fun c => trim_same rfl
  have cl : clos M.length ((zipW txD (ksOf ([108] :: ws)) (vsOf ([108] :: ws))).map ent) = true := clos_ents fun e he => by
    obtain ⟨v, _, q⟩ := (zipW_mem he).2
    rw [q]; rfl
  have tr2 : ∀ (c : Cell), trim M (.ok (.tup [.str "leaf", .lst ((zipW txD (ksOf ([108] :: ws)) (vsOf ([108] :: ws))).map ent)]) (M ++ [c])) = .ok (.tup [.str "leaf", .lst ((zipW txD (ksOf ([108] :: ws)) (vsOf ([108] :: ws))).map ent)]) M := fun c => trim_same (by
    show (true && (clos _ _ && true)) = true
    rw [cl]; rfl)
  have lk : ∀ M, fLen M (.lst ((ksOf ([108] :: ws)).map txD)) = some (.int ((ksOf ([108] :: ws)).length : Nat)) := fun M => by
    show some (D.int (((ksOf ([108] :: ws)).map txD).length : Nat)) = _
    rw [List.length_map]
  have it : ∀ (ds : List D) M, itL (.lst ds) M = .ok ds M := fun _ _ => rfl
  have x2 : ∀ M (a0 a1 a2 a3 a4 a5 a7 : Option D), lcGo (.nm 6) bYes (den [F_law_map_number, F_law_map_is_key, F_law_map_is_value] X2_law_map_sheet) [a0, a1, a2, a3, a4, a5, none, a7] ((ksOf ([108] :: ws)).map txD) M = .ok ((ksOf ([108] :: ws)).map fun k => D.bl (sgns 33 k)) M := fun M a0 a1 a2 a3 a4 a5 a7 => lc_vals fun k hk => law_x2 fun M => ev_law_map_is_key (hkk k hk).1 (by have := (hkk k hk).2; omega)
  have x3 : ∀ M (a0 a1 a2 a3 a4 a5 a6 : Option D), lcGo (.nm 7) bYes (den [F_law_map_number, F_law_map_is_key, F_law_map_is_value] X3_law_map_sheet) [a0, a1, a2, a3, a4, a5, a6, none] ((vsOf ([108] :: ws)).map txD) M = .ok ((vsOf ([108] :: ws)).map fun k => D.bl (sgns 32 k)) M := fun M a0 a1 a2 a3 a4 a5 a6 => lc_vals fun k hk => law_x3 fun M => ev_law_map_is_value (hvv k hk).1 (by have := (hvv k hk).2; omega)
  have y2 : ∀ M, fAll M (.lst ((ksOf ([108] :: ws)).map fun k => D.bl (sgns 33 k))) = some (.bl ((ksOf ([108] :: ws)).all (sgns 33))) := fun M => all_map _ _
  have y3 : ∀ M, fAll M (.lst ((vsOf ([108] :: ws)).map fun k => D.bl (sgns 32 k))) = some (.bl ((vsOf ([108] :: ws)).all (sgns 32))) := fun M => all_map _ _
  have n1 : (ksOf ([108] :: ws)).length ≤ 4 → ∀ M, gSst M (.lst ((ksOf ([108] :: ws)).map txD)) = some (.lst ((srtU ((ksOf ([108] :: ws)).map st)).map D.str)) := fun h M => sst_words (by omega)
  have n2 : ∀ M, gNe M (.lst ((ksOf ([108] :: ws)).map txD)) (.lst ((srtU ((ksOf ([108] :: ws)).map st)).map D.str)) = some (.bl (!ascB (ksOf ([108] :: ws)))) := fun M => ne_sorted fun k hk c hc => okW_lt ((hkk k hk).1 c hc)
  have n3 : ∀ M, gIn M .non (.lst ((vsOf ([108] :: ws)).map txD)) = some (.bl false) := fun M => non_in_words fun k hk c hc => okW_lt ((hvv k hk).1 c hc)
  have z1 : ((ksOf ([108] :: ws)).map txD).length ≤ 1000 := by rw [List.length_map]; omega
  have z2 : ((vsOf ([108] :: ws)).map txD).length ≤ 1000 := by rw [List.length_map, ← hb]; omega
  have z3 : ((ksOf ([108] :: ws)).map fun k => D.bl (sgns 33 k)).length ≤ 1000 := by rw [List.length_map]; omega
  have z4 : ((vsOf ([108] :: ws)).map fun k => D.bl (sgns 32 k)).length ≤ 1000 := by rw [List.length_map, ← hb]; omega
  rw [sh]
  generalize (zipW txD (ksOf ([108] :: ws)) (vsOf ([108] :: ws))).map ent = ZZ at *
  generalize (srtU ((ksOf ([108] :: ws)).map st)).map D.str = SS at *
  generalize ((ksOf ([108] :: ws)).map fun k => D.bl (sgns 33 k)) = KB at *
  generalize ((vsOf ([108] :: ws)).map fun k => D.bl (sgns 32 k)) = VB at *
  generalize (ksOf ([108] :: ws)).map txD = KK at *
  generalize (vsOf ([108] :: ws)).map txD = VV at *
  generalize ([108] :: ws).map txD = LL at *
  generalize (ksOf ([108] :: ws)).all (sgns 33) = b2 at *
  generalize (vsOf ([108] :: ws)).all (sgns 32) = b3 at *
  generalize ascB (ksOf ([108] :: ws)) = b4 at *
  generalize (ksOf ([108] :: ws)).length = m at *
  generalize ws.length + 1 = n at *
  generalize txD [108] = q0 at *
  generalize kinds = KS at *
  clear R ho hlen hb hkk hvv kl sh cl
  by_cases h1 : 1 ≤ m
  · have c1 : ((1 : Int) ≤ ((m : Nat) : Int)) = True := eq_true (by omega)
    by_cases h4 : m ≤ 4
    · have c4 : (((m : Nat) : Int) ≤ 4) = True := eq_true (by omega)
      have n1 := n1 h4
      simp only [h1, h4, decide_true, Bool.true_and]
      clear h1 h4
      cases b2
      · simp only [Bool.false_and]
        unfold F_law_map_sheet B_law_map_sheet
        walk_at "evh"
      · cases b4
        · simp only [Bool.not_false] at n2
          simp only [Bool.false_and, Bool.and_false]
          unfold F_law_map_sheet B_law_map_sheet
          walk_at "evh"
        · simp only [Bool.not_true] at n2
          cases b3
          · simp only [Bool.and_false]
            unfold F_law_map_sheet B_law_map_sheet
            walk_at "evh"
          · simp only [Bool.and_self]
            unfold F_law_map_sheet B_law_map_sheet
            walk_at "evh"
    · have c4 : (((m : Nat) : Int) ≤ 4) = False := eq_false (by omega)
      simp only [h4, decide_false, Bool.and_false, Bool.false_and]
      clear h1 h4 n1
      unfold F_law_map_sheet B_law_map_sheet
      walk_at "evh"
  · have c1 : ((1 : Int) ≤ ((m : Nat) : Int)) = False := eq_false (by omega)
    simp only [h1, decide_false, Bool.false_and]
    clear h1 n1
    unfold F_law_map_sheet B_law_map_sheet
    walk_at "evh"
end Lw
end

section
set_option Elab.async false
set_option linter.all false
set_option maxRecDepth 100000
set_option maxHeartbeats 4000000
namespace Lw
open PySem Wn
local macro_rules | `(tactic| walk_at "ev") => `(tactic| simp only [fnDef, fnOf, denSL, denS, den, denL, denB, denI, sSeq, sAsg, sRet, sRetN, sEx, sIf, sFor, sPar, sSet, sPass, sBrk, sCnt, bndS, bnd, Wn.ret, stuck, opt, eVar, eCst, eOp, eCall, eChain, bTru, bNot, bAnd, bOr, eOr, eAnd, eNot, eIf, lNil, lCons, eTup, eLst, eCell, eMt, eMl, eSl, oNo, oAt, eNeg, eLc, lcRun, fnDo, startE, fin, Tg.put, TgL.puts, isS_ite, if_le_sz, lstX_lst, lstOf_lst, add_int, sub_int, eq_int, ne_int, le_int, lt_int, gt_int, ge_int, is_non, isnot_non, isNon, asTru, truD, iArg, wipeE,
  List.map_cons, List.map_nil, List.length_cons, List.length_nil, List.getElem?_cons_zero, List.getElem?_cons_succ, List.set_cons_zero, List.set_cons_succ, List.getD_cons_zero, List.getD_cons_succ, List.cons_append, List.nil_append, List.replicate_succ, List.replicate_zero, Nat.zero_add, Nat.sub_self, Nat.add_one_sub_one, Nat.reduceAdd, Nat.reduceSub, Nat.reduceLeDiff, Nat.reduceEqDiff, if_true, if_false, Bool.false_eq_true, Bool.not_true, Bool.not_false, decide_true, decide_false, g1, g2, List.zip_cons_cons, List.zip_nil_right, List.foldl_cons, List.foldl_nil,
  mIndex, mJoin, mSplit, tStr, tIntS, mAppend, mExtend, mGet, eMd, eDcp, gDcp, sSetA, setA, eRv, eSst, eStp, eDsp, eLzp, fnDoP, bMinL, bLen, bAbs, bMax, bMin, bSum, bAll, bAny, bOrd, bRepr, bIsi, tInt, tTup, tLst, nInt, nStr, nBool, nTup, nLst, oAdd, oSub, oMul, oMod, oDiv, oPow, cEq, cNe, cLt, cLe, cGt, cGe, cIn, cNi, cIs, cIn', Option.some_or, Option.or_none, Option.none_or])
local macro_rules | `(tactic| walk_at "evh") => `(tactic| simp only [*, fnDef, fnOf, denSL, denS, den, denL, denB, denI, sSeq, sAsg, sRet, sRetN, sEx, sIf, sFor, sPar, sSet, sPass, sBrk, sCnt, bndS, bnd, Wn.ret, stuck, opt, eVar, eCst, eOp, eCall, eChain, bTru, bNot, bAnd, bOr, eOr, eAnd, eNot, eIf, lNil, lCons, eTup, eLst, eCell, eMt, eMl, eSl, oNo, oAt, eNeg, eLc, lcRun, fnDo, startE, fin, Tg.put, TgL.puts, isS_ite, if_le_sz, lstX_lst, lstOf_lst, add_int, sub_int, eq_int, ne_int, le_int, lt_int, gt_int, ge_int, is_non, isnot_non, isNon, asTru, truD, iArg, wipeE,
  List.map_cons, List.map_nil, List.length_cons, List.length_nil, List.getElem?_cons_zero, List.getElem?_cons_succ, List.set_cons_zero, List.set_cons_succ, List.getD_cons_zero, List.getD_cons_succ, List.cons_append, List.nil_append, List.replicate_succ, List.replicate_zero, Nat.zero_add, Nat.sub_self, Nat.add_one_sub_one, Nat.reduceAdd, Nat.reduceSub, Nat.reduceLeDiff, Nat.reduceEqDiff, if_true, if_false, Bool.false_eq_true, Bool.not_true, Bool.not_false, decide_true, decide_false, g1, g2, List.zip_cons_cons, List.zip_nil_right, List.foldl_cons, List.foldl_nil,
  mIndex, mJoin, mSplit, tStr, tIntS, mAppend, mExtend, mGet, eMd, eDcp, gDcp, sSetA, setA, eRv, eSst, eStp, eDsp, eLzp, fnDoP, bMinL, bLen, bAbs, bMax, bMin, bSum, bAll, bAny, bOrd, bRepr, bIsi, tInt, tTup, tLst, nInt, nStr, nBool, nTup, nLst, oAdd, oSub, oMul, oMod, oDiv, oPow, cEq, cNe, cLt, cLe, cGt, cGe, cIn, cNi, cIs, cIn', Option.some_or, Option.or_none, Option.none_or])
theorem law_sheet_fork {t : List Nat} {ws : List (List Nat)} {M : Mem} (R : Rd t [102] ws) (ho : (ws.length + 1) % 2 = 1) :
    F_law_map_sheet [.str (st t)] M = .ok (if (decide (2 ≤ (ksOf ([102] :: ws)).length) && decide ((ksOf ([102] :: ws)).length ≤ 4) && ((ksOf ([102] :: ws)).all (sgns 33) && ascB (ksOf ([102] :: ws))) && !((vsOf ([102] :: ws)).any fun v => (lawNum v).isNone)) = true then .tup [.str "fork", .lst ((zipW (fun v => optN (lawNum v)) (ksOf ([102] :: ws)) (vsOf ([102] :: ws))).map ent)] else .non) M := by
  have hlen : ([102] :: ws).length = ws.length + 1 := rfl
  have hb : (ksOf ([102] :: ws)).length = (vsOf ([102] :: ws)).length := both_len (by rw [hlen]; exact ho)
  have hkk : ∀ k ∈ ksOf ([102] :: ws), (∀ c ∈ k, okW c = true) ∧ k.length ≤ 600 := fun k hk => R.ok k (pick_mem hk)
  have hvv : ∀ k ∈ vsOf ([102] :: ws), (∀ c ∈ k, okW c = true) ∧ k.length ≤ 600 := fun k hk => R.ok k (pick_mem hk)
  have kl : (ksOf ([102] :: ws)).length ≤ 801 := Nat.le_trans (pick_le (by rw [hlen]; exact ho) 1 (.inl rfl)) (by rw [hlen]; have := R.wl; omega)
  have sp : ∀ M, gSplit M (.str (st t)) [.str (Str.ofString "\n")] = some (.lst (([102] :: ws).map txD)) := fun M => split_feed R.tl R.es
  have i0 : ∀ M, gIx M (.lst (([102] :: ws).map txD)) (.int 0) = some (txD [102]) := fun _ => gIx0
  have ln : ∀ M, fLen M (.lst (([102] :: ws).map txD)) = some (.int ((ws.length + 1 : Nat))) := fun M => by
    show some (D.int ((([102] :: ws).map txD).length : Nat)) = _
    rw [List.length_map]; rfl
  have md : ∀ M, gMod M (.int ((ws.length + 1 : Nat))) (.int 2) = some (.int 1) := fun M => by
    show (if (0 : Int) < 2 then some (D.int (((ws.length + 1) % 2 : Nat) : Int)) else none) = _
    rw [if_pos (by decide), ho]; rfl
  have c0 : ((1 : Int) = 0) = False := eq_false (by decide)
  have kg : fGetD (.ref M.length) [txD [102]] (M ++ [.dct kinds]) = .ok (.str "fork") (M ++ [.dct kinds]) := kinds_get
  have k0 := kinds_is
  have k1 : isDct (M ++ [.dct kinds]) (.ref M.length) = true := isDct_end
  have ne : ∀ (d : D) M, noErr (.ok d M) = .ok d M := fun _ _ => rfl
  have p1 : ∀ M, gStp M (.lst (([102] :: ws).map txD)) (some 1) (some 2) = some (.lst ((ksOf ([102] :: ws)).map txD)) := fun M => stp_words (by rw [hlen]; exact ho) 1 (.inl rfl)
  have p2 : ∀ M, gStp M (.lst (([102] :: ws).map txD)) (some 2) (some 2) = some (.lst ((vsOf ([102] :: ws)).map txD)) := fun M => stp_words (by rw [hlen]; exact ho) 2 (.inr rfl)
  have q1 : ∀ M, gEq M (.str "fork") (.str "leaf") = some (.bl false) := fun M => fork_ne
  have lz : ∀ M, gLzp [.lst ((ksOf ([102] :: ws)).map txD), .lst ((vsOf ([102] :: ws)).map fun v => optN (lawNum v))] M = .ok (.lst ((zipW (fun v => optN (lawNum v)) (ksOf ([102] :: ws)) (vsOf ([102] :: ws))).map ent)) M := fun M => by
    rw [← pairs_zip]; rfl
  have tr : ∀ (c : Cell), trim M (.ok .non (M ++ [c])) = .ok .non M := fun c => trim_same rfl
  have cl : clos M.length ((zipW (fun v => optN (lawNum v)) (ksOf ([102] :: ws)) (vsOf ([102] :: ws))).map ent) = true := clos_ents fun e he => by
    obtain ⟨v, _, q⟩ := (zipW_mem he).2
    rw [q]
    show clo M.length (optN (lawNum v)) = true
    cases lawNum v <;> rfl
  have tr2 : ∀ (c : Cell), trim M (.ok (.tup [.str "fork", .lst ((zipW (fun v => optN (lawNum v)) (ksOf ([102] :: ws)) (vsOf ([102] :: ws))).map ent)]) (M ++ [c])) = .ok (.tup [.str "fork", .lst ((zipW (fun v => optN (lawNum v)) (ksOf ([102] :: ws)) (vsOf ([102] :: ws))).map ent)]) M := fun c => trim_same (by
    show (true && (clos _ _ && true)) = true
    rw [cl]; rfl)
  have lk : ∀ M, fLen M (.lst ((ksOf ([102] :: ws)).map txD)) = some (.int ((ksOf ([102] :: ws)).length : Nat)) := fun M => by
    show some (D.int (((ksOf ([102] :: ws)).map txD).length : Nat)) = _
    rw [List.length_map]
  have it : ∀ (ds : List D) M, itL (.lst ds) M = .ok ds M := fun _ _ => rfl
  have x2 : ∀ M (a0 a1 a2 a3 a4 a5 a7 : Option D), lcGo (.nm 6) bYes (den [F_law_map_number, F_law_map_is_key, F_law_map_is_value] X2_law_map_sheet) [a0, a1, a2, a3, a4, a5, none, a7] ((ksOf ([102] :: ws)).map txD) M = .ok ((ksOf ([102] :: ws)).map fun k => D.bl (sgns 33 k)) M := fun M a0 a1 a2 a3 a4 a5 a7 => lc_vals fun k hk => law_x2 fun M => ev_law_map_is_key (hkk k hk).1 (by have := (hkk k hk).2; omega)
  have x3 : ∀ M (a0 a1 a2 a3 a4 a6 a7 : Option D), lcGo (.nm 5) bYes (den [F_law_map_number, F_law_map_is_key, F_law_map_is_value] X1_law_map_sheet) [a0, a1, a2, a3, a4, none, a6, a7] ((vsOf ([102] :: ws)).map txD) M = .ok ((vsOf ([102] :: ws)).map fun k => optN (lawNum k)) M := fun M a0 a1 a2 a3 a4 a6 a7 => lc_vals fun k hk => law_x1 fun M => ev_law_map_number (hvv k hk).1 (hvv k hk).2
  have y2 : ∀ M, fAll M (.lst ((ksOf ([102] :: ws)).map fun k => D.bl (sgns 33 k))) = some (.bl ((ksOf ([102] :: ws)).all (sgns 33))) := fun M => all_map _ _
  have n1 : (ksOf ([102] :: ws)).length ≤ 4 → ∀ M, gSst M (.lst ((ksOf ([102] :: ws)).map txD)) = some (.lst ((srtU ((ksOf ([102] :: ws)).map st)).map D.str)) := fun h M => sst_words (by omega)
  have n2 : ∀ M, gNe M (.lst ((ksOf ([102] :: ws)).map txD)) (.lst ((srtU ((ksOf ([102] :: ws)).map st)).map D.str)) = some (.bl (!ascB (ksOf ([102] :: ws)))) := fun M => ne_sorted fun k hk c hc => okW_lt ((hkk k hk).1 c hc)
  have n3 : ∀ M, gIn M .non (.lst ((vsOf ([102] :: ws)).map fun v => optN (lawNum v))) = some (.bl ((vsOf ([102] :: ws)).any fun v => (lawNum v).isNone)) := fun M => non_in_law _
  have z1 : ((ksOf ([102] :: ws)).map txD).length ≤ 1000 := by rw [List.length_map]; omega
  have z2 : ((vsOf ([102] :: ws)).map txD).length ≤ 1000 := by rw [List.length_map, ← hb]; omega
  have z3 : ((ksOf ([102] :: ws)).map fun k => D.bl (sgns 33 k)).length ≤ 1000 := by rw [List.length_map]; omega
  have z4 : ((vsOf ([102] :: ws)).map fun v => optN (lawNum v)).length ≤ 1000 := by rw [List.length_map, ← hb]; omega
  generalize (zipW (fun v => optN (lawNum v)) (ksOf ([102] :: ws)) (vsOf ([102] :: ws))).map ent = ZZ at *
  generalize (srtU ((ksOf ([102] :: ws)).map st)).map D.str = SS at *
  generalize ((ksOf ([102] :: ws)).map fun k => D.bl (sgns 33 k)) = KB at *
  generalize ((vsOf ([102] :: ws)).map fun v => optN (lawNum v)) = VB at *
  generalize (ksOf ([102] :: ws)).map txD = KK at *
  generalize (vsOf ([102] :: ws)).map txD = VV at *
  generalize ([102] :: ws).map txD = LL at *
  generalize (ksOf ([102] :: ws)).all (sgns 33) = b2 at *
  generalize ((vsOf ([102] :: ws)).any fun v => (lawNum v).isNone) = b3 at *
  generalize ascB (ksOf ([102] :: ws)) = b4 at *
  generalize (ksOf ([102] :: ws)).length = m at *
  generalize ws.length + 1 = n at *
  generalize txD [102] = q0 at *
  generalize kinds = KS at *
  clear R ho hlen hb hkk hvv kl cl
  by_cases h1 : 2 ≤ m
  · have c1 : ((2 : Int) ≤ ((m : Nat) : Int)) = True := eq_true (by omega)
    by_cases h4 : m ≤ 4
    · have c4 : (((m : Nat) : Int) ≤ 4) = True := eq_true (by omega)
      have n1 := n1 h4
      simp only [h1, h4, decide_true, Bool.true_and]
      clear h1 h4
      cases b2
      · simp only [Bool.false_and]
        unfold F_law_map_sheet B_law_map_sheet
        walk_at "evh"
      · cases b4
        · simp only [Bool.not_false] at n2
          simp only [Bool.false_and, Bool.and_false]
          unfold F_law_map_sheet B_law_map_sheet
          walk_at "evh"
        · simp only [Bool.not_true] at n2
          cases b3
          · simp only [Bool.not_false, Bool.and_self]
            unfold F_law_map_sheet B_law_map_sheet
            walk_at "evh"
          · simp only [Bool.not_true, Bool.and_false]
            unfold F_law_map_sheet B_law_map_sheet
            walk_at "evh"
    · have c4 : (((m : Nat) : Int) ≤ 4) = False := eq_false (by omega)
      simp only [h4, decide_false, Bool.and_false, Bool.false_and]
      clear h1 h4 n1
      unfold F_law_map_sheet B_law_map_sheet
      walk_at "evh"
  · have c1 : ((2 : Int) ≤ ((m : Nat) : Int)) = False := eq_false (by omega)
    simp only [h1, decide_false, Bool.false_and]
    clear h1 n1
    unfold F_law_map_sheet B_law_map_sheet
    walk_at "evh"
end Lw
end

section
set_option Elab.async false
set_option linter.all false
set_option maxRecDepth 100000
set_option maxHeartbeats 4000000
namespace Lw
open PySem Wn
local macro_rules | `(tactic| walk_at "ev") => `(tactic| simp only [fnDef, fnOf, denSL, denS, den, denL, denB, denI, sSeq, sAsg, sRet, sRetN, sEx, sIf, sFor, sPar, sSet, sPass, sBrk, sCnt, bndS, bnd, Wn.ret, stuck, opt, eVar, eCst, eOp, eCall, eChain, bTru, bNot, bAnd, bOr, eOr, eAnd, eNot, eIf, lNil, lCons, eTup, eLst, eCell, eMt, eMl, eSl, oNo, oAt, eNeg, eLc, lcRun, fnDo, startE, fin, Tg.put, TgL.puts, isS_ite, if_le_sz, lstX_lst, lstOf_lst, add_int, sub_int, eq_int, ne_int, le_int, lt_int, gt_int, ge_int, is_non, isnot_non, isNon, asTru, truD, iArg, wipeE,
  List.map_cons, List.map_nil, List.length_cons, List.length_nil, List.getElem?_cons_zero, List.getElem?_cons_succ, List.set_cons_zero, List.set_cons_succ, List.getD_cons_zero, List.getD_cons_succ, List.cons_append, List.nil_append, List.replicate_succ, List.replicate_zero, Nat.zero_add, Nat.sub_self, Nat.add_one_sub_one, Nat.reduceAdd, Nat.reduceSub, Nat.reduceLeDiff, Nat.reduceEqDiff, if_true, if_false, Bool.false_eq_true, Bool.not_true, Bool.not_false, decide_true, decide_false, g1, g2, List.zip_cons_cons, List.zip_nil_right, List.foldl_cons, List.foldl_nil,
  mIndex, mJoin, mSplit, tStr, tIntS, mAppend, mExtend, mGet, eMd, eDcp, gDcp, sSetA, setA, eRv, eSst, eStp, eDsp, eLzp, fnDoP, bMinL, bLen, bAbs, bMax, bMin, bSum, bAll, bAny, bOrd, bRepr, bIsi, tInt, tTup, tLst, nInt, nStr, nBool, nTup, nLst, oAdd, oSub, oMul, oMod, oDiv, oPow, cEq, cNe, cLt, cLe, cGt, cGe, cIn, cNi, cIs, cIn', Option.some_or, Option.or_none, Option.none_or])
local macro_rules | `(tactic| walk_at "evh") => `(tactic| simp only [*, fnDef, fnOf, denSL, denS, den, denL, denB, denI, sSeq, sAsg, sRet, sRetN, sEx, sIf, sFor, sPar, sSet, sPass, sBrk, sCnt, bndS, bnd, Wn.ret, stuck, opt, eVar, eCst, eOp, eCall, eChain, bTru, bNot, bAnd, bOr, eOr, eAnd, eNot, eIf, lNil, lCons, eTup, eLst, eCell, eMt, eMl, eSl, oNo, oAt, eNeg, eLc, lcRun, fnDo, startE, fin, Tg.put, TgL.puts, isS_ite, if_le_sz, lstX_lst, lstOf_lst, add_int, sub_int, eq_int, ne_int, le_int, lt_int, gt_int, ge_int, is_non, isnot_non, isNon, asTru, truD, iArg, wipeE,
  List.map_cons, List.map_nil, List.length_cons, List.length_nil, List.getElem?_cons_zero, List.getElem?_cons_succ, List.set_cons_zero, List.set_cons_succ, List.getD_cons_zero, List.getD_cons_succ, List.cons_append, List.nil_append, List.replicate_succ, List.replicate_zero, Nat.zero_add, Nat.sub_self, Nat.add_one_sub_one, Nat.reduceAdd, Nat.reduceSub, Nat.reduceLeDiff, Nat.reduceEqDiff, if_true, if_false, Bool.false_eq_true, Bool.not_true, Bool.not_false, decide_true, decide_false, g1, g2, List.zip_cons_cons, List.zip_nil_right, List.foldl_cons, List.foldl_nil,
  mIndex, mJoin, mSplit, tStr, tIntS, mAppend, mExtend, mGet, eMd, eDcp, gDcp, sSetA, setA, eRv, eSst, eStp, eDsp, eLzp, fnDoP, bMinL, bLen, bAbs, bMax, bMin, bSum, bAll, bAny, bOrd, bRepr, bIsi, tInt, tTup, tLst, nInt, nStr, nBool, nTup, nLst, oAdd, oSub, oMul, oMod, oDiv, oPow, cEq, cNe, cLt, cLe, cGt, cGe, cIn, cNi, cIs, cIn', Option.some_or, Option.or_none, Option.none_or])
/-! ### both read alike -/
theorem any_false {α : Type} {f : α → Bool} {l : List α} (h : ∀ a ∈ l, f a = false) : l.any f = false := by
  rw [Bool.eq_false_iff]
  intro z
  obtain ⟨a, ha, hf⟩ := List.any_eq_true.mp z
  rw [h a ha] at hf; cases hf
theorem zipW_congr {f g : List Nat → D} {ks vs : List (List Nat)} (h : ∀ v ∈ vs, f v = g v) : zipW f ks vs = zipW g ks vs := by
  unfold zipW
  refine List.map_congr_left fun p hp => ?_
  rw [h p.2 (List.of_mem_zip (show (p.1, p.2) ∈ ks.zip vs from hp)).2]
theorem fork_same {ks vs : List (List Nat)} (hb : ks.length = vs.length) :
    (if (vs.any fun v => (progNum v).isNone) = true then D.non else if shB 2 (zipW (fun v => optI (progNum v)) ks vs) gC = true then shD "fork" (zipW (fun v => optI (progNum v)) ks vs) else .non) =
      (if (decide (2 ≤ ks.length) && decide (ks.length ≤ 4) && (ks.all (sgns 33) && ascB ks) && !(vs.any fun v => (lawNum v).isNone)) = true then shD "fork" (zipW (fun v => optN (lawNum v)) ks vs) else .non) := by
  by_cases hl : (vs.any fun v => (lawNum v).isNone) = true
  · rw [hl]
    simp only [Bool.not_true, Bool.and_false, Bool.false_eq_true, if_false]
    by_cases hp : (vs.any fun v => (progNum v).isNone) = true
    · rw [if_pos hp]
    · rw [if_neg hp]
      obtain ⟨v, hv, hn⟩ := List.any_eq_true.mp hl
      have hp' : (progNum v).isNone = false := by
        cases q : (progNum v).isNone with
        | false => rfl
        | true => exact absurd (List.any_eq_true.mpr ⟨v, hv, q⟩) hp
      cases q : progNum v with
      | none => rw [q] at hp'; cases hp'
      | some i =>
        have hi : ¬ 0 ≤ i := fun h0 => by
          have := prog_law q h0
          rw [this] at hn; cases hn
        have hz : (zipW (fun v => optI (progNum v)) ks vs).all gC = false := by
          rw [zipW_all (q := fun v => match optI (progNum v) with | .int i => decide (0 ≤ i) && decide (i ≤ 999999999999) | _ => false) (fun _ _ => rfl) hb]
          rw [Bool.eq_false_iff]
          intro z
          have := List.all_eq_true.mp z v hv
          rw [q] at this
          have : (decide (0 ≤ i) && decide (i ≤ 999999999999)) = true := this
          rw [decide_eq_false hi] at this
          cases this
        unfold shB
        rw [hz]
        simp only [Bool.and_false, Bool.false_eq_true, if_false]
  · have hs : ∀ v ∈ vs, ∃ n, lawNum v = some n := fun v hv => by
      cases q : lawNum v with
      | none => exact absurd (List.any_eq_true.mpr ⟨v, hv, by rw [q]; rfl⟩) hl
      | some n => exact ⟨n, rfl⟩
    have hp : (vs.any fun v => (progNum v).isNone) = false := any_false fun v hv => by
      obtain ⟨n, e⟩ := hs v hv
      rw [(law_prog e).1]; rfl
    have hz : zipW (fun v => optI (progNum v)) ks vs = zipW (fun v => optN (lawNum v)) ks vs := zipW_congr fun v hv => by
      obtain ⟨n, e⟩ := hs v hv
      show optI (progNum v) = optN (lawNum v)
      rw [(law_prog e).1, e]; rfl
    have hg : (zipW (fun v => optI (progNum v)) ks vs).all gC = true := by
      rw [zipW_all (q := fun v => match optI (progNum v) with | .int i => decide (0 ≤ i) && decide (i ≤ 999999999999) | _ => false) (fun _ _ => rfl) hb]
      refine List.all_eq_true.mpr fun v hv => ?_
      obtain ⟨n, e⟩ := hs v hv
      obtain ⟨e1, e2⟩ := law_prog e
      rw [e1]
      show (decide (0 ≤ ((n : Nat) : Int)) && decide (((n : Nat) : Int) ≤ 999999999999)) = true
      rw [decide_eq_true (by omega), decide_eq_true (by omega)]; rfl
    rw [hp, if_neg (by simp)]
    have hl' : (vs.any fun v => (lawNum v).isNone) = false := by simpa using hl
    rw [hl']
    unfold shB
    rw [hg, zipW_eq hb, zipW_fst hb, hz]
    rfl
theorem ev_law_read {x : D} {kd : Str} {es : List D} {M : Mem} {t : Str} (h : (F_law_map_sheet [.str t] M = .ok .non M ∧ x = .non) ∨ (F_law_map_sheet [.str t] M = .ok (.tup [.str kd, .lst es]) M ∧ x = .tup [.str kd, .tup es])) : F_law_read [.str t] M = .ok x M := by
  have v0 : ∀ (a b : D) M, gIx M (.tup [a, b]) (.int 0) = some a := fun _ _ _ => rfl
  have v1 : ∀ (a b : D) M, gIx M (.tup [a, b]) (.int 1) = some b := fun _ _ _ => rfl
  have tp : ∀ M ds, fTuple M (.lst ds) = some (.tup ds) := fun _ _ => rfl
  rcases h with ⟨h, rfl⟩ | ⟨h, rfl⟩
  · unfold F_law_read B_law_read
    walk_at "evh"
  · unfold F_law_read B_law_read
    walk_at "evh"
/-- an entry that shows itself -/
def entOk (e : List Nat × D) : Prop := (∀ c ∈ e.1, c < 127) ∧ e.1.length ≤ 600 ∧ ((∃ v : List Nat, (∀ c ∈ v, c < 127) ∧ v.length ≤ 600 ∧ e.2 = txD v) ∨ ∃ n : Nat, n ≤ 999999999999 ∧ e.2 = .int (n : Nat))
def readD (x : D) : Prop := x = .non ∨ ∃ (w : Str) (es : List (List Nat × D)), (w = "leaf" ∨ w = "fork") ∧ es.length ≤ 4 ∧ (∀ e ∈ es, entOk e) ∧ x = shD w es
theorem reads_alike {t : List Nat} (h : okText t = true) : ∃ x, readD x ∧ (∀ M, F_sheet_of [.str (st t)] M = .ok x M) ∧ ∀ M, F_law_read [.str (st t)] M = .ok x M := by
  obtain ⟨ws0, es0, hne, hl0, hok0⟩ := split_words h
  cases ws0 with
  | nil => exact absurd rfl hne
  | cons w ws =>
    have htl : t.length ≤ 600 := by
      have := of_decide_eq_true (Bool.and_eq_true_iff.mp (show (decide (t.length ≤ 113) && t.all okSign) = true from h)).1
      omega
    have hok : ∀ v ∈ w :: ws, (∀ c ∈ v, okW c = true) ∧ v.length ≤ 600 := fun v hv => ⟨(hok0 v hv).1, by have := (hok0 v hv).2; omega⟩
    have hwl : ws.length ≤ 800 := by rw [List.length_cons] at hl0; omega
    have R : Rd t w ws := ⟨htl, es0, hok, hwl⟩
    have hw127 : ∀ c ∈ w, c < 127 := fun c hc => okW_lt ((hok w (List.mem_cons_self ..)).1 c hc)
    by_cases hn : (w ≠ [108] ∧ w ≠ [102]) ∨ (ws.length + 1) % 2 = 0
    · refine ⟨.non, .inl rfl, fun M => ev_sheet_of_no htl es0 hw127 hn, fun M => ev_law_read (kd := "leaf") (es := []) (.inl ⟨law_sheet_no R hn, rfl⟩)⟩
    · have ho : (ws.length + 1) % 2 = 1 := by
        have : ¬ (ws.length + 1) % 2 = 0 := fun z => hn (.inr z)
        omega
      by_cases hf : w = [108]
      · subst hf
        have hb := both_len (ws := [108] :: ws) (by rw [List.length_cons]; exact ho)
        by_cases hc : shB 1 (zipW txD (ksOf ([108] :: ws)) (vsOf ([108] :: ws))) gV = true
        · refine ⟨shD "leaf" (zipW txD (ksOf ([108] :: ws)) (vsOf ([108] :: ws))), .inr ⟨"leaf", _, .inl rfl, ?_, fun e he => ?_, rfl⟩, fun M => ?_, fun M => ev_law_read (.inr ⟨?_, rfl⟩)⟩
          · unfold shB at hc
            simp only [Bool.and_eq_true, decide_eq_true_eq] at hc
            exact hc.1.1.2
          · obtain ⟨h1, v, h2, h3⟩ := zipW_mem he
            have a := hok _ (pick_mem h1)
            have b := hok _ (pick_mem h2)
            exact ⟨fun c hc => okW_lt (a.1 c hc), a.2, .inl ⟨v, fun c hc => okW_lt (b.1 c hc), b.2, h3⟩⟩
          · rw [ev_sheet_of_leaf htl es0 ho hok hwl, if_pos hc]
          · rw [law_sheet_leaf R ho, if_pos hc]
        · refine ⟨.non, .inl rfl, fun M => ?_, fun M => ev_law_read (kd := "leaf") (es := []) (.inl ⟨?_, rfl⟩)⟩
          · rw [ev_sheet_of_leaf htl es0 ho hok hwl, if_neg hc]
          · rw [law_sheet_leaf R ho, if_neg hc]
      · have hf2 : w = [102] := Classical.byContradiction fun z => hn (.inl ⟨hf, z⟩)
        subst hf2
        have hb := both_len (ws := [102] :: ws) (by rw [List.length_cons]; exact ho)
        by_cases hc : (decide (2 ≤ (ksOf ([102] :: ws)).length) && decide ((ksOf ([102] :: ws)).length ≤ 4) && ((ksOf ([102] :: ws)).all (sgns 33) && ascB (ksOf ([102] :: ws))) && !((vsOf ([102] :: ws)).any fun v => (lawNum v).isNone)) = true
        · refine ⟨shD "fork" (zipW (fun v => optN (lawNum v)) (ksOf ([102] :: ws)) (vsOf ([102] :: ws))), .inr ⟨"fork", _, .inr rfl, ?_, fun e he => ?_, rfl⟩, fun M => ?_, fun M => ev_law_read (.inr ⟨?_, rfl⟩)⟩
          · rw [zipW_eq hb]
            simp only [Bool.and_eq_true, decide_eq_true_eq] at hc
            exact hc.1.1.2
          · obtain ⟨h1, v, h2, h3⟩ := zipW_mem he
            have a := hok _ (pick_mem h1)
            have hv : ((vsOf ([102] :: ws)).any fun v => (lawNum v).isNone) = false := by
              simp only [Bool.and_eq_true, Bool.not_eq_true'] at hc
              exact hc.2
            refine ⟨fun c hc => okW_lt (a.1 c hc), a.2, ?_⟩
            cases q : lawNum v with
            | none =>
              have := List.any_eq_false.mp hv v h2
              rw [q] at this
              exact absurd rfl this
            | some n =>
              refine .inr ⟨n, (law_prog q).2, ?_⟩
              rw [h3, q]; rfl
          · rw [ev_sheet_of_fork htl es0 ho hok hwl, fork_same hb, if_pos hc]
          · rw [law_sheet_fork R ho, if_pos hc]
        · refine ⟨.non, .inl rfl, fun M => ?_, fun M => ev_law_read (kd := "fork") (es := []) (.inl ⟨?_, rfl⟩)⟩
          · rw [ev_sheet_of_fork htl es0 ho hok hwl, fork_same hb, if_neg hc]
          · rw [law_sheet_fork R ho, if_neg hc]
end Lw
end

section
set_option Elab.async false
set_option linter.all false
set_option maxRecDepth 100000
set_option maxHeartbeats 4000000
namespace Lw
open PySem Wn
local macro_rules | `(tactic| walk_at "ev") => `(tactic| simp only [fnDef, fnOf, denSL, denS, den, denL, denB, denI, sSeq, sAsg, sRet, sRetN, sEx, sIf, sFor, sPar, sSet, sPass, sBrk, sCnt, bndS, bnd, Wn.ret, stuck, opt, eVar, eCst, eOp, eCall, eChain, bTru, bNot, bAnd, bOr, eOr, eAnd, eNot, eIf, lNil, lCons, eTup, eLst, eCell, eMt, eMl, eSl, oNo, oAt, eNeg, eLc, lcRun, fnDo, startE, fin, Tg.put, TgL.puts, isS_ite, if_le_sz, lstX_lst, lstOf_lst, add_int, sub_int, eq_int, ne_int, le_int, lt_int, gt_int, ge_int, is_non, isnot_non, isNon, asTru, truD, iArg, wipeE,
  List.map_cons, List.map_nil, List.length_cons, List.length_nil, List.getElem?_cons_zero, List.getElem?_cons_succ, List.set_cons_zero, List.set_cons_succ, List.getD_cons_zero, List.getD_cons_succ, List.cons_append, List.nil_append, List.replicate_succ, List.replicate_zero, Nat.zero_add, Nat.sub_self, Nat.add_one_sub_one, Nat.reduceAdd, Nat.reduceSub, Nat.reduceLeDiff, Nat.reduceEqDiff, if_true, if_false, Bool.false_eq_true, Bool.not_true, Bool.not_false, decide_true, decide_false, g1, g2, List.zip_cons_cons, List.zip_nil_right, List.foldl_cons, List.foldl_nil,
  mIndex, mJoin, mSplit, tStr, tIntS, mAppend, mExtend, mGet, eMd, eDcp, gDcp, sSetA, setA, eRv, eSst, eStp, eDsp, eLzp, fnDoP, bMinL, bLen, bAbs, bMax, bMin, bSum, bAll, bAny, bOrd, bRepr, bIsi, tInt, tTup, tLst, nInt, nStr, nBool, nTup, nLst, oAdd, oSub, oMul, oMod, oDiv, oPow, cEq, cNe, cLt, cLe, cGt, cGe, cIn, cNi, cIs, cIn', Option.some_or, Option.or_none, Option.none_or])
local macro_rules | `(tactic| walk_at "evh") => `(tactic| simp only [*, fnDef, fnOf, denSL, denS, den, denL, denB, denI, sSeq, sAsg, sRet, sRetN, sEx, sIf, sFor, sPar, sSet, sPass, sBrk, sCnt, bndS, bnd, Wn.ret, stuck, opt, eVar, eCst, eOp, eCall, eChain, bTru, bNot, bAnd, bOr, eOr, eAnd, eNot, eIf, lNil, lCons, eTup, eLst, eCell, eMt, eMl, eSl, oNo, oAt, eNeg, eLc, lcRun, fnDo, startE, fin, Tg.put, TgL.puts, isS_ite, if_le_sz, lstX_lst, lstOf_lst, add_int, sub_int, eq_int, ne_int, le_int, lt_int, gt_int, ge_int, is_non, isnot_non, isNon, asTru, truD, iArg, wipeE,
  List.map_cons, List.map_nil, List.length_cons, List.length_nil, List.getElem?_cons_zero, List.getElem?_cons_succ, List.set_cons_zero, List.set_cons_succ, List.getD_cons_zero, List.getD_cons_succ, List.cons_append, List.nil_append, List.replicate_succ, List.replicate_zero, Nat.zero_add, Nat.sub_self, Nat.add_one_sub_one, Nat.reduceAdd, Nat.reduceSub, Nat.reduceLeDiff, Nat.reduceEqDiff, if_true, if_false, Bool.false_eq_true, Bool.not_true, Bool.not_false, decide_true, decide_false, g1, g2, List.zip_cons_cons, List.zip_nil_right, List.foldl_cons, List.foldl_nil,
  mIndex, mJoin, mSplit, tStr, tIntS, mAppend, mExtend, mGet, eMd, eDcp, gDcp, sSetA, setA, eRv, eSst, eStp, eDsp, eLzp, fnDoP, bMinL, bLen, bAbs, bMax, bMin, bSum, bAll, bAny, bOrd, bRepr, bIsi, tInt, tTup, tLst, nInt, nStr, nBool, nTup, nLst, oAdd, oSub, oMul, oMod, oDiv, oPow, cEq, cNe, cLt, cLe, cGt, cGe, cIn, cNi, cIs, cIn', Option.some_or, Option.or_none, Option.none_or])
/-! ### the law's draws of keys, values -/
theorem Pot.mono {k l : Nat} {p : List D} (h : Pot k p) (hl : k ≤ l) : Pot l p := by
  obtain ⟨a, b, c, e, h1, h2⟩ := h
  exact ⟨a, b, c, e, by omega, h2⟩
theorem set_same {M : Mem} {n : Nat} {c : Cell} (h : M[n]? = some c) : M.set n c = M := by
  refine List.ext_getElem? fun i => ?_
  by_cases hi : n = i
  · subst hi
    rw [get_set h, h]
  · rw [List.getElem?_set_ne hi]
theorem get_app {M : Mem} {n : Nat} {c d : Cell} (h : M[n]? = some c) : (M ++ [d])[n]? = some c := by
  rw [List.getElem?_append_left (List.getElem?_eq_some_iff.mp h).1]; exact h
theorem set_app {M : Mem} {n : Nat} {c d e : Cell} (h : M[n]? = some c) : (M ++ [d]).set n e = M.set n e ++ [d] := by
  rw [List.set_append_left _ _ (List.getElem?_eq_some_iff.mp h).1]
theorem app_end {M : Mem} {ds : List D} {x : D} (h : ds.length ≤ 1000) : fAppend (.ref M.length) [x] (M ++ [.lst ds]) = .ok .non (M ++ [.lst (ds ++ [x])]) := by
  rw [append_ok get_end (by unfold sizeLine; omega), set_end]
/-- many draws in a comprehension, w at most each -/
theorem drawsW {i n B w : Nat} {e : Fe} {δ : Wn.Env} {S : D → Prop} (h : ∀ M p k d, M[n]? = some (.lst p) → Pot k p → k < B → ∃ x p', S x ∧ Pot (k + w) p' ∧ e (δ.set i (some d)) M = .ok x (M.set n (.lst p'))) : ∀ (ds : List D) (M : Mem) (p : List D) (k : Nat), M[n]? = some (.lst p) → Pot k p → k + w * ds.length + ds.length ≤ B → ∃ xs p', xs.length = ds.length ∧ (∀ x ∈ xs, S x) ∧ Pot (k + w * ds.length) p' ∧ lcGo (.nm i) bYes e δ ds M = .ok xs (M.set n (.lst p'))
  | [], M, p, k, hM, hp, _ => ⟨[], p, rfl, (by intro x hx; cases hx), hp, by rw [set_same hM]; rfl⟩
  | d :: ds, M, p, k, hM, hp, hB => by
    have hw : w * (d :: ds).length = w + w * ds.length := by rw [List.length_cons, Nat.mul_add]; omega
    rw [hw] at hB ⊢
    rw [List.length_cons] at hB
    obtain ⟨x, p1, s1, q1, e1⟩ := h M p k d hM hp (by omega)
    obtain ⟨xs, p2, l2, s2, q2, e2⟩ := drawsW h ds (M.set n (.lst p1)) p1 (k + w) (get_set hM) q1 (by omega)
    refine ⟨x :: xs, p2, by rw [List.length_cons, l2, List.length_cons], ?_, by rw [← Nat.add_assoc]; exact q2, ?_⟩
    · intro y hy
      rcases List.mem_cons.mp hy with rfl | hy
      · exact s1
      · exact s2 y hy
    · rw [lcGo_cons]
      simp only [Tg.put, bYes_ok, e1, e2, List.set_set]
theorem ev_of_st {k n : Nat} {M : Mem} {p : List D} {l : List Nat} (hM : M[n]? = some (.lst p)) (hp : Pot k p) (hk : k < 100000) (h0 : l ≠ []) (hl : l.length ≤ 1000) : ∃ c ∈ l, ∃ p', Pot (k + 1) p' ∧ F_law_of [.ref n, .str (st l)] M = .ok (.str (st [c])) (M.set n (.lst p')) := by
  have h1 : 0 < l.length := List.length_pos_iff.mpr h0
  obtain ⟨r, p', hr, hp', e⟩ := ev_take hM hp hk h1 (by omega)
  refine ⟨l[r], List.getElem_mem hr, p', hp', ?_⟩
  have e1 : fLen M (.str (st l)) = some (.int (l.length : Nat)) := by rw [len_str (by rw [st_len]; unfold sizeLine; omega), st_len]
  have e2 : ∀ M, gIx M (.str (st l)) (.int (r : Nat)) = some (.str (st [l[r]])) := fun M => by
    show (if (st l).length ≤ sizeLine then (L2.atI (st l).cps.toList ((r : Nat) : Int)).map fun c => D.str ⟨#[c]⟩ else none) = _
    rw [if_pos (by rw [st_len]; unfold sizeLine; omega), st_tl]
    have : L2.atI l ((r : Nat) : Int) = some l[r] := by
      unfold L2.atI L2.ixN
      rw [if_pos (by omega), if_pos (by omega)]
      show l[r]? = _
      rw [List.getElem?_eq_getElem hr]
    rw [this]; rfl
  clear hM hp hk h0 hl hp' h1
  unfold F_law_of B_law_of
  walk_at "evh"
/-- so many signs, all right -/
def sgOk (f m : Nat) (l : List Nat) : Bool := decide (1 ≤ l.length) && decide (l.length ≤ m) && l.all fun c => okW c && decide (f ≤ c)
theorem sgOk_ok {f m : Nat} {l : List Nat} (h : sgOk f m l = true) : (∀ c ∈ l, okW c = true ∧ f ≤ c) ∧ 1 ≤ l.length ∧ l.length ≤ m := by
  unfold sgOk at h
  simp only [Bool.and_eq_true, decide_eq_true_eq, List.all_eq_true] at h
  exact ⟨h.2, h.1.1, h.1.2⟩
theorem sgOk_sgns {f : Nat} {l : List Nat} (h : sgOk f 13 l = true) : sgns f l = true := by
  obtain ⟨h1, h2, h3⟩ := sgOk_ok h
  unfold sgns
  rw [decide_eq_true h2, decide_eq_true h3]
  refine List.all_eq_true.mpr fun c hc => decide_eq_true (h1 c hc).2
theorem str_st (s : Str) : st s.cps.toList = s := by
  obtain ⟨a⟩ := s
  rfl
theorem small_num : ∀ r, r < 600 → ((fun l => sgOk 48 3 l && l.all fun c => decide (c ≤ 57)) (Str.ofString (toString ((r : Nat) : Int))).cps.toList) = true := by decide +kernel
theorem num_st {r : Nat} (h : r < 600) : ∃ l, sgOk 48 3 l = true ∧ ∀ M, fStr M (.int (r : Nat)) = some (.str (st l)) := by
  have a := small_num r h
  refine ⟨(Str.ofString (toString ((r : Nat) : Int))).cps.toList, (Bool.and_eq_true_iff.mp a).1, fun M => ?_⟩
  rw [str_st]
  show (if (((r : Nat) : Int)).natAbs.log2 < 1920 then some (D.str (Str.ofString (toString ((r : Nat) : Int)))) else none) = _
  rw [if_pos]
  have := log2_le (a := r) (n := 20) (by omega)
  show r.log2 < 1920
  omega
theorem eight_keys : ∀ d ∈ [D.str "!", .str "~", .str "l", .str "f", .str "0", .str "root", .str "n0001", .str "zzzzzzzzzzzzz"], ∃ l, sgOk 33 13 l = true ∧ d = txD l := by
  intro d hd
  simp only [List.mem_cons, List.not_mem_nil, or_false] at hd
  rcases hd with rfl | rfl | rfl | rfl | rfl | rfl | rfl | rfl
  · exact ⟨[33], by decide, rfl⟩
  · exact ⟨[126], by decide, rfl⟩
  · exact ⟨[108], by decide, rfl⟩
  · exact ⟨[102], by decide, rfl⟩
  · exact ⟨[48], by decide, rfl⟩
  · exact ⟨[114, 111, 111, 116], by decide, rfl⟩
  · exact ⟨[110, 48, 48, 48, 49], by decide, rfl⟩
  · exact ⟨[122, 122, 122, 122, 122, 122, 122, 122, 122, 122, 122, 122, 122], by decide, rfl⟩
theorem six_st : Str.ofString "abcdkz" = st [97, 98, 99, 100, 107, 122] := by decide
theorem mul_bang {M : Mem} : gMul M (.str (Str.ofString "!")) (.int 11) = some (.str (st (List.replicate 11 33))) ∧ gMul M (.str (Str.ofString "!")) (.int 0) = some (.str (st [])) := by
  constructor
  · show (if (Str.ofString "!").length ≤ 16 ∧ (11 : Int).natAbs ≤ 1048576 then some (D.str (Txt.mul (Str.ofString "!") 11)) else none) = _
    rw [if_pos ⟨by decide, by decide⟩]
    congr 2
  · show (if (Str.ofString "!").length ≤ 16 ∧ (0 : Int).natAbs ≤ 1048576 then some (D.str (Txt.mul (Str.ofString "!") 0)) else none) = _
    rw [if_pos ⟨by decide, by decide⟩]
    congr 2
theorem add_st {M : Mem} {a b : List Nat} (h : a.length + b.length ≤ 100000) : gAdd M (.str (st a)) (.str (st b)) = some (.str (st (a ++ b))) := by
  show (if (st a).length + (st b).length ≤ sizeLine then some (D.str (st a ++ st b)) else none) = _
  rw [if_pos (by rw [st_len, st_len]; unfold sizeLine; omega), st_app]
theorem key_made {c r : Nat} {t : List Nat} {b : Bool} (hc : c ∈ [97, 98, 99, 100, 107, 122]) (hr : r < 9) (ht : t = if b = true then List.replicate 11 33 else []) : sgOk 33 13 (([c] ++ [48 + r]) ++ t) = true := by
  have key : ∀ c ∈ [97, 98, 99, 100, 107, 122], ∀ r, r < 9 → ∀ b : Bool, sgOk 33 13 (([c] ++ [48 + r]) ++ (if b = true then List.replicate 11 33 else [])) = true := by decide +kernel
  rw [ht]
  exact key c hc r hr b
theorem dig_st {r : Nat} {M : Mem} (h : r < 9) : fStr M (.int (r : Nat)) = some (.str (st [48 + r])) := by
  have a : ∀ r, r < 9 → Str.ofString (toString ((r : Nat) : Int)) = st [48 + r] := by decide +kernel
  show (if (((r : Nat) : Int)).natAbs.log2 < 1920 then some (D.str (Str.ofString (toString ((r : Nat) : Int)))) else none) = _
  rw [if_pos, a r h]
  have := log2_le (a := r) (n := 20) (by omega)
  show r.log2 < 1920
  omega
theorem ev_key_drawn {k n : Nat} {M : Mem} {p : List D} (hM : M[n]? = some (.lst p)) (hp : Pot k p) (hk : k < 90000) : ∃ l p', sgOk 33 13 l = true ∧ Pot (k + 3) p' ∧ F_law_map_key_drawn [.ref n] M = .ok (txD l) (M.set n (.lst p')) := by
  obtain ⟨r, p1, hr, q1, t1⟩ := ev_take (u := 8) hM hp (by omega) (by omega) (by omega)
  have hM1 := get_set (d := .lst p1) hM
  replace t1 : F_law_take [.ref n, .int 8] M = .ok (.int (r : Nat)) (M.set n (.lst p1)) := t1
  by_cases h0 : r = 0
  · subst h0
    obtain ⟨d, hd, p2, q2, t2⟩ := ev_of (ds := [D.str "!", .str "~", .str "l", .str "f", .str "0", .str "root", .str "n0001", .str "zzzzzzzzzzzzz"]) hM1 q1 (by omega) (by simp) (by simp)
    rw [List.set_set] at t2
    obtain ⟨l, hl, rfl⟩ := eight_keys d hd
    have c1 : (((0 : Nat) : Int) = 0) = True := eq_true rfl
    refine ⟨l, p2, hl, q2.mono (by omega), ?_⟩
    clear hM hp hk q1 hM1 hr hd q2 hl
    unfold F_law_map_key_drawn B_law_map_key_drawn
    walk_at "evh"
  · have c1 : (((r : Nat) : Int) = 0) = False := eq_false (by omega)
    obtain ⟨c, hc, p2, q2, t2⟩ := ev_of_st (l := [97, 98, 99, 100, 107, 122]) hM1 q1 (by omega) (by simp) (by simp)
    rw [List.set_set, ← six_st] at t2
    have hM2 := get_set (d := .lst p2) hM
    obtain ⟨r2, p3, hr2, q3, t3⟩ := ev_take (u := 9) hM2 q2 (by omega) (by omega) (by omega)
    rw [List.set_set] at t3
    replace t3 : F_law_take [.ref n, .int 9] (M.set n (.lst p2)) = .ok (.int (r2 : Nat)) (M.set n (.lst p3)) := t3
    have e1 : ∀ M, fStr M (.int (r2 : Nat)) = some (.str (st [48 + r2])) := fun M => dig_st hr2
    have e2 : ∀ M, gAdd M (.str (st [c])) (.str (st [48 + r2])) = some (.str (st ([c] ++ [48 + r2]))) := fun M => add_st (by simp)
    have m1 : ∀ M, gMul M (.str (Str.ofString "!")) (.int 11) = some (.str (st (List.replicate 11 33))) := fun M => mul_bang.1
    have m0 : ∀ M, gMul M (.str (Str.ofString "!")) (.int 0) = some (.str (st [])) := fun M => mul_bang.2
    have i1 : ∀ M, fInt M (.bl true) = some (.int 1) := fun _ => rfl
    have i0 : ∀ M, fInt M (.bl false) = some (.int 0) := fun _ => rfl
    have n1 : ∀ M, gMul M (.int 11) (.int 1) = some (.int 11) := fun M => by rw [mul_ok (by decide)]; rfl
    have n0 : ∀ M, gMul M (.int 11) (.int 0) = some (.int 0) := fun M => by rw [mul_ok (by decide)]; rfl
    by_cases h1 : r = 1
    · subst h1
      have c2 : (((1 : Nat) : Int) = 1) = True := eq_true rfl
      have e3 : ∀ M, gAdd M (.str (st ([c] ++ [48 + r2]))) (.str (st (List.replicate 11 33))) = some (.str (st ([c] ++ [48 + r2] ++ List.replicate 11 33))) := fun M => add_st (by simp)
      refine ⟨_, p3, key_made (b := true) hc hr2 rfl, q3.mono (by omega), ?_⟩
      generalize [c] ++ [48 + r2] = W at *
      rw [if_pos rfl]
      generalize List.replicate 11 33 = R11 at *
      clear hM hp hk q1 hM1 hr q2 hM2 hr2 q3 h0 hc i0 n0 m0
      unfold F_law_map_key_drawn B_law_map_key_drawn txD
      walk_at "evh"
    · have c2 : (((r : Nat) : Int) = 1) = False := eq_false (by omega)
      have e3 : ∀ M, gAdd M (.str (st ([c] ++ [48 + r2]))) (.str (st [])) = some (.str (st ([c] ++ [48 + r2] ++ []))) := fun M => add_st (by simp)
      refine ⟨_, p3, key_made (b := false) hc hr2 rfl, q3.mono (by omega), ?_⟩
      rw [if_neg (by decide)]
      generalize [c] ++ [48 + r2] = W at *
      clear hM hp hk q1 hM1 hr q2 hM2 hr2 q3 h0 hc h1 i1 n1 m1
      unfold F_law_map_key_drawn B_law_map_key_drawn txD
      walk_at "evh"
theorem eight_values : ∀ d ∈ [D.str "one", .str " ", .str "6", .str "-1", .str "two words", .str "l", .str "~~~~~~~~~~~~~", .str "f 2 2"], ∃ l, sgOk 32 13 l = true ∧ d = txD l := by
  intro d hd
  simp only [List.mem_cons, List.not_mem_nil, or_false] at hd
  rcases hd with rfl | rfl | rfl | rfl | rfl | rfl | rfl | rfl
  · exact ⟨[111, 110, 101], by decide, rfl⟩
  · exact ⟨[32], by decide, rfl⟩
  · exact ⟨[54], by decide, rfl⟩
  · exact ⟨[45, 49], by decide, rfl⟩
  · exact ⟨[116, 119, 111, 32, 119, 111, 114, 100, 115], by decide, rfl⟩
  · exact ⟨[108], by decide, rfl⟩
  · exact ⟨[126, 126, 126, 126, 126, 126, 126, 126, 126, 126, 126, 126, 126], by decide, rfl⟩
  · exact ⟨[102, 32, 50, 32, 50], by decide, rfl⟩
theorem sgOk_mono {f g m k : Nat} {l : List Nat} (h : sgOk f m l = true) (hf : g ≤ f) (hm : m ≤ k) : sgOk g k l = true := by
  obtain ⟨h1, h2, h3⟩ := sgOk_ok h
  unfold sgOk
  rw [decide_eq_true h2, decide_eq_true (Nat.le_trans h3 hm)]
  refine List.all_eq_true.mpr fun c hc => ?_
  rw [(h1 c hc).1, decide_eq_true (Nat.le_trans hf (h1 c hc).2)]; rfl
theorem ev_value_drawn {k n : Nat} {M : Mem} {p : List D} (hM : M[n]? = some (.lst p)) (hp : Pot k p) (hk : k < 90000) : ∃ l p', sgOk 32 13 l = true ∧ Pot (k + 2) p' ∧ F_law_map_value_drawn [.ref n] M = .ok (txD l) (M.set n (.lst p')) := by
  obtain ⟨r, p1, hr, q1, t1⟩ := ev_take (u := 2) hM hp (by omega) (by omega) (by omega)
  have hM1 := get_set (d := .lst p1) hM
  replace t1 : F_law_take [.ref n, .int 2] M = .ok (.int (r : Nat)) (M.set n (.lst p1)) := t1
  by_cases h0 : r = 0
  · subst h0
    obtain ⟨d, hd, p2, q2, t2⟩ := ev_of (ds := [D.str "one", .str " ", .str "6", .str "-1", .str "two words", .str "l", .str "~~~~~~~~~~~~~", .str "f 2 2"]) hM1 q1 (by omega) (by simp) (by simp)
    rw [List.set_set] at t2
    obtain ⟨l, hl, rfl⟩ := eight_values d hd
    have c1 : (((0 : Nat) : Int) = 0) = True := eq_true rfl
    refine ⟨l, p2, hl, q2.mono (by omega), ?_⟩
    clear hM hp hk q1 hM1 hr hd q2 hl
    unfold F_law_map_value_drawn B_law_map_value_drawn
    walk_at "evh"
  · have c1 : (((r : Nat) : Int) = 0) = False := eq_false (by omega)
    obtain ⟨r2, p2, hr2, q2, t2⟩ := ev_take (u := 99) hM1 q1 (by omega) (by omega) (by omega)
    rw [List.set_set] at t2
    replace t2 : F_law_take [.ref n, .int 99] (M.set n (.lst p1)) = .ok (.int (r2 : Nat)) (M.set n (.lst p2)) := t2
    obtain ⟨l, hl, e1⟩ := num_st (show r2 < 600 by omega)
    refine ⟨l, p2, sgOk_mono hl (by omega) (by omega), q2.mono (by omega), ?_⟩
    clear hM hp hk q1 hM1 hr hr2 q2 h0 hl
    unfold F_law_map_value_drawn B_law_map_value_drawn txD
    walk_at "evh"
end Lw
end

section
set_option Elab.async false
set_option linter.all false
set_option maxRecDepth 100000
set_option maxHeartbeats 4000000
namespace Lw
open PySem Wn
local macro_rules | `(tactic| walk_at "ev") => `(tactic| simp only [fnDef, fnOf, denSL, denS, den, denL, denB, denI, sSeq, sAsg, sRet, sRetN, sEx, sIf, sFor, sPar, sSet, sPass, sBrk, sCnt, bndS, bnd, Wn.ret, stuck, opt, eVar, eCst, eOp, eCall, eChain, bTru, bNot, bAnd, bOr, eOr, eAnd, eNot, eIf, lNil, lCons, eTup, eLst, eCell, eMt, eMl, eSl, oNo, oAt, eNeg, eLc, lcRun, fnDo, startE, fin, Tg.put, TgL.puts, isS_ite, if_le_sz, lstX_lst, lstOf_lst, add_int, sub_int, eq_int, ne_int, le_int, lt_int, gt_int, ge_int, is_non, isnot_non, isNon, asTru, truD, iArg, wipeE,
  List.map_cons, List.map_nil, List.length_cons, List.length_nil, List.getElem?_cons_zero, List.getElem?_cons_succ, List.set_cons_zero, List.set_cons_succ, List.getD_cons_zero, List.getD_cons_succ, List.cons_append, List.nil_append, List.replicate_succ, List.replicate_zero, Nat.zero_add, Nat.sub_self, Nat.add_one_sub_one, Nat.reduceAdd, Nat.reduceSub, Nat.reduceLeDiff, Nat.reduceEqDiff, if_true, if_false, Bool.false_eq_true, Bool.not_true, Bool.not_false, decide_true, decide_false, g1, g2, List.zip_cons_cons, List.zip_nil_right, List.foldl_cons, List.foldl_nil,
  mIndex, mJoin, mSplit, tStr, tIntS, mAppend, mExtend, mGet, eMd, eDcp, gDcp, sSetA, setA, eRv, eSst, eStp, eDsp, eLzp, fnDoP, bMinL, bLen, bAbs, bMax, bMin, bSum, bAll, bAny, bOrd, bRepr, bIsi, tInt, tTup, tLst, nInt, nStr, nBool, nTup, nLst, oAdd, oSub, oMul, oMod, oDiv, oPow, cEq, cNe, cLt, cLe, cGt, cGe, cIn, cNi, cIs, cIn', Option.some_or, Option.or_none, Option.none_or])
local macro_rules | `(tactic| walk_at "evh") => `(tactic| simp only [*, fnDef, fnOf, denSL, denS, den, denL, denB, denI, sSeq, sAsg, sRet, sRetN, sEx, sIf, sFor, sPar, sSet, sPass, sBrk, sCnt, bndS, bnd, Wn.ret, stuck, opt, eVar, eCst, eOp, eCall, eChain, bTru, bNot, bAnd, bOr, eOr, eAnd, eNot, eIf, lNil, lCons, eTup, eLst, eCell, eMt, eMl, eSl, oNo, oAt, eNeg, eLc, lcRun, fnDo, startE, fin, Tg.put, TgL.puts, isS_ite, if_le_sz, lstX_lst, lstOf_lst, add_int, sub_int, eq_int, ne_int, le_int, lt_int, gt_int, ge_int, is_non, isnot_non, isNon, asTru, truD, iArg, wipeE,
  List.map_cons, List.map_nil, List.length_cons, List.length_nil, List.getElem?_cons_zero, List.getElem?_cons_succ, List.set_cons_zero, List.set_cons_succ, List.getD_cons_zero, List.getD_cons_succ, List.cons_append, List.nil_append, List.replicate_succ, List.replicate_zero, Nat.zero_add, Nat.sub_self, Nat.add_one_sub_one, Nat.reduceAdd, Nat.reduceSub, Nat.reduceLeDiff, Nat.reduceEqDiff, if_true, if_false, Bool.false_eq_true, Bool.not_true, Bool.not_false, decide_true, decide_false, g1, g2, List.zip_cons_cons, List.zip_nil_right, List.foldl_cons, List.foldl_nil,
  mIndex, mJoin, mSplit, tStr, tIntS, mAppend, mExtend, mGet, eMd, eDcp, gDcp, sSetA, setA, eRv, eSst, eStp, eDsp, eLzp, fnDoP, bMinL, bLen, bAbs, bMax, bMin, bSum, bAll, bAny, bOrd, bRepr, bIsi, tInt, tTup, tLst, nInt, nStr, nBool, nTup, nLst, oAdd, oSub, oMul, oMod, oDiv, oPow, cEq, cNe, cLt, cLe, cGt, cGe, cIn, cNi, cIs, cIn', Option.some_or, Option.or_none, Option.none_or])
/-! ### a drawn sheet -/
def kdS (leaf : Bool) : Str := if leaf = true then "leaf" else "fork"
def intP (d : D) : Prop := ∃ (i : Nat) (W : List Nat), i ≤ 10000000000 ∧ sgOk 32 13 W = true ∧ (∀ M, fStr M (.int (i : Nat)) = some (txD W)) ∧ d = .int (i : Nat)
def entS (leaf : Bool) (e : List Nat × D) : Prop := sgOk 33 13 e.1 = true ∧ if leaf = true then ∃ v, sgOk 32 13 v = true ∧ e.2 = txD v else intP e.2 ∨ ∃ j : Nat, j < 5 ∧ e.2 = .tup [.str "new", .int (j : Nat)]
theorem kd_eq (leaf : Bool) {M : Mem} : gEq M (.str (kdS leaf)) (.str "leaf") = some (.bl leaf) := by
  cases leaf
  · exact fork_ne
  · exact leaf_eq
theorem kd_eq2 (leaf : Bool) {M : Mem} : gEq M (.str (kdS leaf)) (.str "fork") = some (.bl (!leaf)) := by
  cases leaf
  · show gEq M (.str "fork") (.str "fork") = _
    rw [gEq_str (by decide +kernel) (by decide +kernel)]; rfl
  · show gEq M (.str "leaf") (.str "fork") = _
    rw [gEq_str (by decide +kernel) (by decide +kernel)]; rfl
theorem fix_num {i : Nat} {W : List Nat} (h : i ≤ 10000000000) (hs : sgOk 32 13 W = true) (e : Str.ofString (toString ((i : Nat) : Int)) = st W) : intP (.int (i : Nat)) := by
  refine ⟨i, W, h, hs, fun M => ?_, rfl⟩
  show (if (((i : Nat) : Int)).natAbs.log2 < 1920 then some (D.str (Str.ofString (toString ((i : Nat) : Int)))) else none) = _
  rw [if_pos, e]; rfl
  have := log2_le (a := i) (n := 50) (by omega)
  show i.log2 < 1920
  omega
theorem five_ints : ∀ d ∈ [D.int 0, .int 7, .int 12, .int 511, .int 10000000000], intP d := by
  intro d hd
  simp only [List.mem_cons, List.not_mem_nil, or_false] at hd
  rcases hd with rfl | rfl | rfl | rfl | rfl
  · exact fix_num (i := 0) (W := [48]) (by omega) (by decide) (by decide +kernel)
  · exact fix_num (i := 7) (W := [55]) (by omega) (by decide) (by decide +kernel)
  · exact fix_num (i := 12) (W := [49, 50]) (by omega) (by decide) (by decide +kernel)
  · exact fix_num (i := 511) (W := [53, 49, 49]) (by omega) (by decide) (by decide +kernel)
  · exact fix_num (i := 10000000000) (W := [49, 48, 48, 48, 48, 48, 48, 48, 48, 48, 48]) (by omega) (by decide) (by decide +kernel)
theorem sheet_turn {k n : Nat} {M : Mem} {p E : List D} {leaf : Bool} {kk : List Nat} {x2 a5 a6 a7 : Option D} (hM : M[n]? = some (.lst p)) (hp : Pot k p) (hk : k < 80000) (hE : E.length ≤ 900) (hkk : sgOk 33 13 kk = true) :
    ∃ (d : D) (p' : List D) (b5 b6 : Option D), entS leaf (kk, d) ∧ Pot (k + 5) p' ∧ denSL [F_law_of, F_law_map_key_drawn, F_law_take, F_law_map_value_drawn] L1_law_sheet [some (.ref n), some (.str (kdS leaf)), x2, some (.ref M.length), some (txD kk), a5, a6, a7] (M ++ [.lst E]) = .nx [some (.ref n), some (.str (kdS leaf)), x2, some (.ref M.length), some (txD kk), b5, b6, a7] (M.set n (.lst p') ++ [.lst (E ++ [ent (kk, d)])]) := by
  have hlen : ∀ c : Cell, (M.set n c).length = M.length := fun c => List.length_set
  have gt : ∀ q : List D, (M.set n (.lst q) ++ [Cell.lst E])[n]? = some (.lst q) := fun q => get_app (get_set hM)
  have st2 : ∀ q q' : List D, (M.set n (.lst q) ++ [Cell.lst E]).set n (.lst q') = M.set n (.lst q') ++ [.lst E] := fun q q' => by rw [set_app (get_set hM), List.set_set]
  have isl : ∀ q : List D, isL (M.set n (.lst q) ++ [.lst E]) (.ref M.length) = true := fun q => by rw [← hlen (.lst q)]; exact isL_ref get_end
  have ner : ∀ (d : D) (M : Mem), noErr (.ok d M : Res D) = .ok d M := fun _ _ => rfl
  have ap : ∀ (q : List D) (x : D), fAppend (.ref M.length) [x] (M.set n (.lst q) ++ [.lst E]) = .ok .non (M.set n (.lst q) ++ [.lst (E ++ [x])]) := fun q x => by rw [← hlen (.lst q)]; exact app_end (by omega)
  have eqk : ∀ M, gEq M (.str (kdS leaf)) (.str "leaf") = some (.bl leaf) := fun M => kd_eq leaf
  have pw : ∀ M, gPow M (.int 10) (.int 10) = some (.int 10000000000) := fun M => by
    show (if 0 ≤ (10 : Int) ∧ (10 : Int).natAbs ≤ 1000 ∧ Nat.log2 10 < 10000 then some (D.int ((10 : Int) ^ (10 : Int).toNat)) else none) = _
    rw [if_pos ⟨by decide, by decide, by decide +kernel⟩]; rfl
  obtain ⟨r, p1, hr, q1, t1⟩ := ev_take (u := 3) (get_app (d := .lst E) hM) hp (by omega) (by omega) (by omega)
  rw [set_app hM] at t1
  replace t1 : F_law_take [.ref n, .int 3] (M ++ [.lst E]) = .ok (.int (r : Nat)) (M.set n (.lst p1) ++ [.lst E]) := t1
  have hc : ∃ (c : D) (p2 : List D), (intP c ∨ ∃ j : Nat, j < 5 ∧ c = .tup [.str "new", .int (j : Nat)]) ∧ Pot (k + 3) p2 ∧ ((r = 0 ∧ ∃ j : Nat, c = .tup [.str "new", .int (j : Nat)] ∧ F_law_take [.ref n, .int 5] (M.set n (.lst p1) ++ [.lst E]) = .ok (.int (j : Nat)) (M.set n (.lst p2) ++ [.lst E])) ∨ (r ≠ 0 ∧ F_law_of [.ref n, .lst [D.int 0, .int 7, .int 12, .int 511, .int 10000000000]] (M.set n (.lst p1) ++ [.lst E]) = .ok c (M.set n (.lst p2) ++ [.lst E]))) := by
    by_cases h0 : r = 0
    · obtain ⟨j, p2, hj, q2, t2⟩ := ev_take (u := 5) (gt p1) q1 (by omega) (by omega) (by omega)
      rw [st2] at t2
      exact ⟨_, p2, .inr ⟨j, hj, rfl⟩, q2.mono (by omega), .inl ⟨h0, j, rfl, t2⟩⟩
    · obtain ⟨c, hc, p2, q2, t2⟩ := ev_of (ds := [D.int 0, .int 7, .int 12, .int 511, .int 10000000000]) (gt p1) q1 (by omega) (by simp) (by simp)
      rw [st2] at t2
      exact ⟨c, p2, .inl (five_ints c hc), q2.mono (by omega), .inr ⟨h0, t2⟩⟩
  obtain ⟨c, p2, hcs, q2, t2⟩ := hc
  have hd : ∃ (d : D) (p3 : List D), entS leaf (kk, d) ∧ Pot (k + 5) p3 ∧ ((leaf = true ∧ F_law_map_value_drawn [.ref n] (M.set n (.lst p2) ++ [.lst E]) = .ok d (M.set n (.lst p3) ++ [.lst E])) ∨ (leaf = false ∧ d = c ∧ p3 = p2)) := by
    cases leaf with
    | true =>
      obtain ⟨v, p3, hv, q3, t3⟩ := ev_value_drawn (gt p2) q2 (by omega)
      rw [st2] at t3
      exact ⟨txD v, p3, ⟨hkk, ⟨v, hv, rfl⟩⟩, q3.mono (by omega), .inl ⟨rfl, t3⟩⟩
    | false => exact ⟨c, p2, ⟨hkk, hcs⟩, q2.mono (by omega), .inr ⟨rfl, rfl, rfl⟩⟩
  obtain ⟨d, p3, hds, q3, t3⟩ := hd
  refine ⟨d, p3, some (.int (r : Nat)), some c, hds, q3, ?_⟩
  have ee : ent (kk, d) = .tup [txD kk, d] := rfl
  generalize txD kk = KD at *
  clear gt st2 hM hp hk hE hkk hr q1 hcs q2 hds q3 hlen
  rcases t2 with ⟨h0, j, rfl, t2⟩ | ⟨h0, t2⟩
  · have c1 : (((r : Nat) : Int) = 0) = True := eq_true (by omega)
    rcases t3 with ⟨rfl, t3⟩ | ⟨rfl, rfl, rfl⟩
    · clear h0
      unfold L1_law_sheet
      walk_at "evh"
    · clear h0
      unfold L1_law_sheet
      walk_at "evh"
  · have c1 : (((r : Nat) : Int) = 0) = False := eq_false (by omega)
    rcases t3 with ⟨rfl, t3⟩ | ⟨rfl, rfl, rfl⟩
    · clear h0
      unfold L1_law_sheet
      walk_at "evh"
    · clear h0
      unfold L1_law_sheet
      walk_at "evh"
theorem sheet_loop {leaf : Bool} {n : Nat} {x2 a7 : Option D} : ∀ (ks : List (List Nat)) (es : List (List Nat × D)) (M : Mem) (p : List D) (k : Nat) (a4 a5 a6 : Option D), (∀ l ∈ ks, sgOk 33 13 l = true) → M[n]? = some (.lst p) → Pot k p → k + 5 * ks.length < 80000 → es.length + ks.length ≤ 800 →
    ∃ (es' : List (List Nat × D)) (p' : List D) (b4 b5 b6 : Option D), es'.map (·.1) = ks ∧ (∀ e ∈ es', entS leaf e) ∧ Pot (k + 5 * ks.length) p' ∧ forGo (.nm 4) (denSL [F_law_of, F_law_map_key_drawn, F_law_take, F_law_map_value_drawn] L1_law_sheet) (ks.map txD) [some (.ref n), some (.str (kdS leaf)), x2, some (.ref M.length), a4, a5, a6, a7] (M ++ [.lst (es.map ent)]) = .nx [some (.ref n), some (.str (kdS leaf)), x2, some (.ref M.length), b4, b5, b6, a7] (M.set n (.lst p') ++ [.lst ((es ++ es').map ent)])
  | [], es, M, p, k, a4, a5, a6, _, hM, hp, _, _ => ⟨[], p, a4, a5, a6, rfl, (by intro e he; cases he), hp, by rw [set_same hM, List.append_nil]; rfl⟩
  | kk :: ks, es, M, p, k, a4, a5, a6, hks, hM, hp, hk, hl => by
    have hw : 5 * (kk :: ks).length = 5 + 5 * ks.length := by rw [List.length_cons]; omega
    rw [hw] at hk ⊢
    rw [List.length_cons] at hl
    obtain ⟨d, p1, b5, b6, s1, q1, t1⟩ := sheet_turn (leaf := leaf) (x2 := x2) (a5 := a5) (a6 := a6) (a7 := a7) (E := es.map ent) hM hp (by omega) (by rw [List.length_map]; omega) (hks kk (List.mem_cons_self ..))
    have ee : es.map ent ++ [ent (kk, d)] = (es ++ [(kk, d)]).map ent := by rw [List.map_append]; rfl
    rw [ee] at t1
    have hlen : (M.set n (.lst p1)).length = M.length := List.length_set
    obtain ⟨es', p2, c4, c5, c6, s2, s3, q2, t2⟩ := sheet_loop (leaf := leaf) (n := n) (x2 := x2) (a7 := a7) ks (es ++ [(kk, d)]) (M.set n (.lst p1)) p1 (k + 5) (some (txD kk)) b5 b6 (fun l hm => hks l (List.mem_cons_of_mem _ hm)) (get_set hM) q1 (by omega) (by rw [List.length_append, List.length_singleton]; omega)
    rw [hlen, List.set_set] at t2
    refine ⟨(kk, d) :: es', p2, c4, c5, c6, by rw [List.map_cons, s2], ?_, by rw [← Nat.add_assoc]; exact q2, ?_⟩
    · intro e he
      rcases List.mem_cons.mp he with rfl | he
      · exact s1
      · exact s3 e he
    · rw [List.map_cons, for_nx (δ1 := [some (.ref n), some (.str (kdS leaf)), x2, some (.ref M.length), some (txD kk), a5, a6, a7]) rfl t1, t2]
      rw [List.append_assoc]; rfl
theorem insU_len (x : Str) : ∀ l : List Str, (insU x l).length ≤ l.length + 1
  | [] => by simp [insU]
  | y :: l => by
    have ih := insU_len x l
    unfold insU
    split
    · simp
    · split
      · simp only [List.length_cons]; omega
      · simp only [List.length_cons]; omega
theorem srtU_len : ∀ l : List Str, (srtU l).length ≤ l.length
  | [] => Nat.le_refl _
  | x :: l => by
    have ih := srtU_len l
    have := insU_len x (srtU l)
    show (insU x (srtU l)).length ≤ l.length + 1
    omega
theorem srt_words {ls : List (List Nat)} : ∃ ks : List (List Nat), srtU (ls.map st) = ks.map st ∧ ascB ks = true ∧ (∀ k ∈ ks, k ∈ ls) ∧ ks.length ≤ ls.length ∧ (ls ≠ [] → ks ≠ []) := by
  refine ⟨(srtU (ls.map st)).map fun s => s.cps.toList, ?_, ?_, ?_, ?_, ?_⟩
  · rw [List.map_map]
    conv => lhs; rw [← List.map_id (srtU (ls.map st))]
    refine List.map_congr_left fun s _ => ?_
    exact (str_st s).symm
  · rw [ascB_iff, List.map_map]
    have : (srtU (ls.map st)).map (st ∘ fun s : Str => s.cps.toList) = srtU (ls.map st) := by
      conv => rhs; rw [← List.map_id (srtU (ls.map st))]
      exact List.map_congr_left fun s _ => str_st s
    rw [this]
    exact srtU_asc _
  · intro k hk
    obtain ⟨s, hs, rfl⟩ := List.mem_map.mp hk
    obtain ⟨l, hl, rfl⟩ := List.mem_map.mp (srtU_mem.mp hs)
    rw [st_tl]; exact hl
  · rw [List.length_map]
    have := srtU_len (ls.map st)
    rw [List.length_map] at this
    exact this
  · intro hne z
    obtain ⟨l, hl⟩ := List.exists_mem_of_ne_nil ls hne
    have h1 : st l ∈ srtU (ls.map st) := srtU_mem.mpr (List.mem_map_of_mem hl)
    rw [List.map_eq_nil_iff] at z
    rw [z] at h1; cases h1
end Lw
end

section
set_option Elab.async false
set_option linter.all false
set_option maxRecDepth 100000
set_option maxHeartbeats 4000000
namespace Lw
open PySem Wn
local macro_rules | `(tactic| walk_at "ev") => `(tactic| simp only [fnDef, fnOf, denSL, denS, den, denL, denB, denI, sSeq, sAsg, sRet, sRetN, sEx, sIf, sFor, sPar, sSet, sPass, sBrk, sCnt, bndS, bnd, Wn.ret, stuck, opt, eVar, eCst, eOp, eCall, eChain, bTru, bNot, bAnd, bOr, eOr, eAnd, eNot, eIf, lNil, lCons, eTup, eLst, eCell, eMt, eMl, eSl, oNo, oAt, eNeg, eLc, lcRun, fnDo, startE, fin, Tg.put, TgL.puts, isS_ite, if_le_sz, lstX_lst, lstOf_lst, add_int, sub_int, eq_int, ne_int, le_int, lt_int, gt_int, ge_int, is_non, isnot_non, isNon, asTru, truD, iArg, wipeE,
  List.map_cons, List.map_nil, List.length_cons, List.length_nil, List.getElem?_cons_zero, List.getElem?_cons_succ, List.set_cons_zero, List.set_cons_succ, List.getD_cons_zero, List.getD_cons_succ, List.cons_append, List.nil_append, List.replicate_succ, List.replicate_zero, Nat.zero_add, Nat.sub_self, Nat.add_one_sub_one, Nat.reduceAdd, Nat.reduceSub, Nat.reduceLeDiff, Nat.reduceEqDiff, if_true, if_false, Bool.false_eq_true, Bool.not_true, Bool.not_false, decide_true, decide_false, g1, g2, List.zip_cons_cons, List.zip_nil_right, List.foldl_cons, List.foldl_nil,
  mIndex, mJoin, mSplit, tStr, tIntS, mAppend, mExtend, mGet, eMd, eDcp, gDcp, sSetA, setA, eRv, eSst, eStp, eDsp, eLzp, fnDoP, bMinL, bLen, bAbs, bMax, bMin, bSum, bAll, bAny, bOrd, bRepr, bIsi, tInt, tTup, tLst, nInt, nStr, nBool, nTup, nLst, oAdd, oSub, oMul, oMod, oDiv, oPow, cEq, cNe, cLt, cLe, cGt, cGe, cIn, cNi, cIs, cIn', Option.some_or, Option.or_none, Option.none_or])
local macro_rules | `(tactic| walk_at "evh") => `(tactic| simp only [*, fnDef, fnOf, denSL, denS, den, denL, denB, denI, sSeq, sAsg, sRet, sRetN, sEx, sIf, sFor, sPar, sSet, sPass, sBrk, sCnt, bndS, bnd, Wn.ret, stuck, opt, eVar, eCst, eOp, eCall, eChain, bTru, bNot, bAnd, bOr, eOr, eAnd, eNot, eIf, lNil, lCons, eTup, eLst, eCell, eMt, eMl, eSl, oNo, oAt, eNeg, eLc, lcRun, fnDo, startE, fin, Tg.put, TgL.puts, isS_ite, if_le_sz, lstX_lst, lstOf_lst, add_int, sub_int, eq_int, ne_int, le_int, lt_int, gt_int, ge_int, is_non, isnot_non, isNon, asTru, truD, iArg, wipeE,
  List.map_cons, List.map_nil, List.length_cons, List.length_nil, List.getElem?_cons_zero, List.getElem?_cons_succ, List.set_cons_zero, List.set_cons_succ, List.getD_cons_zero, List.getD_cons_succ, List.cons_append, List.nil_append, List.replicate_succ, List.replicate_zero, Nat.zero_add, Nat.sub_self, Nat.add_one_sub_one, Nat.reduceAdd, Nat.reduceSub, Nat.reduceLeDiff, Nat.reduceEqDiff, if_true, if_false, Bool.false_eq_true, Bool.not_true, Bool.not_false, decide_true, decide_false, g1, g2, List.zip_cons_cons, List.zip_nil_right, List.foldl_cons, List.foldl_nil,
  mIndex, mJoin, mSplit, tStr, tIntS, mAppend, mExtend, mGet, eMd, eDcp, gDcp, sSetA, setA, eRv, eSst, eStp, eDsp, eLzp, fnDoP, bMinL, bLen, bAbs, bMax, bMin, bSum, bAll, bAny, bOrd, bRepr, bIsi, tInt, tTup, tLst, nInt, nStr, nBool, nTup, nLst, oAdd, oSub, oMul, oMod, oDiv, oPow, cEq, cNe, cLt, cLe, cGt, cGe, cIn, cNi, cIs, cIn', Option.some_or, Option.or_none, Option.none_or])
theorem ev_law_sheet {k n : Nat} {M : Mem} {p : List D} (hM : M[n]? = some (.lst p)) (hp : Pot k p) (hk : k < 60000) :
    ∃ (leaf : Bool) (es : List (List Nat × D)) (p' : List D), (∀ e ∈ es, entS leaf e) ∧ (if leaf = true then 1 else 2) ≤ es.length ∧ es.length ≤ 4 ∧ ascB (es.map (·.1)) = true ∧ Pot (k + 60) p' ∧ F_law_sheet [.ref n] M = .ok (shD (kdS leaf) es) (M.set n (.lst p')) := by
  obtain ⟨d0, hd0, p1, q1, t1⟩ := ev_of (ds := [D.str "leaf", .str "fork"]) hM hp (by omega) (by simp) (by simp)
  have hM1 := get_set (d := .lst p1) hM
  have hkd : ∃ leaf : Bool, d0 = .str (kdS leaf) := by
    simp only [List.mem_cons, List.not_mem_nil, or_false] at hd0
    rcases hd0 with rfl | rfl
    · exact ⟨true, rfl⟩
    · exact ⟨false, rfl⟩
  obtain ⟨leaf, rfl⟩ := hkd
  obtain ⟨xs, p2, l2, s2, q2, t2⟩ := drawsW (i := 7) (n := n) (B := 80000) (w := 3) (e := den [F_law_of, F_law_map_key_drawn, F_law_take, F_law_map_value_drawn] X1_law_sheet) (δ := [some (.ref n), some (.str (kdS leaf)), none, none, none, none, none, none]) (S := fun x => ∃ l, sgOk 33 13 l = true ∧ x = txD l) (fun M p k d hM hp hk => by
    obtain ⟨l, p', hl, hp', e⟩ := ev_key_drawn hM hp (by omega)
    refine ⟨_, p', ⟨l, hl, rfl⟩, hp', ?_⟩
    clear hM hp hk hl hp'
    unfold X1_law_sheet
    walk_at "evh") (rng 0 4) _ p1 (k + 1) hM1 q1 (by rw [rng_len]; omega)
  rw [List.set_set] at t2
  rw [rng_len] at l2 q2
  have hM2 := get_set (d := .lst p2) hM
  have hls : ∃ ls : List (List Nat), (∀ l ∈ ls, sgOk 33 13 l = true) ∧ xs = ls.map txD := by
    clear t2 l2
    induction xs with
    | nil => exact ⟨[], by simp, rfl⟩
    | cons x xs ih =>
      obtain ⟨l, hl, rfl⟩ := s2 x (List.mem_cons_self ..)
      obtain ⟨ls, h1, rfl⟩ := ih fun y hy => s2 y (List.mem_cons_of_mem _ hy)
      refine ⟨l :: ls, fun m hm => ?_, rfl⟩
      rcases List.mem_cons.mp hm with rfl | hm
      · exact hl
      · exact h1 m hm
  obtain ⟨ls, hls, rfl⟩ := hls
  rw [List.length_map] at l2
  have e1 : ∀ M, gSst M (.lst (ls.map txD)) = some (.lst ((srtU (ls.map st)).map D.str)) := fun M => sst_words (by omega)
  obtain ⟨ks, hks, hasc, hmem, hkl, hne⟩ := srt_words (ls := ls)
  rw [hks] at e1
  replace e1 : ∀ M, gSst M (.lst (ls.map txD)) = some (.lst (ks.map txD)) := fun M => by rw [e1, List.map_map]; rfl
  obtain ⟨r, p3, hr, q3, t3⟩ := ev_take (u := 4) hM2 q2 (by omega) (by omega) (by omega)
  rw [List.set_set] at t3
  replace t3 : F_law_take [.ref n, .int 4] (M.set n (.lst p2)) = .ok (.int (r : Nat)) (M.set n (.lst p3)) := t3
  have hM3 := get_set (d := .lst p3) hM
  have e2 : (1 : Int) + ((r : Nat) : Int) = ((1 + r : Nat) : Int) := by omega
  have e3 : ∀ M, gSl M (.lst (ks.map txD)) none (some ((1 + r : Nat) : Int)) = some (.lst ((ks.take (1 + r)).map txD)) := fun M => by
    show some (D.lst (cutD (ks.map txD) none (some ((1 + r : Nat) : Int)))) = _
    rw [cutD_hi, List.map_take]
  have e4 : ∀ M, fLen M (.lst ((ks.take (1 + r)).map txD)) = some (.int ((ks.take (1 + r)).length : Nat)) := fun M => by
    show some (D.int (((ks.take (1 + r)).map txD).length : Nat)) = _
    rw [List.length_map]
  have lsne : ls ≠ [] := by intro z; rw [z] at l2; simp at l2
  have kne : ks ≠ [] := hne lsne
  have klen : 1 ≤ ks.length := List.length_pos_iff.mpr kne
  have kt1 : 1 ≤ (ks.take (1 + r)).length := by rw [List.length_take]; omega
  have kt2 : (ks.take (1 + r)).length ≤ 4 := by rw [List.length_take]; omega
  have kta : ascB (ks.take (1 + r)) = true := by
    rw [ascB_iff] at hasc ⊢
    rw [List.map_take]
    exact hasc.sublist (List.take_sublist _ _)
  have ktm : ∀ l ∈ ks.take (1 + r), sgOk 33 13 l = true := fun l hl => hls l (hmem l (List.mem_of_mem_take hl))
  -- the keys in the end
  have hK : ∃ K : List (List Nat), (if leaf = true then 1 else 2) ≤ K.length ∧ K.length ≤ 4 ∧ ascB K = true ∧ (∀ l ∈ K, sgOk 33 13 l = true) ∧ ((K = ks.take (1 + r) ∧ (leaf = true ∨ ¬ ((ks.take (1 + r)).length < 2))) ∨ (leaf = false ∧ (ks.take (1 + r)).length < 2 ∧ K.map txD = [.str "a", .str "b"])) := by
    by_cases hc : leaf = false ∧ (ks.take (1 + r)).length < 2
    · exact ⟨[[97], [98]], by rw [hc.1]; decide, by decide, by decide, by decide, .inr ⟨hc.1, hc.2, rfl⟩⟩
    · refine ⟨ks.take (1 + r), ?_, kt2, kta, ktm, .inl ⟨rfl, ?_⟩⟩
      · cases leaf with
        | true => exact kt1
        | false =>
          have : ¬ (ks.take (1 + r)).length < 2 := fun z => hc ⟨rfl, z⟩
          show 2 ≤ _
          omega
      · cases leaf with
        | true => exact .inl rfl
        | false => exact .inr fun z => hc ⟨rfl, z⟩
  obtain ⟨K, K1, K2, K3, K4, hK⟩ := hK
  obtain ⟨es, p4, b4, b5, b6, s4, s5, q4, t4⟩ := sheet_loop (leaf := leaf) (n := n) (x2 := some (.lst (K.map txD))) (a7 := none) K [] (M.set n (.lst p3)) p3 (k + 1 + 3 * 4 + 1) none none none K4 hM3 q3 (by omega) (by rw [List.length_nil]; omega)
  have hlen : (M.set n (.lst p3)).length = M.length := List.length_set
  rw [hlen, List.set_set, List.nil_append] at t4
  replace t4 : forGo (.nm 4) (denSL [F_law_of, F_law_map_key_drawn, F_law_take, F_law_map_value_drawn] L1_law_sheet) (K.map txD) [some (.ref n), some (.str (kdS leaf)), some (.lst (K.map txD)), some (.ref M.length), none, none, none, none] (M.set n (.lst p3) ++ [.lst []]) = .nx [some (.ref n), some (.str (kdS leaf)), some (.lst (K.map txD)), some (.ref M.length), b4, b5, b6, none] (M.set n (.lst p4) ++ [.lst (es.map ent)]) := t4
  have eqk : ∀ M, gEq M (.str (kdS leaf)) (.str "fork") = some (.bl (!leaf)) := fun M => kd_eq2 leaf
  have fz : sFrz 3 [some (.ref n), some (.str (kdS leaf)), some (.lst (K.map txD)), some (.ref M.length), b4, b5, b6, none] (M.set n (.lst p4) ++ [.lst (es.map ent)]) = .nx [some (.ref n), some (.str (kdS leaf)), some (.lst (K.map txD)), some (.lst (es.map ent)), b4, b5, b6, none] (M.set n (.lst p4) ++ [.dead]) := by
    have h4 : (M.set n (.lst p4)).length = M.length := List.length_set
    rw [← h4]
    unfold sFrz
    simp only [List.getElem?_cons_succ, List.getElem?_cons_zero, get_end, set_end, List.set_cons_succ, List.set_cons_zero]
  have it : ∀ (ds : List D) M, itL (.lst ds) M = .ok ds M := fun _ _ => rfl
  have tp : ∀ M ds, fTuple M (.lst ds) = some (.tup ds) := fun _ _ => rfl
  have hl3 : (M.set n (.lst p3)).length = M.length := List.length_set
  have rg : ∀ M, fRng1 [.int 4] M = .ok (rng 0 4) M := fun M => fRng1_nat (n := 4) (by omega)
  have z0 : (rng 0 4).length ≤ 1000 := by rw [rng_len]; omega
  have z1 : (ls.map txD).length ≤ 1000 := by rw [List.length_map]; omega
  have cl : clos M.length (es.map ent) = true := clos_ents fun e he => by
    have := (s5 e he).2
    cases leaf with
    | true =>
      obtain ⟨v, _, e2⟩ := this
      rw [e2]; rfl
    | false =>
      rcases this with ⟨i, _, _, _, _, e2⟩ | ⟨i, _, e2⟩ <;> (rw [e2]; rfl)
  have tr : trim M (.ok (.tup [.str (kdS leaf), .tup (es.map ent)]) (M.set n (.lst p4) ++ [.dead])) = .ok (.tup [.str (kdS leaf), .tup (es.map ent)]) (M.set n (.lst p4)) := by
    obtain ⟨a, b, c, e0, h1, h2⟩ := q4
    refine trim_set ?_ ?_
    · show (true && (clos _ _ && true)) = true
      rw [cl]; rfl
    · rw [e0]; rfl
  have esl : es.length = K.length := by rw [← s4, List.length_map]
  refine ⟨leaf, es, p4, s5, by rw [esl]; exact K1, by rw [esl]; exact K2, by rw [s4]; exact K3, q4.mono (by omega), ?_⟩
  unfold shD
  generalize es.map ent = EE at *
  generalize ls.map txD = LS at *
  clear hM hp hk hd0 q1 hM1 s2 q2 l2 hM2 hls hks hasc hmem hkl hne hr q3 hM3 lsne kne klen kt1 kt2 kta ktm K1 K2 K3 K4 s4 s5 q4 hlen cl esl
  rcases hK with ⟨hK, hc⟩ | ⟨rfl, hc, hK⟩
  · rcases hc with rfl | hc
    · rw [hK] at t4 fz
      generalize (ks.take (1 + r)).map txD = KT at *
      clear hK
      unfold F_law_sheet B_law_sheet
      walk_at "evh"
    · have c1 : ((((ks.take (1 + r)).length : Nat) : Int) < 2) = False := eq_false (by omega)
      rw [hK] at t4 fz
      generalize (ks.take (1 + r)).map txD = KT at *
      generalize (ks.take (1 + r)).length = kl at *
      clear hK hc
      cases leaf
      · unfold F_law_sheet B_law_sheet
        walk_at "evh"
      · unfold F_law_sheet B_law_sheet
        walk_at "evh"
  · have c1 : ((((ks.take (1 + r)).length : Nat) : Int) < 2) = True := eq_true (by omega)
    rw [hK] at t4 fz
    generalize (ks.take (1 + r)).map txD = KT at *
    generalize (ks.take (1 + r)).length = kl at *
    clear hK hc
    unfold F_law_sheet B_law_sheet
    walk_at "evh"
end Lw
end

section
set_option Elab.async false
set_option linter.all false
set_option maxRecDepth 100000
set_option maxHeartbeats 4000000
namespace Lw
open PySem Wn
local macro_rules | `(tactic| walk_at "ev") => `(tactic| simp only [fnDef, fnOf, denSL, denS, den, denL, denB, denI, sSeq, sAsg, sRet, sRetN, sEx, sIf, sFor, sPar, sSet, sPass, sBrk, sCnt, bndS, bnd, Wn.ret, stuck, opt, eVar, eCst, eOp, eCall, eChain, bTru, bNot, bAnd, bOr, eOr, eAnd, eNot, eIf, lNil, lCons, eTup, eLst, eCell, eMt, eMl, eSl, oNo, oAt, eNeg, eLc, lcRun, fnDo, startE, fin, Tg.put, TgL.puts, isS_ite, if_le_sz, lstX_lst, lstOf_lst, add_int, sub_int, eq_int, ne_int, le_int, lt_int, gt_int, ge_int, is_non, isnot_non, isNon, asTru, truD, iArg, wipeE,
  List.map_cons, List.map_nil, List.length_cons, List.length_nil, List.getElem?_cons_zero, List.getElem?_cons_succ, List.set_cons_zero, List.set_cons_succ, List.getD_cons_zero, List.getD_cons_succ, List.cons_append, List.nil_append, List.replicate_succ, List.replicate_zero, Nat.zero_add, Nat.sub_self, Nat.add_one_sub_one, Nat.reduceAdd, Nat.reduceSub, Nat.reduceLeDiff, Nat.reduceEqDiff, if_true, if_false, Bool.false_eq_true, Bool.not_true, Bool.not_false, decide_true, decide_false, g1, g2, List.zip_cons_cons, List.zip_nil_right, List.foldl_cons, List.foldl_nil,
  mIndex, mJoin, mSplit, tStr, tIntS, mAppend, mExtend, mGet, eMd, eDcp, gDcp, sSetA, setA, eRv, eSst, eStp, eDsp, eLzp, fnDoP, bMinL, bLen, bAbs, bMax, bMin, bSum, bAll, bAny, bOrd, bRepr, bIsi, tInt, tTup, tLst, nInt, nStr, nBool, nTup, nLst, oAdd, oSub, oMul, oMod, oDiv, oPow, cEq, cNe, cLt, cLe, cGt, cGe, cIn, cNi, cIs, cIn', Option.some_or, Option.or_none, Option.none_or])
local macro_rules | `(tactic| walk_at "evh") => `(tactic| simp only [*, fnDef, fnOf, denSL, denS, den, denL, denB, denI, sSeq, sAsg, sRet, sRetN, sEx, sIf, sFor, sPar, sSet, sPass, sBrk, sCnt, bndS, bnd, Wn.ret, stuck, opt, eVar, eCst, eOp, eCall, eChain, bTru, bNot, bAnd, bOr, eOr, eAnd, eNot, eIf, lNil, lCons, eTup, eLst, eCell, eMt, eMl, eSl, oNo, oAt, eNeg, eLc, lcRun, fnDo, startE, fin, Tg.put, TgL.puts, isS_ite, if_le_sz, lstX_lst, lstOf_lst, add_int, sub_int, eq_int, ne_int, le_int, lt_int, gt_int, ge_int, is_non, isnot_non, isNon, asTru, truD, iArg, wipeE,
  List.map_cons, List.map_nil, List.length_cons, List.length_nil, List.getElem?_cons_zero, List.getElem?_cons_succ, List.set_cons_zero, List.set_cons_succ, List.getD_cons_zero, List.getD_cons_succ, List.cons_append, List.nil_append, List.replicate_succ, List.replicate_zero, Nat.zero_add, Nat.sub_self, Nat.add_one_sub_one, Nat.reduceAdd, Nat.reduceSub, Nat.reduceLeDiff, Nat.reduceEqDiff, if_true, if_false, Bool.false_eq_true, Bool.not_true, Bool.not_false, decide_true, decide_false, g1, g2, List.zip_cons_cons, List.zip_nil_right, List.foldl_cons, List.foldl_nil,
  mIndex, mJoin, mSplit, tStr, tIntS, mAppend, mExtend, mGet, eMd, eDcp, gDcp, sSetA, setA, eRv, eSst, eStp, eDsp, eLzp, fnDoP, bMinL, bLen, bAbs, bMax, bMin, bSum, bAll, bAny, bOrd, bRepr, bIsi, tInt, tTup, tLst, nInt, nStr, nBool, nTup, nLst, oAdd, oSub, oMul, oMod, oDiv, oPow, cEq, cNe, cLt, cLe, cGt, cGe, cIn, cNi, cIs, cIn', Option.some_or, Option.or_none, Option.none_or])
/-! ### the words of a sheet -/
/-- the word W stands for what d tells, with these places -/
def wordP (leaf : Bool) (ps : List D) (d : D) (W : List Nat) : Prop := sgOk 32 13 W = true ∧ ((leaf = true ∧ d = txD W) ∨ (leaf = false ∧ ((∃ i : Int, d = .int i ∧ ∀ M, fStr M (.int i) = some (txD W)) ∨ ∃ j r : Int, d = .tup [.str "new", .int j] ∧ (∀ M, gIx M (.tup ps) (.int j) = some (.int r)) ∧ ∀ M, fStr M (.int r) = some (txD W))))
theorem word_of {leaf : Bool} {rs : List Nat} {e : List Nat × D} (h : entS leaf e) (h5 : rs.length = 5) (hr : ∀ r ∈ rs, r < 600) : ∃ W, wordP leaf (rs.map fun r => D.int ((r : Nat) : Int)) e.2 W := by
  obtain ⟨_, h⟩ := h
  cases leaf with
  | true =>
    obtain ⟨v, hv, e2⟩ := h
    exact ⟨v, hv, .inl ⟨rfl, e2⟩⟩
  | false =>
    rcases h with ⟨i, W, _, h1, h2, e2⟩ | ⟨j, hj, e2⟩
    · exact ⟨W, h1, .inr ⟨rfl, .inl ⟨_, e2, h2⟩⟩⟩
    · have hj2 : j < rs.length := by omega
      obtain ⟨W, h1, h2⟩ := num_st (hr rs[j] (List.getElem_mem hj2))
      refine ⟨W, sgOk_mono h1 (by omega) (by omega), .inr ⟨rfl, .inr ⟨(j : Nat), (rs[j] : Nat), e2, fun M => ?_, h2⟩⟩⟩
      show L2.atI (rs.map fun r => D.int ((r : Nat) : Int)) ((j : Nat) : Int) = _
      unfold L2.atI L2.ixN
      rw [if_pos (by omega), if_pos (by rw [List.length_map]; omega)]
      show (rs.map fun r => D.int ((r : Nat) : Int))[j]? = _
      rw [List.getElem?_map, List.getElem?_eq_getElem hj2]; rfl
/-- entries with their words -/
abbrev EW := (List Nat × D) × List Nat
def wordsOf (xs : List EW) : List (List Nat) := xs.flatMap fun x => [x.1.1, x.2]
theorem ext_end {M J : Mem} {W : List D} {a b : D} (h : W.length ≤ 900) : fExtend (.ref M.length) [.ref (M ++ Cell.lst W :: J).length] ((M ++ Cell.lst W :: J) ++ [.lst [a, b]]) = .ok .non (M ++ Cell.lst (W ++ [a, b]) :: (J ++ [.lst [a, b]])) := by
  have e1 : ((M ++ Cell.lst W :: J) ++ [.lst [a, b]])[M.length]? = some (Cell.lst W) := by
    rw [List.append_assoc, List.getElem?_append_right (Nat.le_refl _), Nat.sub_self]; rfl
  have e2 : ((M ++ Cell.lst W :: J) ++ [Cell.lst [a, b]])[(M ++ Cell.lst W :: J).length]? = some (Cell.lst [a, b]) := get_end
  unfold fExtend
  simp only [e1, e2]
  rw [if_pos (by unfold sizeLine; simp; omega)]
  congr 1
  rw [List.append_assoc, List.set_append_right _ _ (Nat.le_refl _), Nat.sub_self]
  rfl
theorem isL_mid {M J : Mem} {W : List D} : isL (M ++ Cell.lst W :: J) (.ref M.length) = true := by
  refine isL_ref (ds := W) ?_
  rw [List.getElem?_append_right (Nat.le_refl _), Nat.sub_self]; rfl
theorem ix0 (a b : D) (M : Mem) : gIx M (.tup [a, b]) (.int 0) = some a := rfl
theorem ix1 (a b : D) (M : Mem) : gIx M (.tup [a, b]) (.int 1) = some b := rfl
theorem text_turn {leaf : Bool} {es : D} {ps W : List D} {M J : Mem} {kk : List Nat} {d : D} {w : List Nat} {a5 : Option D} (hw : wordP leaf ps d w) (hW : W.length ≤ 900) :
    ∃ b5 : Option D, denSL [] L1_law_text [some (.tup [.str (kdS leaf), es]), some (.tup ps), some (.ref M.length), some (txD kk), some d, a5] (M ++ Cell.lst W :: J) = .nx [some (.tup [.str (kdS leaf), es]), some (.tup ps), some (.ref M.length), some (txD kk), some d, b5] (M ++ Cell.lst (W ++ [txD kk, txD w]) :: (J ++ [.lst [txD kk, txD w]])) := by
  have v0 := ix0
  have v1 := ix1
  have eqk : ∀ M, gEq M (.str (kdS leaf)) (.str "leaf") = some (.bl leaf) := fun M => kd_eq leaf
  have isl : isL (M ++ Cell.lst W :: J) (.ref M.length) = true := isL_mid
  have ner : ∀ (d : D) (M : Mem), noErr (.ok d M : Res D) = .ok d M := fun _ _ => rfl
  have ex : fExtend (.ref M.length) [.ref (M ++ Cell.lst W :: J).length] ((M ++ Cell.lst W :: J) ++ [.lst [txD kk, txD w]]) = .ok .non (M ++ Cell.lst (W ++ [txD kk, txD w]) :: (J ++ [.lst [txD kk, txD w]])) := ext_end hW
  generalize M ++ Cell.lst (W ++ [txD kk, txD w]) :: (J ++ [.lst [txD kk, txD w]]) = M2 at *
  generalize M ++ Cell.lst W :: J = M1 at *
  generalize txD kk = KD at *
  obtain ⟨_, ⟨rfl, rfl⟩ | ⟨rfl, ⟨i, rfl, hs⟩ | ⟨j, r, rfl, hp, hs⟩⟩⟩ := hw
  · have i1 : ∀ M, fIsi M (txD w) (.ty "tuple") = some (.bl false) := fun _ => rfl
    refine ⟨some (txD w), ?_⟩
    generalize txD w = WD at *
    clear hW
    unfold L1_law_text
    walk_at "evh"
  · have i1 : ∀ M, fIsi M (.int i) (.ty "tuple") = some (.bl false) := fun _ => rfl
    refine ⟨some (.int i), ?_⟩
    generalize txD w = WD at *
    clear hW
    unfold L1_law_text
    walk_at "evh"
  · have i1 : ∀ M, fIsi M (.tup [.str "new", .int j]) (.ty "tuple") = some (.bl true) := fun _ => rfl
    refine ⟨some (.int r), ?_⟩
    generalize txD w = WD at *
    clear hW
    unfold L1_law_text
    walk_at "evh"
theorem prog_turn {leaf : Bool} {es : D} {ps W : List D} {M J : Mem} {kk : List Nat} {d : D} {w : List Nat} (hw : wordP leaf ps d w) (hW : W.length ≤ 900) :
    ∃ b4 : Option D, denSL [] L1_sheet_text [some (.tup [.str (kdS leaf), es]), some (.tup ps), some (.ref M.length), some (txD kk), some d] (M ++ Cell.lst W :: J) = .nx [some (.tup [.str (kdS leaf), es]), some (.tup ps), some (.ref M.length), some (txD kk), b4] (M ++ Cell.lst (W ++ [txD kk, txD w]) :: (J ++ [.lst [txD kk, txD w]])) := by
  have v0 := ix0
  have v1 := ix1
  have eqk : ∀ M, gEq M (.str (kdS leaf)) (.str "fork") = some (.bl (!leaf)) := fun M => kd_eq2 leaf
  have isl : isL (M ++ Cell.lst W :: J) (.ref M.length) = true := isL_mid
  have ner : ∀ (d : D) (M : Mem), noErr (.ok d M : Res D) = .ok d M := fun _ _ => rfl
  have ex : fExtend (.ref M.length) [.ref (M ++ Cell.lst W :: J).length] ((M ++ Cell.lst W :: J) ++ [.lst [txD kk, txD w]]) = .ok .non (M ++ Cell.lst (W ++ [txD kk, txD w]) :: (J ++ [.lst [txD kk, txD w]])) := ext_end hW
  generalize M ++ Cell.lst (W ++ [txD kk, txD w]) :: (J ++ [.lst [txD kk, txD w]]) = M2 at *
  generalize M ++ Cell.lst W :: J = M1 at *
  generalize txD kk = KD at *
  obtain ⟨_, ⟨rfl, rfl⟩ | ⟨rfl, ⟨i, rfl, hs⟩ | ⟨j, r, rfl, hp, hs⟩⟩⟩ := hw
  · refine ⟨some (txD w), ?_⟩
    generalize txD w = WD at *
    clear hW
    unfold L1_sheet_text
    walk_at "evh"
  · have i1 : ∀ M, fIsi M (.int i) (.ty "tuple") = some (.bl false) := fun _ => rfl
    refine ⟨some (txD w), ?_⟩
    generalize txD w = WD at *
    clear hW
    unfold L1_sheet_text
    walk_at "evh"
  · have i1 : ∀ M, fIsi M (.tup [.str "new", .int j]) (.ty "tuple") = some (.bl true) := fun _ => rfl
    refine ⟨some (txD w), ?_⟩
    generalize txD w = WD at *
    clear hW
    unfold L1_sheet_text
    walk_at "evh"
theorem words_cons (x : EW) (xs : List EW) : (wordsOf (x :: xs)).map txD = txD x.1.1 :: txD x.2 :: (wordsOf xs).map txD := rfl
theorem text_loop {leaf : Bool} {es : D} {ps : List D} {M : Mem} : ∀ (xs : List EW) (W : List D) (J : Mem) (a3 a4 a5 : Option D), (∀ x ∈ xs, wordP leaf ps x.1.2 x.2) → W.length + 2 * xs.length ≤ 900 →
    ∃ (J' : Mem) (b3 b4 b5 : Option D), forGo (.tp (.cons (.nm 3) (.cons (.nm 4) .nil))) (denSL [] L1_law_text) ((xs.map (·.1)).map ent) [some (.tup [.str (kdS leaf), es]), some (.tup ps), some (.ref M.length), a3, a4, a5] (M ++ Cell.lst W :: J) = .nx [some (.tup [.str (kdS leaf), es]), some (.tup ps), some (.ref M.length), b3, b4, b5] (M ++ Cell.lst (W ++ (wordsOf xs).map txD) :: J')
  | [], W, J, a3, a4, a5, _, _ => ⟨J, a3, a4, a5, by
      show SR.nx _ _ = _
      have : (wordsOf []).map txD = [] := rfl
      rw [this, List.append_nil]⟩
  | x :: xs, W, J, a3, a4, a5, h, hl => by
    rw [List.length_cons] at hl
    obtain ⟨b5, t1⟩ := text_turn (es := es) (M := M) (J := J) (W := W) (kk := x.1.1) (a5 := a5) (h x (List.mem_cons_self ..)) (by omega)
    obtain ⟨J', c3, c4, c5, t2⟩ := text_loop (leaf := leaf) (es := es) (ps := ps) (M := M) xs (W ++ [txD x.1.1, txD x.2]) (J ++ [.lst [txD x.1.1, txD x.2]]) (some (txD x.1.1)) (some x.1.2) b5 (fun y hy => h y (List.mem_cons_of_mem _ hy)) (by rw [List.length_append]; simp; omega)
    refine ⟨J', c3, c4, c5, ?_⟩
    rw [List.map_cons, List.map_cons, for_nx (δ1 := [some (.tup [.str (kdS leaf), es]), some (.tup ps), some (.ref M.length), some (txD x.1.1), some x.1.2, a5]) rfl t1, t2, words_cons, List.append_assoc]
    rfl
theorem prog_loop {leaf : Bool} {es : D} {ps : List D} {M : Mem} : ∀ (xs : List EW) (W : List D) (J : Mem) (a3 a4 : Option D), (∀ x ∈ xs, wordP leaf ps x.1.2 x.2) → W.length + 2 * xs.length ≤ 900 →
    ∃ (J' : Mem) (b3 b4 : Option D), forGo (.tp (.cons (.nm 3) (.cons (.nm 4) .nil))) (denSL [] L1_sheet_text) ((xs.map (·.1)).map ent) [some (.tup [.str (kdS leaf), es]), some (.tup ps), some (.ref M.length), a3, a4] (M ++ Cell.lst W :: J) = .nx [some (.tup [.str (kdS leaf), es]), some (.tup ps), some (.ref M.length), b3, b4] (M ++ Cell.lst (W ++ (wordsOf xs).map txD) :: J')
  | [], W, J, a3, a4, _, _ => ⟨J, a3, a4, by
      show SR.nx _ _ = _
      have : (wordsOf []).map txD = [] := rfl
      rw [this, List.append_nil]⟩
  | x :: xs, W, J, a3, a4, h, hl => by
    rw [List.length_cons] at hl
    obtain ⟨b4, t1⟩ := prog_turn (es := es) (M := M) (J := J) (W := W) (kk := x.1.1) (h x (List.mem_cons_self ..)) (by omega)
    obtain ⟨J', c3, c4, t2⟩ := prog_loop (leaf := leaf) (es := es) (ps := ps) (M := M) xs (W ++ [txD x.1.1, txD x.2]) (J ++ [.lst [txD x.1.1, txD x.2]]) (some (txD x.1.1)) b4 (fun y hy => h y (List.mem_cons_of_mem _ hy)) (by rw [List.length_append]; simp; omega)
    refine ⟨J', c3, c4, ?_⟩
    rw [List.map_cons, List.map_cons, for_nx (δ1 := [some (.tup [.str (kdS leaf), es]), some (.tup ps), some (.ref M.length), some (txD x.1.1), some x.1.2]) rfl t1, t2, words_cons, List.append_assoc]
    rfl
theorem join_words {M : Mem} {ws : List (List Nat)} (h : ws.length ≤ 900) (hw : ∀ w ∈ ws, w.length ≤ 900) : gJoin M (.str (Str.ofString "\n")) [.lst (ws.map txD)] = some (.str (st (TL.joinL [10] ws))) := by
  have e : ∀ ws : List (List Nat), strsOf (ws.map txD) = some (ws.map st) := fun ws => by
    unfold strsOf
    induction ws with
    | nil => rfl
    | cons k ks ih => rw [List.map_cons, List.mapM_cons, ih]; rfl
  have hs : ∀ ws : List (List Nat), (∀ w ∈ ws, w.length ≤ 900) → ((ws.map st).map (fun s : Str => s.length)).sum ≤ 900 * ws.length := fun ws hw => by
    induction ws with
    | nil => simp
    | cons w ws ih =>
      have h1 := ih fun x hx => hw x (List.mem_cons_of_mem _ hx)
      have h2 := hw w (List.mem_cons_self ..)
      rw [List.map_cons, List.map_cons, List.sum_cons, List.length_cons, st_len]
      omega
  show (match seqJ M (.lst (ws.map txD)) with | some ds => (match strsOf ds with | some ys => if (ys.map (fun s : Str => s.length)).sum + ys.length * (Str.ofString "\n").length ≤ 16777216 then some (D.str (Txt.join (Str.ofString "\n") ys)) else none | none => none) | none => none) = _
  rw [show seqJ M (.lst (ws.map txD)) = some (ws.map txD) from rfl]
  dsimp only
  rw [e]
  dsimp only
  have := hs ws hw
  rw [if_pos (by
    rw [List.length_map, show (Str.ofString "\n").length = 1 from by decide]
    omega)]
  congr 2
  refine str_ext ?_
  rw [st_tl]
  have := TL.tl_join (Str.ofString "\n") (ws.map st)
  have e2 : (ws.map st).map TL.tl = ws := by
    rw [List.map_map]
    have : (TL.tl ∘ st) = id := by funext l; exact st_tl l
    rw [this, List.map_id]
  rw [e2] at this
  have e3 : Txt.join (Str.ofString "\n") (ws.map st) = Str.join (Str.ofString "\n") (ws.map st) := eq_of_beq (PyProof.Rows.join_plain_closes _ _)
  rw [e3]
  exact this
theorem frz_mid2 {M J : Mem} {W : List D} {a b : Option D} {l : List (Option D)} : sFrz 2 (a :: b :: some (.ref M.length) :: l) (M ++ Cell.lst W :: J) = .nx (a :: b :: some (.lst W) :: l) (M ++ Cell.dead :: J) := by
  have e : (M ++ Cell.lst W :: J)[M.length]? = some (.lst W) := by rw [List.getElem?_append_right (Nat.le_refl _), Nat.sub_self]; rfl
  unfold sFrz
  simp only [List.getElem?_cons_succ, List.getElem?_cons_zero, e, List.set_cons_succ, List.set_cons_zero]
  congr 1
  rw [List.set_append_right _ _ (Nat.le_refl _), Nat.sub_self]; rfl
/-- the first word -/
def kdW (leaf : Bool) : List Nat := if leaf = true then [108] else [102]
def textOf (leaf : Bool) (xs : List EW) : List Nat := TL.joinL [10] (kdW leaf :: wordsOf xs)
theorem ev_law_text {leaf : Bool} {ps : List D} {xs : List EW} {M : Mem} (h : ∀ x ∈ xs, sgOk 33 13 x.1.1 = true ∧ wordP leaf ps x.1.2 x.2) (hl : xs.length ≤ 100) : F_law_text [shD (kdS leaf) (xs.map (·.1)), .tup ps] M = .ok (.str (st (textOf leaf xs))) M := by
  obtain ⟨J, b3, b4, b5, t⟩ := text_loop (leaf := leaf) (es := .tup ((xs.map (·.1)).map ent)) (ps := ps) (M := M) xs [txD (kdW leaf)] [] none none none (fun x hx => (h x hx).2) (by rw [List.length_singleton]; omega)
  have hwl : ∀ w ∈ kdW leaf :: wordsOf xs, w.length ≤ 900 := fun w hw => by
    rcases List.mem_cons.mp hw with rfl | hw
    · cases leaf <;> decide
    · obtain ⟨x, hx, hw⟩ := List.mem_flatMap.mp hw
      have a := (sgOk_ok (h x hx).1).2.2
      have b := (sgOk_ok (h x hx).2.1).2.2
      simp only [List.mem_cons, List.not_mem_nil, or_false] at hw
      rcases hw with rfl | rfl <;> omega
  have hll : (wordsOf xs).length = 2 * xs.length := by
    clear t h hwl hl
    unfold wordsOf
    induction xs with
    | nil => rfl
    | cons x xs ih => rw [List.flatMap_cons, List.length_append, ih]; simp; omega
  have jn : ∀ M, gJoin M (.str (Str.ofString "\n")) [.lst ([txD (kdW leaf)] ++ (wordsOf xs).map txD)] = some (.str (st (textOf leaf xs))) := fun M => join_words (ws := kdW leaf :: wordsOf xs) (by rw [List.length_cons]; omega) hwl
  have fz : ∀ (W : List D) (a b : Option D) (l : List (Option D)), sFrz 2 (a :: b :: some (.ref M.length) :: l) (M ++ Cell.lst W :: J) = .nx (a :: b :: some (.lst W) :: l) (M ++ Cell.dead :: J) := fun W a b l => frz_mid2
  have tr : trim M (.ok (.str (st (textOf leaf xs))) (M ++ Cell.dead :: J)) = .ok (.str (st (textOf leaf xs))) M := trim_same rfl
  have v0 := ix0
  have v1 := ix1
  have eqk : ∀ M, gEq M (.str (kdS leaf)) (.str "leaf") = some (.bl leaf) := fun M => kd_eq leaf
  have it : ∀ (ds : List D) M, itT (.tup ds) M = .ok ds M := fun _ _ => rfl
  unfold shD
  generalize (xs.map (·.1)).map ent = EE at *
  generalize [txD (kdW leaf)] ++ (wordsOf xs).map txD = WW at *
  clear h hl hwl hll
  cases leaf with
  | true =>
    have e0 : txD (kdW true) = .str "l" := rfl
    rw [e0] at t
    clear e0
    generalize st (textOf true xs) = TT at *
    unfold F_law_text B_law_text
    walk_at "evh"
  | false =>
    have e0 : txD (kdW false) = .str "f" := rfl
    rw [e0] at t
    clear e0
    generalize st (textOf false xs) = TT at *
    unfold F_law_text B_law_text
    walk_at "evh"
theorem ev_sheet_text {leaf : Bool} {ps : List D} {xs : List EW} {M : Mem} (h : ∀ x ∈ xs, sgOk 33 13 x.1.1 = true ∧ wordP leaf ps x.1.2 x.2) (hl : xs.length ≤ 100) : F_sheet_text [shD (kdS leaf) (xs.map (·.1)), .tup ps] M = .ok (.str (st (textOf leaf xs))) M := by
  obtain ⟨J, b3, b4, t⟩ := prog_loop (leaf := leaf) (es := .tup ((xs.map (·.1)).map ent)) (ps := ps) (M := M) xs [txD (kdW leaf)] [] none none (fun x hx => (h x hx).2) (by rw [List.length_singleton]; omega)
  have hwl : ∀ w ∈ kdW leaf :: wordsOf xs, w.length ≤ 900 := fun w hw => by
    rcases List.mem_cons.mp hw with rfl | hw
    · cases leaf <;> decide
    · obtain ⟨x, hx, hw⟩ := List.mem_flatMap.mp hw
      have a := (sgOk_ok (h x hx).1).2.2
      have b := (sgOk_ok (h x hx).2.1).2.2
      simp only [List.mem_cons, List.not_mem_nil, or_false] at hw
      rcases hw with rfl | rfl <;> omega
  have hll : (wordsOf xs).length = 2 * xs.length := by
    clear t h hwl hl
    unfold wordsOf
    induction xs with
    | nil => rfl
    | cons x xs ih => rw [List.flatMap_cons, List.length_append, ih]; simp; omega
  have jn : ∀ M, gJoin M (.str (Str.ofString "\n")) [.lst ([txD (kdW leaf)] ++ (wordsOf xs).map txD)] = some (.str (st (textOf leaf xs))) := fun M => join_words (ws := kdW leaf :: wordsOf xs) (by rw [List.length_cons]; omega) hwl
  have fz : ∀ (W : List D) (a b : Option D) (l : List (Option D)), sFrz 2 (a :: b :: some (.ref M.length) :: l) (M ++ Cell.lst W :: J) = .nx (a :: b :: some (.lst W) :: l) (M ++ Cell.dead :: J) := fun W a b l => frz_mid2
  have tr : trim M (.ok (.str (st (textOf leaf xs))) (M ++ Cell.dead :: J)) = .ok (.str (st (textOf leaf xs))) M := trim_same rfl
  have v0 := ix0
  have v1 := ix1
  have eqk : ∀ M, gEq M (.str (kdS leaf)) (.str "leaf") = some (.bl leaf) := fun M => kd_eq leaf
  have it : ∀ (ds : List D) M, itT (.tup ds) M = .ok ds M := fun _ _ => rfl
  unfold shD
  generalize (xs.map (·.1)).map ent = EE at *
  generalize [txD (kdW leaf)] ++ (wordsOf xs).map txD = WW at *
  clear h hl hwl hll
  cases leaf with
  | true =>
    have e0 : txD (kdW true) = .str "l" := rfl
    rw [e0] at t
    clear e0
    generalize st (textOf true xs) = TT at *
    unfold F_sheet_text B_sheet_text
    walk_at "evh"
  | false =>
    have e0 : txD (kdW false) = .str "f" := rfl
    rw [e0] at t
    clear e0
    generalize st (textOf false xs) = TT at *
    unfold F_sheet_text B_sheet_text
    walk_at "evh"
end Lw
end

section
set_option Elab.async false
set_option linter.all false
set_option maxRecDepth 100000
set_option maxHeartbeats 4000000
namespace Lw
open PySem Wn
local macro_rules | `(tactic| walk_at "ev") => `(tactic| simp only [fnDef, fnOf, denSL, denS, den, denL, denB, denI, sSeq, sAsg, sRet, sRetN, sEx, sIf, sFor, sPar, sSet, sPass, sBrk, sCnt, bndS, bnd, Wn.ret, stuck, opt, eVar, eCst, eOp, eCall, eChain, bTru, bNot, bAnd, bOr, eOr, eAnd, eNot, eIf, lNil, lCons, eTup, eLst, eCell, eMt, eMl, eSl, oNo, oAt, eNeg, eLc, lcRun, fnDo, startE, fin, Tg.put, TgL.puts, isS_ite, if_le_sz, lstX_lst, lstOf_lst, add_int, sub_int, eq_int, ne_int, le_int, lt_int, gt_int, ge_int, is_non, isnot_non, isNon, asTru, truD, iArg, wipeE,
  List.map_cons, List.map_nil, List.length_cons, List.length_nil, List.getElem?_cons_zero, List.getElem?_cons_succ, List.set_cons_zero, List.set_cons_succ, List.getD_cons_zero, List.getD_cons_succ, List.cons_append, List.nil_append, List.replicate_succ, List.replicate_zero, Nat.zero_add, Nat.sub_self, Nat.add_one_sub_one, Nat.reduceAdd, Nat.reduceSub, Nat.reduceLeDiff, Nat.reduceEqDiff, if_true, if_false, Bool.false_eq_true, Bool.not_true, Bool.not_false, decide_true, decide_false, g1, g2, List.zip_cons_cons, List.zip_nil_right, List.foldl_cons, List.foldl_nil,
  mIndex, mJoin, mSplit, tStr, tIntS, mAppend, mExtend, mGet, eMd, eDcp, gDcp, sSetA, setA, eRv, eSst, eStp, eDsp, eLzp, fnDoP, bMinL, bLen, bAbs, bMax, bMin, bSum, bAll, bAny, bOrd, bRepr, bIsi, tInt, tTup, tLst, nInt, nStr, nBool, nTup, nLst, oAdd, oSub, oMul, oMod, oDiv, oPow, cEq, cNe, cLt, cLe, cGt, cGe, cIn, cNi, cIs, cIn', Option.some_or, Option.or_none, Option.none_or])
local macro_rules | `(tactic| walk_at "evh") => `(tactic| simp only [*, fnDef, fnOf, denSL, denS, den, denL, denB, denI, sSeq, sAsg, sRet, sRetN, sEx, sIf, sFor, sPar, sSet, sPass, sBrk, sCnt, bndS, bnd, Wn.ret, stuck, opt, eVar, eCst, eOp, eCall, eChain, bTru, bNot, bAnd, bOr, eOr, eAnd, eNot, eIf, lNil, lCons, eTup, eLst, eCell, eMt, eMl, eSl, oNo, oAt, eNeg, eLc, lcRun, fnDo, startE, fin, Tg.put, TgL.puts, isS_ite, if_le_sz, lstX_lst, lstOf_lst, add_int, sub_int, eq_int, ne_int, le_int, lt_int, gt_int, ge_int, is_non, isnot_non, isNon, asTru, truD, iArg, wipeE,
  List.map_cons, List.map_nil, List.length_cons, List.length_nil, List.getElem?_cons_zero, List.getElem?_cons_succ, List.set_cons_zero, List.set_cons_succ, List.getD_cons_zero, List.getD_cons_succ, List.cons_append, List.nil_append, List.replicate_succ, List.replicate_zero, Nat.zero_add, Nat.sub_self, Nat.add_one_sub_one, Nat.reduceAdd, Nat.reduceSub, Nat.reduceLeDiff, Nat.reduceEqDiff, if_true, if_false, Bool.false_eq_true, Bool.not_true, Bool.not_false, decide_true, decide_false, g1, g2, List.zip_cons_cons, List.zip_nil_right, List.foldl_cons, List.foldl_nil,
  mIndex, mJoin, mSplit, tStr, tIntS, mAppend, mExtend, mGet, eMd, eDcp, gDcp, sSetA, setA, eRv, eSst, eStp, eDsp, eLzp, fnDoP, bMinL, bLen, bAbs, bMax, bMin, bSum, bAll, bAny, bOrd, bRepr, bIsi, tInt, tTup, tLst, nInt, nStr, nBool, nTup, nLst, oAdd, oSub, oMul, oMod, oDiv, oPow, cEq, cNe, cLt, cLe, cGt, cGe, cIn, cNi, cIs, cIn', Option.some_or, Option.or_none, Option.none_or])
/-! ### what the program writes -/
theorem child_tup {j : Nat} {M : Mem} (h : j < 5) : F_is_child [.tup [.str "new", .int (j : Nat)]] M = .ok (.bl true) M := by
  have t2 : ∀ (a b : D) M, F_is_tuple [.tup [a, b], .int 2, .int 2] M = .ok (.bl true) M := fun a b M => ev_is_tuple (ds := [a, b]) (lo := 2) (hi := 2) (by simp)
  have v0 := ix0
  have v1 := ix1
  have s1 : ∀ M, F_is_string [.str "new", .tup [.str "new"]] M = .ok (.bl true) M := fun M => by
    have i1 : ∀ M, fIsi M (.str "new") (.ty "str") = some (.bl true) := fun _ => rfl
    have i2 : ∀ M, gIn M (.str "new") (.tup [.str "new"]) = some (.bl true) := fun M => by
      show (if SeqAt.shaped (.str "new") = true ∧ PyData.canLayAll0 [.str "new"] = true then some (D.bl _) else none) = _
      rw [if_pos ⟨by decide +kernel, by decide +kernel⟩]; rfl
    unfold F_is_string B_is_string
    walk_at "evh"
  have s2 : ∀ M, F_is_integer [.int (j : Nat), .int 0, .int 999999999999] M = .ok (.bl true) M := fun M => by
    rw [ev_is_integer, decide_eq_true (by omega), decide_eq_true (by omega)]; rfl
  clear h
  unfold F_is_child B_is_child
  walk_at "evh"
theorem child_ok {d : D} {M : Mem} (h : intP d ∨ ∃ j : Nat, j < 5 ∧ d = .tup [.str "new", .int (j : Nat)]) : F_is_child [d] M = .ok (.bl true) M := by
  rcases h with ⟨i, W, h1, _, _, rfl⟩ | ⟨j, hj, rfl⟩
  · rw [ev_is_child_int, decide_eq_true (by omega), decide_eq_true (by omega)]; rfl
  · exact child_tup hj
theorem sheet_ok {leaf : Bool} {es : List (List Nat × D)} {M : Mem} (h : ∀ e ∈ es, entS leaf e) (h1 : (if leaf = true then 1 else 2) ≤ es.length) (h4 : es.length ≤ 4) (ha : ascB (es.map (·.1)) = true) : F_is_sheet [shD (kdS leaf) es] M = .ok (.bl true) M := by
  have hk : ∀ e ∈ es, (∀ c ∈ e.1, okW c = true) ∧ e.1.length ≤ 600 := fun e he => by
    have := sgOk_ok (h e he).1
    exact ⟨fun c hc => (this.1 c hc).1, by have := this.2.2; omega⟩
  have := ev_is_sheet (leaf := leaf) (w := kdS leaf) (lo := if leaf = true then 1 else 2) (es := es) (g := fun _ => true) (M := M) (by cases leaf <;> rfl) rfl hk (by omega) (fun e he M => by
    have h2 := (h e he).2
    cases leaf with
    | true =>
      obtain ⟨v, hv, e2⟩ := h2
      rw [if_pos rfl, e2]
      have := sgOk_ok hv
      show F_is_value [.str (st v)] M = _
      rw [ev_is_value (fun c hc => (this.1 c hc).1) (by have := this.2.2; omega), sgOk_sgns hv]
    | false =>
      rw [if_neg (by decide)]
      exact child_ok h2)
  unfold shD
  rw [this]
  have a1 : (es.map (·.1)).all (sgns 33) = true := List.all_eq_true.mpr fun l hl => by
    obtain ⟨e, he, rfl⟩ := List.mem_map.mp hl
    exact sgOk_sgns (h e he).1
  rw [a1, ha, decide_eq_true h1, decide_eq_true h4]
  simp
theorem children_go {leaf : Bool} {es : D} {us : List Fun} {M : Mem} {a1 a2 a5 a6 : Option D} : ∀ (xs : List (List Nat × D)) (a3 a4 : Option D), (∀ e ∈ xs, entS leaf e) →
    ∃ cs : List D, (∀ c ∈ cs, ∃ j : Nat, j < 5 ∧ c = .tup [.str "new", .int (j : Nat)]) ∧ cs.length ≤ xs.length ∧ lcGo (.tp (.cons (.nm 3) (.cons (.nm 4) .nil))) (denB us (.and (.tru (.cmp cEq (.ix (.var 0) (.cst (.int 0))) (.glo "FORK" (.str "fork")))) (.tru (.bf bIsi (.cons (.var 4) (.cons (.tyn nTup) (.nil))))))) (den us X2_written) [some (.tup [.str (kdS leaf), es]), a1, a2, a3, a4, a5, a6] (xs.map ent) M = .ok cs M
  | [], _, _, _ => ⟨[], by simp, Nat.le_refl _, rfl⟩
  | e :: xs, a3, a4, h => by
    obtain ⟨cs, h1, h2, h3⟩ := children_go (leaf := leaf) (es := es) (us := us) (M := M) (a1 := a1) (a2 := a2) (a5 := a5) (a6 := a6) xs a3 a4 fun x hx => h x (List.mem_cons_of_mem _ hx)
    have v0 := ix0
    have eqk : ∀ M, gEq M (.str (kdS leaf)) (.str "fork") = some (.bl (!leaf)) := fun M => kd_eq2 leaf
    have h4 := (h e (List.mem_cons_self ..)).2
    have key : ∀ b : Bool, (∀ M, fIsi M e.2 (.ty "tuple") = some (.bl b)) → denB us (.and (.tru (.cmp cEq (.ix (.var 0) (.cst (.int 0))) (.glo "FORK" (.str "fork")))) (.tru (.bf bIsi (.cons (.var 4) (.cons (.tyn nTup) (.nil)))))) [some (.tup [.str (kdS leaf), es]), a1, a2, some (txD e.1), some e.2, a5, a6] M = .ok (!leaf && b) M := fun b hb => by
      clear h3 h4 h1 h2 h
      generalize txD e.1 = KD at *
      cases leaf
      · walk_at "evh"
        rfl
      · walk_at "evh"
        rfl
    have put : Tg.put M (.tp (.cons (.nm 3) (.cons (.nm 4) .nil))) (ent e) [some (.tup [.str (kdS leaf), es]), a1, a2, a3, a4, a5, a6] = some [some (.tup [.str (kdS leaf), es]), a1, a2, some (txD e.1), some e.2, a5, a6] := rfl
    have el : den us X2_written [some (.tup [.str (kdS leaf), es]), a1, a2, some (txD e.1), some e.2, a5, a6] M = .ok e.2 M := by
      clear h3 h4 h1 h2 h key put
      generalize txD e.1 = KD at *
      unfold X2_written
      walk_at "evh"
    have fin : ∀ b : Bool, (∀ M, fIsi M e.2 (.ty "tuple") = some (.bl b)) → ((!leaf && b) = true → ∃ j : Nat, j < 5 ∧ e.2 = .tup [.str "new", .int (j : Nat)]) → ∃ cs : List D, (∀ c ∈ cs, ∃ j : Nat, j < 5 ∧ c = .tup [.str "new", .int (j : Nat)]) ∧ cs.length ≤ (e :: xs).length ∧ lcGo (.tp (.cons (.nm 3) (.cons (.nm 4) .nil))) (denB us (.and (.tru (.cmp cEq (.ix (.var 0) (.cst (.int 0))) (.glo "FORK" (.str "fork")))) (.tru (.bf bIsi (.cons (.var 4) (.cons (.tyn nTup) (.nil))))))) (den us X2_written) [some (.tup [.str (kdS leaf), es]), a1, a2, a3, a4, a5, a6] ((e :: xs).map ent) M = .ok cs M := fun b hb hj => by
      have k := key b hb
      rw [List.map_cons, lcGo_cons]
      cases hq : (!leaf && b) with
      | true =>
        rw [hq] at k
        refine ⟨e.2 :: cs, ?_, by simp only [List.length_cons]; omega, ?_⟩
        · intro c hc
          rcases List.mem_cons.mp hc with rfl | hc
          · exact hj hq
          · exact h1 c hc
        · simp only [put, k, el, h3]
      | false =>
        rw [hq] at k
        refine ⟨cs, h1, by simp only [List.length_cons]; omega, ?_⟩
        simp only [put, k, h3]
    cases leaf with
    | true =>
      obtain ⟨v, _, e2⟩ := h4
      exact fin false (fun M => by rw [e2]; rfl) (fun z => by cases z)
    | false =>
      rcases h4 with ⟨i, _, _, _, _, e2⟩ | ⟨j, hj, e2⟩
      · exact fin false (fun M => by rw [e2]; rfl) (fun z => by cases z)
      · exact fin true (fun M => by rw [e2]; rfl) (fun _ => ⟨j, hj, e2⟩)
theorem any_map {α : Type} {M : Mem} (f : α → Bool) (l : List α) : fAny M (.lst (l.map fun x => D.bl (f x))) = some (.bl (l.any f)) := by
  show ((dBools (l.map fun x => D.bl (f x))).map fun is => D.bl (is.any id)) = _
  rw [dBools_map]
  simp [List.any_map, Function.comp_def]
theorem wr_x1 {r : D} {M : Mem} {a0 a1 a2 a3 a4 a5 : Option D} (e1 : ∀ M, F_is_integer [r, .int 0, .int 999999999999] M = .ok (.bl true) M) : den [F_is_sheet, F_is_integer, F_sheet_text] X1_written [a0, a1, a2, a3, a4, a5, some r] M = .ok (.bl true) M := by
  unfold X1_written
  walk_at "evh"
theorem wr_x3 {j : Nat} {ps : List D} {M : Mem} {a0 a2 a3 a4 a6 : Option D} (ln : ∀ M, fLen M (.tup ps) = some (.int 5)) (hj : j < 5) : den [F_is_sheet, F_is_integer, F_sheet_text] X3_written [a0, some (.tup ps), a2, a3, a4, some (.tup [.str "new", .int ((j : Nat) : Int)]), a6] M = .ok (.bl false) M := by
  have v1 := ix1
  have c0 : ((5 : Int) ≤ ((j : Nat) : Int)) = False := eq_false (by omega)
  clear hj
  unfold X3_written
  walk_at "evh"
theorem ev_written {leaf : Bool} {rs : List Nat} {xs : List EW} {M : Mem} (h5 : rs.length = 5) (hr : ∀ r ∈ rs, r < 600) (h : ∀ x ∈ xs, entS leaf x.1 ∧ wordP leaf (rs.map fun r => D.int ((r : Nat) : Int)) x.1.2 x.2) (h1 : (if leaf = true then 1 else 2) ≤ xs.length) (h4 : xs.length ≤ 4) (ha : ascB ((xs.map (·.1)).map (·.1)) = true) :
    F_written [shD (kdS leaf) (xs.map (·.1)), .tup (rs.map fun r => D.int ((r : Nat) : Int))] M = .ok (.str (st (textOf leaf xs))) M := by
  have hes : ∀ e ∈ xs.map (·.1), entS leaf e := fun e he => by
    obtain ⟨x, hx, rfl⟩ := List.mem_map.mp he
    exact (h x hx).1
  have s1 : ∀ M, F_is_sheet [shD (kdS leaf) (xs.map (·.1))] M = .ok (.bl true) M := fun M => sheet_ok hes (by rw [List.length_map]; exact h1) (by rw [List.length_map]; exact h4) ha
  have s2 : ∀ M, F_sheet_text [shD (kdS leaf) (xs.map (·.1)), .tup (rs.map fun r => D.int ((r : Nat) : Int))] M = .ok (.str (st (textOf leaf xs))) M := fun M => ev_sheet_text (fun x hx => ⟨(h x hx).1.1, (h x hx).2⟩) (by omega)
  have i1 : ∀ M, fIsi M (.tup (rs.map fun r => D.int ((r : Nat) : Int))) (.ty "tuple") = some (.bl true) := fun _ => rfl
  have it : ∀ (ds : List D) M, itT (.tup ds) M = .ok ds M := fun _ _ => rfl
  have il : ∀ (ds : List D) M, itL (.lst ds) M = .ok ds M := fun _ _ => rfl
  have x1 : ∀ M (a0 a1 a2 a3 a4 a5 : Option D), lcGo (.nm 6) bYes (den [F_is_sheet, F_is_integer, F_sheet_text] X1_written) [a0, a1, a2, a3, a4, a5, none] (rs.map fun r => D.int ((r : Nat) : Int)) M = .ok (rs.map fun _ => D.bl true) M := fun M a0 a1 a2 a3 a4 a5 => lc_vals fun r hm => wr_x1 fun M => by
    have := hr r hm
    rw [ev_is_integer, decide_eq_true (by omega), decide_eq_true (by omega)]; rfl
  have y1 : ∀ M, fAll M (.lst (rs.map fun _ => D.bl true)) = some (.bl true) := fun M => by rw [all_map (fun _ => true) rs]; simp
  obtain ⟨cs, c1, c2, c3⟩ := children_go (leaf := leaf) (es := .tup ((xs.map (·.1)).map ent)) (us := [F_is_sheet, F_is_integer, F_sheet_text]) (M := M) (a1 := some (.tup (rs.map fun r => D.int ((r : Nat) : Int)))) (a2 := none) (a5 := none) (a6 := none) (xs.map (·.1)) none none hes
  rw [List.length_map] at c2
  have ln : ∀ M, fLen M (.tup (rs.map fun r => D.int ((r : Nat) : Int))) = some (.int 5) := fun M => by
    show some (D.int ((rs.map fun r => D.int ((r : Nat) : Int)).length : Nat)) = _
    rw [List.length_map, h5]; rfl
  have hcs : ∃ js : List Nat, (∀ j ∈ js, j < 5) ∧ cs = js.map fun j => D.tup [.str "new", .int ((j : Nat) : Int)] := by
    clear c3 c2
    induction cs with
    | nil => exact ⟨[], by simp, rfl⟩
    | cons c cs ih =>
      obtain ⟨j, hj, rfl⟩ := c1 c (List.mem_cons_self ..)
      obtain ⟨js, h1, rfl⟩ := ih fun y hy => c1 y (List.mem_cons_of_mem _ hy)
      refine ⟨j :: js, fun m hm => ?_, rfl⟩
      rcases List.mem_cons.mp hm with rfl | hm
      · exact hj
      · exact h1 m hm
  obtain ⟨js, hjs, rfl⟩ := hcs
  rw [List.length_map] at c2
  have x3 : ∀ M (a0 a2 a3 a4 a6 : Option D), lcGo (.nm 5) bYes (den [F_is_sheet, F_is_integer, F_sheet_text] X3_written) [a0, some (.tup (rs.map fun r => D.int ((r : Nat) : Int))), a2, a3, a4, none, a6] (js.map fun j => D.tup [.str "new", .int ((j : Nat) : Int)]) M = .ok (js.map fun _ => D.bl false) M := fun M a0 a2 a3 a4 a6 => lc_vals fun j hm => wr_x3 ln (hjs j hm)
  have y3 : ∀ M, fAny M (.lst (js.map fun _ => D.bl false)) = some (.bl false) := fun M => by
    rw [any_map (fun _ => false) js]; simp
  have z1 : (rs.map fun r => D.int ((r : Nat) : Int)).length ≤ 1000 := by rw [List.length_map]; omega
  have z2 : (rs.map fun _ => D.bl true).length ≤ 1000 := by rw [List.length_map]; omega
  have z3 : (js.map fun j => D.tup [.str "new", .int ((j : Nat) : Int)]).length ≤ 1000 := by rw [List.length_map]; omega
  have z4 : (js.map fun _ => D.bl false).length ≤ 1000 := by rw [List.length_map]; omega
  have z5 : ((xs.map (·.1)).map ent).length ≤ 1000 := by rw [List.length_map, List.length_map]; omega
  have v1 := ix1
  unfold shD at *
  generalize (xs.map (·.1)).map ent = EE at *
  generalize (rs.map fun r => D.int ((r : Nat) : Int)) = RR at *
  generalize (rs.map fun _ => D.bl true) = RB at *
  generalize (js.map fun j => D.tup [.str "new", .int ((j : Nat) : Int)]) = CC at *
  generalize (js.map fun _ => D.bl false) = CB at *
  generalize st (textOf leaf xs) = TT at *
  generalize kdS leaf = KD at *
  clear h5 hr h h1 h4 ha hes c1 c2 hjs
  simp only [denB, den, denL, X2_written, cEq, bIsi, nTup] at c3
  unfold F_written B_written
  simp only [den, denB, denL, X2_written]
  walk_at "evh"
end Lw
end

section
set_option Elab.async false
set_option linter.all false
set_option maxRecDepth 100000
set_option maxHeartbeats 4000000
namespace Lw
open PySem Wn
local macro_rules | `(tactic| walk_at "ev") => `(tactic| simp only [fnDef, fnOf, denSL, denS, den, denL, denB, denI, sSeq, sAsg, sRet, sRetN, sEx, sIf, sFor, sPar, sSet, sPass, sBrk, sCnt, bndS, bnd, Wn.ret, stuck, opt, eVar, eCst, eOp, eCall, eChain, bTru, bNot, bAnd, bOr, eOr, eAnd, eNot, eIf, lNil, lCons, eTup, eLst, eCell, eMt, eMl, eSl, oNo, oAt, eNeg, eLc, lcRun, fnDo, startE, fin, Tg.put, TgL.puts, isS_ite, if_le_sz, lstX_lst, lstOf_lst, add_int, sub_int, eq_int, ne_int, le_int, lt_int, gt_int, ge_int, is_non, isnot_non, isNon, asTru, truD, iArg, wipeE,
  List.map_cons, List.map_nil, List.length_cons, List.length_nil, List.getElem?_cons_zero, List.getElem?_cons_succ, List.set_cons_zero, List.set_cons_succ, List.getD_cons_zero, List.getD_cons_succ, List.cons_append, List.nil_append, List.replicate_succ, List.replicate_zero, Nat.zero_add, Nat.sub_self, Nat.add_one_sub_one, Nat.reduceAdd, Nat.reduceSub, Nat.reduceLeDiff, Nat.reduceEqDiff, if_true, if_false, Bool.false_eq_true, Bool.not_true, Bool.not_false, decide_true, decide_false, g1, g2, List.zip_cons_cons, List.zip_nil_right, List.foldl_cons, List.foldl_nil,
  mIndex, mJoin, mSplit, tStr, tIntS, mAppend, mExtend, mGet, eMd, eDcp, gDcp, sSetA, setA, eRv, eSst, eStp, eDsp, eLzp, fnDoP, bMinL, bLen, bAbs, bMax, bMin, bSum, bAll, bAny, bOrd, bRepr, bIsi, tInt, tTup, tLst, nInt, nStr, nBool, nTup, nLst, oAdd, oSub, oMul, oMod, oDiv, oPow, cEq, cNe, cLt, cLe, cGt, cGe, cIn, cNi, cIs, cIn', Option.some_or, Option.or_none, Option.none_or])
local macro_rules | `(tactic| walk_at "evh") => `(tactic| simp only [*, fnDef, fnOf, denSL, denS, den, denL, denB, denI, sSeq, sAsg, sRet, sRetN, sEx, sIf, sFor, sPar, sSet, sPass, sBrk, sCnt, bndS, bnd, Wn.ret, stuck, opt, eVar, eCst, eOp, eCall, eChain, bTru, bNot, bAnd, bOr, eOr, eAnd, eNot, eIf, lNil, lCons, eTup, eLst, eCell, eMt, eMl, eSl, oNo, oAt, eNeg, eLc, lcRun, fnDo, startE, fin, Tg.put, TgL.puts, isS_ite, if_le_sz, lstX_lst, lstOf_lst, add_int, sub_int, eq_int, ne_int, le_int, lt_int, gt_int, ge_int, is_non, isnot_non, isNon, asTru, truD, iArg, wipeE,
  List.map_cons, List.map_nil, List.length_cons, List.length_nil, List.getElem?_cons_zero, List.getElem?_cons_succ, List.set_cons_zero, List.set_cons_succ, List.getD_cons_zero, List.getD_cons_succ, List.cons_append, List.nil_append, List.replicate_succ, List.replicate_zero, Nat.zero_add, Nat.sub_self, Nat.add_one_sub_one, Nat.reduceAdd, Nat.reduceSub, Nat.reduceLeDiff, Nat.reduceEqDiff, if_true, if_false, Bool.false_eq_true, Bool.not_true, Bool.not_false, decide_true, decide_false, g1, g2, List.zip_cons_cons, List.zip_nil_right, List.foldl_cons, List.foldl_nil,
  mIndex, mJoin, mSplit, tStr, tIntS, mAppend, mExtend, mGet, eMd, eDcp, gDcp, sSetA, setA, eRv, eSst, eStp, eDsp, eLzp, fnDoP, bMinL, bLen, bAbs, bMax, bMin, bSum, bAll, bAny, bOrd, bRepr, bIsi, tInt, tTup, tLst, nInt, nStr, nBool, nTup, nLst, oAdd, oSub, oMul, oMod, oDiv, oPow, cEq, cNe, cLt, cLe, cGt, cGe, cIn, cNi, cIs, cIn', Option.some_or, Option.or_none, Option.none_or])
/-! ### page texts near one -/
def wd (d : D) : Prop := ∃ w : List Nat, (∀ c ∈ w, okW c = true) ∧ w.length ≤ 113 ∧ d = txD w
structure WD (n : Nat) (ds : List D) : Prop where
  len : ds.length ≤ n
  ok : ∀ d ∈ ds, wd d
theorem WD.cut {n : Nat} {ds : List D} (h : WD n ds) (lo hi : Option Int) : WD n (cutD ds lo hi) := by
  refine ⟨?_, fun d hd => h.ok d (List.mem_of_mem_drop (List.mem_of_mem_take hd))⟩
  have := h.len
  unfold cutD
  rw [List.length_take, List.length_drop]; omega
theorem WD.app {n m : Nat} {a b : List D} (h : WD n a) (g : WD m b) : WD (n + m) (a ++ b) := by
  refine ⟨by rw [List.length_append]; exact Nat.add_le_add h.len g.len, fun d hd => ?_⟩
  rcases List.mem_append.mp hd with hd | hd
  · exact h.ok d hd
  · exact g.ok d hd
theorem filterMap_le {α β : Type} (f : α → Option β) : ∀ l : List α, (l.filterMap f).length ≤ l.length
  | [] => Nat.le_refl _
  | a :: l => by
    have ih := filterMap_le f l
    rw [List.filterMap_cons]
    split
    · simp only [List.length_cons]; omega
    · simp only [List.length_cons]; omega
theorem pick_back {α : Type} (xs : List α) : (pickD xs none (some (-1))).length ≤ xs.length := by
  have e : sliceBounds none none (some (-1)) xs.length = (((xs.length : Nat) : Int) - 1, -1, -1) := by
    simp only [sliceBounds, Option.getD_none, Option.getD_some, show ¬ ((-1 : Int) > 0) by decide, if_false]
  unfold pickD
  rw [e]
  dsimp only
  refine Nat.le_trans (filterMap_le _ _) ?_
  unfold sliceRange
  rw [List.length_map, List.length_range, if_neg (by decide)]
  have hd : ∀ z : Int, z / - -1 = z := fun z => Int.ediv_one z
  rw [hd]
  split <;> omega
theorem WD.back {n : Nat} {ds : List D} (h : WD n ds) : WD n (pickD ds none (some (-1))) :=
  ⟨Nat.le_trans (pick_back ds) h.len, fun d hd => h.ok d (pick_mem hd)⟩
theorem WD.one {d : D} (h : wd d) : WD 1 [d] := ⟨Nat.le_refl _, fun e he => by rw [List.mem_singleton.mp he]; exact h⟩
theorem WD.words {n : Nat} : ∀ {ds : List D}, WD n ds → ∃ ws : List (List Nat), ws.length ≤ n ∧ (∀ w ∈ ws, (∀ c ∈ w, okW c = true) ∧ w.length ≤ 113) ∧ ds = ws.map txD
  | [], h => ⟨[], h.len, by simp, rfl⟩
  | d :: ds, h => by
    obtain ⟨w, h1, h2, rfl⟩ := h.ok d (List.mem_cons_self ..)
    have hl := h.len
    rw [List.length_cons] at hl
    obtain ⟨ws, g1, g2, rfl⟩ := WD.words (n := n) (ds := ds) ⟨by omega, fun e he => h.ok e (List.mem_cons_of_mem _ he)⟩
    rw [List.length_map] at hl
    refine ⟨w :: ws, hl, fun x hx => ?_, rfl⟩
    rcases List.mem_cons.mp hx with rfl | hx
    · exact ⟨h1, h2⟩
    · exact g2 x hx
theorem okW_sign {c : Nat} (h : okW c = true) : okSign c = true := by
  unfold okW at h
  unfold okSign
  simp only [Bool.or_eq_true, Bool.and_eq_true, decide_eq_true_eq] at h ⊢
  omega
theorem joinL_in {S : List Nat} {c : Nat} : ∀ {ls : List (List Nat)}, c ∈ TL.joinL S ls → c ∈ S ∨ ∃ l ∈ ls, c ∈ l
  | [], h => by cases h
  | [p], h => .inr ⟨p, List.mem_singleton.mpr rfl, h⟩
  | p :: q :: r, h => by
    have h : c ∈ p ++ (S ++ TL.joinL S (q :: r)) := h
    rcases List.mem_append.mp h with h | h
    · exact .inr ⟨p, List.mem_cons_self .., h⟩
    · rcases List.mem_append.mp h with h | h
      · exact .inl h
      · rcases joinL_in h with h | ⟨l, hl, h⟩
        · exact .inl h
        · exact .inr ⟨l, List.mem_cons_of_mem _ hl, h⟩
theorem joinL_len : ∀ {ls : List (List Nat)}, ls ≠ [] → (TL.joinL [10] ls).length + 1 = (ls.map List.length).sum + ls.length
  | [], h => absurd rfl h
  | [p], _ => by simp [TL.joinL]
  | p :: q :: r, _ => by
    have ih := joinL_len (ls := q :: r) (by simp)
    show (p ++ ([10] ++ TL.joinL [10] (q :: r))).length + 1 = _
    simp only [List.length_append, List.map_cons, List.sum_cons, List.length_cons, List.length_nil] at ih ⊢
    omega
theorem sum_bound {m : Nat} : ∀ {ls : List (List Nat)}, (∀ l ∈ ls, l.length ≤ m) → (ls.map List.length).sum ≤ m * ls.length
  | [], _ => by simp
  | l :: ls, h => by
    have ih := sum_bound (m := m) (ls := ls) fun x hx => h x (List.mem_cons_of_mem _ hx)
    have := h l (List.mem_cons_self ..)
    rw [List.map_cons, List.sum_cons, List.length_cons, Nat.mul_add]
    omega
theorem joinL_short {m n : Nat} {ls : List (List Nat)} (h : ∀ l ∈ ls, l.length ≤ m) (hn : ls.length ≤ n) : (TL.joinL [10] ls).length ≤ m * n + n := by
  by_cases h0 : ls = []
  · subst h0; simp [TL.joinL]
  · have a := joinL_len h0
    have b := sum_bound h
    have c : m * ls.length ≤ m * n := Nat.mul_le_mul_left m hn
    omega
theorem mores : ∀ d ∈ [D.str "l", .str "f", .str "a", .str "", .str "7", .str "007", .str "-1", .str " ", .str "z z", .str "1.5", .str "zzzzzzzzzzzzzz"], wd d := by
  intro d hd
  simp only [List.mem_cons, List.not_mem_nil, or_false] at hd
  rcases hd with rfl | rfl | rfl | rfl | rfl | rfl | rfl | rfl | rfl | rfl | rfl
  · exact ⟨[108], by decide, by decide, rfl⟩
  · exact ⟨[102], by decide, by decide, rfl⟩
  · exact ⟨[97], by decide, by decide, rfl⟩
  · exact ⟨[], by decide, by decide, rfl⟩
  · exact ⟨[55], by decide, by decide, rfl⟩
  · exact ⟨[48, 48, 55], by decide, by decide, rfl⟩
  · exact ⟨[45, 49], by decide, by decide, rfl⟩
  · exact ⟨[32], by decide, by decide, rfl⟩
  · exact ⟨[122, 32, 122], by decide, by decide, rfl⟩
  · exact ⟨[49, 46, 53], by decide, by decide, rfl⟩
  · exact ⟨[122, 122, 122, 122, 122, 122, 122, 122, 122, 122, 122, 122, 122, 122], by decide, by decide, rfl⟩
theorem addL {M : Mem} {n m : Nat} {a b : List D} (h : WD n a) (g : WD m b) (hn : n + m ≤ 10000) : gAddL M (.lst a) (.lst b) = some (.lst (a ++ b)) := by
  have h1 := h.len
  have h2 := g.len
  show (if a.length + b.length ≤ sizeLine then some (D.lst (a ++ b)) else none) = _
  rw [if_pos (by unfold sizeLine; omega)]
def okS (T : List Nat) : Prop := (∀ c ∈ T, okSign c = true) ∧ T.length ≤ 100000
theorem near_turn {k n : Nat} {M : Mem} {p W E : List D} {t a2 : D} {x2 a5 a6 a7 a8 : Option D} (hM : M[n]? = some (.lst p)) (hp : Pot k p) (hk : k < 80000) (hE : E.length ≤ 900) (hW : WD 115 W) (hW0 : W ≠ []) :
    ∃ (T : List Nat) (p' : List D) (b5 b6 b7 : Option D), okS T ∧ Pot (k + 3) p' ∧ denSL [F_law_take, F_law_of] L1_law_near [some (.ref n), some t, x2, some (.lst W), some (.ref M.length), a5, a6, a7, a8] (M ++ [.lst E]) = .nx [some (.ref n), some t, x2, some (.lst W), some (.ref M.length), b5, b6, b7, a8] (M.set n (.lst p') ++ [.lst (E ++ [txD T])]) := by
  have hlen : ∀ c : Cell, (M.set n c).length = M.length := fun c => List.length_set
  have gt : ∀ q : List D, (M.set n (.lst q) ++ [Cell.lst E])[n]? = some (.lst q) := fun q => get_app (get_set hM)
  have st2 : ∀ q q' : List D, (M.set n (.lst q) ++ [Cell.lst E]).set n (.lst q') = M.set n (.lst q') ++ [.lst E] := fun q q' => by rw [set_app (get_set hM), List.set_set]
  have isl : ∀ q : List D, isL (M.set n (.lst q) ++ [.lst E]) (.ref M.length) = true := fun q => by rw [← hlen (.lst q)]; exact isL_ref get_end
  have ner : ∀ (d : D) (M : Mem), noErr (.ok d M : Res D) = .ok d M := fun _ _ => rfl
  have ap : ∀ (q : List D) (x : D), fAppend (.ref M.length) [x] (M.set n (.lst q) ++ [.lst E]) = .ok .non (M.set n (.lst q) ++ [.lst (E ++ [x])]) := fun q x => by rw [← hlen (.lst q)]; exact app_end (by omega)
  have h1 : 0 < W.length := List.length_pos_iff.mpr hW0
  have h2 := hW.len
  obtain ⟨r, p1, hr, q1, t1⟩ := ev_take (u := W.length) (get_app (d := .lst E) hM) hp (by omega) h1 (by omega)
  rw [set_app hM] at t1
  have ln : ∀ M, fLen M (.lst W) = some (.int (W.length : Nat)) := fun _ => rfl
  obtain ⟨d, hd, p2, q2, t2⟩ := ev_of (ds := [D.str "l", .str "f", .str "a", .str "", .str "7", .str "007", .str "-1", .str " ", .str "z z", .str "1.5", .str "zzzzzzzzzzzzzz"]) (gt p1) q1 (by omega) (by simp) (by simp)
  rw [st2] at t2
  have hd := mores d hd
  have e1 : ((r : Nat) : Int) + 1 = ((r + 1 : Nat) : Int) := by omega
  have sl : ∀ (ds : List D) M lo hi, gSl M (.lst ds) lo hi = some (.lst (cutD ds lo hi)) := fun _ _ _ _ => rfl
  have g0 : ∀ (a b : List D) M, gAdd M (.lst a) (.lst b) = none := fun _ _ _ => rfl
  have ng : ∀ M, gNeg (.int 1) M = .ok (.int (-1)) M := fun _ => rfl
  have sp : ∀ M, gStp M (.lst (cutD W (some 1) none)) none (some (-1)) = some (.lst (pickD (cutD W (some 1) none) none (some (-1)))) := fun M => by
    show (if (-1 : Int) ≠ 0 ∧ (pickD (cutD W (some 1) none) none (some (-1))).length ≤ (cutD W (some 1) none).length then some (D.lst (pickD (cutD W (some 1) none) none (some (-1)))) else none) = _
    rw [if_pos ⟨by decide, pick_back _⟩]
  have c1 := hW.cut none (some ((r : Nat) : Int))
  have c2 := hW.cut (some ((r + 1 : Nat) : Int)) none
  have c3 := hW.cut none (some ((r + 1 : Nat) : Int))
  have c4 := hW.cut (some ((r : Nat) : Int)) none
  have b1 := hW.cut none (some 1)
  have b2 := (hW.cut (some 1) none).back
  have b4 := hW.cut (some 3) (some 5)
  have b5 := hW.cut (some 1) (some 3)
  have b6 := hW.cut (some 5) none
  have d1 := WD.one hd
  have r1 : ∀ M, gAddL M (.lst (cutD W none (some ((r : Nat) : Int)))) (.lst (cutD W (some ((r + 1 : Nat) : Int)) none)) = some (.lst (cutD W none (some ((r : Nat) : Int)) ++ cutD W (some ((r + 1 : Nat) : Int)) none)) := fun M => addL c1 c2 (by decide)
  have r2 : ∀ M, gAddL M (.lst (cutD W none (some ((r : Nat) : Int)))) (.lst [d]) = some (.lst (cutD W none (some ((r : Nat) : Int)) ++ [d])) := fun M => addL c1 d1 (by decide)
  have r3 : ∀ M, gAddL M (.lst (cutD W none (some ((r : Nat) : Int)) ++ [d])) (.lst (cutD W (some ((r + 1 : Nat) : Int)) none)) = some (.lst (cutD W none (some ((r : Nat) : Int)) ++ [d] ++ cutD W (some ((r + 1 : Nat) : Int)) none)) := fun M => addL (c1.app d1) c2 (by decide)
  have r4 : ∀ M, gAddL M (.lst (cutD W none (some ((r + 1 : Nat) : Int)))) (.lst (cutD W (some ((r : Nat) : Int)) none)) = some (.lst (cutD W none (some ((r + 1 : Nat) : Int)) ++ cutD W (some ((r : Nat) : Int)) none)) := fun M => addL c3 c4 (by decide)
  have r5 : ∀ M, gAddL M (.lst W) (.lst [d]) = some (.lst (W ++ [d])) := fun M => addL hW d1 (by decide)
  have r6 : ∀ M, gAddL M (.lst (cutD W none (some 1))) (.lst (pickD (cutD W (some 1) none) none (some (-1)))) = some (.lst (cutD W none (some 1) ++ pickD (cutD W (some 1) none) none (some (-1)))) := fun M => addL b1 b2 (by decide)
  have r7 : ∀ M, gAddL M (.lst (cutD W none (some 1))) (.lst (cutD W (some 3) (some 5))) = some (.lst (cutD W none (some 1) ++ cutD W (some 3) (some 5))) := fun M => addL b1 b4 (by decide)
  have r8 : ∀ M, gAddL M (.lst (cutD W none (some 1) ++ cutD W (some 3) (some 5))) (.lst (cutD W (some 1) (some 3))) = some (.lst (cutD W none (some 1) ++ cutD W (some 3) (some 5) ++ cutD W (some 1) (some 3))) := fun M => addL (b1.app b4) b5 (by decide)
  have r9 : ∀ M, gAddL M (.lst (cutD W none (some 1) ++ cutD W (some 3) (some 5) ++ cutD W (some 1) (some 3))) (.lst (cutD W (some 5) none)) = some (.lst (cutD W none (some 1) ++ cutD W (some 3) (some 5) ++ cutD W (some 1) (some 3) ++ cutD W (some 5) none)) := fun M => addL ((b1.app b4).app b5) b6 (by decide)
  have r10 : ∀ (a b c d e f : D) M, gAddL M (.lst [a, b, c]) (.lst [d, e, f]) = some (.lst [a, b, c, d, e, f]) := fun a b c d e f M => by
    show (if 3 + 3 ≤ sizeLine then some (D.lst _) else none) = _
    rw [if_pos (by decide)]; rfl
  obtain ⟨x, hx, p3, q3, t3⟩ := ev_of (ds := [D.lst (cutD W none (some ((r : Nat) : Int)) ++ cutD W (some ((r + 1 : Nat) : Int)) none), .lst (cutD W none (some ((r : Nat) : Int)) ++ [d] ++ cutD W (some ((r + 1 : Nat) : Int)) none), .lst (cutD W none (some ((r + 1 : Nat) : Int)) ++ cutD W (some ((r : Nat) : Int)) none), .lst (W ++ [d]), .lst (cutD W none (some 1) ++ pickD (cutD W (some 1) none) none (some (-1))), .lst (cutD W none (some 1) ++ cutD W (some 3) (some 5) ++ cutD W (some 1) (some 3) ++ cutD W (some 5) none)]) (gt p2) q2 (by omega) (by simp) (by simp)
  rw [st2] at t3
  have hx : ∃ X : List D, WD 460 X ∧ x = .lst X := by
    have mono : ∀ {n : Nat} {X : List D}, n ≤ 460 → WD n X → WD 460 X := fun hn h => ⟨Nat.le_trans h.len hn, h.ok⟩
    simp only [List.mem_cons, List.not_mem_nil, or_false] at hx
    rcases hx with rfl | rfl | rfl | rfl | rfl | rfl
    · exact ⟨_, mono (by decide) (c1.app c2), rfl⟩
    · exact ⟨_, mono (by decide) ((c1.app d1).app c2), rfl⟩
    · exact ⟨_, mono (by decide) (c3.app c4), rfl⟩
    · exact ⟨_, mono (by decide) (hW.app d1), rfl⟩
    · exact ⟨_, mono (by decide) (b1.app b2), rfl⟩
    · exact ⟨_, mono (by decide) (((b1.app b4).app b5).app b6), rfl⟩
  obtain ⟨X, hX, rfl⟩ := hx
  obtain ⟨ws, w1, w2, rfl⟩ := hX.words
  have jn : ∀ M, gJoin M (.str (Str.ofString "\n")) [.lst (ws.map txD)] = some (.str (st (TL.joinL [10] ws))) := fun M => join_words (by omega) fun w hw => by have := (w2 w hw).2; omega
  have oks : okS (TL.joinL [10] ws) := by
    refine ⟨fun c hc => ?_, ?_⟩
    · rcases joinL_in hc with h | ⟨l, hl, h⟩
      · rw [List.mem_singleton.mp h]; rfl
      · exact okW_sign ((w2 l hl).1 c h)
    · have := joinL_short (m := 113) (n := 460) (fun l hl => (w2 l hl).2) w1
      omega
  refine ⟨_, p3, some (.int (r : Nat)), some d, some (.lst [D.lst (cutD W none (some ((r : Nat) : Int)) ++ cutD W (some ((r + 1 : Nat) : Int)) none), .lst (cutD W none (some ((r : Nat) : Int)) ++ [d] ++ cutD W (some ((r + 1 : Nat) : Int)) none), .lst (cutD W none (some ((r + 1 : Nat) : Int)) ++ cutD W (some ((r : Nat) : Int)) none), .lst (W ++ [d]), .lst (cutD W none (some 1) ++ pickD (cutD W (some 1) none) none (some (-1))), .lst (cutD W none (some 1) ++ cutD W (some 3) (some 5) ++ cutD W (some 1) (some 3) ++ cutD W (some 5) none)]), oks, q3.mono (by omega), ?_⟩
  clear c1 c2 c3 c4 b1 b2 b4 b5 b6 d1 hd hM hp hk hE hW hW0 h1 h2 hr q1 q2 q3 hX w1 w2 oks gt st2 hlen
  show _ = SR.nx _ (_ ++ [Cell.lst (E ++ [.str (st _)])])
  generalize TL.joinL [10] ws = TT at *
  generalize ws.map txD = XX at *
  generalize W.length = wl at *
  unfold L1_law_near
  walk_at "evh"
end Lw
end

section
set_option Elab.async false
set_option linter.all false
set_option maxRecDepth 100000
set_option maxHeartbeats 4000000
namespace Lw
open PySem Wn
local macro_rules | `(tactic| walk_at "ev") => `(tactic| simp only [fnDef, fnOf, denSL, denS, den, denL, denB, denI, sSeq, sAsg, sRet, sRetN, sEx, sIf, sFor, sPar, sSet, sPass, sBrk, sCnt, bndS, bnd, Wn.ret, stuck, opt, eVar, eCst, eOp, eCall, eChain, bTru, bNot, bAnd, bOr, eOr, eAnd, eNot, eIf, lNil, lCons, eTup, eLst, eCell, eMt, eMl, eSl, oNo, oAt, eNeg, eLc, lcRun, fnDo, startE, fin, Tg.put, TgL.puts, isS_ite, if_le_sz, lstX_lst, lstOf_lst, add_int, sub_int, eq_int, ne_int, le_int, lt_int, gt_int, ge_int, is_non, isnot_non, isNon, asTru, truD, iArg, wipeE,
  List.map_cons, List.map_nil, List.length_cons, List.length_nil, List.getElem?_cons_zero, List.getElem?_cons_succ, List.set_cons_zero, List.set_cons_succ, List.getD_cons_zero, List.getD_cons_succ, List.cons_append, List.nil_append, List.replicate_succ, List.replicate_zero, Nat.zero_add, Nat.sub_self, Nat.add_one_sub_one, Nat.reduceAdd, Nat.reduceSub, Nat.reduceLeDiff, Nat.reduceEqDiff, if_true, if_false, Bool.false_eq_true, Bool.not_true, Bool.not_false, decide_true, decide_false, g1, g2, List.zip_cons_cons, List.zip_nil_right, List.foldl_cons, List.foldl_nil,
  mIndex, mJoin, mSplit, tStr, tIntS, mAppend, mExtend, mGet, eMd, eDcp, gDcp, sSetA, setA, eRv, eSst, eStp, eDsp, eLzp, fnDoP, bMinL, bLen, bAbs, bMax, bMin, bSum, bAll, bAny, bOrd, bRepr, bIsi, tInt, tTup, tLst, nInt, nStr, nBool, nTup, nLst, oAdd, oSub, oMul, oMod, oDiv, oPow, cEq, cNe, cLt, cLe, cGt, cGe, cIn, cNi, cIs, cIn', Option.some_or, Option.or_none, Option.none_or])
local macro_rules | `(tactic| walk_at "evh") => `(tactic| simp only [*, fnDef, fnOf, denSL, denS, den, denL, denB, denI, sSeq, sAsg, sRet, sRetN, sEx, sIf, sFor, sPar, sSet, sPass, sBrk, sCnt, bndS, bnd, Wn.ret, stuck, opt, eVar, eCst, eOp, eCall, eChain, bTru, bNot, bAnd, bOr, eOr, eAnd, eNot, eIf, lNil, lCons, eTup, eLst, eCell, eMt, eMl, eSl, oNo, oAt, eNeg, eLc, lcRun, fnDo, startE, fin, Tg.put, TgL.puts, isS_ite, if_le_sz, lstX_lst, lstOf_lst, add_int, sub_int, eq_int, ne_int, le_int, lt_int, gt_int, ge_int, is_non, isnot_non, isNon, asTru, truD, iArg, wipeE,
  List.map_cons, List.map_nil, List.length_cons, List.length_nil, List.getElem?_cons_zero, List.getElem?_cons_succ, List.set_cons_zero, List.set_cons_succ, List.getD_cons_zero, List.getD_cons_succ, List.cons_append, List.nil_append, List.replicate_succ, List.replicate_zero, Nat.zero_add, Nat.sub_self, Nat.add_one_sub_one, Nat.reduceAdd, Nat.reduceSub, Nat.reduceLeDiff, Nat.reduceEqDiff, if_true, if_false, Bool.false_eq_true, Bool.not_true, Bool.not_false, decide_true, decide_false, g1, g2, List.zip_cons_cons, List.zip_nil_right, List.foldl_cons, List.foldl_nil,
  mIndex, mJoin, mSplit, tStr, tIntS, mAppend, mExtend, mGet, eMd, eDcp, gDcp, sSetA, setA, eRv, eSst, eStp, eDsp, eLzp, fnDoP, bMinL, bLen, bAbs, bMax, bMin, bSum, bAll, bAny, bOrd, bRepr, bIsi, tInt, tTup, tLst, nInt, nStr, nBool, nTup, nLst, oAdd, oSub, oMul, oMod, oDiv, oPow, cEq, cNe, cLt, cLe, cGt, cGe, cIn, cNi, cIs, cIn', Option.some_or, Option.or_none, Option.none_or])
theorem near_loop {n : Nat} {t : D} {W : List D} {a8 : Option D} (hW : WD 115 W) (hW0 : W ≠ []) : ∀ (ds : List D) (Ts : List (List Nat)) (M : Mem) (p : List D) (k : Nat) (a2 a5 a6 a7 : Option D), M[n]? = some (.lst p) → Pot k p → k + 3 * ds.length < 80000 → Ts.length + ds.length ≤ 800 →
    ∃ (Us : List (List Nat)) (p' : List D) (b2 b5 b6 b7 : Option D), (∀ T ∈ Us, okS T) ∧ Us.length = ds.length ∧ Pot (k + 3 * ds.length) p' ∧ forGo (.nm 2) (denSL [F_law_take, F_law_of] L1_law_near) ds [some (.ref n), some t, a2, some (.lst W), some (.ref M.length), a5, a6, a7, a8] (M ++ [.lst (Ts.map txD)]) = .nx [some (.ref n), some t, b2, some (.lst W), some (.ref M.length), b5, b6, b7, a8] (M.set n (.lst p') ++ [.lst ((Ts ++ Us).map txD)])
  | [], Ts, M, p, k, a2, a5, a6, a7, hM, hp, _, _ => ⟨[], p, a2, a5, a6, a7, (by intro e he; cases he), rfl, hp, by rw [set_same hM, List.append_nil]; rfl⟩
  | d :: ds, Ts, M, p, k, a2, a5, a6, a7, hM, hp, hk, hl => by
    have hw : 3 * (d :: ds).length = 3 + 3 * ds.length := by rw [List.length_cons]; omega
    rw [hw] at hk ⊢
    rw [List.length_cons] at hl
    obtain ⟨T, p1, b5, b6, b7, s1, q1, t1⟩ := near_turn (t := t) (a2 := d) (x2 := some d) (a5 := a5) (a6 := a6) (a7 := a7) (a8 := a8) (E := Ts.map txD) hM hp (by omega) (by rw [List.length_map]; omega) hW hW0
    have ee : Ts.map txD ++ [txD T] = (Ts ++ [T]).map txD := by rw [List.map_append]; rfl
    rw [ee] at t1
    have hlen : (M.set n (.lst p1)).length = M.length := List.length_set
    obtain ⟨Us, p2, c2, c5, c6, c7, s2, s3, q2, t2⟩ := near_loop hW hW0 ds (Ts ++ [T]) (M.set n (.lst p1)) p1 (k + 3) (some d) b5 b6 b7 (get_set hM) q1 (by omega) (by rw [List.length_append, List.length_singleton]; omega)
    rw [hlen, List.set_set] at t2
    refine ⟨T :: Us, p2, c2, c5, c6, c7, ?_, by rw [List.length_cons, s3, List.length_cons], by rw [← Nat.add_assoc]; exact q2, ?_⟩
    · intro e he
      rcases List.mem_cons.mp he with rfl | he
      · exact s1
      · exact s2 e he
    · rw [for_nx (δ1 := [some (.ref n), some t, some d, some (.lst W), some (.ref M.length), a5, a6, a7, a8]) rfl t1, t2, List.append_assoc]
      rfl
theorem near_some {M : Mem} {a0 a1 a2 a3 a4 a5 a6 a7 a8 : Option D} : ∀ Ts : List (List Nat), (∀ T ∈ Ts, okS T) → lcGo (.nm 8) (denB [F_law_take, F_law_of] (.tru (.cmp cLe (.bf bLen (.cons (.var 8) (.nil))) (.cst (.int 113))))) (den [F_law_take, F_law_of] X1_law_near) [a0, a1, a2, a3, a4, a5, a6, a7, a8] (Ts.map txD) M = .ok ((Ts.filter fun T => decide (T.length ≤ 113)).map txD) M
  | [], _ => rfl
  | T :: Ts, h => by
    have ih := near_some (M := M) (a0 := a0) (a1 := a1) (a2 := a2) (a3 := a3) (a4 := a4) (a5 := a5) (a6 := a6) (a7 := a7) (a8 := a8) Ts fun x hx => h x (List.mem_cons_of_mem _ hx)
    have hT := (h T (List.mem_cons_self ..)).2
    have ln : ∀ M, fLen M (txD T) = some (.int (T.length : Nat)) := fun M => by
      show fLen M (.str (st T)) = _
      rw [len_str (by rw [st_len]; unfold sizeLine; omega), st_len]
    have e1 : denB [F_law_take, F_law_of] (.tru (.cmp cLe (.bf bLen (.cons (.var 8) (.nil))) (.cst (.int 113)))) [a0, a1, a2, a3, a4, a5, a6, a7, some (txD T)] M = .ok (decide (T.length ≤ 113)) M := by
      by_cases q : T.length ≤ 113
      · have c : (((T.length : Nat) : Int) ≤ 113) = True := eq_true (by omega)
        rw [decide_eq_true q]
        clear ih h hT q
        generalize txD T = TD at *
        walk_at "evh"
      · have c : (((T.length : Nat) : Int) ≤ 113) = False := eq_false (by omega)
        rw [decide_eq_false q]
        clear ih h hT q
        generalize txD T = TD at *
        walk_at "evh"
    have e2 : den [F_law_take, F_law_of] X1_law_near [a0, a1, a2, a3, a4, a5, a6, a7, some (txD T)] M = .ok (txD T) M := by
      clear ih h hT e1
      generalize txD T = TD at *
      unfold X1_law_near
      walk_at "evh"
    rw [List.map_cons, lcGo_cons, List.filter_cons]
    cases q : decide (T.length ≤ 113) with
    | true =>
      rw [q] at e1
      simp only [Tg.put, List.set_cons_succ, List.set_cons_zero, e1, e2, ih]
      rfl
    | false =>
      rw [q] at e1
      simp only [Tg.put, List.set_cons_succ, List.set_cons_zero, e1, ih]
      rfl
theorem ev_law_near {k n : Nat} {M : Mem} {p : List D} {t : List Nat} (hM : M[n]? = some (.lst p)) (hp : Pot k p) (hk : k < 70000) (ht : okText t = true) :
    ∃ (Ts : List (List Nat)) (p' : List D), (∀ T ∈ Ts, okText T = true) ∧ Ts.length ≤ 8 ∧ Pot (k + 24) p' ∧ F_law_near [.ref n, .str (st t)] M = .ok (.lst (Ts.map txD)) (M.set n (.lst p')) := by
  obtain ⟨ws, es0, hne, hl0, hok0⟩ := split_words ht
  have htl : t.length ≤ 600 := by
    have := of_decide_eq_true (Bool.and_eq_true_iff.mp (show (decide (t.length ≤ 113) && t.all okSign) = true from ht)).1
    omega
  have sp : ∀ M, gSplit M (.str (st t)) [.str (Str.ofString "\n")] = some (.lst (ws.map txD)) := fun M => split_feed htl es0
  have hW : WD 115 (ws.map txD) := ⟨by rw [List.length_map]; exact hl0, fun d hd => by
    obtain ⟨w, hw, rfl⟩ := List.mem_map.mp hd
    exact ⟨w, (hok0 w hw).1, (hok0 w hw).2, rfl⟩⟩
  have hW0 : ws.map txD ≠ [] := fun z => hne (List.map_eq_nil_iff.mp z)
  obtain ⟨Us, p1, b2, b5, b6, b7, s1, s2, q1, t1⟩ := near_loop (t := .str (st t)) (a8 := none) hW hW0 (rng 0 8) [] M p k none none none none hM hp (by rw [rng_len]; omega) (by rw [rng_len, List.length_nil]; omega)
  rw [rng_len] at s2 q1
  rw [List.nil_append] at t1
  replace t1 : forGo (.nm 2) (denSL [F_law_take, F_law_of] L1_law_near) (rng 0 8) [some (.ref n), some (.str (st t)), none, some (.lst (ws.map txD)), some (.ref M.length), none, none, none, none] (M ++ [.lst []]) = .nx [some (.ref n), some (.str (st t)), b2, some (.lst (ws.map txD)), some (.ref M.length), b5, b6, b7, none] (M.set n (.lst p1) ++ [.lst (Us.map txD)]) := t1
  have rg : ∀ M, fRng1 [.int 8] M = .ok (rng 0 8) M := fun M => fRng1_nat (n := 8) (by omega)
  have fz : sFrz 4 [some (.ref n), some (.str (st t)), b2, some (.lst (ws.map txD)), some (.ref M.length), b5, b6, b7, none] (M.set n (.lst p1) ++ [.lst (Us.map txD)]) = .nx [some (.ref n), some (.str (st t)), b2, some (.lst (ws.map txD)), some (.lst (Us.map txD)), b5, b6, b7, none] (M.set n (.lst p1) ++ [.dead]) := by
    have h4 : (M.set n (.lst p1)).length = M.length := List.length_set
    rw [← h4]
    unfold sFrz
    simp only [List.getElem?_cons_succ, List.getElem?_cons_zero, get_end, set_end, List.set_cons_succ, List.set_cons_zero]
  have it : ∀ (ds : List D) M, itL (.lst ds) M = .ok ds M := fun _ _ => rfl
  have fl : ∀ M (a0 a1 a2 a3 a4 a5 a6 a7 a8 : Option D), lcGo (.nm 8) (denB [F_law_take, F_law_of] (.tru (.cmp cLe (.bf bLen (.cons (.var 8) (.nil))) (.cst (.int 113))))) (den [F_law_take, F_law_of] X1_law_near) [a0, a1, a2, a3, a4, a5, a6, a7, a8] (Us.map txD) M = .ok ((Us.filter fun T => decide (T.length ≤ 113)).map txD) M := fun M a0 a1 a2 a3 a4 a5 a6 a7 a8 => near_some Us s1
  have fll : (Us.filter fun T => decide (T.length ≤ 113)).length ≤ 8 := by
    have := List.length_filter_le (fun T : List Nat => decide (T.length ≤ 113)) Us
    omega
  have z1 : (Us.map txD).length ≤ 1000 := by rw [List.length_map]; omega
  have z2 : ((Us.filter fun T => decide (T.length ≤ 113)).map txD).length ≤ 1000 := by rw [List.length_map]; omega
  have cl : ∀ Ts : List (List Nat), clos M.length (Ts.map txD) = true := fun Ts => by
    induction Ts with
    | nil => rfl
    | cons T Ts ih =>
      show (true && clos M.length (Ts.map txD)) = true
      rw [ih]; rfl
  have tr : trim M (.ok (.lst ((Us.filter fun T => decide (T.length ≤ 113)).map txD)) (M.set n (.lst p1) ++ [.dead])) = .ok (.lst ((Us.filter fun T => decide (T.length ≤ 113)).map txD)) (M.set n (.lst p1)) := by
    obtain ⟨a, b, c, e0, h1, h2⟩ := q1
    refine trim_set (cl _) ?_
    rw [e0]; rfl
  refine ⟨Us.filter fun T => decide (T.length ≤ 113), p1, fun T hT => ?_, fll, q1, ?_⟩
  · obtain ⟨h1, h2⟩ := List.mem_filter.mp hT
    show (decide (T.length ≤ 113) && T.all okSign) = true
    rw [h2]
    exact List.all_eq_true.mpr (s1 T h1).1
  · generalize (Us.filter fun T => decide (T.length ≤ 113)).map txD = FF at *
    generalize Us.map txD = UU at *
    generalize ws.map txD = WW at *
    clear hM hp hk ht es0 hne hl0 hok0 htl hW hW0 s1 s2 q1 fll cl
    simp only [denB, den, denL, cLe, bLen] at fl
    unfold F_law_near B_law_near
    walk_at "evh"
end Lw
end

section
set_option Elab.async false
set_option linter.all false
set_option maxRecDepth 100000
set_option maxHeartbeats 4000000
namespace Lw
open PySem Wn
local macro_rules | `(tactic| walk_at "ev") => `(tactic| simp only [fnDef, fnOf, denSL, denS, den, denL, denB, denI, sSeq, sAsg, sRet, sRetN, sEx, sIf, sFor, sPar, sSet, sPass, sBrk, sCnt, bndS, bnd, Wn.ret, stuck, opt, eVar, eCst, eOp, eCall, eChain, bTru, bNot, bAnd, bOr, eOr, eAnd, eNot, eIf, lNil, lCons, eTup, eLst, eCell, eMt, eMl, eSl, oNo, oAt, eNeg, eLc, lcRun, fnDo, startE, fin, Tg.put, TgL.puts, isS_ite, if_le_sz, lstX_lst, lstOf_lst, add_int, sub_int, eq_int, ne_int, le_int, lt_int, gt_int, ge_int, is_non, isnot_non, isNon, asTru, truD, iArg, wipeE,
  List.map_cons, List.map_nil, List.length_cons, List.length_nil, List.getElem?_cons_zero, List.getElem?_cons_succ, List.set_cons_zero, List.set_cons_succ, List.getD_cons_zero, List.getD_cons_succ, List.cons_append, List.nil_append, List.replicate_succ, List.replicate_zero, Nat.zero_add, Nat.sub_self, Nat.add_one_sub_one, Nat.reduceAdd, Nat.reduceSub, Nat.reduceLeDiff, Nat.reduceEqDiff, if_true, if_false, Bool.false_eq_true, Bool.not_true, Bool.not_false, decide_true, decide_false, g1, g2, List.zip_cons_cons, List.zip_nil_right, List.foldl_cons, List.foldl_nil,
  mIndex, mJoin, mSplit, tStr, tIntS, mAppend, mExtend, mGet, eMd, eDcp, gDcp, sSetA, setA, eRv, eSst, eStp, eDsp, eLzp, fnDoP, bMinL, bLen, bAbs, bMax, bMin, bSum, bAll, bAny, bOrd, bRepr, bIsi, tInt, tTup, tLst, nInt, nStr, nBool, nTup, nLst, oAdd, oSub, oMul, oMod, oDiv, oPow, cEq, cNe, cLt, cLe, cGt, cGe, cIn, cNi, cIs, cIn', Option.some_or, Option.or_none, Option.none_or])
local macro_rules | `(tactic| walk_at "evh") => `(tactic| simp only [*, fnDef, fnOf, denSL, denS, den, denL, denB, denI, sSeq, sAsg, sRet, sRetN, sEx, sIf, sFor, sPar, sSet, sPass, sBrk, sCnt, bndS, bnd, Wn.ret, stuck, opt, eVar, eCst, eOp, eCall, eChain, bTru, bNot, bAnd, bOr, eOr, eAnd, eNot, eIf, lNil, lCons, eTup, eLst, eCell, eMt, eMl, eSl, oNo, oAt, eNeg, eLc, lcRun, fnDo, startE, fin, Tg.put, TgL.puts, isS_ite, if_le_sz, lstX_lst, lstOf_lst, add_int, sub_int, eq_int, ne_int, le_int, lt_int, gt_int, ge_int, is_non, isnot_non, isNon, asTru, truD, iArg, wipeE,
  List.map_cons, List.map_nil, List.length_cons, List.length_nil, List.getElem?_cons_zero, List.getElem?_cons_succ, List.set_cons_zero, List.set_cons_succ, List.getD_cons_zero, List.getD_cons_succ, List.cons_append, List.nil_append, List.replicate_succ, List.replicate_zero, Nat.zero_add, Nat.sub_self, Nat.add_one_sub_one, Nat.reduceAdd, Nat.reduceSub, Nat.reduceLeDiff, Nat.reduceEqDiff, if_true, if_false, Bool.false_eq_true, Bool.not_true, Bool.not_false, decide_true, decide_false, g1, g2, List.zip_cons_cons, List.zip_nil_right, List.foldl_cons, List.foldl_nil,
  mIndex, mJoin, mSplit, tStr, tIntS, mAppend, mExtend, mGet, eMd, eDcp, gDcp, sSetA, setA, eRv, eSst, eStp, eDsp, eLzp, fnDoP, bMinL, bLen, bAbs, bMax, bMin, bSum, bAll, bAny, bOrd, bRepr, bIsi, tInt, tTup, tLst, nInt, nStr, nBool, nTup, nLst, oAdd, oSub, oMul, oMod, oDiv, oPow, cEq, cNe, cLt, cLe, cGt, cGe, cIn, cNi, cIs, cIn', Option.some_or, Option.or_none, Option.none_or])
/-! ### reprs of tuples -/
/-- repr of it is a string that compares with itself -/
def Shows (d : D) : Prop := ∃ r, (∀ M, fRepr M d = some (.str r)) ∧ ∀ M, gNe M (.str r) (.str r) = some (.bl false)
theorem tl_len (x : Str) : (TL.tl x).length = x.length := by simp [TL.tl, Str.length]
theorem strOk_tl {x : Str} (h : ∀ c ∈ TL.tl x, c < 0x110000) : PyData.strOk x = true := by
  unfold PyData.strOk
  rw [Array.all_eq_true']
  intro c hc
  exact decide_eq_true (h c (by simpa [TL.tl] using hc))
structure Nice (k B : Nat) (p : PyData) : Prop where
  sh : p.showable = true
  nd : p.hasDict = false
  dp : p.depth ≤ k
  ln : (TL.tl p.shown).length ≤ B
  ok : ∀ c ∈ TL.tl p.shown, c < 0x110000
theorem Nice.mono {k k' B B' : Nat} {p : PyData} (h : Nice k B p) (hk : k ≤ k') (hB : B ≤ B') : Nice k' B' p := ⟨h.sh, h.nd, Nat.le_trans h.dp hk, Nat.le_trans h.ln hB, h.ok⟩
theorem Nice.shows {k B : Nat} {d : D} {p : PyData} (h : Nice k B p) (hk : k ≤ 60) (hB : B ≤ 10000000) (hs : isSeq d = true) (hp : toPy d = some p) : Shows d := by
  refine ⟨p.shown, fun M => ?_, fun M => ?_⟩
  · unfold fRepr
    rw [if_pos hs, hp]
    refine if_pos ⟨h.sh, h.nd, Nat.le_trans h.dp hk, ?_⟩
    have := h.ln
    rw [tl_len] at this
    unfold sizeLine
    omega
  · have ok := strOk_tl h.ok
    rw [gNe_str ok ok]
    simp
theorem rc_ok : ∀ c, c < 127 → ∀ q ∈ [34, 39], ∀ x ∈ Builtin.Str.reprChar q c, x < 0x110000 := by decide +kernel
theorem rt_fold (q : Nat) : ∀ (l : List Nat) (acc : Array Nat), (∀ x ∈ acc.toList, x < 0x110000) → (∀ c ∈ l, ∀ x ∈ Builtin.Str.reprChar q c, x < 0x110000) → ∀ x ∈ (l.foldl (fun out c => out ++ (Builtin.Str.reprChar q c).toArray) acc).toList, x < 0x110000
  | [], acc, h, _ => h
  | c :: l, acc, h, g => by
    rw [List.foldl_cons]
    refine rt_fold q l _ (fun x hx => ?_) fun d hd => g d (List.mem_cons_of_mem _ hd)
    rw [Array.toList_append, List.mem_append] at hx
    rcases hx with hx | hx
    · exact h x hx
    · exact g c (List.mem_cons_self ..) x hx
theorem quote_two (x : Str) : reprQuote x ∈ [34, 39] := by
  unfold reprQuote
  split <;> simp
theorem rt_ok {l : List Nat} (h : ∀ c ∈ l, c < 127) : ∀ x ∈ TL.tl (reprText (st l)), x < 0x110000 := by
  intro x hx
  unfold reprText TL.tl at hx
  rw [Array.toList_push, List.mem_append, List.mem_singleton, ← Array.foldl_toList] at hx
  have q := quote_two (st l)
  have q2 : reprQuote (st l) < 0x110000 := by
    simp only [List.mem_cons, List.not_mem_nil, or_false] at q
    omega
  rcases hx with hx | hx
  · refine rt_fold _ _ _ ?_ (fun c hc => rc_ok c ?_ _ q) x hx
    · intro y hy
      simp only [List.mem_singleton] at hy
      omega
    · rw [st_tl] at hc
      exact h c hc
  · omega
theorem rt_len {l : List Nat} (h : ∀ c ∈ l, c < 127) : (reprText (st l)).length ≤ 10 * l.length + 2 := by
  have := StrLaws.reprText_len (st l) (fun c hc => by
    rw [st_tl] at hc
    have := h c hc
    omega)
  rw [st_len] at this
  exact this
theorem nice_str {l : List Nat} (h : ∀ c ∈ l, c < 127) : Nice 0 (10 * l.length + 2) (.str (st l)) :=
  ⟨rfl, rfl, Nat.le_refl _, by rw [PyData.shown_str, tl_len]; exact rt_len h, by rw [PyData.shown_str]; exact rt_ok h⟩
theorem nice_none : Nice 0 4 .none := ⟨rfl, rfl, Nat.le_refl _, by decide +kernel, by decide +kernel⟩
theorem nice_bool (b : Bool) : Nice 0 5 (.bool b) := by cases b <;> exact ⟨rfl, rfl, Nat.le_refl _, by decide +kernel, by decide +kernel⟩
theorem nice_nat {n : Nat} (h : n < 2 ^ 1000) : Nice 0 1001 (.int (n : Nat)) := by
  have hl : n.log2 < 1920 := by
    have := log2_le h
    omega
  have e1 : (PyData.int ((n : Nat) : Int)).shown = Str.ofString (toString ((n : Nat) : Int)) := rfl
  have e2 : TL.tl (Str.ofString (toString ((n : Nat) : Int))) = (Nat.repr n).toList.map Char.toNat := PyProof.Rows.signs_ofString _
  refine ⟨decide_eq_true (by simpa using hl), rfl, Nat.le_refl _, ?_, ?_⟩
  · rw [e1, e2, List.length_map]
    have := nat_repr_length_le (n := n) (k := 1000) (by omega) h
    rw [String.length_toList]
    omega
  · rw [e1, e2]
    intro c hc
    obtain ⟨ch, hch, rfl⟩ := List.mem_map.mp hc
    rw [Nat.toList_repr] at hch
    have := Nat.isDigit_of_mem_toDigits (by decide) (by decide) hch
    have h2 : ch.val ≤ '9'.val := by
      unfold Char.isDigit at this
      simp only [Bool.and_eq_true, decide_eq_true_eq] at this
      exact this.2
    have h3 : ch.val.toNat ≤ 57 := h2
    show ch.val.toNat < _
    omega
theorem joinL_le {S : List Nat} : ∀ ls : List (List Nat), (TL.joinL S ls).length ≤ (ls.map List.length).sum + S.length * ls.length
  | [] => by simp [TL.joinL]
  | [p] => by simp [TL.joinL]
  | p :: q :: r => by
    have ih := joinL_le (S := S) (q :: r)
    show (p ++ (S ++ TL.joinL S (q :: r))).length ≤ _
    simp only [List.length_append, List.map_cons, List.sum_cons, List.length_cons] at ih ⊢
    rw [Nat.mul_add]
    omega
theorem joinL_mem {S : List Nat} {c : Nat} : ∀ {ls : List (List Nat)}, c ∈ TL.joinL S ls → c ∈ S ∨ ∃ l ∈ ls, c ∈ l
  | [], h => by cases h
  | [p], h => .inr ⟨p, List.mem_singleton.mpr rfl, h⟩
  | p :: q :: r, h => by
    have h : c ∈ p ++ (S ++ TL.joinL S (q :: r)) := h
    rcases List.mem_append.mp h with h | h
    · exact .inr ⟨p, List.mem_cons_self .., h⟩
    · rcases List.mem_append.mp h with h | h
      · exact .inl h
      · rcases joinL_mem h with h | ⟨l, hl, h⟩
        · exact .inl h
        · exact .inr ⟨l, List.mem_cons_of_mem _ hl, h⟩
theorem tuple_tl (ps : List PyData) : ∃ e : List Nat, e.length ≤ 2 ∧ (∀ c ∈ e, c < 127) ∧ TL.tl (PyData.tuple ps).shown = 40 :: (TL.joinL [44, 32] ((PyData.shownAll ps).map TL.tl) ++ e) := by
  rw [PyData.shown_tuple]
  have e1 : TL.tl ("(" : Str) = [40] := by decide
  have e2 : TL.tl (", " : Str) = [44, 32] := by decide
  by_cases c : (ps.length == 1) = true
  · refine ⟨[44, 41], by decide, by decide, ?_⟩
    rw [if_pos c]
    have e3 : TL.tl ((",)" : String) : Str) = [44, 41] := by decide
    rw [TL.tl_append, TL.tl_append, TL.tl_join, e1, e2, e3]
    simp
  · refine ⟨[41], by decide, by decide, ?_⟩
    rw [if_neg c]
    have e3 : TL.tl ((")" : String) : Str) = [41] := by decide
    rw [TL.tl_append, TL.tl_append, TL.tl_join, e1, e2, e3]
    simp
theorem shownAll_map : ∀ ps : List PyData, PyData.shownAll ps = ps.map PyData.shown
  | [] => by simp only [PyData.shownAll, List.map_nil]
  | p :: ps => by simp only [PyData.shownAll, List.map_cons, shownAll_map ps]
theorem nice_all {k B : Nat} : ∀ {ps : List PyData}, (∀ p ∈ ps, Nice k B p) → PyData.showableAll ps = true ∧ PyData.hasDictAll ps = false ∧ PyData.depthAll ps ≤ k ∧ ((ps.map fun p => TL.tl p.shown).map List.length).sum ≤ B * ps.length
  | [], _ => by simp [PyData.showableAll, PyData.hasDictAll, PyData.depthAll]
  | p :: ps, h => by
    obtain ⟨h1, h2, h3, h4⟩ := nice_all (ps := ps) fun q hq => h q (List.mem_cons_of_mem _ hq)
    have hp := h p (List.mem_cons_self ..)
    refine ⟨by simp only [PyData.showableAll, hp.sh, h1, Bool.and_self], by simp only [PyData.hasDictAll, hp.nd, h2, Bool.or_self], ?_, ?_⟩
    · simp only [PyData.depthAll]
      have := hp.dp
      omega
    · simp only [List.map_cons, List.sum_cons, List.length_cons]
      have := hp.ln
      rw [Nat.mul_add]
      omega
theorem nice_tuple {k B : Nat} {ps : List PyData} (h : ∀ p ∈ ps, Nice k B p) : Nice (k + 1) ((B + 2) * ps.length + 3) (.tuple ps) := by
  obtain ⟨h1, h2, h3, h4⟩ := nice_all h
  obtain ⟨e, e1, e2, e3⟩ := tuple_tl ps
  refine ⟨by simpa only [PyData.showable] using h1, by simpa only [PyData.hasDict] using h2, by simp only [PyData.depth]; omega, ?_, ?_⟩
  · rw [e3, shownAll_map, List.length_cons, List.length_append]
    have := joinL_le (S := [44, 32]) ((ps.map PyData.shown).map TL.tl)
    simp only [List.length_map, List.length_cons, List.length_nil] at this
    rw [List.map_map, List.map_map] at this
    rw [List.map_map] at h4
    rw [List.map_map]
    have e4 : (ps.map ((List.length ∘ TL.tl) ∘ PyData.shown)).sum = (ps.map (List.length ∘ TL.tl ∘ PyData.shown)).sum := rfl
    have e5 : (ps.map (List.length ∘ (fun p : PyData => TL.tl p.shown))).sum = (ps.map (List.length ∘ TL.tl ∘ PyData.shown)).sum := rfl
    rw [e5] at h4
    rw [Nat.add_mul]
    omega
  · rw [e3, shownAll_map]
    intro c hc
    rcases List.mem_cons.mp hc with rfl | hc
    · omega
    · rcases List.mem_append.mp hc with hc | hc
      · rcases joinL_mem hc with hc | ⟨l, hl, hc⟩
        · have : ∀ c ∈ ([44, 32] : List Nat), c < 127 := by decide
          have := this c hc
          omega
        · obtain ⟨s, hs, rfl⟩ := List.mem_map.mp hl
          obtain ⟨p, hp, rfl⟩ := List.mem_map.mp hs
          exact (h p hp).ok c hc
      · have := e2 c hc
        omega
end Lw
end

section
set_option Elab.async false
set_option linter.all false
set_option maxRecDepth 100000
set_option maxHeartbeats 4000000
namespace Lw
open PySem Wn
local macro_rules | `(tactic| walk_at "ev") => `(tactic| simp only [fnDef, fnOf, denSL, denS, den, denL, denB, denI, sSeq, sAsg, sRet, sRetN, sEx, sIf, sFor, sPar, sSet, sPass, sBrk, sCnt, bndS, bnd, Wn.ret, stuck, opt, eVar, eCst, eOp, eCall, eChain, bTru, bNot, bAnd, bOr, eOr, eAnd, eNot, eIf, lNil, lCons, eTup, eLst, eCell, eMt, eMl, eSl, oNo, oAt, eNeg, eLc, lcRun, fnDo, startE, fin, Tg.put, TgL.puts, isS_ite, if_le_sz, lstX_lst, lstOf_lst, add_int, sub_int, eq_int, ne_int, le_int, lt_int, gt_int, ge_int, is_non, isnot_non, isNon, asTru, truD, iArg, wipeE,
  List.map_cons, List.map_nil, List.length_cons, List.length_nil, List.getElem?_cons_zero, List.getElem?_cons_succ, List.set_cons_zero, List.set_cons_succ, List.getD_cons_zero, List.getD_cons_succ, List.cons_append, List.nil_append, List.replicate_succ, List.replicate_zero, Nat.zero_add, Nat.sub_self, Nat.add_one_sub_one, Nat.reduceAdd, Nat.reduceSub, Nat.reduceLeDiff, Nat.reduceEqDiff, if_true, if_false, Bool.false_eq_true, Bool.not_true, Bool.not_false, decide_true, decide_false, g1, g2, List.zip_cons_cons, List.zip_nil_right, List.foldl_cons, List.foldl_nil,
  mIndex, mJoin, mSplit, tStr, tIntS, mAppend, mExtend, mGet, eMd, eDcp, gDcp, sSetA, setA, eRv, eSst, eStp, eDsp, eLzp, fnDoP, bMinL, bLen, bAbs, bMax, bMin, bSum, bAll, bAny, bOrd, bRepr, bIsi, tInt, tTup, tLst, nInt, nStr, nBool, nTup, nLst, oAdd, oSub, oMul, oMod, oDiv, oPow, cEq, cNe, cLt, cLe, cGt, cGe, cIn, cNi, cIs, cIn', Option.some_or, Option.or_none, Option.none_or])
local macro_rules | `(tactic| walk_at "evh") => `(tactic| simp only [*, fnDef, fnOf, denSL, denS, den, denL, denB, denI, sSeq, sAsg, sRet, sRetN, sEx, sIf, sFor, sPar, sSet, sPass, sBrk, sCnt, bndS, bnd, Wn.ret, stuck, opt, eVar, eCst, eOp, eCall, eChain, bTru, bNot, bAnd, bOr, eOr, eAnd, eNot, eIf, lNil, lCons, eTup, eLst, eCell, eMt, eMl, eSl, oNo, oAt, eNeg, eLc, lcRun, fnDo, startE, fin, Tg.put, TgL.puts, isS_ite, if_le_sz, lstX_lst, lstOf_lst, add_int, sub_int, eq_int, ne_int, le_int, lt_int, gt_int, ge_int, is_non, isnot_non, isNon, asTru, truD, iArg, wipeE,
  List.map_cons, List.map_nil, List.length_cons, List.length_nil, List.getElem?_cons_zero, List.getElem?_cons_succ, List.set_cons_zero, List.set_cons_succ, List.getD_cons_zero, List.getD_cons_succ, List.cons_append, List.nil_append, List.replicate_succ, List.replicate_zero, Nat.zero_add, Nat.sub_self, Nat.add_one_sub_one, Nat.reduceAdd, Nat.reduceSub, Nat.reduceLeDiff, Nat.reduceEqDiff, if_true, if_false, Bool.false_eq_true, Bool.not_true, Bool.not_false, decide_true, decide_false, g1, g2, List.zip_cons_cons, List.zip_nil_right, List.foldl_cons, List.foldl_nil,
  mIndex, mJoin, mSplit, tStr, tIntS, mAppend, mExtend, mGet, eMd, eDcp, gDcp, sSetA, setA, eRv, eSst, eStp, eDsp, eLzp, fnDoP, bMinL, bLen, bAbs, bMax, bMin, bSum, bAll, bAny, bOrd, bRepr, bIsi, tInt, tTup, tLst, nInt, nStr, nBool, nTup, nLst, oAdd, oSub, oMul, oMod, oDiv, oPow, cEq, cNe, cLt, cLe, cGt, cGe, cIn, cNi, cIs, cIn', Option.some_or, Option.or_none, Option.none_or])
/-! ### what is read shows itself -/
theorem nice_ent {e : List Nat × D} (h : entOk e) : ∃ p, toPy (ent e) = some p ∧ Nice 1 12100 p := by
  obtain ⟨h1, h2, h3⟩ := h
  have k : Nice 0 6002 (.str (st e.1)) := (nice_str h1).mono (Nat.le_refl _) (by omega)
  have v : ∃ q, toPy e.2 = some q ∧ Nice 0 6002 q := by
    rcases h3 with ⟨v, g1, g2, e2⟩ | ⟨n, g, e2⟩
    · exact ⟨.str (st v), by rw [e2]; rfl, (nice_str g1).mono (Nat.le_refl _) (by omega)⟩
    · refine ⟨.int (n : Nat), by rw [e2]; rfl, (nice_nat (n := n) ?_).mono (Nat.le_refl _) (by omega)⟩
      exact Nat.lt_of_le_of_lt g (by decide +kernel)
  obtain ⟨q, e2, v⟩ := v
  refine ⟨.tuple [.str (st e.1), q], ?_, (nice_tuple (k := 0) (B := 6002) (ps := [.str (st e.1), q]) fun p hp => ?_).mono (Nat.le_refl _) (by simp)⟩
  · show (toPys [txD e.1, e.2]).map PyData.tuple = _
    rw [toPys, toPys, e2]; rfl
  · simp only [List.mem_cons, List.not_mem_nil, or_false] at hp
    rcases hp with rfl | rfl
    · exact k
    · exact v
theorem nice_ents : ∀ {es : List (List Nat × D)}, (∀ e ∈ es, entOk e) → ∃ ps, toPys (es.map ent) = some ps ∧ ps.length = es.length ∧ ∀ p ∈ ps, Nice 1 12100 p
  | [], _ => ⟨[], rfl, rfl, by simp⟩
  | e :: es, h => by
    obtain ⟨p, e1, n1⟩ := nice_ent (h e (List.mem_cons_self ..))
    obtain ⟨ps, e2, l2, n2⟩ := nice_ents (es := es) fun x hx => h x (List.mem_cons_of_mem _ hx)
    refine ⟨p :: ps, by rw [List.map_cons, toPys, e1, e2], by rw [List.length_cons, l2, List.length_cons], fun q hq => ?_⟩
    rcases List.mem_cons.mp hq with rfl | hq
    · exact n1
    · exact n2 q hq
theorem shows_read {x : D} (h : readD x) : Shows x := by
  rcases h with rfl | ⟨w, es, hw, hl, he, rfl⟩
  · refine ⟨"None", fun _ => rfl, fun M => ?_⟩
    rw [gNe_str (by decide +kernel) (by decide +kernel)]; rfl
  · obtain ⟨ps, e1, l1, n1⟩ := nice_ents he
    have nt : Nice 2 49000 (.tuple ps) := (nice_tuple n1).mono (Nat.le_refl _) (by rw [l1]; have : 12102 * es.length ≤ 12102 * 4 := Nat.mul_le_mul_left _ hl; omega)
    have nw : Nice 2 49000 (.str w) := by
      rcases hw with rfl | rfl
      · exact (nice_str (l := [108, 101, 97, 102]) (by decide)).mono (by omega) (by decide)
      · exact (nice_str (l := [102, 111, 114, 107]) (by decide)).mono (by omega) (by decide)
    refine Nice.shows (k := 3) (B := 98100) (p := .tuple [.str w, .tuple ps]) ((nice_tuple (k := 2) (B := 49000) (ps := [.str w, .tuple ps]) fun p hp => ?_).mono (Nat.le_refl _) (by simp)) (by omega) (by omega) rfl ?_
    · simp only [List.mem_cons, List.not_mem_nil, or_false] at hp
      rcases hp with rfl | rfl
      · exact nw
      · exact nt
    · show (toPys [D.str w, .tup (es.map ent)]).map PyData.tuple = _
      have : toPy (.tup (es.map ent)) = some (.tuple ps) := by
        show (toPys (es.map ent)).map PyData.tuple = _
        rw [e1]; rfl
      rw [toPys, toPys, this]; rfl
/-! ### the turns of the law -/
theorem ev_sheet_in {T : List Nat} {x : D} {M : Mem} (h : okText T = true) (e : ∀ M, F_sheet_of [.str (st T)] M = .ok x M) : F_sheet_in [.str (st T)] M = .ok x M := by
  obtain ⟨hl, hs⟩ := Bool.and_eq_true_iff.mp (show (decide (T.length ≤ 113) && T.all okSign) = true from h)
  have e1 : ∀ M, F_is_page_text [.str (st T)] M = .ok (.bl true) M := fun M => by
    rw [ev_is_page_text (fun c hc => okSign_lt (List.all_eq_true.mp hs c hc)) (by have := of_decide_eq_true hl; omega), h]
  clear h hl hs
  unfold F_sheet_in B_sheet_in
  walk_at "evh"
noncomputable abbrev usR : List Fun := [F_law_sheet, F_law_take, F_law_text, F_written, F_law_near, F_sheet_in, F_law_read]
theorem read_turn {T : List Nat} {M : Mem} {a0 a1 a2 a3 a4 a6 : Option D} (h : okText T = true) : denSL usR L1_law_right [a0, a1, a2, a3, a4, some (.str (st T)), a6] M = .nx [a0, a1, a2, a3, a4, some (.str (st T)), a6] M := by
  obtain ⟨x, hx, e1, e2⟩ := reads_alike h
  have e1 : ∀ M, F_sheet_in [.str (st T)] M = .ok x M := fun M => ev_sheet_in h e1
  obtain ⟨r, s1, s2⟩ := shows_read hx
  clear hx h
  unfold L1_law_right
  walk_at "evh"
theorem read_loop {M : Mem} {a0 a1 a2 a3 a4 a6 : Option D} : ∀ (Ts : List (List Nat)) (a5 : Option D), (∀ T ∈ Ts, okText T = true) → ∃ b5, forGo (.nm 5) (denSL usR L1_law_right) (Ts.map txD) [a0, a1, a2, a3, a4, a5, a6] M = .nx [a0, a1, a2, a3, a4, b5, a6] M
  | [], a5, _ => ⟨a5, rfl⟩
  | T :: Ts, a5, h => by
    obtain ⟨b5, ih⟩ := read_loop (M := M) (a0 := a0) (a1 := a1) (a2 := a2) (a3 := a3) (a4 := a4) (a6 := a6) Ts (some (txD T)) fun x hx => h x (List.mem_cons_of_mem _ hx)
    refine ⟨b5, ?_⟩
    rw [List.map_cons, for_nx (δ1 := [a0, a1, a2, a3, a4, some (.str (st T)), a6]) rfl (read_turn (h T (List.mem_cons_self ..)))]
    exact ih
theorem words_of {leaf : Bool} {rs : List Nat} (h5 : rs.length = 5) (hr : ∀ r ∈ rs, r < 600) : ∀ {es : List (List Nat × D)}, (∀ e ∈ es, entS leaf e) → ∃ xs : List EW, xs.map (·.1) = es ∧ ∀ x ∈ xs, entS leaf x.1 ∧ wordP leaf (rs.map fun r => D.int ((r : Nat) : Int)) x.1.2 x.2
  | [], _ => ⟨[], rfl, by simp⟩
  | e :: es, h => by
    obtain ⟨W, hW⟩ := word_of (h e (List.mem_cons_self ..)) h5 hr
    obtain ⟨xs, e1, e2⟩ := words_of (leaf := leaf) h5 hr (es := es) fun x hx => h x (List.mem_cons_of_mem _ hx)
    refine ⟨(e, W) :: xs, by rw [List.map_cons, e1], fun x hx => ?_⟩
    rcases List.mem_cons.mp hx with rfl | hx
    · exact ⟨h e (List.mem_cons_self ..), hW⟩
    · exact e2 x hx
theorem words_len (xs : List EW) : (wordsOf xs).length = 2 * xs.length := by
  unfold wordsOf
  induction xs with
  | nil => rfl
  | cons x xs ih => rw [List.flatMap_cons, List.length_append, ih]; simp; omega
theorem text_ok {leaf : Bool} {ps : List D} {xs : List EW} (h : ∀ x ∈ xs, entS leaf x.1 ∧ wordP leaf ps x.1.2 x.2) (h4 : xs.length ≤ 4) : okText (textOf leaf xs) = true := by
  have hw : ∀ w ∈ wordsOf xs, (∀ c ∈ w, okW c = true) ∧ w.length ≤ 13 := fun w hw => by
    obtain ⟨x, hx, hw⟩ := List.mem_flatMap.mp hw
    have a := sgOk_ok (h x hx).1.1
    have b := sgOk_ok (h x hx).2.1
    simp only [List.mem_cons, List.not_mem_nil, or_false] at hw
    rcases hw with rfl | rfl
    · exact ⟨fun c hc => (a.1 c hc).1, a.2.2⟩
    · exact ⟨fun c hc => (b.1 c hc).1, b.2.2⟩
  have hk : ∀ c ∈ kdW leaf, okW c = true := by cases leaf <;> decide
  have kl : (kdW leaf).length = 1 := by cases leaf <;> rfl
  show (decide ((textOf leaf xs).length ≤ 113) && (textOf leaf xs).all okSign) = true
  rw [Bool.and_eq_true]
  refine ⟨decide_eq_true ?_, List.all_eq_true.mpr fun c hc => ?_⟩
  · have a := joinL_len (ls := kdW leaf :: wordsOf xs) (by simp)
    have b := sum_bound (m := 13) (ls := wordsOf xs) fun l hl => (hw l hl).2
    rw [List.map_cons, List.sum_cons, List.length_cons, kl] at a
    rw [words_len] at a b
    unfold textOf
    omega
  · rcases joinL_in hc with h | ⟨l, hl, h⟩
    · rw [List.mem_singleton.mp h]; rfl
    · refine okW_sign ?_
      rcases List.mem_cons.mp hl with rfl | hl
      · exact hk c h
      · exact (hw l hl).1 c h
theorem ne_same {M : Mem} {T : List Nat} (h : okText T = true) : gNe M (.str (st T)) (.str (st T)) = some (.bl false) := by
  obtain ⟨_, hs⟩ := Bool.and_eq_true_iff.mp (show (decide (T.length ≤ 113) && T.all okSign) = true from h)
  have h127 : ∀ c ∈ T, c < 127 := fun c hc => okSign_lt (List.all_eq_true.mp hs c hc)
  rw [ne_words h127 h127, decide_eq_true rfl]; rfl
theorem lap_turn {k n : Nat} {M : Mem} {p : List D} {b : D} {x2 x3 x4 x5 : Option D} (hM : M[n]? = some (.lst p)) (hp : Pot k p) (hk : k < 50000) :
    ∃ (p' : List D) (y2 y3 y4 y5 : Option D), Pot (k + 100) p' ∧ denSL usR L2_law_right [some (.ref n), some b, x2, x3, x4, x5, none] M = .nx [some (.ref n), some b, y2, y3, y4, y5, none] (M.set n (.lst p')) := by
  obtain ⟨leaf, es, p1, s1, s2, s3, s4, q1, t1⟩ := ev_law_sheet hM hp (by omega)
  have hM1 := get_set (d := .lst p1) hM
  obtain ⟨xs0, p2, l2, s5, q2, t2⟩ := drawsW (i := 6) (n := n) (B := 80000) (w := 1) (e := den usR X1_law_right) (δ := [some (.ref n), some b, some (shD (kdS leaf) es), x3, x4, x5, none]) (S := fun x => ∃ r : Nat, r < 600 ∧ x = .int (r : Nat)) (fun M p k d hM hp hk => by
    obtain ⟨r, p', hr, hp', e⟩ := ev_take (u := 600) hM hp (by omega) (by omega) (by omega)
    replace e : F_law_take [.ref n, .int 600] M = .ok (.int (r : Nat)) (M.set n (.lst p')) := e
    refine ⟨_, p', ⟨r, hr, rfl⟩, hp', ?_⟩
    generalize shD (kdS leaf) es = SH at *
    clear hM hp hk hr hp' t1 s1 s2 s3 s4 q1 hM1
    unfold X1_law_right
    walk_at "evh") (rng 0 5) _ p1 (k + 60) hM1 q1 (by rw [rng_len]; omega)
  rw [List.set_set] at t2
  rw [rng_len] at l2 q2
  have hM2 := get_set (d := .lst p2) hM
  have hrs : ∃ rs : List Nat, (∀ r ∈ rs, r < 600) ∧ xs0 = rs.map fun r => D.int ((r : Nat) : Int) := by
    clear t2 l2
    induction xs0 with
    | nil => exact ⟨[], by simp, rfl⟩
    | cons x xs ih =>
      obtain ⟨l, hl, rfl⟩ := s5 x (List.mem_cons_self ..)
      obtain ⟨ls, h1, rfl⟩ := ih fun y hy => s5 y (List.mem_cons_of_mem _ hy)
      refine ⟨l :: ls, fun m hm => ?_, rfl⟩
      rcases List.mem_cons.mp hm with rfl | hm
      · exact hl
      · exact h1 m hm
  obtain ⟨rs, hrs, rfl⟩ := hrs
  rw [List.length_map] at l2
  obtain ⟨xs, rfl, hxs⟩ := words_of (leaf := leaf) l2 hrs s1
  rw [List.length_map] at s2 s3
  have e3 : ∀ M, F_law_text [shD (kdS leaf) (xs.map (·.1)), .tup (rs.map fun r => D.int ((r : Nat) : Int))] M = .ok (.str (st (textOf leaf xs))) M := fun M => ev_law_text (fun x hx => ⟨(hxs x hx).1.1, (hxs x hx).2⟩) (by omega)
  have e4 : ∀ M, F_written [shD (kdS leaf) (xs.map (·.1)), .tup (rs.map fun r => D.int ((r : Nat) : Int))] M = .ok (.str (st (textOf leaf xs))) M := fun M => ev_written l2 hrs hxs s2 s3 s4
  have hok := text_ok hxs s3
  have ne := fun M => ne_same (M := M) hok
  obtain ⟨Ts, p3, u1, u2, q3, t3⟩ := ev_law_near hM2 q2 (by omega) hok
  rw [List.set_set] at t3
  obtain ⟨b5, t4⟩ := read_loop (M := M.set n (.lst p3)) (a0 := some (.ref n)) (a1 := some b) (a2 := some (shD (kdS leaf) (xs.map (·.1)))) (a3 := some (.tup (rs.map fun r => D.int ((r : Nat) : Int)))) (a4 := some (.str (st (textOf leaf xs)))) (a6 := none) (textOf leaf xs :: Ts) x5 (fun T hT => by
    rcases List.mem_cons.mp hT with rfl | hT
    · exact hok
    · exact u1 T hT)
  have ad0 : ∀ (a b : List D) M, gAdd M (.lst a) (.lst b) = none := fun _ _ _ => rfl
  have ad : ∀ M, gAddL M (.lst [.str (st (textOf leaf xs))]) (.lst (Ts.map txD)) = some (.lst ((textOf leaf xs :: Ts).map txD)) := fun M => by
    show (if 1 + (Ts.map txD).length ≤ sizeLine then some (D.lst ([D.str (st (textOf leaf xs))] ++ Ts.map txD)) else none) = _
    rw [if_pos (by rw [List.length_map]; unfold sizeLine; omega)]; rfl
  have rg : ∀ M, fRng1 [.int 5] M = .ok (rng 0 5) M := fun M => fRng1_nat (n := 5) (by omega)
  have z0 : (rng 0 5).length ≤ 1000 := by rw [rng_len]; omega
  have z1 : (rs.map fun r => D.int ((r : Nat) : Int)).length ≤ 1000 := by rw [List.length_map]; omega
  have tp : ∀ M ds, fTuple M (.lst ds) = some (.tup ds) := fun _ _ => rfl
  have it : ∀ (ds : List D) M, itL (.lst ds) M = .ok ds M := fun _ _ => rfl
  have ar : ∀ x y : D, arr [1, 0] .non [x, y] = [y, x] := fun _ _ => rfl
  refine ⟨p3, some (shD (kdS leaf) (xs.map (·.1))), some (.tup (rs.map fun r => D.int ((r : Nat) : Int))), some (.str (st (textOf leaf xs))), b5, q3.mono (by omega), ?_⟩
  generalize (textOf leaf xs :: Ts).map txD = TT at *
  generalize Ts.map txD = T1 at *
  generalize st (textOf leaf xs) = TX at *
  generalize (rs.map fun r => D.int ((r : Nat) : Int)) = RR at *
  generalize shD (kdS leaf) (xs.map (·.1)) = SH at *
  clear hM hp hk s1 s2 s3 s4 q1 hM1 l2 s5 q2 hM2 hrs hxs hok u1 u2 q3
  unfold L2_law_right
  walk_at "evh"
end Lw
end

section
set_option Elab.async false
set_option linter.all false
set_option maxRecDepth 100000
set_option maxHeartbeats 4000000
namespace Lw
open PySem Wn
local macro_rules | `(tactic| walk_at "ev") => `(tactic| simp only [fnDef, fnOf, denSL, denS, den, denL, denB, denI, sSeq, sAsg, sRet, sRetN, sEx, sIf, sFor, sPar, sSet, sPass, sBrk, sCnt, bndS, bnd, Wn.ret, stuck, opt, eVar, eCst, eOp, eCall, eChain, bTru, bNot, bAnd, bOr, eOr, eAnd, eNot, eIf, lNil, lCons, eTup, eLst, eCell, eMt, eMl, eSl, oNo, oAt, eNeg, eLc, lcRun, fnDo, startE, fin, Tg.put, TgL.puts, isS_ite, if_le_sz, lstX_lst, lstOf_lst, add_int, sub_int, eq_int, ne_int, le_int, lt_int, gt_int, ge_int, is_non, isnot_non, isNon, asTru, truD, iArg, wipeE,
  List.map_cons, List.map_nil, List.length_cons, List.length_nil, List.getElem?_cons_zero, List.getElem?_cons_succ, List.set_cons_zero, List.set_cons_succ, List.getD_cons_zero, List.getD_cons_succ, List.cons_append, List.nil_append, List.replicate_succ, List.replicate_zero, Nat.zero_add, Nat.sub_self, Nat.add_one_sub_one, Nat.reduceAdd, Nat.reduceSub, Nat.reduceLeDiff, Nat.reduceEqDiff, if_true, if_false, Bool.false_eq_true, Bool.not_true, Bool.not_false, decide_true, decide_false, g1, g2, List.zip_cons_cons, List.zip_nil_right, List.foldl_cons, List.foldl_nil,
  mIndex, mJoin, mSplit, tStr, tIntS, mAppend, mExtend, mGet, eMd, eDcp, gDcp, sSetA, setA, eRv, eSst, eStp, eDsp, eLzp, fnDoP, bMinL, bLen, bAbs, bMax, bMin, bSum, bAll, bAny, bOrd, bRepr, bIsi, tInt, tTup, tLst, nInt, nStr, nBool, nTup, nLst, oAdd, oSub, oMul, oMod, oDiv, oPow, cEq, cNe, cLt, cLe, cGt, cGe, cIn, cNi, cIs, cIn', Option.some_or, Option.or_none, Option.none_or])
local macro_rules | `(tactic| walk_at "evh") => `(tactic| simp only [*, fnDef, fnOf, denSL, denS, den, denL, denB, denI, sSeq, sAsg, sRet, sRetN, sEx, sIf, sFor, sPar, sSet, sPass, sBrk, sCnt, bndS, bnd, Wn.ret, stuck, opt, eVar, eCst, eOp, eCall, eChain, bTru, bNot, bAnd, bOr, eOr, eAnd, eNot, eIf, lNil, lCons, eTup, eLst, eCell, eMt, eMl, eSl, oNo, oAt, eNeg, eLc, lcRun, fnDo, startE, fin, Tg.put, TgL.puts, isS_ite, if_le_sz, lstX_lst, lstOf_lst, add_int, sub_int, eq_int, ne_int, le_int, lt_int, gt_int, ge_int, is_non, isnot_non, isNon, asTru, truD, iArg, wipeE,
  List.map_cons, List.map_nil, List.length_cons, List.length_nil, List.getElem?_cons_zero, List.getElem?_cons_succ, List.set_cons_zero, List.set_cons_succ, List.getD_cons_zero, List.getD_cons_succ, List.cons_append, List.nil_append, List.replicate_succ, List.replicate_zero, Nat.zero_add, Nat.sub_self, Nat.add_one_sub_one, Nat.reduceAdd, Nat.reduceSub, Nat.reduceLeDiff, Nat.reduceEqDiff, if_true, if_false, Bool.false_eq_true, Bool.not_true, Bool.not_false, decide_true, decide_false, g1, g2, List.zip_cons_cons, List.zip_nil_right, List.foldl_cons, List.foldl_nil,
  mIndex, mJoin, mSplit, tStr, tIntS, mAppend, mExtend, mGet, eMd, eDcp, gDcp, sSetA, setA, eRv, eSst, eStp, eDsp, eLzp, fnDoP, bMinL, bLen, bAbs, bMax, bMin, bSum, bAll, bAny, bOrd, bRepr, bIsi, tInt, tTup, tLst, nInt, nStr, nBool, nTup, nLst, oAdd, oSub, oMul, oMod, oDiv, oPow, cEq, cNe, cLt, cLe, cGt, cGe, cIn, cNi, cIs, cIn', Option.some_or, Option.or_none, Option.none_or])
theorem lap_loop {n : Nat} : ∀ (ds : List D) (M : Mem) (p : List D) (k : Nat) (x1 x2 x3 x4 x5 : Option D), M[n]? = some (.lst p) → Pot k p → k + 100 * ds.length < 50000 →
    ∃ (p' : List D) (y1 y2 y3 y4 y5 : Option D), Pot (k + 100 * ds.length) p' ∧ forGo (.nm 1) (denSL usR L2_law_right) ds [some (.ref n), x1, x2, x3, x4, x5, none] M = .nx [some (.ref n), y1, y2, y3, y4, y5, none] (M.set n (.lst p'))
  | [], M, p, k, x1, x2, x3, x4, x5, hM, hp, _ => ⟨p, x1, x2, x3, x4, x5, hp, by rw [set_same hM]; rfl⟩
  | d :: ds, M, p, k, x1, x2, x3, x4, x5, hM, hp, hk => by
    have hw : 100 * (d :: ds).length = 100 + 100 * ds.length := by rw [List.length_cons]; omega
    rw [hw] at hk ⊢
    obtain ⟨p1, y2, y3, y4, y5, q1, t1⟩ := lap_turn (b := d) (x2 := x2) (x3 := x3) (x4 := x4) (x5 := x5) hM hp (by omega)
    obtain ⟨p2, z1, z2, z3, z4, z5, q2, t2⟩ := lap_loop ds (M.set n (.lst p1)) p1 (k + 100) (some d) y2 y3 y4 y5 (get_set hM) q1 (by omega)
    rw [List.set_set] at t2
    refine ⟨p2, z1, z2, z3, z4, z5, by rw [← Nat.add_assoc]; exact q2, ?_⟩
    rw [for_nx (δ1 := [some (.ref n), some d, x2, x3, x4, x5, none]) rfl t1, t2]
theorem ev_right {n : Nat} {M : Mem} {p : List D} (hM : M[n]? = some (.lst p)) (hp : Pot 0 p) : ∃ p', F_law_right [.ref n] M = .ok (.bl true) (M.set n (.lst p')) := by
  obtain ⟨p1, y1, y2, y3, y4, y5, q1, t1⟩ := lap_loop (n := n) (rng 0 5) M p 0 none none none none none hM hp (by rw [rng_len]; omega)
  have rg : ∀ M, fRng1 [.int 5] M = .ok (rng 0 5) M := fun M => fRng1_nat (n := 5) (by omega)
  have e1 : ∀ M, F_sheet_in [.str (Str.ofString "")] M = .ok .non M := fun M => ev_sheet_in (T := []) rfl fun M => ev_sheet_of_no (t := []) (w := []) (ws := []) (by simp) (by rfl) (by simp) (.inl ⟨by simp, by simp⟩)
  have e2 : ∀ M, fRepr M .non = some (.str (Str.ofString "None")) := fun _ => rfl
  have e3 : ∀ M, gEq M (.str (Str.ofString "None")) (.str (Str.ofString "None")) = some (.bl true) := fun M => by
    rw [gEq_str (by decide +kernel) (by decide +kernel)]; rfl
  refine ⟨p1, ?_⟩
  clear hM hp q1
  unfold F_law_right B_law_right
  walk_at "evh"
end Lw
end

section
set_option Elab.async false
set_option linter.all false
set_option maxRecDepth 100000
set_option maxHeartbeats 4000000
namespace Lw
open PySem Wn
local macro_rules | `(tactic| walk_at "ev") => `(tactic| simp only [fnDef, fnOf, denSL, denS, den, denL, denB, denI, sSeq, sAsg, sRet, sRetN, sEx, sIf, sFor, sPar, sSet, sPass, sBrk, sCnt, bndS, bnd, Wn.ret, stuck, opt, eVar, eCst, eOp, eCall, eChain, bTru, bNot, bAnd, bOr, eOr, eAnd, eNot, eIf, lNil, lCons, eTup, eLst, eCell, eMt, eMl, eSl, oNo, oAt, eNeg, eLc, lcRun, fnDo, startE, fin, Tg.put, TgL.puts, isS_ite, if_le_sz, lstX_lst, lstOf_lst, add_int, sub_int, eq_int, ne_int, le_int, lt_int, gt_int, ge_int, is_non, isnot_non, isNon, asTru, truD, iArg, wipeE,
  List.map_cons, List.map_nil, List.length_cons, List.length_nil, List.getElem?_cons_zero, List.getElem?_cons_succ, List.set_cons_zero, List.set_cons_succ, List.getD_cons_zero, List.getD_cons_succ, List.cons_append, List.nil_append, List.replicate_succ, List.replicate_zero, Nat.zero_add, Nat.sub_self, Nat.add_one_sub_one, Nat.reduceAdd, Nat.reduceSub, Nat.reduceLeDiff, Nat.reduceEqDiff, if_true, if_false, Bool.false_eq_true, Bool.not_true, Bool.not_false, decide_true, decide_false, g1, g2, List.zip_cons_cons, List.zip_nil_right, List.foldl_cons, List.foldl_nil,
  mIndex, mJoin, mAppend, mExtend, mGet, eMd, eDcp, gDcp, sSetA, setA, bLen, bAbs, bMax, bMin, bSum, bAll, bAny, bOrd, bRepr, bIsi, tInt, tTup, tLst, nInt, nStr, nBool, nTup, nLst, oAdd, oSub, oMul, oMod, oDiv, oPow, cEq, cNe, cLt, cLe, cGt, cGe, cIn, cNi, cIs, cIn', Option.some_or, Option.or_none, Option.none_or])
local macro_rules | `(tactic| walk_at "evh") => `(tactic| simp only [*, fnDef, fnOf, denSL, denS, den, denL, denB, denI, sSeq, sAsg, sRet, sRetN, sEx, sIf, sFor, sPar, sSet, sPass, sBrk, sCnt, bndS, bnd, Wn.ret, stuck, opt, eVar, eCst, eOp, eCall, eChain, bTru, bNot, bAnd, bOr, eOr, eAnd, eNot, eIf, lNil, lCons, eTup, eLst, eCell, eMt, eMl, eSl, oNo, oAt, eNeg, eLc, lcRun, fnDo, startE, fin, Tg.put, TgL.puts, isS_ite, if_le_sz, lstX_lst, lstOf_lst, add_int, sub_int, eq_int, ne_int, le_int, lt_int, gt_int, ge_int, is_non, isnot_non, isNon, asTru, truD, iArg, wipeE,
  List.map_cons, List.map_nil, List.length_cons, List.length_nil, List.getElem?_cons_zero, List.getElem?_cons_succ, List.set_cons_zero, List.set_cons_succ, List.getD_cons_zero, List.getD_cons_succ, List.cons_append, List.nil_append, List.replicate_succ, List.replicate_zero, Nat.zero_add, Nat.sub_self, Nat.add_one_sub_one, Nat.reduceAdd, Nat.reduceSub, Nat.reduceLeDiff, Nat.reduceEqDiff, if_true, if_false, Bool.false_eq_true, Bool.not_true, Bool.not_false, decide_true, decide_false, g1, g2, List.zip_cons_cons, List.zip_nil_right, List.foldl_cons, List.foldl_nil,
  mIndex, mJoin, mAppend, mExtend, mGet, eMd, eDcp, gDcp, sSetA, setA, bLen, bAbs, bMax, bMin, bSum, bAll, bAny, bOrd, bRepr, bIsi, tInt, tTup, tLst, nInt, nStr, nBool, nTup, nLst, oAdd, oSub, oMul, oMod, oDiv, oPow, cEq, cNe, cLt, cLe, cGt, cGe, cIn, cNi, cIs, cIn', Option.some_or, Option.or_none, Option.none_or])
/-! ### a pot made of a script -/
theorem pow_nat {a n : Nat} {M : Mem} (h : n ≤ 1000) (h2 : a.log2 < 10000) : gPow M (.int (a : Nat)) (.int (n : Nat)) = some (.int ((a ^ n : Nat) : Int)) := by
  show (if 0 ≤ ((n : Nat) : Int) ∧ ((n : Nat) : Int).natAbs ≤ 1000 ∧ a.log2 < 10000 then some (D.int (((a : Nat) : Int) ^ ((n : Nat) : Int).toNat)) else none) = _
  rw [if_pos ⟨by omega, by omega, h2⟩, Int.toNat_natCast]
  congr 2
theorem big_one : ∃ A : Nat, A.log2 < 10000 ∧ ∀ M, gPow M (.int 10) (.int 60) = some (.int (A : Nat)) := ⟨10 ^ 60, by decide +kernel, fun M => pow_nat (a := 10) (n := 60) (by decide) (by decide)⟩
theorem pow_to : ∃ A B : Nat, 0 < B ∧ B.log2 < 2000 ∧ (∀ M, gPow M (.int 10) (.int 60) = some (.int (A : Nat))) ∧ ∀ M, gPow M (.int (A : Nat)) (.int 5) = some (.int (B : Nat)) :=
  ⟨10 ^ 60, (10 ^ 60) ^ 5, Nat.pow_pos (by decide), by decide +kernel, fun M => pow_nat (a := 10) (n := 60) (by decide) (by decide), fun M => pow_nat (n := 5) (by decide) (by decide +kernel)⟩
theorem pow_18 : ∃ C : Int, ∀ M, gPow M (.int 10) (.int 18) = some (.int C) := ⟨_, fun M => pow_nat (a := 10) (n := 18) (by decide) (by decide)⟩
theorem abs_int (i : Int) (M : Mem) : fAbs M (.int i) = some (.int ((i.natAbs : Nat) : Int)) := by
  show some (D.int (if i < 0 then -i else i)) = _
  congr 2
  split <;> omega
theorem nat1444 (n : Nat) : ((n : Nat) : Int) + 1444 = ((n + 1444 : Nat) : Int) := by omega
/-- the rest of the making of a pot, whatever the cell is -/
theorem pot_rest {M : Mem} {s : D} {i : Nat} (hi : i < 2) (x : Int) : ∃ a b : Nat, b < 2 ^ 62 ∧ denSL [] (match B_law_pot with | .cons _ r => r | .nil => .nil) [some s, some (.int (i : Nat)), some (.int x), none, none] M = .rt (.ref M.length) (M ++ [.lst (potD a b 0)]) := by
  obtain ⟨A, B, hB, hB2, p1, p2⟩ := pow_to
  obtain ⟨C, p3⟩ := pow_18
  have e1 : ∀ M, fAbs M (.int x) = some (.int ((x.natAbs : Nat) : Int)) := fun M => abs_int x M
  have e2 : ∀ M (j : Int), fInt M (.int j) = some (.int j) := fun _ _ => rfl
  have e3 : ∀ M, gMod M (.int ((x.natAbs : Nat) : Int)) (.int (B : Nat)) = some (.int ((x.natAbs % B : Nat) : Int)) := fun M => by rw [mod_ok (by omega)]; rfl
  have hm : x.natAbs % B < B := Nat.mod_lt _ hB
  have e4 : ∀ M (b : Bool), fInt M (.bl b) = some (.int ((if b = true then 1 else 0 : Nat) : Int)) := fun M b => by cases b <;> rfl
  have e5 : ∀ M (b : Bool), gMul M (.int ((x.natAbs % B : Nat) : Int)) (.int ((if b = true then 1 else 0 : Nat) : Int)) = some (.int ((x.natAbs % B * (if b = true then 1 else 0) : Nat) : Int)) := fun M b => by
    have l1 : (x.natAbs % B).log2 < 100000 := by
      have : x.natAbs % B < 2 ^ (B.log2 + 1) := Nat.lt_trans hm (Nat.lt_log2_self (n := B))
      have := log_le this
      omega
    rw [mul_ok]
    · simp
    · simp only [Int.natAbs_natCast]
      cases b
      · have : Nat.log2 0 = 0 := by decide
        simp only [Bool.false_eq_true, if_false, this]; omega
      · have : Nat.log2 1 = 0 := by decide
        simp only [if_true, this]; omega
  have e6 : ∀ M, gMod M (.int x) (.int 2305843009213693951) = some (.int (x % 2305843009213693951)) := fun M => mod_ok (by decide)
  obtain ⟨q, hq, hq2⟩ : ∃ q : Nat, x % 2305843009213693951 = (q : Nat) ∧ q < 2 ^ 62 := ⟨(x % 2305843009213693951).toNat, by omega, by omega⟩
  rw [hq] at e6
  have l2 := log_le hq2
  have e7 : ∀ M, gMul M (.int (q : Nat)) (.int 80846) = some (.int ((q * 80846 : Nat) : Int)) := fun M => by
    rw [mul_ok (by
      show q.log2 + Nat.log2 80846 < 1000000
      have : Nat.log2 80846 ≤ 20 := by decide
      omega)]; rfl
  have e8 : ∀ M, gMul M (.int 11032) (.int (i : Nat)) = some (.int ((11032 * i : Nat) : Int)) := fun M => by
    rw [mul_ok (by
      show Nat.log2 11032 + i.log2 < 1000000
      have : Nat.log2 11032 ≤ 20 := by decide
      have := log_le (a := i) (n := 2) (by omega)
      omega)]; rfl
  have e9 : ∀ M, gMul M (.int ((11032 * i : Nat) : Int)) (.int (i : Nat)) = some (.int ((11032 * i * i : Nat) : Int)) := fun M => by
    rw [mul_ok (by
      show (11032 * i).log2 + i.log2 < 1000000
      have := log_le (a := 11032 * i) (n := 20) (by omega)
      have := log_le (a := i) (n := 2) (by omega)
      omega)]; rfl
  have f1 : ((q * 80846 : Nat) : Int) + ((11032 * i * i : Nat) : Int) = ((q * 80846 + 11032 * i * i : Nat) : Int) := by omega
  have f2 : ((q * 80846 + 11032 * i * i : Nat) : Int) + 1444 = ((q * 80846 + 11032 * i * i + 1444 : Nat) : Int) := nat1444 _
  obtain ⟨w, hw⟩ : ∃ w, q * 80846 + 11032 * i * i + 1444 = w := ⟨_, rfl⟩
  rw [hw] at f2
  have e10 : ∀ M, gMod M (.int (w : Nat)) (.int 2305843009213693921) = some (.int ((w % 2305843009213693921 : Nat) : Int)) := fun M => by rw [mod_ok (by decide)]; rfl
  refine ⟨x.natAbs % B * (if decide (C ≤ ((x.natAbs : Nat) : Int)) = true then 1 else 0), w % 2305843009213693921, Nat.lt_trans (Nat.mod_lt w (by decide)) (by decide), ?_⟩
  have r0 : ((0 : Nat) : Int) = 0 := rfl
  unfold potD
  rw [r0]
  have e4' := fun M => e4 M (decide (C ≤ ((x.natAbs : Nat) : Int)))
  have e5' := fun M => e5 M (decide (C ≤ ((x.natAbs : Nat) : Int)))
  clear hi hB hB2 hm hw hq hq2 l2 r0 e4 e5
  unfold B_law_pot
  walk_at "evh"
theorem ints_sum : ∀ ns : List Int, dInts (ns.map D.int) = some ns
  | [] => rfl
  | n :: ns => by
    show (dInts (ns.map D.int)).map (n :: ·) = _
    rw [ints_sum ns]; rfl
theorem trim_ref {M M' : Mem} {n : Nat} (h : M.length ≤ n) : trim M (.ok (.ref n) M') = .ok (.ref n) M' := by
  simp only [trim]
  rw [if_neg]
  rintro ⟨h1, _⟩
  have h2 : decide (n < M.length) = true := h1
  exact absurd (of_decide_eq_true h2) (by omega)
theorem ev_pot {M : Mem} {ns : List Int} {i : Nat} (hi : i < 2) : ∃ a b : Nat, b < 2 ^ 62 ∧ F_law_pot [.scr (ns.map .int), .int (i : Nat)] M = .ok (.ref M.length) (M ++ [.lst (potD a b 0)]) := by
  have e1 : fLen M (.scr (ns.map .int)) = some (.int (ns.length : Nat)) := by
    show some (D.int (((ns.map D.int).length : Nat) : Int)) = _
    rw [List.length_map]
  have tr : F_law_pot [.scr (ns.map .int), .int (i : Nat)] M = trim M (fin (denSL [] B_law_pot (startE 5 [.scr (ns.map .int), .int (i : Nat)]) M)) := by
    unfold F_law_pot fnDef fnOf
    rw [if_pos rfl]
  have go : ∃ x, denSL [] (match B_law_pot with | .cons h _ => .cons h .nil | .nil => .nil) [some (.scr (ns.map .int)), some (.int (i : Nat)), none, none, none] M = .nx [some (.scr (ns.map .int)), some (.int (i : Nat)), some (.int x), none, none] M := by
    by_cases h : i < ns.length
    · have c1 : (((i : Nat) : Int) < (ns.length : Nat)) = True := by simp; omega
      have e2 : gIx M (.scr (ns.map .int)) (.int (i : Nat)) = some (.int ns[i]) := by
        show L2.atI (ns.map D.int) _ = _
        unfold L2.atI L2.ixN
        rw [List.length_map, if_pos (by omega), if_pos (by omega)]
        show (ns.map D.int)[i]? = _
        rw [List.getElem?_map, List.getElem?_eq_getElem h]; rfl
      refine ⟨ns[i], ?_⟩
      unfold B_law_pot
      walk_at "evh"
    · have c1 : (((i : Nat) : Int) < (ns.length : Nat)) = False := by simp; omega
      have e2 : gSl M (.scr (ns.map .int)) none (some 1) = some (.lst ((cutD ns none (some 1)).map .int)) := by
        show some (D.lst (cutD (ns.map D.int) none (some 1))) = _
        rw [cutD_map]
      have e3 : fSum M (.lst ((cutD ns none (some 1)).map .int)) = some (.int (cutD ns none (some 1)).sum) := by
        show ((some _).bind dInts).map (fun is => D.int is.sum) = _
        rw [Option.bind_some, ints_sum]; rfl
      have e4 : gMod M (.int (cutD ns none (some 1)).sum) (.int 1000003) = some (.int ((cutD ns none (some 1)).sum % 1000003)) := mod_ok (by decide)
      have e5 : gMul M (.int 2314) (.int (i : Nat)) = some (.int (2314 * (i : Nat))) := mul_ok (by
        show Nat.log2 2314 + i.log2 < 1000000
        have : Nat.log2 2314 ≤ 20 := by decide
        have := log_le (a := i) (n := 2) (by omega)
        omega)
      refine ⟨(cutD ns none (some 1)).sum % 1000003 + 2314 * (i : Nat) + 1376, ?_⟩
      unfold B_law_pot
      walk_at "evh"
  obtain ⟨x, go⟩ := go
  obtain ⟨a, b, hb, rest⟩ := pot_rest (M := M) (s := .scr (ns.map .int)) hi x
  refine ⟨a, b, hb, ?_⟩
  have st0 : startE 5 [D.scr (ns.map .int), .int (i : Nat)] = [some (.scr (ns.map .int)), some (.int (i : Nat)), none, none, none] := rfl
  have all : denSL [] B_law_pot [some (.scr (ns.map .int)), some (.int (i : Nat)), none, none, none] M = .rt (.ref M.length) (M ++ [.lst (potD a b 0)]) := by
    rw [← rest]
    unfold B_law_pot at go ⊢
    simp only [denSL] at go ⊢
    refine seq_nx (M1 := M) ?_
    generalize denS [] _ = q at go ⊢
    unfold sSeq at go
    cases h1 : q [some (.scr (ns.map .int)), some (.int (i : Nat)), none, none, none] M with
    | nx δ1 M1 => rw [h1] at go; exact go
    | _ => rw [h1] at go; cases go
  rw [tr, st0, all]
  exact trim_ref (Nat.le_refl _)
end Lw
end

section
set_option Elab.async false
set_option linter.all false
set_option maxRecDepth 100000
set_option maxHeartbeats 4000000
namespace Lw
open PySem Wn
local macro_rules | `(tactic| walk_at "ev") => `(tactic| simp only [fnDef, fnOf, denSL, denS, den, denL, denB, denI, sSeq, sAsg, sRet, sRetN, sEx, sIf, sFor, sPar, sSet, sPass, sBrk, sCnt, bndS, bnd, Wn.ret, stuck, opt, eVar, eCst, eOp, eCall, eChain, bTru, bNot, bAnd, bOr, eOr, eAnd, eNot, eIf, lNil, lCons, eTup, eLst, eCell, eMt, eMl, eSl, oNo, oAt, eNeg, eLc, lcRun, fnDo, startE, fin, Tg.put, TgL.puts, isS_ite, if_le_sz, lstX_lst, lstOf_lst, add_int, sub_int, eq_int, ne_int, le_int, lt_int, gt_int, ge_int, is_non, isnot_non, isNon, asTru, truD, iArg, wipeE,
  List.map_cons, List.map_nil, List.length_cons, List.length_nil, List.getElem?_cons_zero, List.getElem?_cons_succ, List.set_cons_zero, List.set_cons_succ, List.getD_cons_zero, List.getD_cons_succ, List.cons_append, List.nil_append, List.replicate_succ, List.replicate_zero, Nat.zero_add, Nat.sub_self, Nat.add_one_sub_one, Nat.reduceAdd, Nat.reduceSub, Nat.reduceLeDiff, Nat.reduceEqDiff, if_true, if_false, Bool.false_eq_true, Bool.not_true, Bool.not_false, decide_true, decide_false, g1, g2, List.zip_cons_cons, List.zip_nil_right, List.foldl_cons, List.foldl_nil,
  mIndex, mJoin, mSplit, tStr, tIntS, mAppend, mExtend, mGet, eMd, eDcp, gDcp, sSetA, setA, eRv, eSst, eStp, eDsp, eLzp, fnDoP, bMinL, bLen, bAbs, bMax, bMin, bSum, bAll, bAny, bOrd, bRepr, bIsi, tInt, tTup, tLst, nInt, nStr, nBool, nTup, nLst, oAdd, oSub, oMul, oMod, oDiv, oPow, cEq, cNe, cLt, cLe, cGt, cGe, cIn, cNi, cIs, cIn', Option.some_or, Option.or_none, Option.none_or])
local macro_rules | `(tactic| walk_at "evh") => `(tactic| simp only [*, fnDef, fnOf, denSL, denS, den, denL, denB, denI, sSeq, sAsg, sRet, sRetN, sEx, sIf, sFor, sPar, sSet, sPass, sBrk, sCnt, bndS, bnd, Wn.ret, stuck, opt, eVar, eCst, eOp, eCall, eChain, bTru, bNot, bAnd, bOr, eOr, eAnd, eNot, eIf, lNil, lCons, eTup, eLst, eCell, eMt, eMl, eSl, oNo, oAt, eNeg, eLc, lcRun, fnDo, startE, fin, Tg.put, TgL.puts, isS_ite, if_le_sz, lstX_lst, lstOf_lst, add_int, sub_int, eq_int, ne_int, le_int, lt_int, gt_int, ge_int, is_non, isnot_non, isNon, asTru, truD, iArg, wipeE,
  List.map_cons, List.map_nil, List.length_cons, List.length_nil, List.getElem?_cons_zero, List.getElem?_cons_succ, List.set_cons_zero, List.set_cons_succ, List.getD_cons_zero, List.getD_cons_succ, List.cons_append, List.nil_append, List.replicate_succ, List.replicate_zero, Nat.zero_add, Nat.sub_self, Nat.add_one_sub_one, Nat.reduceAdd, Nat.reduceSub, Nat.reduceLeDiff, Nat.reduceEqDiff, if_true, if_false, Bool.false_eq_true, Bool.not_true, Bool.not_false, decide_true, decide_false, g1, g2, List.zip_cons_cons, List.zip_nil_right, List.foldl_cons, List.foldl_nil,
  mIndex, mJoin, mSplit, tStr, tIntS, mAppend, mExtend, mGet, eMd, eDcp, gDcp, sSetA, setA, eRv, eSst, eStp, eDsp, eLzp, fnDoP, bMinL, bLen, bAbs, bMax, bMin, bSum, bAll, bAny, bOrd, bRepr, bIsi, tInt, tTup, tLst, nInt, nStr, nBool, nTup, nLst, oAdd, oSub, oMul, oMod, oDiv, oPow, cEq, cNe, cLt, cLe, cGt, cGe, cIn, cNi, cIs, cIn', Option.some_or, Option.or_none, Option.none_or])
theorem law_each {ns : List Int} {δ : Wn.Env} (hδ : δ = [some (.scr (ns.map .int)), none]) : ∀ (is : List Nat) (M : Mem), (∀ i ∈ is, i < 2) → ∃ M', lcGo (.nm 1) bYes (den [F_law_cells, F_law_right, F_law_pot] X1_law) δ (is.map fun i => D.int ((i : Nat) : Int)) M = .ok (is.map fun _ => D.bl true) M'
  | [], M, _ => ⟨M, rfl⟩
  | i :: is, M, h => by
    obtain ⟨a, b, hb, e1⟩ := ev_pot (M := M) (ns := ns) (h i (List.mem_cons_self ..))
    obtain ⟨p', e2⟩ := ev_right (n := M.length) (M := M ++ [Cell.lst (potD a b 0)]) (p := potD a b 0) get_end ⟨a, b, 0, rfl, Nat.le_refl _, hb⟩
    obtain ⟨M', ih⟩ := law_each hδ is ((M ++ [Cell.lst (potD a b 0)]).set M.length (Cell.lst p')) fun j hj => h j (List.mem_cons_of_mem _ hj)
    refine ⟨M', ?_⟩
    subst hδ
    have e3 : den [F_law_cells, F_law_right, F_law_pot] X1_law [some (.scr (ns.map .int)), some (.int (i : Nat))] M = .ok (.bl true) ((M ++ [Cell.lst (potD a b 0)]).set M.length (Cell.lst p')) := by
      clear ih h
      unfold X1_law
      walk_at "evh"
    rw [List.map_cons, lcGo_cons]
    simp only [Tg.put, bYes_ok, List.set_cons_succ, List.set_cons_zero, e3, ih]
    rfl
theorem hl (ns : List Int) : ∃ M', F_law [.scr (ns.map D.int)] [] = .ok (.bl true) M' := by
  have e0 : ∃ m : Nat, m ≤ 2 ∧ ∀ M, F_law_cells [.scr (ns.map .int), .int 2] M = .ok (.lst ((List.range m).map fun i => D.int ((i : Nat) : Int))) M := by
    have e1 : ∀ M, fLen M (.scr (ns.map .int)) = some (.int (ns.length : Nat)) := fun M => by
      show some (D.int (((ns.map D.int).length : Nat) : Int)) = _
      rw [List.length_map]
    obtain ⟨m, hm, h⟩ : ∃ m : Nat, m ≤ 2 ∧ (if (if ((ns.length : Nat) : Int) < 2 then ((ns.length : Nat) : Int) else 2) > 1 then (if ((ns.length : Nat) : Int) < 2 then ((ns.length : Nat) : Int) else 2) else 1) = (m : Nat) := by
      refine ⟨(if (if ((ns.length : Nat) : Int) < 2 then ((ns.length : Nat) : Int) else 2) > 1 then (if ((ns.length : Nat) : Int) < 2 then ((ns.length : Nat) : Int) else 2) else 1).toNat, ?_, ?_⟩ <;> (split <;> split <;> omega)
    refine ⟨m, hm, fun M => ?_⟩
    have e2 : ∀ M, fMin2 M (.int 2) (.int (ns.length : Nat)) = some (.int (if ((ns.length : Nat) : Int) < 2 then ((ns.length : Nat) : Int) else 2)) := fun _ => rfl
    have e3 : ∀ M, fMax2 M (.int 1) (.int (if ((ns.length : Nat) : Int) < 2 then ((ns.length : Nat) : Int) else 2)) = some (.int (m : Nat)) := fun _ => by rw [← h]; rfl
    have e4 : ∀ M, gLr (.int 0) (.int (m : Nat)) M = .ok (.lst (rng 0 m)) M := fun M => by
      show (if (0 : Int).natAbs < 2 ^ 62 ∧ ((m : Nat) : Int).natAbs < 2 ^ 62 ∧ (((m : Nat) : Int) - 0).toNat ≤ 2 ^ 24 then Res.ok (D.lst (rng 0 (((m : Nat) : Int) - 0).toNat)) M else .bad) = _
      rw [if_pos ⟨by omega, by omega, by omega⟩, show (((m : Nat) : Int) - 0).toNat = m by omega]
    have e5 : rng 0 m = (List.range m).map fun i => D.int ((i : Nat) : Int) := by
      unfold rng
      congr 1
      funext k
      congr 1
      omega
    have e6 : ∀ a δ, eLr1 a δ = bnd (a δ) fun d => gLr (.int 0) d := fun _ _ => rfl
    rw [← e5]
    clear h hm e5
    unfold F_law_cells B_law_cells
    walk_at "evh"
  obtain ⟨m, hm, e0⟩ := e0
  obtain ⟨M', e1⟩ := law_each (ns := ns) rfl (List.range m) [] fun i hi => by have := List.mem_range.mp hi; omega
  have e2 : ∀ M ds, itL (D.lst ds) M = .ok ds M := fun _ _ => rfl
  have e3 : ((List.range m).map fun i => D.int ((i : Nat) : Int)).length ≤ 1000 := by rw [List.length_map, List.length_range]; omega
  have e4 : ∀ M, fAll M (.lst ((List.range m).map fun _ => D.bl true)) = some (.bl true) := fun M => by
    rw [all_map (fun _ => true) (List.range m)]; simp
  refine ⟨M', ?_⟩
  clear hm
  unfold F_law B_law
  walk_at "evh"
end Lw
end

section
set_option Elab.async false
set_option linter.all false
set_option maxRecDepth 100000
set_option maxHeartbeats 0
namespace Lw
open PySem PySem.Spec PyProof.Rows L2 Wn
def top (i : Nat) : Stmt := PySem.Challenge.pw_worneven_k15_whole_sheets_and_page_texts.main.body.getD i (.Pass ⟨0, 0, 0, 0⟩)
def loose : List Str := (["FEED", "MINUS", "FIGURES", "FIRST_SIGN", "FIRST_KEY_SIGN", "LOW_SIGNS", "HIGH_SIGNS", "MOST_PAGE_SIGNS", "MOST_KEY_SIGNS", "MOST_VALUE_SIGNS", "MOST_FIGURES", "is_whole", "is_integer", "is_tuple", "is_string", "are_signs", "is_page_text", "is_key", "is_value", "long_whole_in", "whole_in", "FlashError", "BadText", "BadSheet", "BadPlaces", "LEAF", "FORK", "LEAF_WORD", "FORK_WORD", "NEW"] : List Str) ++ (["PAIR", "FEWEST", "MOST", "MOST_PLACE", "are_ascending", "is_child", "is_sheet", "sheet_of", "sheet_in", "sheet_text", "written", "_law_pot", "_law_take", "_law_of", "_law_cells", "_law_map_is_key", "_law_map_is_value", "_law_map_number", "_law_map_sheet", "_law_map_key_drawn", "_law_map_value_drawn", "_law_sheet", "_law_text", "_law_read", "_law_near", "_law_right"] : List Str)
def cons : List (Str × D) := ([("FEED", .str "\n"), ("MINUS", .str "-"), ("FIGURES", .str "0123456789"), ("FIRST_SIGN", .str " "), ("FIRST_KEY_SIGN", .str "!"), ("LOW_SIGNS", .str " !\"#$"), ("HIGH_SIGNS", .str "&'()*+,-./0123456789:;<=>?@ABCDEFGHIJKLMNOPQRSTUVWXYZ[\\]^_`abcdefghijklmnopqrstuvwxyz{|}~"), ("MOST_PAGE_SIGNS", .int 113), ("MOST_KEY_SIGNS", .int 13), ("MOST_VALUE_SIGNS", .int 13), ("MOST_FIGURES", .int 12), ("LEAF", .str "leaf"), ("FORK", .str "fork"), ("LEAF_WORD", .str "l"), ("FORK_WORD", .str "f"), ("NEW", .str "new"), ("PAIR", .int 2), ("FEWEST", .int 2), ("MOST", .int 4), ("MOST_PLACE", .int 999999999999)] : List (Str × D))
def blts : List Str := ["sorted", "set", "dict", "len", "abs", "max", "min", "sum", "all", "any", "ord", "repr", "isinstance", "int", "tuple", "list", "str", "bool", "range", "enumerate", "zip"]
def fns : List Str := (["is_whole", "is_integer", "is_tuple", "is_string", "are_signs", "is_page_text", "is_key", "is_value", "long_whole_in", "whole_in", "are_ascending", "is_child", "is_sheet", "sheet_of", "sheet_in", "sheet_text", "written", "_law_pot", "_law_take", "_law_of", "_law_cells", "_law_map_is_key", "_law_map_is_value", "_law_map_number", "_law_map_sheet", "_law_map_key_drawn", "_law_map_value_drawn", "_law_sheet", "_law_text", "_law_read"] : List Str) ++ (["_law_near", "_law_right", "law"] : List Str)
def d_is_whole : He.DefD := ⟨("is_whole", none), "is_whole", "is_whole", defArgs (top 12), defBody (top 12), defScope (top 12), [], []⟩
def d_is_integer : He.DefD := ⟨("is_integer", none), "is_integer", "is_integer", defArgs (top 13), defBody (top 13), defScope (top 13), [], []⟩
def d_is_tuple : He.DefD := ⟨("is_tuple", none), "is_tuple", "is_tuple", defArgs (top 14), defBody (top 14), defScope (top 14), [], []⟩
def d_is_string : He.DefD := ⟨("is_string", none), "is_string", "is_string", defArgs (top 15), defBody (top 15), defScope (top 15), [], []⟩
def d_are_signs : He.DefD := ⟨("are_signs", none), "are_signs", "are_signs", defArgs (top 16), defBody (top 16), defScope (top 16), [], []⟩
def d_is_page_text : He.DefD := ⟨("is_page_text", none), "is_page_text", "is_page_text", defArgs (top 17), defBody (top 17), defScope (top 17), [], []⟩
def d_is_key : He.DefD := ⟨("is_key", none), "is_key", "is_key", defArgs (top 18), defBody (top 18), defScope (top 18), [], []⟩
def d_is_value : He.DefD := ⟨("is_value", none), "is_value", "is_value", defArgs (top 19), defBody (top 19), defScope (top 19), [], []⟩
def d_long_whole_in : He.DefD := ⟨("long_whole_in", none), "long_whole_in", "long_whole_in", defArgs (top 20), defBody (top 20), defScope (top 20), [], []⟩
def d_whole_in : He.DefD := ⟨("whole_in", none), "whole_in", "whole_in", defArgs (top 21), defBody (top 21), defScope (top 21), [], []⟩
def d_are_ascending : He.DefD := ⟨("are_ascending", none), "are_ascending", "are_ascending", defArgs (top 37), defBody (top 37), defScope (top 37), [], []⟩
def d_is_child : He.DefD := ⟨("is_child", none), "is_child", "is_child", defArgs (top 38), defBody (top 38), defScope (top 38), [], []⟩
def d_is_sheet : He.DefD := ⟨("is_sheet", none), "is_sheet", "is_sheet", defArgs (top 39), defBody (top 39), defScope (top 39), [], []⟩
def d_sheet_of : He.DefD := ⟨("sheet_of", none), "sheet_of", "sheet_of", defArgs (top 40), defBody (top 40), defScope (top 40), [], []⟩
def d_sheet_in : He.DefD := ⟨("sheet_in", none), "sheet_in", "sheet_in", defArgs (top 41), defBody (top 41), defScope (top 41), [], []⟩
def d_sheet_text : He.DefD := ⟨("sheet_text", none), "sheet_text", "sheet_text", defArgs (top 42), defBody (top 42), defScope (top 42), [], []⟩
def d_written : He.DefD := ⟨("written", none), "written", "written", defArgs (top 43), defBody (top 43), defScope (top 43), [], []⟩
def d_law_pot : He.DefD := ⟨("_law_pot", none), "_law_pot", "_law_pot", defArgs (top 45), defBody (top 45), defScope (top 45), [], []⟩
def d_law_take : He.DefD := ⟨("_law_take", none), "_law_take", "_law_take", defArgs (top 46), defBody (top 46), defScope (top 46), [], []⟩
def d_law_of : He.DefD := ⟨("_law_of", none), "_law_of", "_law_of", defArgs (top 47), defBody (top 47), defScope (top 47), [], []⟩
def d_law_cells : He.DefD := ⟨("_law_cells", none), "_law_cells", "_law_cells", defArgs (top 48), defBody (top 48), defScope (top 48), [], []⟩
def d_law_map_is_key : He.DefD := ⟨("_law_map_is_key", none), "_law_map_is_key", "_law_map_is_key", defArgs (top 49), defBody (top 49), defScope (top 49), [], []⟩
def d_law_map_is_value : He.DefD := ⟨("_law_map_is_value", none), "_law_map_is_value", "_law_map_is_value", defArgs (top 50), defBody (top 50), defScope (top 50), [], []⟩
def d_law_map_number : He.DefD := ⟨("_law_map_number", none), "_law_map_number", "_law_map_number", defArgs (top 51), defBody (top 51), defScope (top 51), [], []⟩
def d_law_map_sheet : He.DefD := ⟨("_law_map_sheet", none), "_law_map_sheet", "_law_map_sheet", defArgs (top 52), defBody (top 52), defScope (top 52), [], []⟩
def d_law_map_key_drawn : He.DefD := ⟨("_law_map_key_drawn", none), "_law_map_key_drawn", "_law_map_key_drawn", defArgs (top 53), defBody (top 53), defScope (top 53), [], []⟩
def d_law_map_value_drawn : He.DefD := ⟨("_law_map_value_drawn", none), "_law_map_value_drawn", "_law_map_value_drawn", defArgs (top 54), defBody (top 54), defScope (top 54), [], []⟩
def d_law_sheet : He.DefD := ⟨("_law_sheet", none), "_law_sheet", "_law_sheet", defArgs (top 55), defBody (top 55), defScope (top 55), [], []⟩
def d_law_text : He.DefD := ⟨("_law_text", none), "_law_text", "_law_text", defArgs (top 56), defBody (top 56), defScope (top 56), [], []⟩
def d_law_read : He.DefD := ⟨("_law_read", none), "_law_read", "_law_read", defArgs (top 57), defBody (top 57), defScope (top 57), [], []⟩
def d_law_near : He.DefD := ⟨("_law_near", none), "_law_near", "_law_near", defArgs (top 58), defBody (top 58), defScope (top 58), [], []⟩
def d_law_right : He.DefD := ⟨("_law_right", none), "_law_right", "_law_right", defArgs (top 59), defBody (top 59), defScope (top 59), [], []⟩
def d_law : He.DefD := ⟨("law", none), "law", "law", defArgs (top 60), defBody (top 60), defScope (top 60), [], []⟩
def fn : List He.DefD := [d_is_whole, d_is_integer, d_is_tuple, d_is_string, d_are_signs, d_is_page_text, d_is_key, d_is_value, d_long_whole_in, d_whole_in, d_are_ascending, d_is_child, d_is_sheet, d_sheet_of, d_sheet_in, d_sheet_text, d_written, d_law_pot, d_law_take, d_law_of, d_law_cells, d_law_map_is_key, d_law_map_is_value, d_law_map_number, d_law_map_sheet, d_law_map_key_drawn, d_law_map_value_drawn, d_law_sheet, d_law_text, d_law_read, d_law_near, d_law_right, d_law]
abbrev R : PySem.W.OpenRow := PySem.W.OpenLaw.row PySem.Challenge.rw_worneven_k15_whole_sheets_and_page_texts
abbrev hk : PySem.W.Hook := hookW 4 fn (exW cons blts fns)
def ob (s : PySem.W.SharedT) : AlW := obsW 4 fn (exW cons blts fns) (HandSHeadRun.getT s)
theorem ob_eq (s : PySem.W.SharedT) : ob s = hk.obs s.abs := obsW_eq (HandSHeadRun.getT_eq s)
theorem run (w : World) : HandSHeadRun.RunEq R (PySem.W.view R.prog [60]) hk ob 4000 loose w := by
  intro os
  kernel_rfl
section
variable {P : Program} {w : World} {K : PySem.W.Frag} {mg : Str → Option Value} {base h : Heap}
theorem p_is_whole (KX : K.In h) (G : h.Ns mainGlobals mg) (sd : He.SaysD [] fn K) (e : exW cons blts fns K = true) : Prm (fun _ _ _ _ _ => False) P w K mg base 1 "is_whole" ["value"] F_is_whole :=
  row_def (i := 0) (ps := ["value"]) (N := N_is_whole) (calls := []) KX G sd e rfl (by kernel_rfl) (fun _ _ _ _ _ _ us hl => match us, hl with | [_], _ => rfl) (fun _ _ _ _ _ _ us hl => match us, hl with | [_], _ => rfl) (fun _ _ _ _ _ _ us hl => match us, hl with | [_], _ => allO_mem (show _ ∧ True from ⟨rfl, trivial⟩)) (by kernel_rfl) (by kernel_rfl) (.nil)
theorem p_is_integer (KX : K.In h) (G : h.Ns mainGlobals mg) (sd : He.SaysD [] fn K) (e : exW cons blts fns K = true) : Prm (fun _ _ _ _ _ => False) P w K mg base 2 "is_integer" ["value", "low", "high"] F_is_integer :=
  row_def (i := 1) (ps := ["value", "low", "high"]) (N := N_is_integer) (calls := [("is_whole", ["value"])]) KX G sd e rfl (by kernel_rfl) (fun _ _ _ _ _ _ us hl => match us, hl with | [_, _, _], _ => rfl) (fun _ _ _ _ _ _ us hl => match us, hl with | [_, _, _], _ => rfl) (fun _ _ _ _ _ _ us hl => match us, hl with | [_, _, _], _ => allO_mem (show _ ∧ _ ∧ _ ∧ _ ∧ _ ∧ _ ∧ True from ⟨rfl, rfl, rfl, rfl, rfl, rfl, trivial⟩)) (by kernel_rfl) (by kernel_rfl) (.cons (p_is_whole KX G sd e) (by decide) (.nil))
theorem p_is_tuple (KX : K.In h) (G : h.Ns mainGlobals mg) (sd : He.SaysD [] fn K) (e : exW cons blts fns K = true) : Prm (fun _ _ _ _ _ => False) P w K mg base 1 "is_tuple" ["value", "low", "high"] F_is_tuple :=
  row_def (i := 2) (ps := ["value", "low", "high"]) (N := N_is_tuple) (calls := []) KX G sd e rfl (by kernel_rfl) (fun _ _ _ _ _ _ us hl => match us, hl with | [_, _, _], _ => rfl) (fun _ _ _ _ _ _ us hl => match us, hl with | [_, _, _], _ => rfl) (fun _ _ _ _ _ _ us hl => match us, hl with | [_, _, _], _ => allO_mem (show _ ∧ _ ∧ _ ∧ _ ∧ _ ∧ _ ∧ True from ⟨rfl, rfl, rfl, rfl, rfl, rfl, trivial⟩)) (by kernel_rfl) (by kernel_rfl) (.nil)
theorem p_is_string (KX : K.In h) (G : h.Ns mainGlobals mg) (sd : He.SaysD [] fn K) (e : exW cons blts fns K = true) : Prm (fun _ _ _ _ _ => False) P w K mg base 1 "is_string" ["value", "some"] F_is_string :=
  row_def (i := 3) (ps := ["value", "some"]) (N := N_is_string) (calls := []) KX G sd e rfl (by kernel_rfl) (fun _ _ _ _ _ _ us hl => match us, hl with | [_, _], _ => rfl) (fun _ _ _ _ _ _ us hl => match us, hl with | [_, _], _ => rfl) (fun _ _ _ _ _ _ us hl => match us, hl with | [_, _], _ => allO_mem (show _ ∧ _ ∧ True from ⟨rfl, rfl, trivial⟩)) (by kernel_rfl) (by kernel_rfl) (.nil)
theorem p_are_signs (KX : K.In h) (G : h.Ns mainGlobals mg) (sd : He.SaysD [] fn K) (e : exW cons blts fns K = true) : Prm (fun _ _ _ _ _ => False) P w K mg base 1 "are_signs" ["value", "low", "high", "first"] F_are_signs :=
  row_def (i := 4) (ps := ["value", "low", "high", "first"]) (N := N_are_signs) (calls := []) KX G sd e rfl (by kernel_rfl) (fun _ _ _ _ _ _ us hl => match us, hl with | [_, _, _, _], _ => rfl) (fun _ _ _ _ _ _ us hl => match us, hl with | [_, _, _, _], _ => rfl) (fun _ _ _ _ _ _ us hl => match us, hl with | [_, _, _, _], _ => allO_mem (show _ ∧ True from ⟨rfl, trivial⟩)) (by kernel_rfl) (by kernel_rfl) (.nil)
theorem p_is_page_text (KX : K.In h) (G : h.Ns mainGlobals mg) (sd : He.SaysD [] fn K) (e : exW cons blts fns K = true) : Prm (fun _ _ _ _ _ => False) P w K mg base 1 "is_page_text" ["value"] F_is_page_text :=
  row_def (i := 5) (ps := ["value"]) (N := N_is_page_text) (calls := []) KX G sd e rfl (by kernel_rfl) (fun _ _ _ _ _ _ us hl => match us, hl with | [_], _ => rfl) (fun _ _ _ _ _ _ us hl => match us, hl with | [_], _ => rfl) (fun _ _ _ _ _ _ us hl => match us, hl with | [_], _ => allO_mem (show _ ∧ True from ⟨rfl, trivial⟩)) (by kernel_rfl) (by kernel_rfl) (.nil)
theorem p_is_key (KX : K.In h) (G : h.Ns mainGlobals mg) (sd : He.SaysD [] fn K) (e : exW cons blts fns K = true) : Prm (fun _ _ _ _ _ => False) P w K mg base 2 "is_key" ["value"] F_is_key :=
  row_def (i := 6) (ps := ["value"]) (N := N_is_key) (calls := [("are_signs", ["value", "low", "high", "first"])]) KX G sd e rfl (by kernel_rfl) (fun _ _ _ _ _ _ us hl => match us, hl with | [_], _ => rfl) (fun _ _ _ _ _ _ us hl => match us, hl with | [_], _ => rfl) (fun _ _ _ _ _ _ us hl => match us, hl with | [_], _ => allO_mem (show _ ∧ True from ⟨rfl, trivial⟩)) (by kernel_rfl) (by kernel_rfl) (.cons (p_are_signs KX G sd e) (by decide) (.nil))
theorem p_is_value (KX : K.In h) (G : h.Ns mainGlobals mg) (sd : He.SaysD [] fn K) (e : exW cons blts fns K = true) : Prm (fun _ _ _ _ _ => False) P w K mg base 2 "is_value" ["value"] F_is_value :=
  row_def (i := 7) (ps := ["value"]) (N := N_is_value) (calls := [("are_signs", ["value", "low", "high", "first"])]) KX G sd e rfl (by kernel_rfl) (fun _ _ _ _ _ _ us hl => match us, hl with | [_], _ => rfl) (fun _ _ _ _ _ _ us hl => match us, hl with | [_], _ => rfl) (fun _ _ _ _ _ _ us hl => match us, hl with | [_], _ => allO_mem (show _ ∧ True from ⟨rfl, trivial⟩)) (by kernel_rfl) (by kernel_rfl) (.cons (p_are_signs KX G sd e) (by decide) (.nil))
theorem p_long_whole_in (KX : K.In h) (G : h.Ns mainGlobals mg) (sd : He.SaysD [] fn K) (e : exW cons blts fns K = true) : Prm (fun _ _ _ _ _ => False) P w K mg base 1 "long_whole_in" ["word"] F_long_whole_in :=
  row_def (i := 8) (ps := ["word"]) (N := N_long_whole_in) (calls := []) KX G sd e rfl (by kernel_rfl) (fun _ _ _ _ _ _ us hl => match us, hl with | [_], _ => rfl) (fun _ _ _ _ _ _ us hl => match us, hl with | [_], _ => rfl) (fun _ _ _ _ _ _ us hl => match us, hl with | [_], _ => allO_mem (show _ ∧ True from ⟨rfl, trivial⟩)) (by kernel_rfl) (by kernel_rfl) (.nil)
theorem p_whole_in (KX : K.In h) (G : h.Ns mainGlobals mg) (sd : He.SaysD [] fn K) (e : exW cons blts fns K = true) : Prm (fun _ _ _ _ _ => False) P w K mg base 2 "whole_in" ["word"] F_whole_in :=
  row_def (i := 9) (ps := ["word"]) (N := N_whole_in) (calls := [("long_whole_in", ["word"])]) KX G sd e rfl (by kernel_rfl) (fun _ _ _ _ _ _ us hl => match us, hl with | [_], _ => rfl) (fun _ _ _ _ _ _ us hl => match us, hl with | [_], _ => rfl) (fun _ _ _ _ _ _ us hl => match us, hl with | [_], _ => allO_mem (show _ ∧ True from ⟨rfl, trivial⟩)) (by kernel_rfl) (by kernel_rfl) (.cons (p_long_whole_in KX G sd e) (by decide) (.nil))
theorem p_are_ascending (KX : K.In h) (G : h.Ns mainGlobals mg) (sd : He.SaysD [] fn K) (e : exW cons blts fns K = true) : Prm (fun _ _ _ _ _ => False) P w K mg base 3 "are_ascending" ["keys"] F_are_ascending :=
  row_def (i := 10) (ps := ["keys"]) (N := N_are_ascending) (calls := [("is_key", ["value"])]) KX G sd e rfl (by kernel_rfl) (fun _ _ _ _ _ _ us hl => match us, hl with | [_], _ => rfl) (fun _ _ _ _ _ _ us hl => match us, hl with | [_], _ => rfl) (fun _ _ _ _ _ _ us hl => match us, hl with | [_], _ => allO_mem (show _ ∧ True from ⟨rfl, trivial⟩)) (by kernel_rfl) (by kernel_rfl) (.cons (p_is_key KX G sd e) (by decide) (.nil))
theorem p_is_child (KX : K.In h) (G : h.Ns mainGlobals mg) (sd : He.SaysD [] fn K) (e : exW cons blts fns K = true) : Prm (fun _ _ _ _ _ => False) P w K mg base 3 "is_child" ["value"] F_is_child :=
  row_def (i := 11) (ps := ["value"]) (N := N_is_child) (calls := [("is_tuple", ["value", "low", "high"]), ("is_integer", ["value", "low", "high"]), ("is_string", ["value", "some"])]) KX G sd e rfl (by kernel_rfl) (fun _ _ _ _ _ _ us hl => match us, hl with | [_], _ => rfl) (fun _ _ _ _ _ _ us hl => match us, hl with | [_], _ => rfl) (fun _ _ _ _ _ _ us hl => match us, hl with | [_], _ => allO_mem (show _ ∧ True from ⟨rfl, trivial⟩)) (by kernel_rfl) (by kernel_rfl) (.cons (p_is_tuple KX G sd e) (by decide) (.cons (p_is_integer KX G sd e) (by decide) (.cons (p_is_string KX G sd e) (by decide) (.nil))))
theorem p_is_sheet (KX : K.In h) (G : h.Ns mainGlobals mg) (sd : He.SaysD [] fn K) (e : exW cons blts fns K = true) : Prm (fun _ _ _ _ _ => False) P w K mg base 4 "is_sheet" ["value"] F_is_sheet :=
  row_def (i := 12) (ps := ["value"]) (N := N_is_sheet) (calls := [("is_string", ["value", "some"]), ("is_tuple", ["value", "low", "high"]), ("are_ascending", ["keys"]), ("is_value", ["value"]), ("is_child", ["value"])]) KX G sd e rfl (by kernel_rfl) (fun _ _ _ _ _ _ us hl => match us, hl with | [_], _ => rfl) (fun _ _ _ _ _ _ us hl => match us, hl with | [_], _ => rfl) (fun _ _ _ _ _ _ us hl => match us, hl with | [_], _ => allO_mem (show _ ∧ True from ⟨rfl, trivial⟩)) (by kernel_rfl) (by kernel_rfl) (.cons (p_is_string KX G sd e) (by decide) (.cons (p_is_tuple KX G sd e) (by decide) (.cons (p_are_ascending KX G sd e) (by decide) (.cons (p_is_value KX G sd e) (by decide) (.cons (p_is_child KX G sd e) (by decide) (.nil))))))
theorem p_sheet_of (KX : K.In h) (G : h.Ns mainGlobals mg) (sd : He.SaysD [] fn K) (e : exW cons blts fns K = true) : Prm (fun _ _ _ _ _ => False) P w K mg base 5 "sheet_of" ["text"] F_sheet_of :=
  row_def (i := 13) (ps := ["text"]) (N := N_sheet_of) (calls := [("whole_in", ["word"]), ("is_sheet", ["value"])]) KX G sd e rfl (by kernel_rfl) (fun _ _ _ _ _ _ us hl => match us, hl with | [_], _ => rfl) (fun _ _ _ _ _ _ us hl => match us, hl with | [_], _ => rfl) (fun _ _ _ _ _ _ us hl => match us, hl with | [_], _ => allO_mem (show _ ∧ True from ⟨rfl, trivial⟩)) (by kernel_rfl) (by kernel_rfl) (.cons (p_whole_in KX G sd e) (by decide) (.cons (p_is_sheet KX G sd e) (by decide) (.nil)))
theorem p_sheet_in (KX : K.In h) (G : h.Ns mainGlobals mg) (sd : He.SaysD [] fn K) (e : exW cons blts fns K = true) : Prm (fun _ _ _ _ _ => False) P w K mg base 6 "sheet_in" ["text"] F_sheet_in :=
  row_def (i := 14) (ps := ["text"]) (N := N_sheet_in) (calls := [("is_page_text", ["value"]), ("sheet_of", ["text"])]) KX G sd e rfl (by kernel_rfl) (fun _ _ _ _ _ _ us hl => match us, hl with | [_], _ => rfl) (fun _ _ _ _ _ _ us hl => match us, hl with | [_], _ => rfl) (fun _ _ _ _ _ _ us hl => match us, hl with | [_], _ => allO_mem (show _ ∧ True from ⟨rfl, trivial⟩)) (by kernel_rfl) (by kernel_rfl) (.cons (p_is_page_text KX G sd e) (by decide) (.cons (p_sheet_of KX G sd e) (by decide) (.nil)))
theorem p_sheet_text (KX : K.In h) (G : h.Ns mainGlobals mg) (sd : He.SaysD [] fn K) (e : exW cons blts fns K = true) : Prm (fun _ _ _ _ _ => False) P w K mg base 1 "sheet_text" ["sheet", "places"] F_sheet_text :=
  row_def (i := 15) (ps := ["sheet", "places"]) (N := N_sheet_text) (calls := []) KX G sd e rfl (by kernel_rfl) (fun _ _ _ _ _ _ us hl => match us, hl with | [_, _], _ => rfl) (fun _ _ _ _ _ _ us hl => match us, hl with | [_, _], _ => rfl) (fun _ _ _ _ _ _ us hl => match us, hl with | [_, _], _ => allO_mem (show _ ∧ _ ∧ True from ⟨rfl, rfl, trivial⟩)) (by kernel_rfl) (by kernel_rfl) (.nil)
theorem p_written (KX : K.In h) (G : h.Ns mainGlobals mg) (sd : He.SaysD [] fn K) (e : exW cons blts fns K = true) : Prm (fun _ _ _ _ _ => False) P w K mg base 5 "written" ["sheet", "places"] F_written :=
  row_def (i := 16) (ps := ["sheet", "places"]) (N := N_written) (calls := [("is_sheet", ["value"]), ("is_integer", ["value", "low", "high"]), ("sheet_text", ["sheet", "places"])]) KX G sd e rfl (by kernel_rfl) (fun _ _ _ _ _ _ us hl => match us, hl with | [_, _], _ => rfl) (fun _ _ _ _ _ _ us hl => match us, hl with | [_, _], _ => rfl) (fun _ _ _ _ _ _ us hl => match us, hl with | [_, _], _ => allO_mem (show _ ∧ _ ∧ True from ⟨rfl, rfl, trivial⟩)) (by kernel_rfl) (by kernel_rfl) (.cons (p_is_sheet KX G sd e) (by decide) (.cons (p_is_integer KX G sd e) (by decide) (.cons (p_sheet_text KX G sd e) (by decide) (.nil))))
theorem p_law_pot (KX : K.In h) (G : h.Ns mainGlobals mg) (sd : He.SaysD [] fn K) (e : exW cons blts fns K = true) : Prm (fun _ _ _ _ _ => False) P w K mg base 1 "_law_pot" ["script", "place"] F_law_pot :=
  row_def (i := 17) (ps := ["script", "place"]) (N := N_law_pot) (calls := []) KX G sd e rfl (by kernel_rfl) (fun _ _ _ _ _ _ us hl => match us, hl with | [_, _], _ => rfl) (fun _ _ _ _ _ _ us hl => match us, hl with | [_, _], _ => rfl) (fun _ _ _ _ _ _ us hl => match us, hl with | [_, _], _ => allO_mem (show _ ∧ _ ∧ True from ⟨rfl, rfl, trivial⟩)) (by kernel_rfl) (by kernel_rfl) (.nil)
theorem p_law_take (KX : K.In h) (G : h.Ns mainGlobals mg) (sd : He.SaysD [] fn K) (e : exW cons blts fns K = true) : Prm (fun _ _ _ _ _ => False) P w K mg base 1 "_law_take" ["pot", "upto"] F_law_take :=
  row_def (i := 18) (ps := ["pot", "upto"]) (N := N_law_take) (calls := []) KX G sd e rfl (by kernel_rfl) (fun _ _ _ _ _ _ us hl => match us, hl with | [_, _], _ => rfl) (fun _ _ _ _ _ _ us hl => match us, hl with | [_, _], _ => rfl) (fun _ _ _ _ _ _ us hl => match us, hl with | [_, _], _ => allO_mem (show _ ∧ _ ∧ True from ⟨rfl, rfl, trivial⟩)) (by kernel_rfl) (by kernel_rfl) (.nil)
theorem p_law_of (KX : K.In h) (G : h.Ns mainGlobals mg) (sd : He.SaysD [] fn K) (e : exW cons blts fns K = true) : Prm (fun _ _ _ _ _ => False) P w K mg base 2 "_law_of" ["pot", "some"] F_law_of :=
  row_def (i := 19) (ps := ["pot", "some"]) (N := N_law_of) (calls := [("_law_take", ["pot", "upto"])]) KX G sd e rfl (by kernel_rfl) (fun _ _ _ _ _ _ us hl => match us, hl with | [_, _], _ => rfl) (fun _ _ _ _ _ _ us hl => match us, hl with | [_, _], _ => rfl) (fun _ _ _ _ _ _ us hl => match us, hl with | [_, _], _ => allO_mem (show _ ∧ _ ∧ True from ⟨rfl, rfl, trivial⟩)) (by kernel_rfl) (by kernel_rfl) (.cons (p_law_take KX G sd e) (by decide) (.nil))
theorem p_law_cells (KX : K.In h) (G : h.Ns mainGlobals mg) (sd : He.SaysD [] fn K) (e : exW cons blts fns K = true) : Prm (fun _ _ _ _ _ => False) P w K mg base 1 "_law_cells" ["script", "most"] F_law_cells :=
  row_def (i := 20) (ps := ["script", "most"]) (N := N_law_cells) (calls := []) KX G sd e rfl (by kernel_rfl) (fun _ _ _ _ _ _ us hl => match us, hl with | [_, _], _ => rfl) (fun _ _ _ _ _ _ us hl => match us, hl with | [_, _], _ => rfl) (fun _ _ _ _ _ _ us hl => match us, hl with | [_, _], _ => allO_mem (show _ ∧ _ ∧ True from ⟨rfl, rfl, trivial⟩)) (by kernel_rfl) (by kernel_rfl) (.nil)
theorem p_law_map_is_key (KX : K.In h) (G : h.Ns mainGlobals mg) (sd : He.SaysD [] fn K) (e : exW cons blts fns K = true) : Prm (fun _ _ _ _ _ => False) P w K mg base 1 "_law_map_is_key" ["value"] F_law_map_is_key :=
  row_def (i := 21) (ps := ["value"]) (N := N_law_map_is_key) (calls := []) KX G sd e rfl (by kernel_rfl) (fun _ _ _ _ _ _ us hl => match us, hl with | [_], _ => rfl) (fun _ _ _ _ _ _ us hl => match us, hl with | [_], _ => rfl) (fun _ _ _ _ _ _ us hl => match us, hl with | [_], _ => allO_mem (show _ ∧ True from ⟨rfl, trivial⟩)) (by kernel_rfl) (by kernel_rfl) (.nil)
theorem p_law_map_is_value (KX : K.In h) (G : h.Ns mainGlobals mg) (sd : He.SaysD [] fn K) (e : exW cons blts fns K = true) : Prm (fun _ _ _ _ _ => False) P w K mg base 1 "_law_map_is_value" ["value"] F_law_map_is_value :=
  row_def (i := 22) (ps := ["value"]) (N := N_law_map_is_value) (calls := []) KX G sd e rfl (by kernel_rfl) (fun _ _ _ _ _ _ us hl => match us, hl with | [_], _ => rfl) (fun _ _ _ _ _ _ us hl => match us, hl with | [_], _ => rfl) (fun _ _ _ _ _ _ us hl => match us, hl with | [_], _ => allO_mem (show _ ∧ True from ⟨rfl, trivial⟩)) (by kernel_rfl) (by kernel_rfl) (.nil)
theorem p_law_map_number (KX : K.In h) (G : h.Ns mainGlobals mg) (sd : He.SaysD [] fn K) (e : exW cons blts fns K = true) : Prm (fun _ _ _ _ _ => False) P w K mg base 1 "_law_map_number" ["word"] F_law_map_number :=
  row_def (i := 23) (ps := ["word"]) (N := N_law_map_number) (calls := []) KX G sd e rfl (by kernel_rfl) (fun _ _ _ _ _ _ us hl => match us, hl with | [_], _ => rfl) (fun _ _ _ _ _ _ us hl => match us, hl with | [_], _ => rfl) (fun _ _ _ _ _ _ us hl => match us, hl with | [_], _ => allO_mem (show _ ∧ True from ⟨rfl, trivial⟩)) (by kernel_rfl) (by kernel_rfl) (.nil)
theorem p_law_map_sheet (KX : K.In h) (G : h.Ns mainGlobals mg) (sd : He.SaysD [] fn K) (e : exW cons blts fns K = true) : Prm (fun _ _ _ _ _ => False) P w K mg base 2 "_law_map_sheet" ["text"] F_law_map_sheet :=
  row_def (i := 24) (ps := ["text"]) (N := N_law_map_sheet) (calls := [("_law_map_number", ["word"]), ("_law_map_is_key", ["value"]), ("_law_map_is_value", ["value"])]) KX G sd e rfl (by kernel_rfl) (fun _ _ _ _ _ _ us hl => match us, hl with | [_], _ => rfl) (fun _ _ _ _ _ _ us hl => match us, hl with | [_], _ => rfl) (fun _ _ _ _ _ _ us hl => match us, hl with | [_], _ => allO_mem (show _ ∧ True from ⟨rfl, trivial⟩)) (by kernel_rfl) (by kernel_rfl) (.cons (p_law_map_number KX G sd e) (by decide) (.cons (p_law_map_is_key KX G sd e) (by decide) (.cons (p_law_map_is_value KX G sd e) (by decide) (.nil))))
theorem p_law_map_key_drawn (KX : K.In h) (G : h.Ns mainGlobals mg) (sd : He.SaysD [] fn K) (e : exW cons blts fns K = true) : Prm (fun _ _ _ _ _ => False) P w K mg base 3 "_law_map_key_drawn" ["pot"] F_law_map_key_drawn :=
  row_def (i := 25) (ps := ["pot"]) (N := N_law_map_key_drawn) (calls := [("_law_take", ["pot", "upto"]), ("_law_of", ["pot", "some"])]) KX G sd e rfl (by kernel_rfl) (fun _ _ _ _ _ _ us hl => match us, hl with | [_], _ => rfl) (fun _ _ _ _ _ _ us hl => match us, hl with | [_], _ => rfl) (fun _ _ _ _ _ _ us hl => match us, hl with | [_], _ => allO_mem (show _ ∧ True from ⟨rfl, trivial⟩)) (by kernel_rfl) (by kernel_rfl) (.cons (p_law_take KX G sd e) (by decide) (.cons (p_law_of KX G sd e) (by decide) (.nil)))
theorem p_law_map_value_drawn (KX : K.In h) (G : h.Ns mainGlobals mg) (sd : He.SaysD [] fn K) (e : exW cons blts fns K = true) : Prm (fun _ _ _ _ _ => False) P w K mg base 3 "_law_map_value_drawn" ["pot"] F_law_map_value_drawn :=
  row_def (i := 26) (ps := ["pot"]) (N := N_law_map_value_drawn) (calls := [("_law_take", ["pot", "upto"]), ("_law_of", ["pot", "some"])]) KX G sd e rfl (by kernel_rfl) (fun _ _ _ _ _ _ us hl => match us, hl with | [_], _ => rfl) (fun _ _ _ _ _ _ us hl => match us, hl with | [_], _ => rfl) (fun _ _ _ _ _ _ us hl => match us, hl with | [_], _ => allO_mem (show _ ∧ True from ⟨rfl, trivial⟩)) (by kernel_rfl) (by kernel_rfl) (.cons (p_law_take KX G sd e) (by decide) (.cons (p_law_of KX G sd e) (by decide) (.nil)))
theorem p_law_sheet (KX : K.In h) (G : h.Ns mainGlobals mg) (sd : He.SaysD [] fn K) (e : exW cons blts fns K = true) : Prm (fun _ _ _ _ _ => False) P w K mg base 4 "_law_sheet" ["pot"] F_law_sheet :=
  row_def (i := 27) (ps := ["pot"]) (N := N_law_sheet) (calls := [("_law_of", ["pot", "some"]), ("_law_map_key_drawn", ["pot"]), ("_law_take", ["pot", "upto"]), ("_law_map_value_drawn", ["pot"])]) KX G sd e rfl (by kernel_rfl) (fun _ _ _ _ _ _ us hl => match us, hl with | [_], _ => rfl) (fun _ _ _ _ _ _ us hl => match us, hl with | [_], _ => rfl) (fun _ _ _ _ _ _ us hl => match us, hl with | [_], _ => allO_mem (show _ ∧ True from ⟨rfl, trivial⟩)) (by kernel_rfl) (by kernel_rfl) (.cons (p_law_of KX G sd e) (by decide) (.cons (p_law_map_key_drawn KX G sd e) (by decide) (.cons (p_law_take KX G sd e) (by decide) (.cons (p_law_map_value_drawn KX G sd e) (by decide) (.nil)))))
theorem p_law_text (KX : K.In h) (G : h.Ns mainGlobals mg) (sd : He.SaysD [] fn K) (e : exW cons blts fns K = true) : Prm (fun _ _ _ _ _ => False) P w K mg base 1 "_law_text" ["sheet", "places"] F_law_text :=
  row_def (i := 28) (ps := ["sheet", "places"]) (N := N_law_text) (calls := []) KX G sd e rfl (by kernel_rfl) (fun _ _ _ _ _ _ us hl => match us, hl with | [_, _], _ => rfl) (fun _ _ _ _ _ _ us hl => match us, hl with | [_, _], _ => rfl) (fun _ _ _ _ _ _ us hl => match us, hl with | [_, _], _ => allO_mem (show _ ∧ _ ∧ True from ⟨rfl, rfl, trivial⟩)) (by kernel_rfl) (by kernel_rfl) (.nil)
theorem p_law_read (KX : K.In h) (G : h.Ns mainGlobals mg) (sd : He.SaysD [] fn K) (e : exW cons blts fns K = true) : Prm (fun _ _ _ _ _ => False) P w K mg base 3 "_law_read" ["text"] F_law_read :=
  row_def (i := 29) (ps := ["text"]) (N := N_law_read) (calls := [("_law_map_sheet", ["text"])]) KX G sd e rfl (by kernel_rfl) (fun _ _ _ _ _ _ us hl => match us, hl with | [_], _ => rfl) (fun _ _ _ _ _ _ us hl => match us, hl with | [_], _ => rfl) (fun _ _ _ _ _ _ us hl => match us, hl with | [_], _ => allO_mem (show _ ∧ True from ⟨rfl, trivial⟩)) (by kernel_rfl) (by kernel_rfl) (.cons (p_law_map_sheet KX G sd e) (by decide) (.nil))
theorem p_law_near (KX : K.In h) (G : h.Ns mainGlobals mg) (sd : He.SaysD [] fn K) (e : exW cons blts fns K = true) : Prm (fun _ _ _ _ _ => False) P w K mg base 3 "_law_near" ["pot", "text"] F_law_near :=
  row_def (i := 30) (ps := ["pot", "text"]) (N := N_law_near) (calls := [("_law_take", ["pot", "upto"]), ("_law_of", ["pot", "some"])]) KX G sd e rfl (by kernel_rfl) (fun _ _ _ _ _ _ us hl => match us, hl with | [_, _], _ => rfl) (fun _ _ _ _ _ _ us hl => match us, hl with | [_, _], _ => rfl) (fun _ _ _ _ _ _ us hl => match us, hl with | [_, _], _ => allO_mem (show _ ∧ _ ∧ True from ⟨rfl, rfl, trivial⟩)) (by kernel_rfl) (by kernel_rfl) (.cons (p_law_take KX G sd e) (by decide) (.cons (p_law_of KX G sd e) (by decide) (.nil)))
theorem p_law_right (KX : K.In h) (G : h.Ns mainGlobals mg) (sd : He.SaysD [] fn K) (e : exW cons blts fns K = true) : Prm (fun _ _ _ _ _ => False) P w K mg base 7 "_law_right" ["pot"] F_law_right :=
  row_def (i := 31) (ps := ["pot"]) (N := N_law_right) (calls := [("_law_sheet", ["pot"]), ("_law_take", ["pot", "upto"]), ("_law_text", ["sheet", "places"]), ("written", ["sheet", "places"]), ("_law_near", ["pot", "text"]), ("sheet_in", ["text"]), ("_law_read", ["text"])]) KX G sd e rfl (by kernel_rfl) (fun _ _ _ _ _ _ us hl => match us, hl with | [_], _ => rfl) (fun _ _ _ _ _ _ us hl => match us, hl with | [_], _ => rfl) (fun _ _ _ _ _ _ us hl => match us, hl with | [_], _ => allO_mem (show _ ∧ True from ⟨rfl, trivial⟩)) (by kernel_rfl) (by kernel_rfl) (.cons (p_law_sheet KX G sd e) (by decide) (.cons (p_law_take KX G sd e) (by decide) (.cons (p_law_text KX G sd e) (by decide) (.cons (p_written KX G sd e) (by decide) (.cons (p_law_near KX G sd e) (by decide) (.cons (p_sheet_in KX G sd e) (by decide) (.cons (p_law_read KX G sd e) (by decide) (.nil))))))))
theorem p_law (KX : K.In h) (G : h.Ns mainGlobals mg) (sd : He.SaysD [] fn K) (e : exW cons blts fns K = true) : Prm (fun _ _ _ _ _ => False) P w K mg base 8 "law" ["script"] F_law :=
  row_def (i := 32) (ps := ["script"]) (N := N_law) (calls := [("_law_cells", ["script", "most"]), ("_law_right", ["pot"]), ("_law_pot", ["script", "place"])]) KX G sd e rfl (by kernel_rfl) (fun _ _ _ _ _ _ us hl => match us, hl with | [_], _ => rfl) (fun _ _ _ _ _ _ us hl => match us, hl with | [_], _ => rfl) (fun _ _ _ _ _ _ us hl => match us, hl with | [_], _ => allO_mem (show _ ∧ True from ⟨rfl, trivial⟩)) (by kernel_rfl) (by kernel_rfl) (.cons (p_law_cells KX G sd e) (by decide) (.cons (p_law_right KX G sd e) (by decide) (.cons (p_law_pot KX G sd e) (by decide) (.nil))))
end
end Lw
end

section
set_option Elab.async false
set_option linter.all false
set_option maxRecDepth 100000
set_option maxHeartbeats 0
open PySem PySem.W PySem.Calls PyProof.Rows
theorem Lw.ends (hl : ∀ ns : List Int, ns.length ≤ 63 → (∀ i ∈ ns, Builtin.Int.intBits i ≤ 1048576) → ∃ M', Lw.F_law [.scr (ns.map Wn.D.int)] [] = .ok (.bl true) M') : PySem.Challenge.rw_worneven_k15_whole_sheets_and_page_texts.Holds := by
  w_on; o_law
  refine HandSHeadRun.head_any (r := OpenLaw.row PySem.Challenge.rw_worneven_k15_whole_sheets_and_page_texts) (q := view (OpenLaw.row PySem.Challenge.rw_worneven_k15_whole_sheets_and_page_texts).prog [60]) (H := Lw.hk) (ob := Lw.ob) (M := 4000) (loose := Lw.loose) (d := HandSHeadRun.topDef (OpenLaw.row PySem.Challenge.rw_worneven_k15_whole_sheets_and_page_texts).prog 60) (kwd := []) Lw.ob_eq
    (by kernel_rfl) (fun s => by kernel_rfl) Lw.run (by kernel_rfl) (by kernel_rfl) (by kernel_rfl) (by rfl) (by first | assumption | decide +kernel) (by decide +kernel) ⟨rfl, rfl, rfl, rfl, rfl, by decide +kernel⟩ ?hw ?hc
  case hw => w_witness2
  case hc =>
    refine Wn.walk_law (l := PySem.Challenge.rw_worneven_k15_whole_sheets_and_page_texts) (n := 63) (k := 8) (F := Lw.F_law) (er := fun _ _ _ _ _ => False) rfl (by decide) (by kernel_rfl) ⟨rfl, by decide, by decide⟩ ?hF hl
    intro w mg h Y G
    obtain ⟨K, KX, sd, e⟩ := Y
    refine ⟨K, KX, fun base _ _ => ⟨("script" : PySem.Str), ?_⟩⟩
    have e1 : (HandSHeadRun.topDef (OpenLaw.row PySem.Challenge.rw_worneven_k15_whole_sheets_and_page_texts).prog 60).name = ("law" : PySem.Str) := by kernel_rfl
    rw [e1]
    exact Lw.p_law KX G sd e
end

theorem PySem.Challenge.cw_worneven_k15_whole_sheets_and_page_texts_holds : PySem.Challenge.rw_worneven_k15_whole_sheets_and_page_texts.Holds := by
  exact Lw.ends fun ns _ _ => Lw.hl ns
