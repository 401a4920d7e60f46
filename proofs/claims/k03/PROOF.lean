import PyProof.Rows.All
import Wide.All
import OpenK.AllK
import Wide.FinOn
import HandS.ForMost
import HandS.Deep
import HandS.TupAny
import HandS.Zip
import HandS.IsInst
import HandS.Exc
import HandS.ExcOwn
import HandS.CallSlots
import HandS.WordsExc
import HandS.Style
import HandS.Defaults
import HandS.TupMul
import HandS.Head0
import HandS.Head1
import HandS.Head2
import HandS.HeadEnd
import HandS.HeadHook1
import HandS.HeadHook2
import HandS.HeadHook3
import HandS.HeadHook4
import PySem.Challenge.RW_cacheheld_k03_whole_verdicts
set_option Elab.async false
set_option linter.all false
set_option maxRecDepth 100000
set_option maxHeartbeats 4000000
/-! CH0: deep values, the mirror heap, their relation to the hand layer's abstract heap. -/
namespace CH
open PySem PySem.Spec PyProof.Rows L2

/-- a deep value -/
inductive D where
  | non | bl (b : Bool) | int (i : Int) | str (x : Str)
  | tup (xs : List D) | lst (xs : List D) | dic (ks : List Key) (vs : List D)
  | ref (i : Nat) | gl (x : Str) | ty (n : String) | scr (ns : List Int)
/-- a mutable object -/
inductive O where
  | lst (xs : List D) | dic (ks : List Key) (vs : List D) | ins (c : Str) (ks : List Str) (vs : List D)
abbrev MH := List O
abbrev Sl := List (Option D)
inductive Res (α : Type) where
  | ok (a : α) (h : MH) | exc (c : Str) (a : Option (Str × D)) (h : MH) | bad

/-! ### what stands for what -/
structure Ev where
  K : PySem.W.Frag
  mg : Str → Option Value
/-- a tuple: one that was made, or a written one -/
def TuA (K : PySem.W.Frag) (H : Hp) (a : Addr) (vs : List V) : Prop := H a = some (.tup vs) ∨ SqT K (fun _ => none) a vs
theorem TuA.sq {K : PySem.W.Frag} {H : Hp} {a : Addr} {vs : List V} (h : TuA K H a vs) : SqT K H a vs := by
  rcases h with h | h
  · exact SqT.of h
  · rcases h with (h | ⟨o, h⟩) | h
    · cases h
    · cases h
    · exact .inr h
section
variable (G : Ev) (r : List Addr) (F : List Addr) (H : Hp)
mutual
inductive Den : D → V → Prop
  | non : Den .non .non
  | bl (b : Bool) : Den (.bl b) (.bl b)
  | int (i : Int) : Den (.int i) (.int i)
  | str (x : Str) : Den (.str x) (.str x)
  | ty (n : String) : Den (.ty n) (.ty n)
  | tup {a : Addr} {ds : List D} {vs : List V} : TuA G.K H a vs → DenL ds vs → Den (.tup ds) (.ref a)
  | lst {a : Addr} {ds : List D} {vs : List V} : H a = some (.lst vs) → a ∉ r ∧ a ∉ F → DenL ds vs → Den (.lst ds) (.ref a)
  | scr {a : Addr} {ns : List Int} : ((∃ o, H a = some (.frz o (.lst (ns.map V.int)))) ∨ SqL G.K (fun _ => none) a (ns.map V.int)) → Den (.scr ns) (.ref a)
  | dic {a : Addr} {ks : List Key} {ds : List D} {vs : List V} : H a = some (.dK (ks.zip vs)) → a ∉ r ∧ a ∉ F → ks.length = vs.length → DenL ds vs → Den (.dic ks ds) (.ref a)
  | ref {i : Nat} {a : Addr} : r[i]? = some a → Den (.ref i) (.ref a)
  | gl {x : Str} {a : Addr} : G.mg x = some (.ref a) → Den (.gl x) (.ref a)
inductive DenL : List D → List V → Prop
  | nil : DenL [] []
  | cons {d : D} {v : V} {ds : List D} {vs : List V} : Den d v → DenL ds vs → DenL (d :: ds) (v :: vs)
end
end

/-- the heap has grown: new addresses d, what was not ours is kept -/
structure Ext (r : List Addr) (H : Hp) (r' : List Addr) (H' : Hp) : Prop where
  pre : ∃ d, r' = r ++ d ∧ ∀ a ∈ d, H a = none
  keep : ∀ a o, H a = some o → a ∉ r → H' a = some o

section
variable {G : Ev} {r r' r2 F : List Addr} {H H' H2 : Hp}
theorem Ext.refl : Ext r H r H := ⟨⟨[], by simp, fun _ h => by cases h⟩, fun _ _ e _ => e⟩
theorem Ext.same (s : Same H H') : Ext r H r H' := ⟨⟨[], by simp, fun _ h => by cases h⟩, fun _ _ e _ => s _ _ e⟩
theorem Ext.notin (e : Ext r H r' H') {a : Addr} {o : HO} (h : H a = some o) (n : a ∉ r) : a ∉ r' := by
  obtain ⟨d, rfl, hd⟩ := e.pre
  intro hm
  rcases List.mem_append.mp hm with hm | hm
  · exact n hm
  · rw [hd a hm] at h; cases h
theorem Ext.get (e : Ext r H r' H') {i : Nat} {a : Addr} (h : r[i]? = some a) : r'[i]? = some a := by
  obtain ⟨d, rfl, _⟩ := e.pre
  have hl : i < r.length := (List.getElem?_eq_some_iff.mp h).1
  rw [List.getElem?_append_left hl]; exact h
theorem Ext.rd (e : Ext r H r' H') {a : Addr} {u : HO} (h : Rd H a u) (n : a ∉ r) : Rd H' a u := by
  rcases h with h | ⟨o, h⟩
  · exact .inl (e.keep _ _ h n)
  · exact .inr ⟨o, e.keep _ _ h n⟩
theorem rd_some {a : Addr} {u : HO} (h : Rd H a u) : ∃ o, H a = some o := by
  rcases h with h | ⟨o, h⟩
  · exact ⟨_, h⟩
  · exact ⟨_, h⟩

/-- an object of ours -/
def ODen (G : Ev) (r F : List Addr) (H : Hp) (a : Addr) : O → Prop
  | .lst ds => ∃ vs, H a = some (.lst vs) ∧ DenL G r F H ds vs
  | .dic ks ds => ∃ vs, H a = some (.dK (ks.zip vs)) ∧ ks.length = vs.length ∧ DenL G r F H ds vs
  | .ins c ks ds => ∃ C dx vs, G.mg c = some (.ref C) ∧ H a = some (.ins C dx (ks.zip vs)) ∧ ks.length = vs.length ∧ H dx = some (.own a) ∧ DenL G r F H ds vs
structure GoodH (G : Ev) (r F : List Addr) (h : MH) (H : Hp) : Prop where
  len : r.length = h.length
  nd : r.Nodup
  fd : ∀ a ∈ F, (∃ o, H a = some o ∧ Mut (some o)) ∧ a ∉ r
  ob : ∀ (i : Nat) (o : O), h[i]? = some o → ∃ a, r[i]? = some a ∧ ODen G r F H a o

/-- tuples stand whatever is written -/
def KeepT (H H' : Hp) : Prop := ∀ a xs, H a = some (.tup xs) → H' a = some (.tup xs)
end

/-- no tuple, no locked thing is ours -/
def Mine (r : List Addr) (H : Hp) : Prop := ∀ a ∈ r, ∃ o, H a = some o ∧ Mut (some o) 
theorem GoodH.mine {G : Ev} {r F : List Addr} {h : MH} {H : Hp} (g : GoodH G r F h H) : Mine r H := by
  intro a ha
  obtain ⟨i, hi, e⟩ := List.mem_iff_getElem.mp ha
  have hl : i < h.length := by rw [← g.len]; exact hi
  obtain ⟨b, e2, q⟩ := g.ob i h[i] (List.getElem?_eq_getElem hl)
  have e3 : r[i]? = some a := by rw [List.getElem?_eq_getElem hi, e]
  rw [e3] at e2; cases e2
  cases hh : h[i] with
  | lst ds => rw [hh] at q; obtain ⟨vs, q, _⟩ := q; exact ⟨_, q, trivial⟩
  | dic ks ds => rw [hh] at q; obtain ⟨vs, q, _⟩ := q; exact ⟨_, q, trivial⟩
  | ins c ks ds => rw [hh] at q; obtain ⟨C, dx, vs, _, q, _⟩ := q; exact ⟨_, q, trivial⟩
theorem Mine.out {r : List Addr} {H : Hp} (m : Mine r H) {a : Addr} {o : HO} (h : H a = some o) (n : ¬ Mut (some o)) : a ∉ r := fun hm => by
  obtain ⟨o', e, q⟩ := m a hm
  rw [h] at e; cases e; exact n q
theorem Mine.seqT {K : PySem.W.Frag} {r r' : List Addr} {H H' : Hp} (m : Mine r H) (e : Ext r H r' H') {a : Addr} {vs : List V} (h : TuA K H a vs) : TuA K H' a vs := by
  rcases h with h | h
  · exact .inl (e.keep _ _ h (m.out h id))
  · exact .inr h
theorem Mine.frz {r r' : List Addr} {H H' : Hp} (m : Mine r H) (e : Ext r H r' H') {a : Addr} {o : Obj} {u : HO} (h : H a = some (.frz o u)) : H' a = some (.frz o u) := e.keep _ _ h (m.out h id)

/-- foreign things: those of before, or new ones -/
def Foe (F : List Addr) (H : Hp) (F' : List Addr) : Prop := ∀ a ∈ F', a ∈ F ∨ H a = none
theorem Foe.refl {F : List Addr} {H : Hp} : Foe F H F := fun _ h => .inl h
theorem Foe.out {F F' : List Addr} {H : Hp} (f : Foe F H F') {a : Addr} {o : HO} (h : H a = some o) (n : a ∉ F) : a ∉ F' := fun hm => by
  rcases f a hm with q | q
  · exact n q
  · rw [q] at h; cases h
section
variable {G : Ev} {r r' r2 F F' : List Addr} {H H' H2 : Hp}
mutual
theorem Den.monoF (m : Mine r H) (e : Ext r H r' H') (f : Foe F H F') : ∀ (d : D) (v : V), Den G r F H d v → Den G r' F' H' d v
  | .non, _, .non => .non
  | .bl _, _, .bl b => .bl b
  | .int _, _, .int b => .int b
  | .str _, _, .str b => .str b
  | .ty _, _, .ty b => .ty b
  | .tup ds, _, .tup h l => .tup (m.seqT e h) (DenL.monoF m e f ds _ l)
  | .lst ds, _, .lst h n l => .lst (e.keep _ _ h n.1) ⟨e.notin h n.1, f.out h n.2⟩ (DenL.monoF m e f ds _ l)
  | .scr _, _, .scr h => .scr (h.imp (fun ⟨o, h⟩ => ⟨o, m.frz e h⟩) id)
  | .dic ks ds, _, .dic h n hl l => .dic (e.keep _ _ h n.1) ⟨e.notin h n.1, f.out h n.2⟩ hl (DenL.monoF m e f ds _ l)
  | .ref _, _, .ref h => .ref (e.get h)
  | .gl _, _, .gl h => .gl h
theorem DenL.monoF (m : Mine r H) (e : Ext r H r' H') (f : Foe F H F') : ∀ (ds : List D) (vs : List V), DenL G r F H ds vs → DenL G r' F' H' ds vs
  | [], _, .nil => .nil
  | d :: ds, _, .cons h t => .cons (Den.monoF m e f d _ h) (DenL.monoF m e f ds _ t)
end
theorem Den.mono (m : Mine r H) (e : Ext r H r' H') (d : D) (v : V) (h : Den G r F H d v) : Den G r' F H' d v := Den.monoF m e .refl d v h
theorem DenL.mono (m : Mine r H) (e : Ext r H r' H') (d : List D) (v : List V) (h : DenL G r F H d v) : DenL G r' F H' d v := DenL.monoF m e .refl d v h
/-- a foreign list is written -/
theorem mut_ne {H : Hp} {D a : Addr} {acc o : HO} (hD : H D = some acc) (mu : Mut (some acc)) (h : H a = some o) (n : ¬ Mut (some o)) : a ≠ D := fun e => by
  subst e
  rw [h] at hD
  cases hD
  exact n mu
theorem seqT_upd {K : PySem.W.Frag} {H : Hp} {D a : Addr} {acc acc' : HO} {vs : List V} (hD : H D = some acc) (mu : Mut (some acc)) (h : TuA K H a vs) : TuA K (upd H D acc') a vs := by
  rcases h with h | h
  · exact .inl (by rw [upd_ne (mut_ne hD mu h id)]; exact h)
  · exact .inr h
mutual
theorem Den.updF {D0 : Addr} {acc acc' : HO} (hD : H D0 = some acc) (mu : Mut (some acc)) (hF : D0 ∈ F) : ∀ (d : D) (v : V), Den G r F H d v → Den G r F (upd H D0 acc') d v
  | .non, _, .non => .non
  | .bl _, _, .bl b => .bl b
  | .int _, _, .int b => .int b
  | .str _, _, .str b => .str b
  | .ty _, _, .ty b => .ty b
  | .tup ds, _, .tup h l => .tup (seqT_upd hD mu h) (DenL.updF hD mu hF ds _ l)
  | .lst ds, _, .lst h n l => .lst (by rw [upd_ne (fun e => n.2 (by rw [e]; exact hF))]; exact h) n (DenL.updF hD mu hF ds _ l)
  | .scr _, _, .scr h => .scr (h.imp (fun ⟨o, h⟩ => ⟨o, by rw [upd_ne (mut_ne hD mu h id)]; exact h⟩) id)
  | .dic ks ds, _, .dic h n hl l => .dic (by rw [upd_ne (fun e => n.2 (by rw [e]; exact hF))]; exact h) n hl (DenL.updF hD mu hF ds _ l)
  | .ref _, _, .ref h => .ref h
  | .gl _, _, .gl h => .gl h
theorem DenL.updF {D0 : Addr} {acc acc' : HO} (hD : H D0 = some acc) (mu : Mut (some acc)) (hF : D0 ∈ F) : ∀ (ds : List D) (vs : List V), DenL G r F H ds vs → DenL G r F (upd H D0 acc') ds vs
  | [], _, .nil => .nil
  | d :: ds, _, .cons h t => .cons (Den.updF hD mu hF d _ h) (DenL.updF hD mu hF ds _ t)
end
theorem GoodH.updF {h : MH} {D0 : Addr} {acc acc' : HO} (g : GoodH G r F h H) (hD : H D0 = some acc) (mu : Mut (some acc)) (mu' : Mut (some acc')) (hF : D0 ∈ F) : GoodH G r F h (upd H D0 acc') := by
  refine ⟨g.len, g.nd, fun a ha => ⟨?_, (g.fd a ha).2⟩, fun i o hi => ?_⟩
  · by_cases e : a = D0
    · exact ⟨acc', by rw [e]; exact upd_same, mu'⟩
    · rw [upd_ne e]; exact (g.fd a ha).1
  · obtain ⟨a, ea, q⟩ := g.ob i o hi
    have ne : a ≠ D0 := fun e => (g.fd D0 hF).2 (by rw [← e]; exact List.mem_of_getElem? ea)
    refine ⟨a, ea, ?_⟩
    cases o with
    | lst ds =>
      obtain ⟨vs, q1, q2⟩ := q
      exact ⟨vs, by rw [upd_ne ne]; exact q1, DenL.updF hD mu hF _ _ q2⟩
    | dic ks ds =>
      obtain ⟨vs, q1, ql, q2⟩ := q
      exact ⟨vs, by rw [upd_ne ne]; exact q1, ql, DenL.updF hD mu hF _ _ q2⟩
    | ins c ks ds =>
      obtain ⟨C, dx, vs, q0, q1, ql, q3, q2⟩ := q
      exact ⟨C, dx, vs, q0, by rw [upd_ne ne]; exact q1, ql, by rw [upd_ne (mut_ne hD mu q3 id)]; exact q3, DenL.updF hD mu hF _ _ q2⟩
theorem ODen.monoF (m : Mine r H) (e : Ext r H r' H') (f : Foe F H F') {a : Addr} {o : O} (q : ODen G r F H a o) (ha : H' a = H a) : ODen G r' F' H' a o := by
  cases o with
  | lst ds =>
    obtain ⟨vs, q1, q2⟩ := q
    exact ⟨vs, by rw [ha]; exact q1, DenL.monoF m e f _ _ q2⟩
  | dic ks ds =>
    obtain ⟨vs, q1, ql, q2⟩ := q
    exact ⟨vs, by rw [ha]; exact q1, ql, DenL.monoF m e f _ _ q2⟩
  | ins c ks ds =>
    obtain ⟨C, dx, vs, q0, q1, ql, q3, q2⟩ := q
    exact ⟨C, dx, vs, q0, by rw [ha]; exact q1, ql, e.keep _ _ q3 (m.out q3 id), DenL.monoF m e f _ _ q2⟩
/-- other foreign things -/
theorem GoodH.foe {h : MH} (g : GoodH G r F h H) (s : ∀ a o, H a = some o → H' a = some o) (f : Foe F H F') (k : ∀ a ∈ F', (∃ o, H' a = some o ∧ Mut (some o)) ∧ a ∉ r) : GoodH G r F' h H' := by
  refine ⟨g.len, g.nd, k, fun i o hi => ?_⟩
  obtain ⟨a, ea, q⟩ := g.ob i o hi
  refine ⟨a, ea, ODen.monoF g.mine (.same s) f q ?_⟩
  obtain ⟨o2, e2, _⟩ := g.mine a (List.mem_of_getElem? ea)
  rw [e2]; exact s _ _ e2
/-- a new foreign thing -/
theorem GoodH.newF {h : MH} {D0 : Addr} {o : HO} (g : GoodH G r F h H) (hD : H D0 = none) (mu : Mut (some o)) : GoodH G r (D0 :: F) h (upd H D0 o) := by
  have s : ∀ a o', H a = some o' → upd H D0 o a = some o' := fun a o' e => by rw [upd_ne (ne_of_none e hD)]; exact e
  refine g.foe s (fun a ha => ?_) fun a ha => ?_
  · rcases List.mem_cons.mp ha with e | e
    · exact .inr (by rw [e]; exact hD)
    · exact .inl e
  · rcases List.mem_cons.mp ha with e | e
    · refine ⟨⟨o, by rw [e]; exact upd_same, mu⟩, fun hm => ?_⟩
      obtain ⟨o', q, _⟩ := g.mine a hm
      rw [e, hD] at q; cases q
    · obtain ⟨⟨o', q, m⟩, n⟩ := g.fd a e
      exact ⟨⟨o', s _ _ q, m⟩, n⟩
/-- the foreign thing forgotten -/
theorem GoodH.dropF {h : MH} {D0 : Addr} (g : GoodH G r (D0 :: F) h H) : GoodH G r F h H :=
  g.foe (fun _ _ e => e) (fun a ha => .inl (List.mem_cons_of_mem _ ha)) fun a ha => g.fd a (List.mem_cons_of_mem _ ha)
theorem Den.dropF {D0 : Addr} {d : D} {v : V} (m : Mine r H) (h : Den G r (D0 :: F) H d v) : Den G r F H d v := Den.monoF m .refl (fun a ha => .inl (List.mem_cons_of_mem _ ha)) d v h
theorem DenL.dropF {D0 : Addr} {d : List D} {v : List V} (m : Mine r H) (h : DenL G r (D0 :: F) H d v) : DenL G r F H d v := DenL.monoF m .refl (fun a ha => .inl (List.mem_cons_of_mem _ ha)) d v h
/-! the same heap, other names -/
section
mutual
theorem Den.re (hp : ∀ a, a ∉ r ∧ a ∉ F → a ∉ r' ∧ a ∉ F') (hr : ∀ (i : Nat) a, r[i]? = some a → r'[i]? = some a) : ∀ (d : D) (v : V), Den G r F H d v → Den G r' F' H d v
  | .non, _, .non => .non
  | .bl _, _, .bl b => .bl b
  | .int _, _, .int b => .int b
  | .str _, _, .str b => .str b
  | .ty _, _, .ty b => .ty b
  | .tup ds, _, .tup h l => .tup h (DenL.re hp hr ds _ l)
  | .lst ds, _, .lst h n l => .lst h (hp _ n) (DenL.re hp hr ds _ l)
  | .scr _, _, .scr h => .scr h
  | .dic ks ds, _, .dic h n hl l => .dic h (hp _ n) hl (DenL.re hp hr ds _ l)
  | .ref _, _, .ref h => .ref (hr _ _ h)
  | .gl _, _, .gl h => .gl h
theorem DenL.re (hp : ∀ a, a ∉ r ∧ a ∉ F → a ∉ r' ∧ a ∉ F') (hr : ∀ (i : Nat) a, r[i]? = some a → r'[i]? = some a) : ∀ (ds : List D) (vs : List V), DenL G r F H ds vs → DenL G r' F' H ds vs
  | [], _, .nil => .nil
  | d :: ds, _, .cons h t => .cons (Den.re hp hr d _ h) (DenL.re hp hr ds _ t)
end
theorem ODen.re (hp : ∀ a, a ∉ r ∧ a ∉ F → a ∉ r' ∧ a ∉ F') (hr : ∀ (i : Nat) a, r[i]? = some a → r'[i]? = some a) {a : Addr} {o : O} (q : ODen G r F H a o) : ODen G r' F' H a o := by
  cases o with
  | lst ds =>
    obtain ⟨vs, q1, q2⟩ := q
    exact ⟨vs, q1, DenL.re hp hr _ _ q2⟩
  | dic ks ds =>
    obtain ⟨vs, q1, ql, q2⟩ := q
    exact ⟨vs, q1, ql, DenL.re hp hr _ _ q2⟩
  | ins c ks ds =>
    obtain ⟨C, dx, vs, q0, q1, ql, q3, q2⟩ := q
    exact ⟨C, dx, vs, q0, q1, ql, q3, DenL.re hp hr _ _ q2⟩
theorem adopt_hp {D0 : Addr} : ∀ a, a ∉ r ∧ a ∉ D0 :: F → a ∉ r ++ [D0] ∧ a ∉ F := fun a ⟨h1, h2⟩ => by
  rw [List.mem_cons, not_or] at h2
  exact ⟨fun hm => by
    rcases List.mem_append.mp hm with hm | hm
    · exact h1 hm
    · exact h2.1 (by simpa using hm), h2.2⟩
theorem adopt_hr {D0 : Addr} : ∀ (i : Nat) a, r[i]? = some a → (r ++ [D0])[i]? = some a := fun i a h => by
  rw [List.getElem?_append_left (List.getElem?_eq_some_iff.mp h).1]
  exact h
/-- a foreign thing becomes one of ours -/
theorem GoodH.adopt {h : MH} {D0 : Addr} {o : O} (g : GoodH G r (D0 :: F) h H) (n : D0 ∉ F) (q : ODen G (r ++ [D0]) F H D0 o) : GoodH G (r ++ [D0]) F (h ++ [o]) H := by
  refine ⟨by simp [g.len], ?_, fun a ha => ⟨(g.fd a (List.mem_cons_of_mem _ ha)).1, fun hm => ?_⟩, fun i o' hi => ?_⟩
  · rw [List.nodup_append]
    refine ⟨g.nd, by simp, fun a ha b hb => ?_⟩
    simp at hb
    subst hb
    intro e
    subst e
    exact (g.fd a List.mem_cons_self).2 ha
  · rcases List.mem_append.mp hm with hm | hm
    · exact (g.fd a (List.mem_cons_of_mem _ ha)).2 hm
    · simp at hm
      subst hm
      exact n ha
  · by_cases hl : i < h.length
    · rw [List.getElem?_append_left hl] at hi
      obtain ⟨a, ea, qa⟩ := g.ob i o' hi
      exact ⟨a, adopt_hr i a ea, ODen.re adopt_hp adopt_hr qa⟩
    · have hl2 : i = h.length := by
        have := (List.getElem?_eq_some_iff.mp hi).1
        simp at this
        omega
      subst hl2
      rw [List.getElem?_append_right (Nat.le_refl _)] at hi
      simp at hi
      subst hi
      refine ⟨D0, ?_, q⟩
      rw [← g.len, List.getElem?_append_right (Nat.le_refl _)]
      simp
end
end
end CH

/-! CH1: mirror functions and their readings. -/
namespace CH
open PySem PySem.Spec PyProof.Rows L2

abbrev Mo (α : Type) := Sl → MH → Res α
def bindR {α β : Type} (m : Res α) (k : α → MH → Res β) : Res β := match m with
  | .ok a h => k a h
  | .exc c a h => .exc c a h
  | .bad => .bad
def mBind {α β : Type} (m : Mo α) (k : α → Mo β) : Mo β := fun sl h => bindR (m sl h) fun a h1 => k a sl h1
def optR {α : Type} (o : Option α) (h : MH) : Res α := match o with
  | some a => .ok a h
  | none => .bad

section
variable {G : Ev} {r r' r1 F : List Addr} {H H' H1 : Hp} {h h' h1 : MH}
theorem Ext.trans {r1 : List Addr} {H1 : Hp} {r2 : List Addr} {H2 : Hp} (a : Ext r H r1 H1) (m : Mine r1 H1) (b : Ext r1 H1 r2 H2) : Ext r H r2 H2 := by
  obtain ⟨d1, e1, f1⟩ := a.pre
  obtain ⟨d2, e2, f2⟩ := b.pre
  refine ⟨⟨d1 ++ d2, by rw [e2, e1, List.append_assoc], fun x hx => ?_⟩, fun x o e n => b.keep x o (a.keep x o e n) (a.notin e n)⟩
  rcases List.mem_append.mp hx with hx | hx
  · exact f1 x hx
  · cases q : H x with
    | none => rfl
    | some o =>
      by_cases hr : x ∈ r
      · have : x ∈ r1 := by rw [e1]; exact List.mem_append_left _ hr
        obtain ⟨o', e, _⟩ := m x this
        rw [f2 x hx] at e; cases e
      · have e3 := a.keep x o q hr
        rw [f2 x hx] at e3; cases e3
/-- all is kept -/
theorem GoodH.same (g : GoodH G r F h H) (s : Same H H') : GoodH G r F h H' := by
  have e : Ext r H r H' := .same s
  refine ⟨g.len, g.nd, fun a ha => ?_, fun i o hi => ?_⟩
  · obtain ⟨⟨o, q, mu⟩, n⟩ := g.fd a ha
    exact ⟨⟨o, s _ _ q, mu⟩, n⟩
  · obtain ⟨a, ea, q⟩ := g.ob i o hi
    refine ⟨a, ea, ?_⟩
    cases o with
    | lst ds =>
      obtain ⟨vs, q1, q2⟩ := q
      exact ⟨vs, s _ _ q1, DenL.mono g.mine e _ _ q2⟩
    | dic ks ds =>
      obtain ⟨vs, q1, ql, q2⟩ := q
      exact ⟨vs, s _ _ q1, ql, DenL.mono g.mine e _ _ q2⟩
    | ins c ks ds =>
      obtain ⟨C, dx, vs, q0, q1, ql, q3, q2⟩ := q
      exact ⟨C, dx, vs, q0, s _ _ q1, ql, s _ _ q3, DenL.mono g.mine e _ _ q2⟩
theorem ODen.mono (m : Mine r H) (e : Ext r H r' H') {a : Addr} {o : O} (q : ODen G r F H a o) (ha : H' a = H a) : ODen G r' F H' a o := by
  cases o with
  | lst ds =>
    obtain ⟨vs, q1, q2⟩ := q
    exact ⟨vs, by rw [ha]; exact q1, DenL.mono m e _ _ q2⟩
  | dic ks ds =>
    obtain ⟨vs, q1, ql, q2⟩ := q
    exact ⟨vs, by rw [ha]; exact q1, ql, DenL.mono m e _ _ q2⟩
  | ins c ks ds =>
    obtain ⟨C, dx, vs, q0, q1, ql, q3, q2⟩ := q
    exact ⟨C, dx, vs, q0, by rw [ha]; exact q1, ql, e.keep _ _ q3 (m.out q3 id), DenL.mono m e _ _ q2⟩

def SlR (G : Ev) (r F : List Addr) (H : Hp) (sl : Sl) (σ : L2.St) : Prop := sl.length = σ.length ∧ ∀ (i : Nat) (d : D), sl[i]? = some (some d) → ∃ v, σ[i]? = some (some v) ∧ Den G r F H d v
theorem SlR.mono (m : Mine r H) (e : Ext r H r' H') {sl : Sl} {σ : L2.St} (s : SlR G r F H sl σ) : SlR G r' F H' sl σ := ⟨s.1, fun i d hd => by
  obtain ⟨v, h1, h2⟩ := s.2 i d hd
  exact ⟨v, h1, Den.mono m e _ _ h2⟩⟩
theorem SlR.set {sl : Sl} {σ : L2.St} (s : SlR G r F H sl σ) {i : Nat} {d : D} {v : V} (q : Den G r F H d v) : SlR G r F H (sl.set i (some d)) (σ.set i (some v)) := by
  refine ⟨by simp [s.1], fun j d' hd => ?_⟩
  by_cases hj : j = i
  · subst hj
    have hl : j < sl.length := by
      have := (List.getElem?_eq_some_iff.mp hd).1
      simpa using this
    rw [List.getElem?_set_self hl] at hd
    cases hd
    exact ⟨v, by rw [List.getElem?_set_self (by rw [← s.1]; exact hl)], q⟩
  · rw [List.getElem?_set_ne (Ne.symm hj)] at hd
    obtain ⟨w, h1, h2⟩ := s.2 j d' hd
    exact ⟨w, by rw [List.getElem?_set_ne (Ne.symm hj)]; exact h1, h2⟩

/-- an exception of ours: its class by name, its one field -/
def XDen (G : Ev) (r F : List Addr) (H : Hp) (c : Str) (a : Option (Str × D)) (cls : Value) (d : Option Addr) : Prop :=
  ∃ C, G.mg c = some (.ref C) ∧ cls = .ref C ∧ match a with
    | none => d = none
    | some (f, x) => ∃ dx v, d = some dx ∧ H dx = some (.xd [(f, v)]) ∧ Den G r F H x v

/-- what holds behind a mirror's answer -/
def Aft (G : Ev) (W : WX) (F : List Addr) (σ : L2.St) {α : Type} (r : List Addr) (H : Hp) (R : Res α) (Q : List Addr → Hp → α → MH → Prop) : Prop := match R with
  | .ok a h' => ∀ r' H', Ext r H r' H' → GoodH G r' F h' H' → Q r' H' a h'
  | .exc c a h' => ∀ r' H' cls x, Ext r H r' H' → GoodH G r' F h' H' → XDen G r' F H' c a cls x → W cls x σ H'
  | .bad => False
section
variable {W : WX} {σ : L2.St} {α β : Type}
theorem Aft.later {R : Res α} {Q : List Addr → Hp → α → MH → Prop} (a : Aft G W F σ r H R Q) (e : Ext r H r1 H1) (g : GoodH G r1 F h1 H1) : Aft G W F σ r1 H1 R Q := by
  cases R with
  | ok x h' => exact fun r' H' e' g' => a r' H' (e.trans g.mine e') g'
  | exc c x h' => exact fun r' H' cls y e' g' q => a r' H' cls y (e.trans g.mine e') g' q
  | bad => exact a
theorem Aft.imp {R : Res α} {Q Q' : List Addr → Hp → α → MH → Prop} (a : Aft G W F σ r H R Q) (f : ∀ r' H' x h', Ext r H r' H' → GoodH G r' F h' H' → Q r' H' x h' → Q' r' H' x h') : Aft G W F σ r H R Q' := by
  cases R with
  | ok x h' => exact fun r' H' e' g' => f r' H' x h' e' g' (a r' H' e' g')
  | exc c x h' => exact a
  | bad => exact a
theorem Aft.bind {R : Res α} {k : α → MH → Res β} {Q : List Addr → Hp → β → MH → Prop} (a : Aft G W F σ r H (bindR R k) Q) : Aft G W F σ r H R (fun r1 H1 x h1 => Aft G W F σ r1 H1 (k x h1) Q) := by
  cases R with
  | ok x h' =>
    intro r' H' e g
    exact Aft.later (h1 := h') a e g
  | exc c x h' => exact a
  | bad => exact a
theorem Aft.here {x : α} {Q : List Addr → Hp → α → MH → Prop} (a : Aft G W F σ r H (.ok x h) Q) (g : GoodH G r F h H) : Q r H x h := a r H .refl g
theorem Aft.hereS {x : α} {Q : List Addr → Hp → α → MH → Prop} (a : Aft G W F σ r H (.ok x h) Q) (g : GoodH G r F h H) (s : Same H H') : Q r H' x h := a r H' (.same s) (g.same s)
end

def tE (G : Ev) (W : WX) (f : Mo D) : TE := fun σ H Q => ∃ r F sl h, SlR G r F H sl σ ∧ GoodH G r F h H ∧ Aft G W F σ r H (f sl h) fun r' H' d _ => ∀ v, Den G r' F H' d v → Q v H'
def tT (G : Ev) (W : WX) (f : Mo Bool) : TT := fun σ H Q => ∃ r F sl h, SlR G r F H sl σ ∧ GoodH G r F h H ∧ Aft G W F σ r H (f sl h) fun r' H' b _ => Q b H'
def tA (G : Ev) (W : WX) (f : Mo (List D)) : TA := fun σ H Q => ∃ r F sl h, SlR G r F H sl σ ∧ GoodH G r F h H ∧ Aft G W F σ r H (f sl h) fun r' H' ds _ => ∀ vs, DenL G r' F H' ds vs → Q vs H'
end

/-! ### a weaker reading -/
section
variable {X : Cx} {e : Expr} {es : List Expr} {st : Stmt} {sts : List Stmt}
theorem _root_.L2.PE.imp {t t' : TE} (p : PE X e t) (f : ∀ σ H Q, t' σ H Q → t σ H Q) : PE X e t' := ⟨fun pins s σ H Q I q => p.run pins s σ H Q I (f _ _ _ q)⟩
theorem _root_.L2.PT.imp {t t' : TT} (p : PT X e t) (f : ∀ σ H Q, t' σ H Q → t σ H Q) : PT X e t' := ⟨fun pins s σ H Q I q => p.run pins s σ H Q I (f _ _ _ q)⟩
theorem _root_.L2.PW.imp {t t' : TT} (p : PW X e t) (f : ∀ σ H Q, t' σ H Q → t σ H Q) : PW X e t' := ⟨fun w pins s σ H Q I q => p.run w pins s σ H Q I (f _ _ _ q)⟩
theorem _root_.L2.PA.imp {t t' : TA} (p : PA X es t) (f : ∀ σ H Q, t' σ H Q → t σ H Q) : PA X es t' := ⟨fun pos pins s σ H Q I q => p.run pos pins s σ H Q I (f _ _ _ q)⟩
theorem _root_.L2.PS.imp {t t' : TS} (p : PS X st t) (f : ∀ D σ H, t' D σ H → t D σ H) : PS X st t' := ⟨fun pins s σ H D I q => p.run pins s σ H D I (f _ _ _ q)⟩
theorem _root_.L2.PSs.imp {t t' : TS} (p : PSs X sts t) (f : ∀ D σ H, t' D σ H → t D σ H) : PSs X sts t' := ⟨fun pins s σ H D I q => p.run pins s σ H D I (f _ _ _ q)⟩
end

abbrev evOf (X : Cx) : Ev := ⟨X.K, X.mg⟩

/-! ### expressions -/
def mVar (i : Nat) : Mo D := fun sl h => optR (sl[i]?.join) h
def mC (d : D) : Mo D := fun _ h => .ok d h
def mNil : Mo (List D) := fun _ h => .ok [] h
def mCons (a : Mo D) (b : Mo (List D)) : Mo (List D) := mBind a fun x => mBind b fun xs => fun _ h => .ok (x :: xs) h
/-- a two-place operation -/
def mOp (g : D → D → MH → Res D) (a b : Mo D) : Mo D := mBind a fun x => mBind b fun y => fun _ h => g x y h
def mUn (g : D → MH → Res D) (a : Mo D) : Mo D := mBind a fun x => fun _ h => g x h
def truthD : D → Option Bool
  | .bl b => some b
  | _ => none
def mTest (a : Mo D) : Mo Bool := mBind a fun x => fun _ h => optR (truthD x) h
def mAndT (a b : Mo Bool) : Mo Bool := mBind a fun x => if x then b else fun _ h => .ok false h
def mOrT (a b : Mo Bool) : Mo Bool := mBind a fun x => if x then fun _ h => .ok true h else b
def mNotT (a : Mo Bool) : Mo Bool := mBind a fun x => fun _ h => .ok (!x) h
def mAnd (a b : Mo D) : Mo D := mBind a fun x => match x with
  | .bl true => b
  | .bl false => fun _ h => .ok (.bl false) h
  | _ => fun _ _ => .bad
def mOr (a b : Mo D) : Mo D := mBind a fun x => match x with
  | .bl true => fun _ h => .ok (.bl true) h
  | .bl false => b
  | _ => fun _ _ => .bad
def mNot (a : Mo D) : Mo D := mBind a fun x => match x with
  | .bl b => fun _ h => .ok (.bl (!b)) h
  | _ => fun _ _ => .bad
def mIf (c : Mo Bool) (a b : Mo D) : Mo D := mBind c fun x => if x then a else b
def lim : Nat := 100000
theorem lim_ok {n : Nat} (h : n ≤ lim) : n ≤ sizeLine := Nat.le_trans h (by decide)
theorem lim_lt {n : Nat} (h : n < lim) : n < sizeLine := Nat.lt_of_lt_of_le h (by decide)
def tupR (ds : List D) (h : MH) : Res D := if ds.length ≤ lim then .ok (.tup ds) h else .bad
def lstR (ds : List D) (h : MH) : Res D := if ds.length ≤ lim then .ok (.lst ds) h else .bad
def mTup (a : Mo (List D)) : Mo D := mBind a fun ds => fun _ h => tupR ds h
def mLst (a : Mo (List D)) : Mo D := mBind a fun ds => fun _ h => lstR ds h
/-- a new list that will change -/
def newLst (ds : List D) (h : MH) : Res D := if ds.length ≤ lim then .ok (.ref h.length) (h ++ [.lst ds]) else .bad
def mNewL (a : Mo (List D)) : Mo D := mBind a fun ds => fun _ h => newLst ds h

section
variable {G : Ev} {r r' r1 F : List Addr} {H H' H1 : Hp} {h h' h1 : MH} {W : WX} {σ : L2.St}
theorem tE.of {f : Mo D} {sl : Sl} {Q : VK} (s : SlR G r F H sl σ) (g : GoodH G r F h H) (a : Aft G W F σ r H (f sl h) fun r' H' d _ => ∀ v, Den G r' F H' d v → Q v H') : tE G W f σ H Q := ⟨r, F, sl, h, s, g, a⟩
theorem tT.of {f : Mo Bool} {sl : Sl} {Q : Bool → Hp → Prop} (s : SlR G r F H sl σ) (g : GoodH G r F h H) (a : Aft G W F σ r H (f sl h) fun r' H' b _ => Q b H') : tT G W f σ H Q := ⟨r, F, sl, h, s, g, a⟩
theorem tA.of {f : Mo (List D)} {sl : Sl} {Q : List V → Hp → Prop} (s : SlR G r F H sl σ) (g : GoodH G r F h H) (a : Aft G W F σ r H (f sl h) fun r' H' ds _ => ∀ vs, DenL G r' F H' ds vs → Q vs H') : tA G W f σ H Q := ⟨r, F, sl, h, s, g, a⟩
theorem DenL.len : ∀ {ds : List D} {vs : List V}, DenL G r F H ds vs → ds.length = vs.length
  | _, _, .nil => rfl
  | _, _, .cons _ t => by simp [DenL.len t]
theorem DenL.get : ∀ {ds : List D} {vs : List V} {i : Nat} {d : D}, DenL G r F H ds vs → ds[i]? = some d → ∃ v, vs[i]? = some v ∧ Den G r F H d v
  | _, _, 0, d, .cons h _, e => by simp at e; subst e; exact ⟨_, rfl, h⟩
  | _, _, i + 1, d, .cons _ t, e => by
    obtain ⟨v, h1, h2⟩ := DenL.get (i := i) (d := d) t (by simpa using e)
    exact ⟨v, by simpa using h1, h2⟩
  | _, _, _, _, .nil, e => by simp at e
theorem DenL.app : ∀ {ds es : List D} {vs us : List V}, DenL G r F H ds vs → DenL G r F H es us → DenL G r F H (ds ++ es) (vs ++ us)
  | _, _, _, _, .nil, q => q
  | _, _, _, _, .cons a t, q => .cons a (DenL.app t q)
theorem same_new {p : Addr} {o : HO} (hp : H p = none) : Same H (upd H p o) := fun b o' e => by rw [upd_ne (ne_of_none e hp)]; exact e
theorem GoodH.fresh (g : GoodH G r F h H) {p : Addr} (hp : H p = none) : p ∉ r ∧ p ∉ F := by
  refine ⟨fun hm => ?_, fun hm => ?_⟩
  · obtain ⟨o, e, _⟩ := g.mine p hm
    rw [hp] at e; cases e
  · obtain ⟨⟨o, e, _⟩, _⟩ := g.fd p hm
    rw [hp] at e; cases e
/-- a new tuple -/
theorem new_tup {ds : List D} {vs : List V} {p : Addr} (g : GoodH G r F h H) (q : DenL G r F H ds vs) (hp : H p = none) : Den G r F (upd H p (.tup vs)) (.tup ds) (.ref p) :=
  .tup (.inl upd_same) (DenL.mono g.mine (.same (same_new hp)) _ _ q)
theorem new_lst {ds : List D} {vs : List V} {p : Addr} (g : GoodH G r F h H) (q : DenL G r F H ds vs) (hp : H p = none) : Den G r F (upd H p (.lst vs)) (.lst ds) (.ref p) :=
  .lst upd_same (g.fresh hp) (DenL.mono g.mine (.same (same_new hp)) _ _ q)
/-- a new object of ours -/
theorem grow_ext {p : Addr} (hp : H p = none) (s : Same H H') : Ext r H (r ++ [p]) H' := ⟨⟨[p], rfl, fun a ha => by simp at ha; rw [ha]; exact hp⟩, fun a o e _ => s a o e⟩
theorem GoodH.grow (g : GoodH G r F h H) {p : Addr} {o : O} (hp : H p = none) (s : Same H H') (q : ODen G (r ++ [p]) F H' p o) : GoodH G (r ++ [p]) F (h ++ [o]) H' := by
  have e : Ext r H (r ++ [p]) H' := grow_ext hp s
  refine ⟨by simp [g.len], ?_, fun a ha => ?_, fun i o' hi => ?_⟩
  · rw [List.nodup_append]
    refine ⟨g.nd, by simp, fun a ha b hb => ?_⟩
    simp at hb
    subst hb
    intro e
    subst e
    exact (g.fresh hp).1 ha
  · obtain ⟨⟨o, q2, mu⟩, n⟩ := g.fd a ha
    refine ⟨⟨o, s _ _ q2, mu⟩, ?_⟩
    intro hm
    rcases List.mem_append.mp hm with hm | hm
    · exact n hm
    · simp at hm
      subst hm
      rw [hp] at q2; cases q2
  · by_cases hl : i < h.length
    · rw [List.getElem?_append_left hl] at hi
      obtain ⟨a, ea, qa⟩ := g.ob i o' hi
      refine ⟨a, e.get ea, ODen.mono g.mine e qa ?_⟩
      obtain ⟨o2, e2, _⟩ := g.mine a (List.mem_of_getElem? ea)
      rw [e2]; exact s _ _ e2
    · have hl2 : i = h.length := by
        have := (List.getElem?_eq_some_iff.mp hi).1
        simp at this
        omega
      subst hl2
      rw [List.getElem?_append_right (Nat.le_refl _)] at hi
      simp at hi
      subst hi
      refine ⟨p, ?_, q⟩
      rw [← g.len, List.getElem?_append_right (Nat.le_refl _)]
      simp
end

section
variable {X : Cx} {W : WX} {pos : Pos} {a b c : Expr} {es : List Expr} {fa fb : Mo D} {fl : Mo (List D)} {ta tb : Mo Bool}
theorem de_var {i : Nat} {x : Str} (p : PE X (.Name x pos) (tVar i)) : PE X (.Name x pos) (tE (evOf X) W (mVar i)) := p.imp fun σ H Q ⟨r, F, sl, h, s, g, q⟩ => by
  unfold mVar at q
  cases e : sl[i]? with
  | none => rw [e] at q; exact False.elim q
  | some o =>
    rw [e] at q
    cases o with
    | none => exact False.elim q
    | some d =>
      obtain ⟨v, h1, h2⟩ := s.2 i d e
      exact ⟨v, h1, q.here g v h2⟩
theorem de_c {v : V} {d : D} (p : PE X a (tC v)) (hd : ∀ r F H, Den (evOf X) r F H d v) : PE X a (tE (evOf X) W (mC d)) := p.imp fun σ H Q ⟨r, F, sl, h, s, g, q⟩ => q.here g v (hd _ _ _)
theorem de_int {i : Int} {j : Nat} : PE X (.Constant (.int i) j pos) (tE (evOf X) W (mC (.int i))) := de_c pe_int fun _ _ _ => .int i
theorem de_bl {i : Bool} {j : Nat} : PE X (.Constant (.bool i) j pos) (tE (evOf X) W (mC (.bl i))) := de_c pe_bl fun _ _ _ => .bl i
theorem de_non {j : Nat} : PE X (.Constant .none j pos) (tE (evOf X) W (mC .non)) := de_c pe_non fun _ _ _ => .non
theorem de_str {i : Str} {j : Nat} : PE X (.Constant (.str i) j pos) (tE (evOf X) W (mC (.str i))) := de_c pe_str fun _ _ _ => .str i
theorem da_nil : PA X [] (tA (evOf X) W mNil) := pa_nil.imp fun σ H Q ⟨r, F, sl, h, s, g, q⟩ => q.here g [] .nil
theorem da_cons (ha : PE X a (tE (evOf X) W fa)) (hr : PA X es (tA (evOf X) W fl)) (hs : starEach (a :: es) X.env = (false, eval a X.env) :: starEach es X.env := by rfl) : PA X (a :: es) (tA (evOf X) W (mCons fa fl)) :=
  (pa_cons ha hr hs).imp fun σ H Q ⟨r, F, sl, h, s, g, q⟩ => by
    refine tE.of s g (q.bind.imp fun r1 H1 x h1 e1 g1 q1 v hv => ?_)
    refine tA.of (s.mono g.mine e1) g1 (q1.bind.imp fun r2 H2 xs h2 e2 g2 q2 vs hvs => ?_)
    exact q2.here g2 _ (.cons (Den.mono g1.mine e2 _ _ hv) hvs)
/-- an operation's mirror -/
def OpS (G : Ev) (rr : R2) (g : D → D → MH → Res D) : Prop := ∀ (W : WX) (σ : L2.St) (r F : List Addr) (H : Hp) (h : MH) (x y : D) (v u : V) (Q : VK), GoodH G r F h H → Den G r F H x v → Den G r F H y u →
  Aft G W F σ r H (g x y h) (fun r' H' d _ => ∀ z, Den G r' F H' d z → Q z H') → rr v u H Q
theorem de_op {op : Operator} {rr : R2} {g : D → D → MH → Res D} (ho : OpR X (binaryOp op) rr) (hs : OpS (evOf X) rr g) (ha : PE X a (tE (evOf X) W fa)) (hb : PE X b (tE (evOf X) W fb)) : PE X (.BinOp a op b pos) (tE (evOf X) W (mOp g fa fb)) :=
  (pe_op ho ha hb).imp fun σ H Q ⟨r, F, sl, h, s, g, q⟩ => by
    refine tE.of s g (q.bind.imp fun r1 H1 x h1 e1 g1 q1 v hv => ?_)
    refine tE.of (s.mono g.mine e1) g1 (q1.bind.imp fun r2 H2 y h2 e2 g2 q2 u hu => ?_)
    exact hs W σ r2 F H2 h2 x y v u Q g2 (Den.mono g1.mine e2 _ _ hv) hu q2
theorem de_cmp {op : CmpOp} {rr : R2} {g : D → D → MH → Res D} (ho : OpR X (compareOp op) rr) (hs : OpS (evOf X) rr g) (ha : PE X a (tE (evOf X) W fa)) (hb : PE X b (tE (evOf X) W fb)) (hm : behindInMarks op b = false) : PE X (.Compare a [op] [b] pos) (tE (evOf X) W (mOp g fa fb)) :=
  (pe_cmpR ho ha hb hm).imp fun σ H Q ⟨r, F, sl, h, s, g, q⟩ => by
    refine tE.of s g (q.bind.imp fun r1 H1 x h1 e1 g1 q1 v hv => ?_)
    refine tE.of (s.mono g.mine e1) g1 (q1.bind.imp fun r2 H2 y h2 e2 g2 q2 u hu => ?_)
    exact hs W σ r2 F H2 h2 x y v u Q g2 (Den.mono g1.mine e2 _ _ hv) hu q2
theorem test_of {G : Ev} {r F : List Addr} {H : Hp} {h : MH} {σ : L2.St} {x : D} {v : V} {Q : Bool → Hp → Prop} (g : GoodH G r F h H) (hv : Den G r F H x v) (q : Aft G W F σ r H (optR (truthD x) h) fun r' H' b _ => Q b H') : ∃ k, v = .bl k ∧ Q k H := by
  cases x with
  | bl b => cases hv; exact ⟨b, rfl, q.here g⟩
  | non => exact False.elim q
  | int _ => exact False.elim q
  | str _ => exact False.elim q
  | tup _ => exact False.elim q
  | lst _ => exact False.elim q
  | dic _ _ => exact False.elim q
  | ref _ => exact False.elim q
  | gl _ => exact False.elim q
  | ty _ => exact False.elim q
  | scr _ => exact False.elim q
theorem dt_cmp {op : CmpOp} {rr : R2} {g : D → D → MH → Res D} (ho : OpR X (compareOp op) rr) (hs : OpS (evOf X) rr g) (ha : PE X a (tE (evOf X) W fa)) (hb : PE X b (tE (evOf X) W fb)) (hm : behindInMarks op b = false) : PT X (.Compare a [op] [b] pos) (tT (evOf X) W (mTest (mOp g fa fb))) :=
  (pt_cmpR ho ha hb hm).imp fun σ H Q ⟨r, F, sl, h, s, g, q⟩ => by
    have q := q.bind
    have q := q.bind
    refine tE.of s g (q.imp fun r1 H1 x h1 e1 g1 q1 v hv => ?_)
    refine tE.of (s.mono g.mine e1) g1 (q1.bind.imp fun r2 H2 y h2 e2 g2 q2 u hu => ?_)
    refine hs W σ r2 F H2 h2 x y v u _ g2 (Den.mono g1.mine e2 _ _ hv) hu (q2.imp fun r3 H3 z h3 e3 g3 q3 w hw => ?_)
    exact test_of g3 hw q3
theorem dt_val (he : PE X a (tE (evOf X) W fa)) (hh : ∀ whole, isTrue a X.env whole = (do let v ← whole; standAt a.pos; holding [v] (truthy v)) := by intro _; rfl) : PT X a (tT (evOf X) W (mTest fa)) :=
  (pt_val he hh).imp fun σ H Q ⟨r, F, sl, h, s, g, q⟩ => by
    refine tE.of s g (q.bind.imp fun r1 H1 x h1 e1 g1 q1 v hv => ?_)
    exact test_of g1 hv q1
theorem dw_and1 (ha : PT X a (tT (evOf X) W ta)) : PW X (.BoolOp .And [a] pos) (tT (evOf X) W ta) := pw_and1 ha
theorem dw_or1 (ha : PT X a (tT (evOf X) W ta)) : PW X (.BoolOp .Or [a] pos) (tT (evOf X) W ta) := pw_or1 ha
theorem dw_and (ha : PT X a (tT (evOf X) W ta)) (hb : PW X (.BoolOp .And (b :: es) pos) (tT (evOf X) W tb)) : PW X (.BoolOp .And (a :: b :: es) pos) (tT (evOf X) W (mAndT ta tb)) :=
  (pw_and ha hb).imp fun σ H Q ⟨r, F, sl, h, s, g, q⟩ => by
    refine tT.of s g (q.bind.imp fun r1 H1 x h1 e1 g1 q1 => ?_)
    cases x with
    | true => exact tT.of (s.mono g.mine e1) g1 q1
    | false => exact q1.here g1
theorem dw_or (ha : PT X a (tT (evOf X) W ta)) (hb : PW X (.BoolOp .Or (b :: es) pos) (tT (evOf X) W tb)) : PW X (.BoolOp .Or (a :: b :: es) pos) (tT (evOf X) W (mOrT ta tb)) :=
  (pw_or ha hb).imp fun σ H Q ⟨r, F, sl, h, s, g, q⟩ => by
    refine tT.of s g (q.bind.imp fun r1 H1 x h1 e1 g1 q1 => ?_)
    cases x with
    | true => exact q1.here g1
    | false => exact tT.of (s.mono g.mine e1) g1 q1
theorem dt_not (ha : PT X a (tT (evOf X) W ta)) : PT X (.UnaryOp .Not a pos) (tT (evOf X) W (mNotT ta)) :=
  (pt_not ha).imp fun σ H Q ⟨r, F, sl, h, s, g, q⟩ => by
    refine tT.of s g (q.bind.imp fun r1 H1 x h1 e1 g1 q1 => ?_)
    exact q1.here g1
theorem de_one {op : BoolOp} (ha : PE X a (tE (evOf X) W fa)) : PE X (.BoolOp op [a] pos) (tE (evOf X) W fa) := pe_one ha
theorem de_and (ha : PE X a (tE (evOf X) W fa)) (hb : PE X (.BoolOp .And (b :: es) pos) (tE (evOf X) W fb)) : PE X (.BoolOp .And (a :: b :: es) pos) (tE (evOf X) W (mAnd fa fb)) :=
  (pe_and ha hb).imp fun σ H Q ⟨r, F, sl, h, s, g, q⟩ => by
    refine tE.of s g (q.bind.imp fun r1 H1 x h1 e1 g1 q1 v hv => ?_)
    cases hv with
    | bl k => cases k with
      | true => exact ⟨true, rfl, tE.of (s.mono g.mine e1) g1 q1⟩
      | false => exact ⟨false, rfl, q1.here g1 _ (.bl false)⟩
    | _ => exact False.elim q1
theorem de_or (ha : PE X a (tE (evOf X) W fa)) (hb : PE X (.BoolOp .Or (b :: es) pos) (tE (evOf X) W fb)) : PE X (.BoolOp .Or (a :: b :: es) pos) (tE (evOf X) W (mOr fa fb)) :=
  (pe_or ha hb).imp fun σ H Q ⟨r, F, sl, h, s, g, q⟩ => by
    refine tE.of s g (q.bind.imp fun r1 H1 x h1 e1 g1 q1 v hv => ?_)
    cases hv with
    | bl k => cases k with
      | true => exact ⟨true, rfl, q1.here g1 _ (.bl true)⟩
      | false => exact ⟨false, rfl, tE.of (s.mono g.mine e1) g1 q1⟩
    | _ => exact False.elim q1
theorem de_not (ha : PE X a (tE (evOf X) W fa)) : PE X (.UnaryOp .Not a pos) (tE (evOf X) W (mNot fa)) :=
  (pe_not ha).imp fun σ H Q ⟨r, F, sl, h, s, g, q⟩ => by
    refine tE.of s g (q.bind.imp fun r1 H1 x h1 e1 g1 q1 v hv => ?_)
    cases hv with
    | bl k => exact ⟨k, rfl, q1.here g1 _ (.bl _)⟩
    | _ => exact False.elim q1
theorem de_if (hc : PT X c (tT (evOf X) W ta)) (ha : PE X a (tE (evOf X) W fa)) (hb : PE X b (tE (evOf X) W fb)) : PE X (.IfExp c a b pos) (tE (evOf X) W (mIf ta fa fb)) :=
  (pe_ifExp hc ha hb).imp fun σ H Q ⟨r, F, sl, h, s, g, q⟩ => by
    refine tT.of s g (q.bind.imp fun r1 H1 x h1 e1 g1 q1 => ?_)
    cases x with
    | true => exact tE.of (s.mono g.mine e1) g1 q1
    | false => exact tE.of (s.mono g.mine e1) g1 q1
theorem tupR_ok {ds : List D} {h : MH} (z : ds.length ≤ lim) : tupR ds h = .ok (.tup ds) h := by unfold tupR; rw [if_pos z]
theorem de_tup {k : Nat} (hl : PA X es (tA (evOf X) W fl)) : PE X (.Tuple es k pos) (tE (evOf X) W (mTup fl)) :=
  (pe_tup hl).imp fun σ H Q ⟨r, F, sl, h, s, g, q⟩ => by
    refine tA.of s g (q.bind.imp fun r1 H1 ds h1 e1 g1 q1 vs hvs => ?_)
    have q1 : Aft (evOf X) W F σ r1 H1 (tupR ds h1) _ := q1
    by_cases z : ds.length ≤ lim
    · rw [tupR_ok z] at q1
      refine ⟨by rw [← hvs.len]; exact lim_ok z, fun p hp => ?_⟩
      exact q1.hereS g1 (same_new hp) _ (new_tup g1 hvs hp)
    · unfold tupR at q1; rw [if_neg z] at q1; exact False.elim q1
theorem de_lst (hl : PA X es (tA (evOf X) W fl)) : PE X (.List es pos) (tE (evOf X) W (mLst fl)) :=
  (pe_lst hl).imp fun σ H Q ⟨r, F, sl, h, s, g, q⟩ => by
    refine tA.of s g (q.bind.imp fun r1 H1 ds h1 e1 g1 q1 vs hvs => ?_)
    have q1 : Aft (evOf X) W F σ r1 H1 (lstR ds h1) _ := q1
    unfold lstR at q1
    by_cases z : ds.length ≤ lim
    · rw [if_pos z] at q1
      refine ⟨by rw [← hvs.len]; exact lim_ok z, fun p hp => ?_⟩
      exact q1.hereS g1 (same_new hp) _ (new_lst g1 hvs hp)
    · rw [if_neg z] at q1; exact False.elim q1
theorem de_newL (hl : PA X es (tA (evOf X) W fl)) : PE X (.List es pos) (tE (evOf X) W (mNewL fl)) :=
  (pe_lst hl).imp fun σ H Q ⟨r, F, sl, h, s, g, q⟩ => by
    refine tA.of s g (q.bind.imp fun r1 H1 ds h1 e1 g1 q1 vs hvs => ?_)
    have q1 : Aft (evOf X) W F σ r1 H1 (newLst ds h1) _ := q1
    unfold newLst at q1
    by_cases z : ds.length ≤ lim
    · rw [if_pos z] at q1
      refine ⟨by rw [← hvs.len]; exact lim_ok z, fun p hp => ?_⟩
      have e2 : Ext r1 H1 (r1 ++ [p]) (upd H1 p (.lst vs)) := grow_ext hp (same_new hp)
      refine q1 (r1 ++ [p]) _ e2 (g1.grow hp (same_new hp) ⟨vs, upd_same, DenL.mono g1.mine e2 _ _ hvs⟩) _ (.ref ?_)
      rw [← g1.len, List.getElem?_append_right (Nat.le_refl _)]
      simp
    · rw [if_neg z] at q1; exact False.elim q1
end
end CH

/-! CH2: statements, targets, loops, comprehensions, calls. -/
namespace CH
open PySem PySem.Spec PyProof.Rows L2

inductive SRes where
  | nx (sl : Sl) (h : MH) | rt (d : D) (h : MH) | bk (sl : Sl) (h : MH) | ct (sl : Sl) (h : MH)
  | exc (c : Str) (a : Option (Str × D)) (sl : Sl) (h : MH) | bad
abbrev Ms := Sl → MH → SRes
/-- an expression's answer, then a statement's end -/
def bindS {α : Type} (sl : Sl) (m : Res α) (k : α → MH → SRes) : SRes := match m with
  | .ok a h => k a h
  | .exc c a h => .exc c a sl h
  | .bad => .bad
def sSkip : Ms := fun sl h => .nx sl h
def seqR (m : SRes) (k : Ms) : SRes := match m with
  | .nx sl h => k sl h
  | x => x
def sSeq (a b : Ms) : Ms := fun sl h => seqR (a sl h) b
def sExpr (f : Mo D) : Ms := fun sl h => bindS sl (f sl h) fun _ h1 => .nx sl h1
def sRet (f : Mo D) : Ms := fun sl h => bindS sl (f sl h) fun d h1 => .rt d h1
def sRetN : Ms := fun _ h => .rt .non h
def sIf (c : Mo Bool) (a b : Ms) : Ms := fun sl h => bindS sl (c sl h) fun x h1 => if x then a sl h1 else b sl h1
def sNever : Ms := fun _ _ => .bad
def sSet (i : Nat) (f : Mo D) : Ms := fun sl h => bindS sl (f sl h) fun d h1 => .nx (sl.set i (some d)) h1
def sPar (i j : Nat) (f : Mo (List D)) : Ms := fun sl h => bindS sl (f sl h) fun ds h1 => match ds with
  | [d, e] => .nx ((sl.set i (some d)).set j (some e)) h1
  | _ => .bad

section
variable (G : Ev) (W : WX) (F : List Addr)
def SAft (r : List Addr) (H : Hp) (R : SRes) (E : Ends) : Prop := match R with
  | .nx sl h' => ∀ r' H' σ', Ext r H r' H' → GoodH G r' F h' H' → SlR G r' F H' sl σ' → E.nx σ' H'
  | .ct sl h' => ∀ r' H' σ', Ext r H r' H' → GoodH G r' F h' H' → SlR G r' F H' sl σ' → E.ct σ' H'
  | .bk sl h' => ∀ r' H' σ', Ext r H r' H' → GoodH G r' F h' H' → SlR G r' F H' sl σ' → E.bk σ' H'
  | .rt d h' => ∀ r' H' v, Ext r H r' H' → GoodH G r' F h' H' → Den G r' F H' d v → E.rt v H'
  | .exc c a sl h' => ∀ r' H' σ' cls x, Ext r H r' H' → GoodH G r' F h' H' → SlR G r' F H' sl σ' → XDen G r' F H' c a cls x → W cls x σ' H'
  | .bad => False
end
def tS (G : Ev) (W : WX) (f : Ms) : TS := fun E σ H => ∃ r F sl h, SlR G r F H sl σ ∧ GoodH G r F h H ∧ SAft G W F r H (f sl h) E

section
variable {G : Ev} {r r' r1 F : List Addr} {H H' H1 : Hp} {h h' h1 : MH} {W : WX} {σ : L2.St} {α : Type} {sl : Sl} {E E' : Ends}
theorem SAft.later {R : SRes} (a : SAft G W F r H R E) (e : Ext r H r1 H1) (g : GoodH G r1 F h1 H1) : SAft G W F r1 H1 R E := by
  cases R with
  | nx s h' => exact fun r' H' σ' e' g' => a r' H' σ' (e.trans g.mine e') g'
  | ct s h' => exact fun r' H' σ' e' g' => a r' H' σ' (e.trans g.mine e') g'
  | bk s h' => exact fun r' H' σ' e' g' => a r' H' σ' (e.trans g.mine e') g'
  | rt d h' => exact fun r' H' v e' g' => a r' H' v (e.trans g.mine e') g'
  | exc c x s h' => exact fun r' H' σ' cls y e' g' => a r' H' σ' cls y (e.trans g.mine e') g'
  | bad => exact a
theorem SAft.bindS {R : Res α} {k : α → MH → SRes} (s : SlR G r F H sl σ) (g : GoodH G r F h H) (a : SAft G W F r H (bindS sl R k) E) : Aft G W F σ r H R (fun r1 H1 x h1 => SAft G W F r1 H1 (k x h1) E) := by
  cases R with
  | ok x h' =>
    intro r' H' e g'
    exact SAft.later (h1 := h') a e g'
  | exc c x h' =>
    intro r' H' cls y e g' q
    exact a r' H' σ cls y e g' (s.mono g.mine e) q
  | bad => exact a
theorem tS.of {f : Ms} (s : SlR G r F H sl σ) (g : GoodH G r F h H) (a : SAft G W F r H (f sl h) E) : tS G W f E σ H := ⟨r, F, sl, h, s, g, a⟩
theorem SAft.nxh (a : SAft G W F r H (.nx sl h) E) (s : SlR G r F H sl σ) (g : GoodH G r F h H) : E.nx σ H := a r H σ .refl g s
theorem SAft.seq {R : SRes} {k : Ms} (a : SAft G W F r H (seqR R k) E) : SAft G W F r H R { E with nx := tS G W k E } := by
  cases R with
  | nx s h' =>
    intro r' H' σ' e g' s'
    exact tS.of s' g' (SAft.later (h1 := h') a e g')
  | ct s h' => exact a
  | bk s h' => exact a
  | rt d h' => exact a
  | exc c x s h' => exact a
  | bad => exact a
end

section
variable {X : Cx} {W : WX} {pos : Pos} {e c : Expr} {es : List Expr} {st : Stmt} {rest a b : List Stmt} {f : Mo D} {fl : Mo (List D)} {fc : Mo Bool} {s t : Ms}
theorem dss_nil : PSs X [] (tS (evOf X) W sSkip) := pss_nil.imp fun E σ H ⟨r, F, sl, h, s, g, q⟩ => q.nxh s g
theorem dss_cons (h1 : PS X st (tS (evOf X) W s)) (h2 : PSs X rest (tS (evOf X) W t)) : PSs X (st :: rest) (tS (evOf X) W (sSeq s t)) :=
  (pss_cons h1 h2).imp fun E σ H ⟨r, F, sl, h, s, g, q⟩ => tS.of s g q.seq
theorem dss_one (h1 : PS X st (tS (evOf X) W s)) : PSs X [st] (tS (evOf X) W s) := pss_one h1
theorem ds_pass : PS X (.Pass pos) (tS (evOf X) W sSkip) := ps_pass.imp fun E σ H ⟨r, F, sl, h, s, g, q⟩ => q.nxh s g
theorem ds_doc {x : Str} {j : Nat} {pos' : Pos} : PS X (.Expr (.Constant (.str x) j pos) pos') (tS (evOf X) W sSkip) := ps_doc.imp fun E σ H ⟨r, F, sl, h, s, g, q⟩ => q.nxh s g
theorem ds_expr (he : PE X e (tE (evOf X) W f)) (hs : swapsWith e none pos.line X.env = pure false := by rfl) : PS X (.Expr e pos) (tS (evOf X) W (sExpr f)) :=
  (ps_expr he hs).imp fun E σ H ⟨r, F, sl, h, s, g, q⟩ => tE.of s g ((q.bindS s g).imp fun r1 H1 x h1 e1 g1 q1 v hv => q1.nxh (s.mono g.mine e1) g1)
theorem ds_ret (he : PE X e (tE (evOf X) W f)) : PS X (.Return (some e) pos) (tS (evOf X) W (sRet f)) :=
  (ps_ret he).imp fun E σ H ⟨r, F, sl, h, s, g, q⟩ => tE.of s g ((q.bindS s g).imp fun r1 H1 x h1 e1 g1 q1 v hv => q1 r1 H1 v .refl g1 hv)
theorem ds_retN : PS X (.Return none pos) (tS (evOf X) W sRetN) := ps_retN.imp fun E σ H ⟨r, F, sl, h, s, g, q⟩ => q r H .non .refl g .non
theorem ds_never : PS X st (tS (evOf X) W sNever) := ps_never.imp fun E σ H ⟨r, F, sl, h, s, g, q⟩ => q
theorem ds_if (hc : PT X c (tT (evOf X) W fc)) (ha : PSs X a (tS (evOf X) W s)) (hb : PSs X b (tS (evOf X) W t)) : PS X (.If c a b pos) (tS (evOf X) W (sIf fc s t)) :=
  (ps_if hc ha hb).imp fun E σ H ⟨r, F, sl, h, s, g, q⟩ => tT.of s g ((q.bindS s g).imp fun r1 H1 x h1 e1 g1 q1 => by
    cases x with
    | true => exact tS.of (s.mono g.mine e1) g1 q1
    | false => exact tS.of (s.mono g.mine e1) g1 q1)
theorem ds_set {i : Nat} {x : Str} {pos' : Pos} (hN : X.N.Nodup) (hi : X.N[i]? = some x) (hx : Loc X.env.scope x) (he : PE X e (tE (evOf X) W f)) (hs : swapsWith e (some (.Name x pos')) pos.line X.env = pure false := by rfl)
    (hf : X.fn x = true ∨ X.env.scope.names.lookup x = some .local := by first | exact .inl rfl | exact .inr rfl | assumption) : PS X (.Assign [.Name x pos'] e pos) (tS (evOf X) W (sSet i f)) :=
  (ps_set hN hi hx he hs hf).imp fun E σ H ⟨r, F, sl, h, s, g, q⟩ => tE.of s g ((q.bindS s g).imp fun r1 H1 x h1 e1 g1 q1 v hv => q1.nxh ((s.mono g.mine e1).set hv) g1)
theorem ds_par {i j : Nat} {x y : Str} {a b : Expr} {px py pt : Pos} {kt k2 : Nat} {pt2 : Pos} (hc : X.calm = true) (hN : X.N.Nodup) (hi : X.N[i]? = some x) (hj : X.N[j]? = some y) (hij : i ≠ j)
    (p : PS X (.Assign [.Tuple [.Name x px, .Name y py] kt pt] (.Tuple [a, b] k2 pt2) pos) (tPar i j (tA (evOf X) W fl))) : PS X (.Assign [.Tuple [.Name x px, .Name y py] kt pt] (.Tuple [a, b] k2 pt2) pos) (tS (evOf X) W (sPar i j fl)) :=
  p.imp fun E σ H ⟨r, F, sl, h, s, g, q⟩ => tA.of s g ((q.bindS s g).imp fun r1 H1 ds h1 e1 g1 q1 vs hv => by
    cases hv with
    | nil => exact False.elim q1
    | cons h1 t1 => cases t1 with
      | nil => exact False.elim q1
      | cons h2 t2 => cases t2 with
        | nil => exact ⟨_, _, rfl, q1.nxh (((s.mono g.mine e1).set h1).set h2) g1⟩
        | cons _ _ => exact False.elim q1)
end

/-! ### targets that are names -/
inductive Tg where
  | nm (i : Nat) | tp (is : List Nat)
def setAll : List Nat → List D → Sl → Option Sl
  | [], [], sl => some sl
  | i :: is, d :: ds, sl => setAll is ds (sl.set i (some d))
  | _, _, _ => none
def tgD : Tg → D → Sl → Option Sl
  | .nm i, d, sl => some (sl.set i (some d))
  | .tp is, .tup ds, sl => setAll is ds sl
  | .tp _, _, _ => none
def gNames : List Nat → TGs
  | [] => gNil
  | i :: is => gCons (gName i) (gNames is)
def tgV (K : PySem.W.Frag) : Tg → TG
  | .nm i => gName i
  | .tp is => gTup K is.length (gNames is)
def Tg.slots : Tg → List Nat
  | .nm i => [i]
  | .tp is => is
section
variable {G : Ev} {r r' r1 F : List Addr} {H H' H1 : Hp} {h h' h1 : MH} {W : WX} {σ : L2.St}
/-- the slots at vs may have changed, no other -/
def Only (vs : List Nat) (σ σ' : L2.St) : Prop := wipe σ' vs = wipe σ vs
theorem wipe_set {σ : L2.St} {i : Nat} {x : Option V} : ∀ {vs : List Nat}, i ∈ vs → wipe (σ.set i x) vs = wipe σ vs
  | [], hm => by cases hm
  | v :: vs, hm => by
    unfold wipe
    by_cases hi : i ∈ vs
    · rw [wipe_set hi]
    · rcases List.mem_cons.mp hm with e | e
      · subst e
        have comm : ∀ (ws : List Nat), i ∉ ws → wipe (σ.set i x) ws = (wipe σ ws).set i x := by
          intro ws
          induction ws with
          | nil => intro _; rfl
          | cons w ws ih =>
            intro hn
            unfold wipe
            rw [ih (fun z => hn (List.mem_cons_of_mem _ z)), List.set_comm]
            intro e
            exact hn (by rw [e]; exact List.mem_cons_self)
        rw [comm vs hi, List.set_set]
      · exact absurd e hi
theorem gNames_of : ∀ {is : List Nat} {ds : List D} {vs : List V} {sl sl' : Sl} {σ : L2.St} {Q : L2.St → Hp → Prop} {own : List Nat}, DenL G r F H ds vs → setAll is ds sl = some sl' → SlR G r F H sl σ → (∀ i ∈ is, i ∈ own) →
    (∀ σ', SlR G r F H sl' σ' → Only own σ σ' → Q σ' H) → gNames is vs σ H Q
  | [], [], _, sl, sl', σ, Q, own, .nil, e, s, _, q => by
    cases e
    exact ⟨rfl, q σ s rfl⟩
  | i :: is, d :: ds, _, sl, sl', σ, Q, own, .cons hd tl, e, s, ho, q => by
    refine ⟨_, _, rfl, ?_⟩
    exact gNames_of (is := is) tl e (s.set hd) (fun j hj => ho j (List.mem_cons_of_mem _ hj)) fun σ' s' o' => q σ' s' (Eq.trans o' (wipe_set (ho i List.mem_cons_self)))
  | [], _ :: _, _, _, _, _, _, _, .cons _ _, e, _, _, _ => by cases e
  | _ :: _, [], _, _, _, _, _, _, .nil, e, _, _, _ => by cases e
theorem setAll_len : ∀ {is : List Nat} {ds : List D} {sl sl' : Sl}, setAll is ds sl = some sl' → ds.length = is.length
  | [], [], _, _, _ => rfl
  | _ :: is, _ :: ds, _, _, e => by simp [setAll_len (is := is) (ds := ds) e]
  | [], _ :: _, _, _, e => by cases e
  | _ :: _, [], _, _, e => by cases e
theorem tgV_of {tg : Tg} {d : D} {v : V} {sl sl' : Sl} {Q : L2.St → Hp → Prop} (hd : Den G r F H d v) (e : tgD tg d sl = some sl') (s : SlR G r F H sl σ) (q : ∀ σ', SlR G r F H sl' σ' → Only tg.slots σ σ' → Q σ' H) : tgV G.K tg v σ H Q := by
  cases tg with
  | nm i =>
    cases e
    exact q _ (s.set hd) (wipe_set (by simp [Tg.slots]))
  | tp is =>
    cases d with
    | tup ds =>
      cases hd with
      | tup hq hl =>
        refine ⟨_, _, rfl, hq.sq, by rw [← hl.len]; exact setAll_len e, gNames_of hl e s (fun i hi => hi) q⟩
    | _ => cases e
end

/-! ### what is walked -/
/-- at every later state turn i gives the i-th item -/
def ItD (G : Ev) (r F : List Addr) (H : Hp) (J : It) (xs : List D) : Prop := ∀ r' F' H', Ext r H r' H' → Mine r' H' → Foe F H F' → ∀ i,
  (∀ d, xs[i]? = some d → J.go i H' ∧ ∀ x H'', J.yld i H' x H'' → Same H' H'' ∧ Den G r' F' H'' d x) ∧ (xs[i]? = none → J.stop i H')
def tI (G : Ev) (W : WX) (f : Mo (List D)) : TI := fun σ H R => ∃ r F sl h, SlR G r F H sl σ ∧ GoodH G r F h H ∧ Aft G W F σ r H (f sl h) fun r' H' xs _ => ∀ J, ItD G r' F H' J xs → R J H'
theorem tI.of {G : Ev} {r F : List Addr} {H : Hp} {h : MH} {W : WX} {σ : L2.St} {f : Mo (List D)} {sl : Sl} {R : It → Hp → Prop} (s : SlR G r F H sl σ) (g : GoodH G r F h H)
    (a : Aft G W F σ r H (f sl h) fun r' H' xs _ => ∀ J, ItD G r' F H' J xs → R J H') : tI G W f σ H R := ⟨r, F, sl, h, s, g, a⟩
theorem _root_.L2.PI.imp {X : Cx} {tg iter : Expr} {t t' : TI} (p : PI X tg iter t) (f : ∀ σ H R, t' σ H R → t σ H R) : PI X tg iter t' := ⟨fun pins s σ H R I q => p.run pins s σ H R I (f _ _ _ q)⟩
def itemsL : D → Option (List D)
  | .lst xs => some xs
  | _ => none
def itemsT : D → Option (List D)
  | .tup xs => some xs
  | _ => none
def mItL (f : Mo D) : Mo (List D) := mBind f fun d => fun _ h => optR (itemsL d) h
def mItT (f : Mo D) : Mo (List D) := mBind f fun d => fun _ h => optR (itemsT d) h
def zipD : List D → List D → List D
  | x :: xs, y :: ys => .tup [x, y] :: zipD xs ys
  | _, _ => []
def mItZ (f : Mo (List D)) : Mo (List D) := mBind f fun ds => fun _ h => match ds with
  | [.tup xs, .tup ys] => .ok (zipD xs ys) h
  | _ => .bad
def rangeD (lo : Int) : Nat → List D
  | 0 => []
  | n + 1 => .int lo :: rangeD (lo + 1) n
def big : Int := 1000000000
def mItR1 (f : Mo (List D)) : Mo (List D) := mBind f fun ds => fun _ h => match ds with
  | [.int j] => if -big ≤ j ∧ j ≤ big then .ok (rangeD 0 j.toNat) h else .bad
  | _ => .bad
def mItR2 (f : Mo (List D)) : Mo (List D) := mBind f fun ds => fun _ h => match ds with
  | [.int i, .int j] => if (-big ≤ i ∧ i ≤ big) ∧ -big ≤ j ∧ j ≤ big then .ok (rangeD i (j - i).toNat) h else .bad
  | _ => .bad
section
variable {G : Ev} {r r' r1 F : List Addr} {H H' H1 : Hp} {h h' h1 : MH} {W : WX} {σ : L2.St}
theorem DenL.none {ds : List D} {vs : List V} {i : Nat} (q : DenL G r F H ds vs) (e : ds[i]? = none) : vs.length ≤ i := by
  rw [← q.len]; exact List.getElem?_eq_none_iff.mp e
theorem itd_tup {a : Addr} {xs : List D} {vs : List V} (m : Mine r H) (hq : TuA G.K H a vs) (hl : DenL G r F H xs vs) : ItD G r F H (Itt G.K a) xs := by
  intro r' F' H' e m' fo i
  have hq' := (m.seqT e hq).sq
  refine ⟨fun d hd => ?_, fun hd => ⟨vs, hq', hl.none hd⟩⟩
  obtain ⟨v, h1, h2⟩ := hl.get hd
  refine ⟨⟨vs, v, hq', h1⟩, fun x H'' ⟨e1, y⟩ => ?_⟩
  subst e1
  have := y vs hq'
  rw [h1] at this; cases this
  exact ⟨Same.refl _, Den.monoF m e fo _ _ h2⟩
theorem itd_lst {a : Addr} {xs : List D} {vs : List V} (m : Mine r H) (hq : H a = some (.lst vs)) (hn : a ∉ r) (hl : DenL G r F H xs vs) : ItD G r F H (Itl G.K a) xs := by
  intro r' F' H' e m' fo i
  have hq' : SqL G.K H' a vs := SqL.of (e.keep _ _ hq hn)
  refine ⟨fun d hd => ?_, fun hd => ⟨vs, hq', hl.none hd⟩⟩
  obtain ⟨v, h1, h2⟩ := hl.get hd
  refine ⟨⟨vs, v, hq', h1⟩, fun x H'' ⟨e1, y⟩ => ?_⟩
  subst e1
  have := y vs hq'
  rw [h1] at this; cases this
  exact ⟨Same.refl _, Den.monoF m e fo _ _ h2⟩
theorem rangeD_get : ∀ {n : Nat} {lo : Int} {i : Nat}, (i < n → (rangeD lo n)[i]? = some (.int (lo + i))) ∧ (n ≤ i → (rangeD lo n)[i]? = none)
  | 0, lo, i => ⟨fun h => absurd h (Nat.not_lt_zero _), fun _ => rfl⟩
  | n + 1, lo, 0 => ⟨fun _ => by simp [rangeD], fun h => by omega⟩
  | n + 1, lo, i + 1 => by
    have ih := rangeD_get (n := n) (lo := lo + 1) (i := i)
    refine ⟨fun h => ?_, fun h => ?_⟩
    · show (rangeD (lo + 1) n)[i]? = _
      rw [ih.1 (by omega)]
      congr 2
      push_cast
      omega
    · show (rangeD (lo + 1) n)[i]? = _
      exact ih.2 (by omega)
theorem itd_range {lo : Int} {n : Nat} : ItD G r F H (Itr lo n) (rangeD lo n) := by
  intro r' F' H' e m' fo i
  by_cases hi : i < n
  · have h1 := (rangeD_get (lo := lo)).1 hi
    refine ⟨fun d hd => ⟨hi, fun x H'' ⟨e1, e2⟩ => ?_⟩, fun hd => by rw [h1] at hd; cases hd⟩
    rw [h1] at hd; cases hd
    subst e1 e2
    exact ⟨Same.refl _, .int _⟩
  · have h1 := (rangeD_get (lo := lo)).2 (Nat.not_lt.mp hi)
    exact ⟨fun d hd => by (rw [h1] at hd; cases hd), fun _ => Nat.not_lt.mp hi⟩
theorem zipD_get : ∀ {xs ys : List D} {i : Nat}, (∀ d, (zipD xs ys)[i]? = some d → ∃ x y, xs[i]? = some x ∧ ys[i]? = some y ∧ d = .tup [x, y]) ∧ ((zipD xs ys)[i]? = none → xs[i]? = none ∨ ys[i]? = none)
  | [], ys, i => ⟨fun d h => by simp [zipD] at h, fun _ => .inl (by simp)⟩
  | x :: xs, [], i => ⟨fun d h => by simp [zipD] at h, fun _ => .inr (by simp)⟩
  | x :: xs, y :: ys, 0 => ⟨fun d h => by simp [zipD] at h; exact ⟨x, y, rfl, rfl, h.symm⟩, fun h => by simp [zipD] at h⟩
  | x :: xs, y :: ys, i + 1 => by
    have ih := zipD_get (xs := xs) (ys := ys) (i := i)
    exact ⟨fun d h => by simpa using ih.1 d (by simpa [zipD] using h), fun h => by simpa using ih.2 (by simpa [zipD] using h)⟩
theorem itd_zipT {a b : Addr} {xs ys : List D} {vs us : List V} (m : Mine r H) (hq : TuA G.K H a vs) (hl : DenL G r F H xs vs) (hq2 : TuA G.K H b us) (hl2 : DenL G r F H ys us) : ItD G r F H (RZ.ItzT G.K a b) (zipD xs ys) := by
  intro r' F' H' e m' fo i
  have p1 := (m.seqT e hq).sq
  have p2 := (m.seqT e hq2).sq
  refine ⟨fun d hd => ?_, fun hd => ?_⟩
  · obtain ⟨x, y, hx, hy, rfl⟩ := zipD_get.1 d hd
    obtain ⟨v, h1, h2⟩ := hl.get hx
    obtain ⟨u, h3, h4⟩ := hl2.get hy
    refine ⟨⟨vs, us, v, u, p1, p2, h1, h3⟩, fun z H'' ⟨T, x', y', ez, hT, eH, f1, f2⟩ => ?_⟩
    have e1 := f1 vs p1
    have e2 := f2 us p2
    rw [h1] at e1; cases e1
    rw [h3] at e2; cases e2
    subst ez eH
    have sm : Same H' (upd H' T (.tup [v, u])) := same_new hT
    have q1 := Den.monoF m e fo _ _ h2
    have q2 := Den.monoF m e fo _ _ h4
    refine ⟨sm, .tup (.inl upd_same) ?_⟩
    exact .cons (Den.mono m' (.same sm) _ _ q1) (.cons (Den.mono m' (.same sm) _ _ q2) .nil)
  · rcases zipD_get.2 hd with q | q
    · exact ⟨vs, us, p1, p2, .inl (hl.none q)⟩
    · exact ⟨vs, us, p1, p2, .inr (hl2.none q)⟩
end
end CH

/-! CH3: loops, comprehensions, calls. -/
namespace CH
open PySem PySem.Spec PyProof.Rows L2

/-! ### what is walked, as expressions -/
section
variable {X : Cx} {W : WX} {pos : Pos} {e e2 : Expr} {tg : Expr} {f : Mo D} {fl : Mo (List D)}
theorem di_tup (he : PE X e (tE (evOf X) W f)) : PI X tg e (tI (evOf X) W (mItT f)) := (pi_tup he).imp fun σ H R ⟨r, F, sl, h, s, g, q⟩ =>
  tE.of s g (q.bind.imp fun r1 H1 x h1 e1 g1 q1 v hv => by
    cases hv with
    | tup hq hl => exact ⟨_, rfl, ⟨_, hq.sq⟩, q1.here g1 _ (itd_tup g1.mine hq hl)⟩
    | _ => exact False.elim q1)
theorem di_lst (he : PE X e (tE (evOf X) W f)) : PI X tg e (tI (evOf X) W (mItL f)) := (pi_list he).imp fun σ H R ⟨r, F, sl, h, s, g, q⟩ =>
  tE.of s g (q.bind.imp fun r1 H1 x h1 e1 g1 q1 v hv => by
    cases hv with
    | lst hq hn hl => exact ⟨_, rfl, ⟨_, SqL.of hq⟩, q1.here g1 _ (itd_lst g1.mine hq hn.1 hl)⟩
    | _ => exact False.elim q1)
theorem den_inv_int {G : Ev} {r F : List Addr} {H : Hp} {i : Int} {v : V} (h : Den G r F H (.int i) v) : v = .int i := by cases h; rfl
theorem di_range1 {p : Pos} (hg : Gl X "range") (hm : X.mg "range" = none) (ha : PA X [e] (tA (evOf X) W fl)) (hs : starEach [e] X.env = [(false, eval e X.env)] := by rfl) : PI X tg (.Call (.Name "range" p) [e] [] pos) (tI (evOf X) W (mItR1 fl)) :=
  (pi_range1 hg hm ha hs).imp fun σ H R ⟨r, F, sl, h, s, g, q⟩ => tA.of s g (q.bind.imp fun r1 H1 ds h1 e1 g1 q1 vs hv => by
    match ds, hv with
    | [], _ => exact False.elim q1
    | [d], .cons hd .nil =>
      cases hd with
      | int j =>
        have q1 : Aft (evOf X) W F σ r1 H1 (if -big ≤ j ∧ j ≤ big then Res.ok (rangeD 0 j.toNat) h1 else .bad) _ := q1
        by_cases z : -big ≤ j ∧ j ≤ big
        · rw [if_pos z] at q1
          unfold big at z
          exact ⟨j, rfl, by omega, by omega, q1.here g1 _ itd_range⟩
        · rw [if_neg z] at q1; exact False.elim q1
      | _ => exact False.elim q1
    | d :: _ :: _, hv => cases d <;> exact False.elim q1)
theorem di_range2 {p : Pos} (hg : Gl X "range") (hm : X.mg "range" = none) (ha : PA X [e, e2] (tA (evOf X) W fl)) (hs : starEach [e, e2] X.env = [(false, eval e X.env), (false, eval e2 X.env)] := by rfl) (hs2 : starEach [e2] X.env = [(false, eval e2 X.env)] := by rfl) :
    PI X tg (.Call (.Name "range" p) [e, e2] [] pos) (tI (evOf X) W (mItR2 fl)) :=
  (pi_range2 hg hm ha hs hs2).imp fun σ H R ⟨r, F, sl, h, s, g, q⟩ => tA.of s g (q.bind.imp fun r1 H1 ds h1 e1 g1 q1 vs hv => by
    match ds, hv with
    | [], _ => exact False.elim q1
    | [d], _ => cases d <;> exact False.elim q1
    | [d, d'], .cons hd (.cons hd' .nil) =>
      cases hd with
      | int i =>
        cases hd' with
        | int j =>
          have q1 : Aft (evOf X) W F σ r1 H1 (if (-big ≤ i ∧ i ≤ big) ∧ -big ≤ j ∧ j ≤ big then Res.ok (rangeD i (j - i).toNat) h1 else .bad) _ := q1
          by_cases z : (-big ≤ i ∧ i ≤ big) ∧ -big ≤ j ∧ j ≤ big
          · rw [if_pos z] at q1
            unfold big at z
            exact ⟨i, j, rfl, by omega, q1.here g1 _ itd_range⟩
          · rw [if_neg z] at q1; exact False.elim q1
        | _ => exact False.elim q1
      | _ => exact False.elim q1
    | d :: d' :: _ :: _, hv => cases d <;> cases d' <;> exact False.elim q1)
theorem di_zipT {p tpos : Pos} {elts : List Expr} {kk : Nat} (hg : Gl X "zip") (hm : X.mg "zip" = none) (ha : PA X [e, e2] (tA (evOf X) W fl))
    (hs : starEach [e, e2] X.env = (false, eval e X.env) :: starEach [e2] X.env := by rfl) (hpl : (backTo pos (starEach [e2] X.env)).any (·.1) = false := by rfl) :
    PI X (.Tuple elts kk tpos) (.Call (.Name "zip" p) [e, e2] [] pos) (tI (evOf X) W (mItZ fl)) :=
  (RZ.pi_zipA hg hm ha hs hpl).imp fun σ H R ⟨r, F, sl, h, s, g, q⟩ => tA.of s g (q.bind.imp fun r1 H1 ds h1 e1 g1 q1 vs hv => by
    match ds, hv with
    | [], _ => exact False.elim q1
    | [d], _ => cases d <;> exact False.elim q1
    | [d, d'], .cons hd (.cons hd' .nil) =>
      cases hd with
      | tup hq hl =>
        cases hd' with
        | tup hq' hl' => exact ⟨_, _, _, _, rfl, .inr ⟨hq.sq, hq'.sq, q1.here g1 _ (itd_zipT g1.mine hq hl hq' hl')⟩⟩
        | _ => exact False.elim q1
      | _ => cases d' <;> exact False.elim q1
    | d :: d' :: _ :: _, hv => cases d <;> cases d' <;> exact False.elim q1)
end

/-! ### for -/
/-- behind a turn -/
def turnR (k : Ms) : SRes → SRes
  | .nx sl h => k sl h
  | .ct sl h => k sl h
  | .bk sl h => .nx sl h
  | .rt d h => .rt d h
  | .exc c a sl h => .exc c a sl h
  | .bad => .bad
def forD (tg : Tg) (body : Ms) : List D → Ms
  | [], sl, h => .nx sl h
  | d :: ds, sl, h => match tgD tg d sl with
    | none => .bad
    | some sl1 => turnR (forD tg body ds) (body sl1 h)
def sFor (fi : Mo (List D)) (tg : Tg) (body : Ms) : Ms := fun sl h => bindS sl (fi sl h) fun ds h1 => forD tg body ds sl h1
theorem ds_for {X : Cx} {W : WX} {tg : Tg} {te iter : Expr} {body : List Stmt} {pos : Pos} {fi : Mo (List D)} {fb : Ms} (hp : PassesOwn (model X.prog X.w) X.A X.env X.xe) (hc : X.calm = true) (hi : PI X te iter (tI (evOf X) W fi)) (hg : PG X te (tgV X.K tg)) (hb : PSs X body (tS (evOf X) W fb))
    (hs : ∀ x, foldedSetIterable iter X.env x = pure x := by intro _; rfl) : PS X (.For te iter body [] pos) (tS (evOf X) W (sFor fi tg fb)) :=
  (ps_for hp hc hi hg hb hs).imp fun E σ H ⟨r, F, sl, h, s, g, q⟩ => by
    refine tI.of s g ((q.bindS s g).imp fun r1 H1 xs h1 e1 g1 q1 J hJ => ?_)
    refine ⟨fun i m σ' H' => ∃ r' sl' h', Ext r1 H1 r' H' ∧ GoodH (evOf X) r' F h' H' ∧ SlR (evOf X) r' F H' sl' σ' ∧ m = xs.length - i ∧ i ≤ xs.length ∧ SAft (evOf X) W F r' H' (forD tg fb (xs.drop i) sl' h') E, ⟨xs.length, r1, sl, h1, .refl, g1, s.mono g.mine e1, by simp, Nat.zero_le _, q1⟩, ?_⟩
    rintro i m σ' H' ⟨r', sl', h', e', g', s', rfl, hi', q'⟩
    have hJ' := hJ r' F H' e' g'.mine .refl i
    by_cases hlt : i < xs.length
    · have hd : xs[i]? = some xs[i] := List.getElem?_eq_getElem hlt
      obtain ⟨hgo, hy⟩ := hJ'.1 _ hd
      refine .inr ⟨hgo, fun σ2 H2 => ∃ r2 sl2 h2, Ext r1 H1 r2 H2 ∧ GoodH (evOf X) r2 F h2 H2 ∧ SlR (evOf X) r2 F H2 sl2 σ2 ∧ SAft (evOf X) W F r2 H2 (forD tg fb (xs.drop (i + 1)) sl2 h2) E,
        fun σ2 H2 ⟨r2, sl2, h2, a1, a2, a3, a4⟩ => ⟨xs.length - (i + 1), by omega, r2, sl2, h2, a1, a2, a3, rfl, hlt, a4⟩, fun x H'' yld => ?_⟩
      obtain ⟨sm, hx⟩ := hy x H'' yld
      rw [List.drop_eq_getElem_cons hlt] at q'
      unfold forD at q'
      have g'' := g'.same sm
      have s'' := s'.mono g'.mine (.same sm)
      have ee := e'.trans g'.mine (Ext.same (r := r') sm)
      cases ht : tgD tg xs[i] sl' with
      | none => rw [ht] at q'; exact False.elim q'
      | some sl1 =>
        rw [ht] at q'
        have q'' : SAft (evOf X) W F r' H' (turnR (forD tg fb (xs.drop (i + 1))) (fb sl1 h')) E := q'
        refine tgV_of (G := evOf X) hx ht s'' fun σ2 s2 _ => tS.of s2 g'' ?_
        cases hbr : fb sl1 h' with
        | nx sl2 h2 =>
          rw [hbr] at q''
          exact fun r3 H3 σ3 e3 g3 s3 => ⟨r3, sl2, h2, ee.trans g''.mine e3, g3, s3, SAft.later q'' ((Ext.same (r := r') sm).trans g''.mine e3) g3⟩
        | ct sl2 h2 =>
          rw [hbr] at q''
          exact fun r3 H3 σ3 e3 g3 s3 => ⟨r3, sl2, h2, ee.trans g''.mine e3, g3, s3, SAft.later q'' ((Ext.same (r := r') sm).trans g''.mine e3) g3⟩
        | bk sl2 h2 =>
          rw [hbr] at q''
          exact fun r3 H3 σ3 e3 g3 s3 => q'' r3 H3 σ3 ((Ext.same (r := r') sm).trans g''.mine e3) g3 s3
        | rt d h2 =>
          rw [hbr] at q''
          exact fun r3 H3 v e3 g3 => q'' r3 H3 v ((Ext.same (r := r') sm).trans g''.mine e3) g3
        | exc c a sl2 h2 =>
          rw [hbr] at q''
          exact fun r3 H3 σ3 cls x e3 g3 => q'' r3 H3 σ3 cls x ((Ext.same (r := r') sm).trans g''.mine e3) g3
        | bad => rw [hbr] at q''; exact False.elim q''
    · have ei : i = xs.length := by omega
      subst ei
      rw [List.drop_length] at q'
      exact .inl ⟨hJ'.2 (by simp), q'.nxh s' g'⟩

/-! ### comprehensions -/
def wipeD (sl : Sl) : List Nat → Sl
  | [] => sl
  | v :: vs => (wipeD sl vs).set v none
theorem wipeD_len (sl : Sl) : ∀ vs : List Nat, (wipeD sl vs).length = sl.length
  | [] => rfl
  | v :: vs => by unfold wipeD; rw [List.length_set, wipeD_len sl vs]
theorem SlR.wiped {G : Ev} {r F : List Addr} {H : Hp} {sl : Sl} {σ : L2.St} (s : SlR G r F H sl σ) : ∀ vs : List Nat, SlR G r F H (wipeD sl vs) (L2.wipe σ vs)
  | [] => s
  | v :: vs => by
    have ih := SlR.wiped s vs
    unfold wipeD L2.wipe
    refine ⟨by simp [ih.1], fun i d hd => ?_⟩
    by_cases hi : v = i
    · subst hi
      by_cases hl : v < (wipeD sl vs).length
      · rw [List.getElem?_set_self hl] at hd; cases hd
      · rw [List.getElem?_eq_none (by simpa using hl)] at hd; cases hd
    · rw [List.getElem?_set_ne hi] at hd
      obtain ⟨w, h1, h2⟩ := ih.2 i d hd
      exact ⟨w, by rw [List.getElem?_set_ne hi]; exact h1, h2⟩
/-- no exception may leave from within -/
def noX {α : Type} : Res α → Res α
  | .exc _ _ _ => .bad
  | x => x
def lcD (tg : Tg) (c : Mo Bool) (f : Mo D) (sl : Sl) : List D → List D → MH → Res (List D)
  | acc, [], h => .ok acc h
  | acc, d :: ds, h => match tgD tg d sl with
    | none => .bad
    | some sl1 => bindR (noX (c sl1 h)) fun b h1 => if b then (if acc.length < lim then bindR (noX (f sl1 h1)) fun x h2 => lcD tg c f sl (acc ++ [x]) ds h2 else .bad) else lcD tg c f sl acc ds h1
def mYes : Mo Bool := fun _ h => .ok true h
/-- the slots of the comprehension's own names are vs -/
def mLc (vs : List Nat) (fi : Mo (List D)) (tg : Tg) (c : Mo Bool) (f : Mo D) : Mo D := fun sl h => bindR (fi sl h) fun ds h1 => bindR (lcD tg c f (wipeD sl vs) [] ds h1) fun xs h2 => .ok (.lst xs) h2
theorem dt_yes {X : Cx} {W : WX} : PTs X [] (tT (evOf X) W mYes) := ⟨fun pins s σ H Q I ⟨r, F, sl, h, s', g, q⟩ => pts_nil.run pins s σ H Q I (q.here g)⟩
theorem dt_cond {X : Cx} {W : WX} {c : Expr} {f : Mo Bool} (h : PT X c (tT (evOf X) W f)) : PTs X [c] (tT (evOf X) W f) := pts_one h
abbrev W0 : WX := fun _ _ _ _ => False
theorem aft0 {G : Ev} {W : WX} {r r1 F : List Addr} {H H1 : Hp} {σ σ0 : L2.St} {α β : Type} {D0 : Addr} {R : Res α} {k : α → MH → Res β} {Q : List Addr → Hp → β → MH → Prop} (q : Aft G W F σ r1 H1 (bindR (noX R) k) Q) :
    Aft G W0 (D0 :: F) σ0 r H R (fun _ _ x h1 => Aft G W F σ r1 H1 (k x h1) Q) := by
  cases R with
  | ok x h' =>
    intro r' H' e g'
    exact q
  | exc c x h' => exact False.elim q
  | bad => exact q
theorem wipe_at (σ : L2.St) : ∀ (us : List Nat) (k : Nat), (L2.wipe σ us)[k]? = if k ∈ us then (if k < σ.length then some none else none) else σ[k]? := by
  intro us
  induction us with
  | nil => intro k; simp [L2.wipe]
  | cons u us ih =>
    intro k
    unfold L2.wipe
    by_cases hk : u = k
    · subst hk
      by_cases hu : u < σ.length
      · rw [List.getElem?_set_self (by rw [wipe_length]; exact hu)]
        simp [hu]
      · rw [List.getElem?_eq_none (by rw [List.length_set, wipe_length]; exact Nat.not_lt.mp hu)]
        simp [hu]
    · rw [List.getElem?_set_ne hk, ih k]
      by_cases hm : k ∈ us
      · simp [hm]
      · have : ¬ k ∈ u :: us := by simp only [List.mem_cons, not_or]; exact ⟨fun e => hk e.symm, hm⟩
        simp [hm, this]
theorem only_in {vs ws : List Nat} {σ σ' : L2.St} (o : L2.wipe σ' vs = L2.wipe (L2.wipe σ ws) vs) (h : ∀ j ∈ vs, j ∈ ws) : L2.wipe σ' ws = L2.wipe σ ws := by
  have hl : σ'.length = σ.length := by
    have := congrArg List.length o
    rw [wipe_length, wipe_length, wipe_length] at this
    exact this
  refine List.ext_getElem? fun k => ?_
  rw [wipe_at, wipe_at]
  by_cases hk : k ∈ ws
  · simp [hk, hl]
  · have hv : k ∉ vs := fun z => hk (h k z)
    have e : (L2.wipe σ' vs)[k]? = (L2.wipe (L2.wipe σ ws) vs)[k]? := by rw [o]
    rw [wipe_at, wipe_at, wipe_at] at e
    simpa [hk, hv] using e
theorem lc_of {X : Cx} {W : WX} {vs : List Nat} {fi : Mo (List D)} {tg : Tg} {fc : Mo Bool} {f : Mo D} (ho : ∀ i ∈ tg.slots, i ∈ vs) (σ : L2.St) (H : Hp) (Q : VK) (q : tE (evOf X) W (mLc vs fi tg fc f) σ H Q) :
    tLc (tI (evOf X) W fi) (tgV X.K tg) (tT (evOf X) W0 fc) (tE (evOf X) W0 f) vs σ H Q := by
  obtain ⟨r, F, sl, h, s, g, q⟩ := q
  refine tI.of s g (q.bind.imp fun r1 H1 xs h1 e1 g1 q1 J hJ D0 hD => ?_)
  have q1 := q1.bind
  have nF : D0 ∉ F := (g1.fresh hD).2
  have fo : Foe F H1 (D0 :: F) := fun a ha => by
    rcases List.mem_cons.mp ha with e | e
    · exact .inr (by rw [e]; exact hD)
    · exact .inl e
  have sm0 : Same H1 (upd H1 D0 (.lst [])) := same_new hD
  have g1' : GoodH (evOf X) r1 (D0 :: F) h1 (upd H1 D0 (.lst [])) := g1.newF hD trivial
  refine ⟨fun i m H' => ∃ r' h' acc vacc, Ext r1 H1 r' H' ∧ GoodH (evOf X) r' (D0 :: F) h' H' ∧ H' D0 = some (.lst vacc) ∧ DenL (evOf X) r' (D0 :: F) H' acc vacc ∧ m = xs.length - i ∧ i ≤ xs.length ∧
    Aft (evOf X) W F σ r1 H1 (lcD tg fc f (wipeD sl vs) acc (xs.drop i) h') (fun r' H' x h1 => Aft (evOf X) W F σ r' H' (Res.ok (D.lst x) h1) fun r' H' d _ => ∀ v, Den (evOf X) r' F H' d v → Q v H'),
    ⟨xs.length, r1, h1, [], [], .same sm0, g1', upd_same, .nil, by simp, Nat.zero_le _, q1⟩, ?_⟩
  rintro i m H' ⟨r', h', acc, vacc, e', g', hD', hacc, rfl, hi', q'⟩
  have hJ' := hJ r' (D0 :: F) H' e' g'.mine fo i
  have s' : SlR (evOf X) r' (D0 :: F) H' (wipeD sl vs) (L2.wipe σ vs) := by
    have z := (s.mono g.mine e1).wiped vs
    exact ⟨z.1, fun j d hd => let ⟨v, a1, a2⟩ := z.2 j d hd; ⟨v, a1, Den.monoF g1.mine e' fo _ _ a2⟩⟩
  by_cases hlt : i < xs.length
  · have hd : xs[i]? = some xs[i] := List.getElem?_eq_getElem hlt
    obtain ⟨hgo, hy⟩ := hJ'.1 _ hd
    refine .inr ⟨hgo, fun H2 => ∃ r2 h2 acc vacc, Ext r1 H1 r2 H2 ∧ GoodH (evOf X) r2 (D0 :: F) h2 H2 ∧ H2 D0 = some (.lst vacc) ∧ DenL (evOf X) r2 (D0 :: F) H2 acc vacc ∧
        Aft (evOf X) W F σ r1 H1 (lcD tg fc f (wipeD sl vs) acc (xs.drop (i + 1)) h2) (fun r' H' x h1 => Aft (evOf X) W F σ r' H' (Res.ok (D.lst x) h1) fun r' H' d _ => ∀ v, Den (evOf X) r' F H' d v → Q v H'),
      fun H2 ⟨r2, h2, ac, va, a1, a2, a3, a4, a5⟩ => ⟨xs.length - (i + 1), by omega, r2, h2, ac, va, a1, a2, a3, a4, rfl, hlt, a5⟩, fun x H'' yld => ?_⟩
    obtain ⟨sm, hx⟩ := hy x H'' yld
    rw [List.drop_eq_getElem_cons hlt] at q'
    have g'' := g'.same sm
    have s'' := s'.mono g'.mine (.same sm)
    have ee := e'.trans g'.mine (Ext.same (r := r') sm)
    cases htg : tgD tg xs[i] (wipeD sl vs) with
    | none => unfold lcD at q'; rw [htg] at q'; exact False.elim q'
    | some sl1 =>
      have q2 : Aft (evOf X) W F σ r1 H1 (bindR (noX (fc sl1 h')) fun b h1 => if b = true then (if acc.length < lim then bindR (noX (f sl1 h1)) fun x h2 => lcD tg fc f (wipeD sl vs) (acc ++ [x]) (xs.drop (i + 1)) h2 else .bad) else lcD tg fc f (wipeD sl vs) acc (xs.drop (i + 1)) h1)
          (fun r' H' x h1 => Aft (evOf X) W F σ r' H' (Res.ok (D.lst x) h1) fun r' H' d _ => ∀ v, Den (evOf X) r' F H' d v → Q v H') := by
        unfold lcD at q'; rw [htg] at q'; exact q'
      refine tgV_of (G := evOf X) hx htg s'' fun σ2 s2 o2 => ⟨only_in o2 ho, ?_⟩
      refine tT.of s2 g'' ((aft0 (D0 := D0) (σ0 := σ2) q2).imp fun r3 H3 b h3 e3 g3 q4 => ?_)
      have hD3 : H3 D0 = some (.lst vacc) := e3.keep _ _ (sm _ _ hD') (g''.fd D0 List.mem_cons_self).2
      have hac3 := DenL.mono g'.mine (Ext.trans (.same sm) g''.mine e3) _ _ hacc
      have ee3 := ee.trans g''.mine e3
      cases b with
      | false => exact ⟨r3, h3, acc, vacc, ee3, g3, hD3, hac3, q4⟩
      | true =>
        have q4 : Aft (evOf X) W F σ r1 H1 (if acc.length < lim then bindR (noX (f sl1 h3)) fun x h2 => lcD tg fc f (wipeD sl vs) (acc ++ [x]) (xs.drop (i + 1)) h2 else .bad) _ := q4
        by_cases hz : acc.length < lim
        · rw [if_pos hz] at q4
          refine tE.of (s2.mono g''.mine e3) g3 ((aft0 (D0 := D0) (σ0 := σ2) q4).imp fun r4 H4 y h4 e4 g4 q5 v hv => ?_)
          have hD4 : H4 D0 = some (.lst vacc) := e4.keep _ _ hD3 (g3.fd D0 List.mem_cons_self).2
          have hac4 := DenL.mono g3.mine e4 _ _ hac3
          refine ⟨vacc, hD4, by rw [← hac4.len]; exact lim_lt hz, ?_⟩
          have g5 := g4.updF (acc' := .lst (vacc ++ [v])) hD4 trivial trivial List.mem_cons_self
          have ee5 : Ext r1 H1 r4 (upd H4 D0 (.lst (vacc ++ [v]))) := by
            have ee4 := ee3.trans g3.mine e4
            refine ⟨ee4.pre, fun a o ha hr => ?_⟩
            rw [upd_ne (ne_of_none ha hD)]
            exact ee4.keep a o ha hr
          refine ⟨r4, h4, acc ++ [y], vacc ++ [v], ee5, g5, upd_same, DenL.updF hD4 trivial List.mem_cons_self _ _ (hac4.app (.cons hv .nil)), q5⟩
        · rw [if_neg hz] at q4; exact False.elim q4
  · have ei : i = xs.length := by omega
    subst ei
    rw [List.drop_length] at q'
    have q2 := Aft.here (q' r' H' e' g'.dropF) g'.dropF
    refine .inl ⟨hJ'.2 (by simp), q2 _ (.lst hD' ⟨(g'.fd D0 List.mem_cons_self).2, nF⟩ (DenL.dropF g'.mine hacc))⟩
theorem de_lc {X : Cx} {W : WX} {vs : List Nat} {elt te iter : Expr} {ifs : List Expr} {scope : Scope} {own : List (Str × Nat)} {pos : Pos} {fi : Mo (List D)} {tg : Tg} {fc : Mo Bool} {f : Mo D} (hc : X.calm = true) (hN : X.N.Nodup) (hi : PI X te iter (tI (evOf X) W fi)) (ok : BlkOk X.N X.env.scope scope own)
    (ho : ∀ i ∈ tg.slots, i ∈ own.map (·.2))
    (hg : ∀ (s : Shared) (H : Hp) (C : Addr) (cl : List (Str × Addr)) (fp : List Addr), PG (X.blk s H scope (compEnvC scope cl C X.env) fp) te (tgV X.K tg))
    (ht : ∀ (s : Shared) (H : Hp) (C : Addr) (cl : List (Str × Addr)) (fp : List Addr), PTs (X.blk s H scope (compEnvC scope cl C X.env) fp) ifs (tT (evOf X) W0 fc))
    (he : ∀ (s : Shared) (H : Hp) (C : Addr) (cl : List (Str × Addr)) (fp : List Addr), PE (X.blk s H scope (compEnvC scope cl C X.env) fp) elt (tE (evOf X) W0 f)) (hs : ∀ x, foldedSetIterable iter X.env x = pure x := by intro _; rfl) (hv : own.map (·.2) = vs := by rfl) :
    PE X (.ListComp elt [⟨te, iter, ifs, 0⟩] scope pos) (tE (evOf X) W (mLc vs fi tg fc f)) := by
  subst hv
  exact (pe_lc hc hN hi ok hg ht he hs).imp fun σ H Q q => lc_of ho σ H Q q
end CH

/-! CH4: defs, calls. -/
namespace CH
open PySem PySem.Spec PyProof.Rows L2

/-- a def by its arguments -/
abbrev Fn := List D → MH → Res D
def ckN (n : Nat) (c : Fn) : Fn := fun ds h => if ds.length = n then c ds h else .bad
def slots0 (n : Nat) (ds : List D) : Sl := ds.map some ++ List.replicate (n - ds.length) none
def endB : SRes → Res D
  | .nx _ h => .ok .non h
  | .rt d h => .ok d h
  | .exc c a _ h => .exc c a h
  | _ => .bad
/-- a def's body -/
def runB (n : Nat) (b : Ms) : Fn := fun ds h => endB (b (slots0 n ds) h)
def WX0 (E : XK) : WX := fun cls d _ H => E cls d H
/-- a def's promise -/
def spD (G : Ev) (n : Nat) (c : Fn) : Sp := fun vs H Q E => ∃ r F h ds, GoodH G r F h H ∧ DenL G r F H ds vs ∧ Aft G (WX0 E) F [] r H (ckN n c ds h) fun r' H' d _ => ∀ v, Den G r' F H' d v → Q v H'
theorem spD_len {G : Ev} {n : Nat} {c : Fn} (vs : List V) (H : Hp) (Q : VK) (E : XK) (h : spD G n c vs H Q E) : vs.length = n := by
  obtain ⟨r, F, h, ds, g, hd, q⟩ := h
  by_cases z : ds.length = n
  · rw [← hd.len]; exact z
  · unfold ckN at q
    rw [if_neg z] at q
    exact False.elim q

/-! ### values without names of objects -/
mutual
def pureD : D → Bool
  | .tup xs => pureL xs
  | .lst xs => pureL xs
  | .dic _ xs => pureL xs
  | .ref _ => false
  | .non => true
  | .bl _ => true
  | .int _ => true
  | .str _ => true
  | .gl _ => true
  | .ty _ => true
  | .scr _ => true
def pureL : List D → Bool
  | [] => true
  | d :: ds => pureD d && pureL ds
end
def pureA : Option (Str × D) → Bool
  | none => true
  | some (_, d) => pureD d
section
variable {G : Ev} {r r' F F' : List Addr} {H H' : Hp}
mutual
theorem Den.moved (hp : ∀ a, a ∉ r ∧ a ∉ F → a ∉ r' ∧ a ∉ F') : ∀ (d : D) (v : V), pureD d = true → Den G r F H d v → Den G r' F' H d v
  | .non, _, _, .non => .non
  | .bl _, _, _, .bl b => .bl b
  | .int _, _, _, .int b => .int b
  | .str _, _, _, .str b => .str b
  | .ty _, _, _, .ty b => .ty b
  | .tup ds, _, p, .tup h l => .tup h (DenL.moved hp ds _ p l)
  | .lst ds, _, p, .lst h n l => .lst h (hp _ n) (DenL.moved hp ds _ p l)
  | .scr _, _, _, .scr h => .scr h
  | .dic ks ds, _, p, .dic h n hl l => .dic h (hp _ n) hl (DenL.moved hp ds _ p l)
  | .ref _, _, p, .ref h => by cases p
  | .gl _, _, _, .gl h => .gl h
theorem DenL.moved (hp : ∀ a, a ∉ r ∧ a ∉ F → a ∉ r' ∧ a ∉ F') : ∀ (ds : List D) (vs : List V), pureL ds = true → DenL G r F H ds vs → DenL G r' F' H ds vs
  | [], _, _, .nil => .nil
  | d :: ds, _, p, .cons h t => by
    have p' : (pureD d && pureL ds) = true := p
    rw [Bool.and_eq_true] at p'
    exact .cons (Den.moved hp d _ p'.1 h) (DenL.moved hp ds _ p'.2 t)
end
theorem XDen.moved (hp : ∀ a, a ∉ r ∧ a ∉ F → a ∉ r' ∧ a ∉ F') {c : Str} {a : Option (Str × D)} {cls : Value} {d : Option Addr} (p : pureA a = true) (x : XDen G r F H c a cls d) : XDen G r' F' H c a cls d := by
  obtain ⟨C, h1, h2, h3⟩ := x
  refine ⟨C, h1, h2, ?_⟩
  cases a with
  | none => exact h3
  | some q =>
    obtain ⟨f, y⟩ := q
    obtain ⟨dx, v, a1, a2, a3⟩ := h3
    exact ⟨dx, v, a1, a2, Den.moved hp _ _ p a3⟩
/-! names of objects that are old -/
mutual
theorem Den.cut {d0 : List Addr} (e : r' = r ++ d0) : ∀ (d : D) (v0 v : V), Den G r F H d v0 → Den G r' F' H' d v → Den G r F' H' d v
  | .non, _, _, _, .non => .non
  | .bl _, _, _, _, .bl b => .bl b
  | .int _, _, _, _, .int b => .int b
  | .str _, _, _, _, .str b => .str b
  | .ty _, _, _, _, .ty b => .ty b
  | .tup ds, _, _, .tup _ l0, .tup h l => .tup h (DenL.cut e ds _ _ l0 l)
  | .lst ds, _, _, .lst _ _ l0, .lst h n l => .lst h ⟨fun hm => n.1 (by rw [e]; exact List.mem_append_left _ hm), n.2⟩ (DenL.cut e ds _ _ l0 l)
  | .scr _, _, _, _, .scr h => .scr h
  | .dic ks ds, _, _, .dic _ _ _ l0, .dic h n hl l => .dic h ⟨fun hm => n.1 (by rw [e]; exact List.mem_append_left _ hm), n.2⟩ hl (DenL.cut e ds _ _ l0 l)
  | .ref i, _, _, .ref h0, .ref h => by
    have hl : i < r.length := (List.getElem?_eq_some_iff.mp h0).1
    rw [e, List.getElem?_append_left hl] at h
    exact .ref h
  | .gl _, _, _, _, .gl h => .gl h
theorem DenL.cut {d0 : List Addr} (e : r' = r ++ d0) : ∀ (ds : List D) (vs0 vs : List V), DenL G r F H ds vs0 → DenL G r' F' H' ds vs → DenL G r F' H' ds vs
  | [], _, _, _, .nil => .nil
  | d :: ds, _, _, .cons h0 t0, .cons h t => .cons (Den.cut e d _ _ h0 h) (DenL.cut e ds _ _ t0 t)
end
theorem ODen.cut {d0 : List Addr} (e : r' = r ++ d0) {a0 a : Addr} {o : O} (q0 : ODen G r F H a0 o) (q : ODen G r' F' H' a o) : ODen G r F' H' a o := by
  cases o with
  | lst ds =>
    obtain ⟨_, _, l0⟩ := q0
    obtain ⟨vs, h, l⟩ := q
    exact ⟨vs, h, DenL.cut e _ _ _ l0 l⟩
  | dic ks ds =>
    obtain ⟨_, _, _, l0⟩ := q0
    obtain ⟨vs, h, hl, l⟩ := q
    exact ⟨vs, h, hl, DenL.cut e _ _ _ l0 l⟩
  | ins c ks ds =>
    obtain ⟨_, _, _, _, _, _, _, l0⟩ := q0
    obtain ⟨C, dx, vs, h1, h2, hl, h3, l⟩ := q
    exact ⟨C, dx, vs, h1, h2, hl, h3, DenL.cut e _ _ _ l0 l⟩
end

/-- run on a heap of its own: nothing of ours goes in or out -/
def isoR (c : Fn) : Fn := fun ds h => if pureL ds = true then (match c ds [] with
  | .ok d _ => if pureD d = true then .ok d h else .bad
  | .exc x a _ => if pureA a = true then .exc x a h else .bad
  | .bad => .bad) else .bad
theorem iso_sp {G : Ev} {n : Nat} {c : Fn} (vs : List V) (H : Hp) (Q : VK) (E : XK) (q : spD G n (isoR c) vs H Q E) : spD G n c vs H Q E := by
  obtain ⟨r, F, h, ds, g, hd, q⟩ := q
  unfold ckN at q
  by_cases z : ds.length = n
  · rw [if_pos z] at q
    unfold isoR at q
    by_cases p : pureL ds = true
    · rw [if_pos p] at q
      have mv : ∀ a, a ∉ r ∧ a ∉ F → a ∉ ([] : List Addr) ∧ a ∉ r ++ F := fun a ⟨h1, h2⟩ => ⟨by simp, by simp [h1, h2]⟩
      have vm : ∀ {r' : List Addr}, ∀ a, a ∉ r' ∧ a ∉ r ++ F → a ∉ r ∧ a ∉ F := fun a ⟨_, h2⟩ => by
        rw [List.mem_append, not_or] at h2
        exact h2
      refine ⟨[], r ++ F, [], ds, ⟨rfl, List.nodup_nil, fun a ha => ⟨?_, by simp⟩, fun i o hi => by simp at hi⟩, DenL.moved mv _ _ p hd, ?_⟩
      · rcases List.mem_append.mp ha with ha | ha
        · exact g.mine a ha
        · exact (g.fd a ha).1
      · unfold ckN
        rw [if_pos z]
        cases hc : c ds [] with
        | ok d h1 =>
          rw [hc] at q
          by_cases pd : pureD d = true
          · have q : Aft G (WX0 E) F [] r H (if pureD d = true then .ok d h else .bad) fun r' H' d _ => ∀ v, Den G r' F H' d v → Q v H' := q
            rw [if_pos pd] at q
            intro r' H' e g' v hv
            have sm : Same H H' := fun a o ha => e.keep a o ha (by simp)
            exact q r H' (.same sm) (g.same sm) v (Den.moved vm _ _ pd hv)
          · have q : Aft G (WX0 E) F [] r H (if pureD d = true then .ok d h else .bad) fun r' H' d _ => ∀ v, Den G r' F H' d v → Q v H' := q
            rw [if_neg pd] at q
            exact False.elim q
        | exc x a h1 =>
          rw [hc] at q
          by_cases pd : pureA a = true
          · have q : Aft G (WX0 E) F [] r H (if pureA a = true then .exc x a h else .bad) fun r' H' d _ => ∀ v, Den G r' F H' d v → Q v H' := q
            rw [if_pos pd] at q
            intro r' H' cls y e g' hx
            have sm : Same H H' := fun a o ha => e.keep a o ha (by simp)
            exact q r H' cls y (.same sm) (g.same sm) (hx.moved vm pd)
          · have q : Aft G (WX0 E) F [] r H (if pureA a = true then .exc x a h else .bad) fun r' H' d _ => ∀ v, Den G r' F H' d v → Q v H' := q
            rw [if_neg pd] at q
            exact False.elim q
        | bad => rw [hc] at q; exact False.elim q
    · rw [if_neg p] at q; exact False.elim q
  · rw [if_neg z] at q; exact False.elim q

/-! ### a def of the text -/
/-- what a caller knows of a def at f -/
structure FT (P : Program) (w : World) (K : PySem.W.Frag) (mg : Str → Option Value) (base : Heap) (k : Nat) (ps : List Str) (c : Fn) (f : Addr) : Prop where
  ex : ∃ fd, FnOk P w K mg base (L2.CX P w) k f fd ps (spD ⟨K, mg⟩ ps.length c) ∧ Binds K fd ps [] ∧ ∀ (s : Shared) (us : List Value), us.length = ps.length → BindsTo s fd ⟨us, []⟩ (ps.zip us)
  kp : PySem.W.keepIn K (.ref f) = true
section
variable {P : Program} {w : World} {K : PySem.W.Frag} {mg : Str → Option Value} {base : Heap} {k : Nat} {ps : List Str} {c : Fn} {f : Addr}
theorem FT.iso (t : FT P w K mg base k ps c f) : FT P w K mg base k ps (isoR c) f := by
  obtain ⟨fd, h1, h2⟩ := t.ex
  exact ⟨⟨fd, h1.imp iso_sp, h2⟩, t.kp⟩
theorem FT.up (t : FT P w K mg base k ps c f) {j : Nat} (h : k ≤ j) : FT P w K mg base j ps c f := by
  obtain ⟨fd, h1, h2⟩ := t.ex
  exact ⟨⟨fd, h1.mono h, h2⟩, t.kp⟩
theorem slots0_rel {G : Ev} {r F : List Addr} {H : Hp} {ds : List D} {vs : List V} (hd : DenL G r F H ds vs) (N : List Str) : SlR G r F H (slots0 N.length ds) (L2.start N vs) := by
  have hl := hd.len
  unfold slots0 L2.start
  refine ⟨by simp [hl], fun i d hi => ?_⟩
  by_cases hlt : i < ds.length
  · rw [List.getElem?_append_left (by simpa using hlt), List.getElem?_map] at hi
    cases e : ds[i]? with
    | none => rw [e] at hi; cases hi
    | some d' =>
      rw [e] at hi; cases hi
      obtain ⟨v, h1, h2⟩ := hd.get e
      refine ⟨v, ?_, h2⟩
      rw [List.getElem?_append_left (by rw [List.length_map, ← hl]; exact hlt), List.getElem?_map, h1]
      rfl
  · rw [List.getElem?_append_right (by simpa using Nat.not_lt.mp hlt), List.getElem?_replicate] at hi
    split at hi <;> cases hi
/-- from a body -/
theorem FT.of_ok {x qual : Str} {params : Arguments} {body : List Stmt} {scope : Scope} {fd : FuncData} {N : List Str} {b : Ms} (F : FunD K x qual params body scope [] [] f fd) (S : FnScope N ps scope)
    (hb : ∀ (cdv : Value) (A : Around) (outer : List Env) (s : Shared) (H : Hp) (E : XK), Room k (A.deeper (envOfC qual scope s.heap.objs.size f cdv)) →
      PSs (cxOf (L2.CX P w) P w K mg base N qual scope f cdv A outer s H E) body (tS ⟨K, mg⟩ (WX0 E) b)) : FnOk P w K mg base (L2.CX P w) (k + 1) f fd ps (spD ⟨K, mg⟩ ps.length (runB N.length b)) := by
  refine F.ok S spD_len fun cdv A outer s H vs Q E hr h => ⟨_, hb cdv A outer s H E hr, ?_⟩
  obtain ⟨r, F', h, ds, g, hd, q⟩ := h
  unfold ckN at q
  by_cases z : ds.length = ps.length
  · rw [if_pos z] at q
    refine tS.of (slots0_rel hd N) g ?_
    unfold runB at q
    cases hr : b (slots0 N.length ds) h with
    | nx sl h' => rw [hr] at q; exact fun r' H' σ' e g' _ => q r' H' e g' _ .non
    | rt d h' => rw [hr] at q; exact fun r' H' v e g' hv => q r' H' e g' v hv
    | exc x a sl h' => rw [hr] at q; exact fun r' H' σ' cls y e g' _ hx => q r' H' cls y e g' hx
    | bk sl h' => rw [hr] at q; exact False.elim q
    | ct sl h' => rw [hr] at q; exact False.elim q
    | bad => rw [hr] at q; exact False.elim q
  · rw [if_neg z] at q; exact False.elim q
theorem FT.of {x qual : Str} {params : Arguments} {body : List Stmt} {scope : Scope} {fd : FuncData} {N : List Str} {b : Ms} (F : FunD K x qual params body scope [] [] f fd) (S : FnScope N ps scope) (bd : Binds K fd ps [] ∧ ∀ (s : Shared) (us : List Value), us.length = ps.length → BindsTo s fd ⟨us, []⟩ (ps.zip us))
    (hb : ∀ (cdv : Value) (A : Around) (outer : List Env) (s : Shared) (H : Hp) (E : XK), Room k (A.deeper (envOfC qual scope s.heap.objs.size f cdv)) →
      PSs (cxOf (L2.CX P w) P w K mg base N qual scope f cdv A outer s H E) body (tS ⟨K, mg⟩ (WX0 E) b)) : FT P w K mg base (k + 1) ps (runB N.length b) f := ⟨⟨fd, FT.of_ok F S hb, bd⟩, F.kp⟩
end

/-! ### calls -/
def mCall (n : Nat) (c : Fn) (fl : Mo (List D)) : Mo D := mBind fl fun ds => fun _ h => ckN n c ds h
section
variable {X : Cx} {W : WX} {k n : Nat} {ps : List Str} {c : Fn} {f C : Addr} {x m cn : Str} {p pos apos : Pos} {e o fe : Expr} {es : List Expr} {fl : Mo (List D)} {fo : Mo D}
theorem de_call (T : FT X.prog X.w X.K X.mg X.base k ps c f) (hr : Room k X.A) (hg : Gl X x) (hm : X.mg x = some (.ref f)) (tk : Takes X W) (ha : PA X (e :: es) (tA (evOf X) W fl))
    (hdb : (x == ("__debug__" : Str)) = false := by decide) (he : starEach (e :: es) X.env = (false, eval e X.env) :: starEach es X.env := by rfl) (hpl : (backTo pos (starEach es X.env)).any (·.1) = false := by rfl) (hn : ps.length = n := by rfl) :
    PE X (.Call (.Name x p) (e :: es) [] pos) (tE (evOf X) W (mCall n c fl)) := by
  subst hn
  obtain ⟨fd, h1, h2⟩ := T.ex
  refine (pe_callS h1 hr hg hm T.kp h2.1 (fun σ => passAt tk σ) ha hdb he hpl).imp fun σ H Q ⟨r, F, sl, h, s, g, q⟩ => ?_
  exact tA.of s g (q.bind.imp fun r1 H1 ds h1 e1 g1 q1 vs hvs => ⟨r1, F, h1, ds, g1, hvs, q1⟩)
theorem de_call0 (T : FT X.prog X.w X.K X.mg X.base k ps c f) (hr : Room k X.A) (hg : Gl X x) (hm : X.mg x = some (.ref f)) (tk : Takes X W) (hdb : (x == ("__debug__" : Str)) = false := by decide) (hn : ps.length = n := by rfl) :
    PE X (.Call (.Name x p) [] [] pos) (tE (evOf X) W (mCall n c mNil)) := by
  subst hn
  obtain ⟨fd, h1, h2⟩ := T.ex
  refine ⟨fun pins s σ H Q I ⟨r, F, sl, h, s', g, q⟩ => ?_⟩
  refine wpAny_Call_Name_kw (ld_glob I hg hm ?_ hdb)
  exact PySem.W.callWith_K0 I.kIn T.kp (run_fnS (us := []) h1 hr h2.1 (passAt tk σ) I .nil ⟨r, F, h, [], g, .nil, q⟩)
end
end CH

/-! CH5: operations on deep values. -/
namespace CH
open PySem PySem.Spec PyProof.Rows L2

/-! ### equality -/
mutual
/-- plain data of depth at most n -/
def pyOk : Nat → D → Bool
  | _, .non => true
  | _, .bl _ => true
  | _, .int _ => true
  | _, .str x => SeqAt.shaped (.str x)
  | n + 1, .tup xs => pyOkL n xs
  | n + 1, .lst xs => pyOkL n xs
  | _, _ => false
def pyOkL : Nat → List D → Bool
  | _, [] => true
  | n, d :: ds => pyOk n d && pyOkL n ds
end
mutual
def toPy : D → PyData
  | .non => .none
  | .bl b => .bool b
  | .int i => .int i
  | .str x => .str x
  | .tup xs => .tuple (toPyL xs)
  | .lst xs => .list (toPyL xs)
  | _ => .none
def toPyL : List D → List PyData
  | [] => []
  | d :: ds => toPy d :: toPyL ds
end
mutual
theorem dp_of {G : Ev} {r F : List Addr} {H : Hp} : ∀ (d : D) (n : Nat) (v : V), pyOk n d = true → Den G r F H d v → Dp G.K H v (toPy d)
  | .non, _, _, _, .non => .non
  | .bl _, _, _, _, .bl b => .bl b
  | .int _, _, _, _, .int b => .int b
  | .str _, _, _, _, .str b => .str b
  | .tup ds, n + 1, _, p, .tup h l => .tup h.sq (dpL_of ds n _ p l)
  | .lst ds, n + 1, _, p, .lst h _ l => .lst (SqL.of h) (dpL_of ds n _ p l)
  | .tup _, 0, _, p, _ => by cases p
  | .lst _, 0, _, p, _ => by cases p
  | .dic _ _, n, _, p, _ => by cases n <;> cases p
  | .ref _, n, _, p, _ => by cases n <;> cases p
  | .gl _, n, _, p, _ => by cases n <;> cases p
  | .ty _, n, _, p, _ => by cases n <;> cases p
  | .scr _, n, _, p, _ => by cases n <;> cases p
theorem dpL_of {G : Ev} {r F : List Addr} {H : Hp} : ∀ (ds : List D) (n : Nat) (vs : List V), pyOkL n ds = true → DenL G r F H ds vs → DpAll G.K H vs (toPyL ds)
  | [], _, _, _, .nil => .nil
  | d :: ds, n, _, p, .cons h t => by
    have p' : (pyOk n d && pyOkL n ds) = true := by cases n <;> exact p
    rw [Bool.and_eq_true] at p'
    exact .cons (dp_of d n _ p'.1 h) (dpL_of ds n _ p'.2 t)
end
mutual
theorem lay_of : ∀ (d : D) (n : Nat), pyOk n d = true → (toPy d).canLay0 = true ∧ (toPy d).depth ≤ n
  | .non, _, _ => ⟨rfl, Nat.zero_le _⟩
  | .bl _, _, _ => ⟨rfl, Nat.zero_le _⟩
  | .int _, _, _ => ⟨rfl, Nat.zero_le _⟩
  | .str x, n, p => ⟨SeqAt.canLay_of_shaped (d := .str x) (by cases n <;> exact p), Nat.zero_le _⟩
  | .tup ds, n + 1, p => by
    have h := layL_of ds n p
    exact ⟨h.1, by show PyData.depthAll (toPyL ds) + 1 ≤ n + 1; have := h.2; omega⟩
  | .lst ds, n + 1, p => by
    have h := layL_of ds n p
    exact ⟨h.1, by show PyData.depthAll (toPyL ds) + 1 ≤ n + 1; have := h.2; omega⟩
  | .tup _, 0, p => by cases p
  | .lst _, 0, p => by cases p
  | .dic _ _, n, p => by cases n <;> cases p
  | .ref _, n, p => by cases n <;> cases p
  | .gl _, n, p => by cases n <;> cases p
  | .ty _, n, p => by cases n <;> cases p
  | .scr _, n, p => by cases n <;> cases p
theorem layL_of : ∀ (ds : List D) (n : Nat), pyOkL n ds = true → PyData.canLayAll0 (toPyL ds) = true ∧ PyData.depthAll (toPyL ds) ≤ n
  | [], _, _ => ⟨rfl, Nat.zero_le _⟩
  | d :: ds, n, p => by
    have p' : (pyOk n d && pyOkL n ds) = true := by cases n <;> exact p
    rw [Bool.and_eq_true] at p'
    have h1 := lay_of d n p'.1
    have h2 := layL_of ds n p'.2
    refine ⟨by show (PyData.canLay0 (toPy d) && PyData.canLayAll0 (toPyL ds)) = true; rw [h1.1, h2.1]; rfl, ?_⟩
    show max (PyData.depth (toPy d)) (PyData.depthAll (toPyL ds)) ≤ n
    exact Nat.max_le.mpr ⟨h1.2, h2.2⟩
end
theorem shaped_of {d : D} (p : pyOk 40 d = true) : SeqAt.shaped (toPy d) = true := by
  obtain ⟨h1, h2⟩ := lay_of d 40 p
  unfold SeqAt.shaped
  rw [h1]
  exact decide_eq_true (by omega)
/-- == of scalars -/
def sclD : D → D → Option Bool
  | .str a, .str b => some (decide (a = b))
  | .int a, .int b => some (decide (a = b))
  | .bl a, .bl b => some (decide (a = b))
  | .non, .non => some true
  | .non, .int _ => some false
  | .int _, .non => some false
  | .non, .bl _ => some false
  | .bl _, .non => some false
  | .non, .str _ => some false
  | .str _, .non => some false
  | .int _, .str _ => some false
  | .str _, .int _ => some false
  | .bl _, .str _ => some false
  | .str _, .bl _ => some false
  | _, _ => none
def eqD (x y : D) : Option Bool := match sclD x y with
  | some b => some b
  | none => if (pyOk 40 x && pyOk 40 y) = true then some (PyData.eqv (toPy x) (toPy y)) else none
def blR (o : Option Bool) (h : MH) : Res D := match o with
  | some b => .ok (.bl b) h
  | none => .bad
def oEq : D → D → MH → Res D := fun x y h => blR (eqD x y) h
def oNe : D → D → MH → Res D := fun x y h => blR ((eqD x y).map not) h
def rEqA (K : PySem.W.Frag) : R2 := fun x y H Q => rEq x y H Q ∨ rEqD K x y H Q
def rNeA (K : PySem.W.Frag) : R2 := fun x y H Q => rNe x y H Q ∨ rNeD K x y H Q
theorem scl_ok {G : Ev} {r F : List Addr} {H : Hp} {x y : D} {v u : V} {b : Bool} (e : sclD x y = some b) (hx : Den G r F H x v) (hy : Den G r F H y u) : scal v u = true ∧ decide (v = u) = b := by
  cases hx <;> cases hy <;> first | (simp [sclD] at e; done) | (simp only [sclD, Option.some.injEq] at e; subst e; exact ⟨rfl, by simp⟩)
theorem ops_eq {G : Ev} : OpS G (rEqA G.K) oEq := fun W σ r F H h x y v u Q g hx hy q => by
  unfold oEq eqD at q
  cases e : sclD x y with
  | some b =>
    rw [e] at q
    obtain ⟨h1, h2⟩ := scl_ok e hx hy
    exact .inl ⟨h1, by rw [h2]; exact q.here g _ (.bl b)⟩
  | none =>
    rw [e] at q
    by_cases z : (pyOk 40 x && pyOk 40 y) = true
    · have q : Aft G W F σ r H (blR (if (pyOk 40 x && pyOk 40 y) = true then some (PyData.eqv (toPy x) (toPy y)) else none) h) _ := q
      rw [if_pos z] at q
      rw [Bool.and_eq_true] at z
      exact .inr ⟨toPy x, toPy y, dp_of _ _ _ z.1 hx, dp_of _ _ _ z.2 hy, shaped_of z.1, shaped_of z.2, q.here g _ (.bl _)⟩
    · have q : Aft G W F σ r H (blR (if (pyOk 40 x && pyOk 40 y) = true then some (PyData.eqv (toPy x) (toPy y)) else none) h) _ := q
      rw [if_neg z] at q
      exact False.elim q
theorem ops_ne {G : Ev} : OpS G (rNeA G.K) oNe := fun W σ r F H h x y v u Q g hx hy q => by
  unfold oNe eqD at q
  cases e : sclD x y with
  | some b =>
    rw [e] at q
    obtain ⟨h1, h2⟩ := scl_ok e hx hy
    exact .inl ⟨h1, by rw [h2]; exact q.here g _ (.bl _)⟩
  | none =>
    rw [e] at q
    by_cases z : (pyOk 40 x && pyOk 40 y) = true
    · have q : Aft G W F σ r H (blR ((if (pyOk 40 x && pyOk 40 y) = true then some (PyData.eqv (toPy x) (toPy y)) else none).map not) h) _ := q
      rw [if_pos z] at q
      rw [Bool.and_eq_true] at z
      exact .inr ⟨toPy x, toPy y, dp_of _ _ _ z.1 hx, dp_of _ _ _ z.2 hy, shaped_of z.1, shaped_of z.2, q.here g _ (.bl _)⟩
    · have q : Aft G W F σ r H (blR ((if (pyOk 40 x && pyOk 40 y) = true then some (PyData.eqv (toPy x) (toPy y)) else none).map not) h) _ := q
      rw [if_neg z] at q
      exact False.elim q
theorem opr_eq {X : Cx} {k : Nat} (hr : Room k X.A) : OpR X (compareOp .Eq) (rEqA X.K) := OpR.or op_eq (op_eqD hr.units)
theorem opr_ne {X : Cx} {k : Nat} (hr : Room k X.A) : OpR X (compareOp .NotEq) (rNeA X.K) := OpR.or op_ne (op_neD hr.units)

/-! ### in -/
def inD (x : D) : D → Option Bool
  | .lst ys => if (pyOk 40 x && pyOk 40 (.lst ys)) = true then some ((toPyL ys).any fun z => PyData.eqv z (toPy x)) else none
  | .tup ys => if (pyOk 40 x && pyOk 40 (.tup ys)) = true then some ((toPyL ys).any fun z => PyData.eqv z (toPy x)) else none
  | _ => none
def oIn : D → D → MH → Res D := fun x y h => blR (inD x y) h
def oNi : D → D → MH → Res D := fun x y h => blR ((inD x y).map not) h
def rInTD (K : PySem.W.Frag) : R2 := fun x y H Q => ∃ d ds, Dp K H x d ∧ Dp K H y (.tuple ds) ∧ SeqAt.shaped d = true ∧ SeqAt.shaped (.tuple ds) = true ∧ Q (.bl (ds.any fun z => PyData.eqv z d)) H
def rNiTD (K : PySem.W.Frag) : R2 := fun x y H Q => ∃ d ds, Dp K H x d ∧ Dp K H y (.tuple ds) ∧ SeqAt.shaped d = true ∧ SeqAt.shaped (.tuple ds) = true ∧ Q (.bl (!ds.any fun z => PyData.eqv z d)) H
theorem room_in2 {A : Around} {d : PyData} {n : Nat} (h : SeqAt.shaped d = true) (hu : A.units + 65 < cLine) : A.units + 1 + min n d.depth < cLine := by
  have h1 := SeqAt.depth_of_shaped h
  have h2 : min n d.depth ≤ d.depth := Nat.min_le_right _ _
  omega
section
variable {X : Cx}
theorem op_inTD (hu : X.A.units + 65 < cLine) : OpR X (compareOp .In) (rInTD X.K) := by
  intro pins s σ H x y v u Q I rx ry h
  obtain ⟨d, ds, hd, he, sd, se, q⟩ := h
  obtain ⟨as, r1⟩ := Dp.reads I d x v hd rx
  obtain ⟨bs, r2⟩ := Dp.reads I (.tuple ds) y u he ry
  exact SeqAt.in_tuple_reads r2 r1 (SeqAt.canLay_of_shaped se) (SeqAt.canLay_of_shaped sd) (room_in2 sd hu) ⟨.bl _, H, I, rfl, q⟩
theorem op_niTD (hu : X.A.units + 65 < cLine) : OpR X (compareOp .NotIn) (rNiTD X.K) := by
  intro pins s σ H x y v u Q I rx ry h
  obtain ⟨d, ds, hd, he, sd, se, q⟩ := h
  obtain ⟨as, r1⟩ := Dp.reads I d x v hd rx
  obtain ⟨bs, r2⟩ := Dp.reads I (.tuple ds) y u he ry
  exact SeqAt.notIn_tuple_reads r2 r1 (SeqAt.canLay_of_shaped se) (SeqAt.canLay_of_shaped sd) (room_in2 sd hu) ⟨.bl _, H, I, rfl, q⟩
end
def rInA (K : PySem.W.Frag) : R2 := fun x y H Q => rInD K x y H Q ∨ rInTD K x y H Q
def rNiA (K : PySem.W.Frag) : R2 := fun x y H Q => rNotInD K x y H Q ∨ rNiTD K x y H Q
theorem ops_in {G : Ev} : OpS G (rInA G.K) oIn := fun W σ r F H h x y v u Q g hx hy q => by
  unfold oIn inD at q
  cases y with
  | lst ys =>
    by_cases z : (pyOk 40 x && pyOk 40 (.lst ys)) = true
    · simp only [if_pos z] at q
      rw [Bool.and_eq_true] at z
      exact .inl ⟨toPy x, toPyL ys, dp_of _ _ _ z.1 hx, dp_of _ _ _ z.2 hy, shaped_of z.1, shaped_of z.2, q.here g _ (.bl _)⟩
    · simp only [if_neg z] at q
      exact False.elim q
  | tup ys =>
    by_cases z : (pyOk 40 x && pyOk 40 (.tup ys)) = true
    · simp only [if_pos z] at q
      rw [Bool.and_eq_true] at z
      exact .inr ⟨toPy x, toPyL ys, dp_of _ _ _ z.1 hx, dp_of _ _ _ z.2 hy, shaped_of z.1, shaped_of z.2, q.here g _ (.bl _)⟩
    · simp only [if_neg z] at q
      exact False.elim q
  | _ => exact False.elim q
theorem ops_ni {G : Ev} : OpS G (rNiA G.K) oNi := fun W σ r F H h x y v u Q g hx hy q => by
  unfold oNi inD at q
  cases y with
  | lst ys =>
    by_cases z : (pyOk 40 x && pyOk 40 (.lst ys)) = true
    · simp only [if_pos z] at q
      rw [Bool.and_eq_true] at z
      exact .inl ⟨toPy x, toPyL ys, dp_of _ _ _ z.1 hx, dp_of _ _ _ z.2 hy, shaped_of z.1, shaped_of z.2, q.here g _ (.bl _)⟩
    · simp only [if_neg z] at q
      exact False.elim q
  | tup ys =>
    by_cases z : (pyOk 40 x && pyOk 40 (.tup ys)) = true
    · simp only [if_pos z] at q
      rw [Bool.and_eq_true] at z
      exact .inr ⟨toPy x, toPyL ys, dp_of _ _ _ z.1 hx, dp_of _ _ _ z.2 hy, shaped_of z.1, shaped_of z.2, q.here g _ (.bl _)⟩
    · simp only [if_neg z] at q
      exact False.elim q
  | _ => exact False.elim q
theorem opr_in {X : Cx} {k : Nat} (hr : Room k X.A) : OpR X (compareOp .In) (rInA X.K) := OpR.or (op_inD (by have := hr.un; omega)) (op_inTD (by have := hr.un; omega))
theorem opr_ni {X : Cx} {k : Nat} (hr : Room k X.A) : OpR X (compareOp .NotIn) (rNiA X.K) := OpR.or (op_notInD (by have := hr.un; omega)) (op_niTD (by have := hr.un; omega))

/-! ### is -/
def oIsN : D → D → MH → Res D := fun x y h => match y with
  | .non => match x with
    | .non => .ok (.bl true) h
    | _ => .ok (.bl false) h
  | _ => .bad
def oNotN : D → D → MH → Res D := fun x y h => match y with
  | .non => match x with
    | .non => .ok (.bl false) h
    | _ => .ok (.bl true) h
  | _ => .bad
def oIsB : D → D → MH → Res D := fun x y h => match x, y with
  | .bl a, .bl b => .ok (.bl (decide (a = b))) h
  | _, _ => .bad
def oNotB : D → D → MH → Res D := fun x y h => match x, y with
  | .bl a, .bl b => .ok (.bl (!decide (a = b))) h
  | _, _ => .bad
theorem ops_isN {G : Ev} : OpS G (fun x y H Q => y = .non ∧ Q (.bl (decide (x = .non))) H) oIsN := fun W σ r F H h x y v u Q g hx hy q => by
  cases hy with
  | non =>
    refine ⟨rfl, ?_⟩
    cases hx <;> exact q.here g _ (.bl _)
  | _ => exact False.elim q
theorem ops_notN {G : Ev} : OpS G (fun x y H Q => y = .non ∧ Q (.bl (!decide (x = .non))) H) oNotN := fun W σ r F H h x y v u Q g hx hy q => by
  cases hy with
  | non =>
    refine ⟨rfl, ?_⟩
    cases hx <;> exact q.here g _ (.bl _)
  | _ => exact False.elim q
theorem ops_isB {G : Ev} : OpS G rIsB oIsB := fun W σ r F H h x y v u Q g hx hy q => by
  cases hx <;> cases hy <;> first | exact False.elim q | exact ⟨_, _, rfl, rfl, q.here g _ (.bl _)⟩
theorem ops_notB {G : Ev} : OpS G rNotB oNotB := fun W σ r F H h x y v u Q g hx hy q => by
  cases hx <;> cases hy <;> first | exact False.elim q | exact ⟨_, _, rfl, rfl, q.here g _ (.bl _)⟩

/-! ### ints -/
def oI (f : Int → Int → D) : D → D → MH → Res D := fun x y h => match x, y with
  | .int i, .int j => .ok (f i j) h
  | _, _ => .bad
theorem ops_I {G : Ev} {f : Int → Int → D} {g : Int → Int → V} (hf : ∀ i j r F H, Den G r F H (f i j) (g i j)) : OpS G (rI0 g) (oI f) := fun W σ r F H h x y v u Q gd hx hy q => by
  cases hx <;> cases hy <;> first | exact False.elim q | exact ⟨_, _, rfl, rfl, q.here gd _ (hf _ _ _ _ _)⟩
def oIc (c : Int → Int → Bool) (f : Int → Int → D) : D → D → MH → Res D := fun x y h => match x, y with
  | .int i, .int j => if c i j = true then .ok (f i j) h else .bad
  | _, _ => .bad
theorem ops_Ic {G : Ev} {c : Int → Int → Bool} {C : Int → Int → Prop} {f : Int → Int → D} {g : Int → Int → V} (hc : ∀ i j, c i j = true → C i j) (hf : ∀ i j r F H, Den G r F H (f i j) (g i j)) : OpS G (rI C g) (oIc c f) := fun W σ r F H h x y v u Q gd hx hy q => by
  cases hx <;> cases hy <;> first
    | exact False.elim q
    | (rename_i i j
       have q : Aft G W F σ r H (if c i j = true then .ok (f i j) h else .bad) _ := q
       by_cases z : c i j = true
       · rw [if_pos z] at q
         exact ⟨_, _, rfl, rfl, hc _ _ z, q.here gd _ (hf _ _ _ _ _)⟩
       · rw [if_neg z] at q
         exact False.elim q)
def oSub := oI fun i j => .int (i - j)
def oLt := oI fun i j => .bl (decide (i < j))
def oLe := oI fun i j => .bl (decide (i ≤ j))
def oGt := oI fun i j => .bl (decide (j < i))
def oGe := oI fun i j => .bl (decide (j ≤ i))
def cDiv (i j : Int) : Bool := decide (0 < j) && decide (j < 1073741824)
def oDiv := oIc cDiv fun i j => .int (i / j)
def oMod := oIc (fun _ j => decide (0 < j)) fun i j => .int (i % j)
def cPow (i j : Int) : Bool := decide (0 ≤ j) && decide (j ≤ 1000) && decide (i.natAbs ≤ 1000)
def oPow := oIc cPow fun i j => .int (i ^ j.toNat)
theorem ops_sub {G : Ev} : OpS G (rI0 fun i j => .int (i - j)) oSub := ops_I fun _ _ _ _ _ => .int _
theorem ops_lt {G : Ev} : OpS G (rI0 fun i j => .bl (decide (i < j))) oLt := ops_I fun _ _ _ _ _ => .bl _
theorem ops_le {G : Ev} : OpS G (rI0 fun i j => .bl (decide (i ≤ j))) oLe := ops_I fun _ _ _ _ _ => .bl _
theorem ops_gt {G : Ev} : OpS G (rI0 fun i j => .bl (decide (j < i))) oGt := ops_I fun _ _ _ _ _ => .bl _
theorem ops_ge {G : Ev} : OpS G (rI0 fun i j => .bl (decide (j ≤ i))) oGe := ops_I fun _ _ _ _ _ => .bl _
theorem ops_div {G : Ev} : OpS G (rI CDiv fun i j => .int (i / j)) oDiv := ops_Ic (fun i j h => by
  unfold cDiv at h
  rw [Bool.and_eq_true] at h
  exact ⟨of_decide_eq_true h.1, of_decide_eq_true h.2⟩) fun _ _ _ _ _ => .int _
theorem ops_mod {G : Ev} : OpS G (rI (fun _ j => 0 < j) fun i j => .int (i % j)) oMod := ops_Ic (fun i j h => of_decide_eq_true h) fun _ _ _ _ _ => .int _
theorem ops_pow {G : Ev} : OpS G (rI CPow fun i j => .int (i ^ j.toNat)) oPow := ops_Ic (fun i j h => by
  unfold cPow at h
  rw [Bool.and_eq_true, Bool.and_eq_true] at h
  have h1 := of_decide_eq_true h.1.1
  have h2 := of_decide_eq_true h.1.2
  have h3 := of_decide_eq_true h.2
  exact ⟨h1, by omega, by omega⟩) fun _ _ _ _ _ => .int _
def cMul (i j : Int) : Bool := (decide (-1000000000 < i) && decide (i < 1000000000)) || (decide (-1000000000 < j) && decide (j < 1000000000))

/-! ### + and * -/
def oAdd : D → D → MH → Res D := fun x y h => match x, y with
  | .int i, .int j => .ok (.int (i + j)) h
  | .str a, .str b => if a.length + b.length ≤ lim then .ok (.str (a ++ b)) h else .bad
  | .tup xs, .tup ys => if xs.length + ys.length ≤ lim then .ok (.tup (xs ++ ys)) h else .bad
  | .lst xs, .lst ys => if xs.length + ys.length ≤ lim then .ok (.lst (xs ++ ys)) h else .bad
  | _, _ => .bad
def rAddS : R2 := fun x y H Q => ∃ i j, x = .str i ∧ y = .str j ∧ i.length + j.length ≤ sizeLine ∧ Q (.str (i ++ j)) H
def rAddA (K : PySem.W.Frag) : R2 := fun x y H Q => rI0 (fun i j => .int (i + j)) x y H Q ∨ (rAddS x y H Q ∨ (rCatA K x y H Q ∨ rCat x y H Q))
end CH

/-! CH6: +, *, subscripts, calls of built-ins, dicts. -/
namespace CH
open PySem PySem.Spec PyProof.Rows L2

theorem ops_add {G : Ev} : OpS G (rAddA G.K) oAdd := fun W σ r F H h x y v u Q g hx hy q => by
  cases hx <;> cases hy <;> try exact False.elim q
  · exact .inl ⟨_, _, rfl, rfl, q.here g _ (.int _)⟩
  · rename_i a b
    have q : Aft G W F σ r H (if a.length + b.length ≤ lim then Res.ok (D.str (a ++ b)) h else .bad) _ := q
    by_cases z : a.length + b.length ≤ lim
    · rw [if_pos z] at q
      exact .inr (.inl ⟨_, _, rfl, rfl, lim_ok z, q.here g _ (.str _)⟩)
    · rw [if_neg z] at q; exact False.elim q
  · rename_i xs _ h1 l1 _ ys _ h2 l2
    have q : Aft G W F σ r H (if xs.length + ys.length ≤ lim then Res.ok (D.tup (xs ++ ys)) h else .bad) _ := q
    by_cases z : xs.length + ys.length ≤ lim
    · rw [if_pos z] at q
      refine .inr (.inr (.inl ⟨_, _, _, _, rfl, rfl, h1.sq, h2.sq, by rw [← l1.len, ← l2.len]; exact lim_ok z, fun e => ?_, fun _ e => ?_, fun _ _ p hp => ?_⟩))
      · subst e
        cases l1
        exact q.here g _ (.tup h2 l2)
      · subst e
        cases l2
        exact q.here g _ (.tup h1 (by simpa using l1))
      · exact q.hereS g (same_new hp) _ (new_tup g (l1.app l2) hp)
    · rw [if_neg z] at q; exact False.elim q
  · rename_i xs _ h1 n1 l1 _ ys _ h2 n2 l2
    have q : Aft G W F σ r H (if xs.length + ys.length ≤ lim then Res.ok (D.lst (xs ++ ys)) h else .bad) _ := q
    by_cases z : xs.length + ys.length ≤ lim
    · rw [if_pos z] at q
      exact .inr (.inr (.inr ⟨_, _, _, _, rfl, rfl, h1, h2, by rw [← l1.len, ← l2.len]; exact lim_ok z, fun p hp => q.hereS g (same_new hp) _ (new_lst g (l1.app l2) hp)⟩))
    · rw [if_neg z] at q; exact False.elim q
theorem opr_add {X : Cx} : OpR X (binaryOp .Add) (rAddA X.K) := OpR.or op_add (OpR.or op_add_str (OpR.or op_catA op_cat))
def oMul := oIc cMul fun i j => .int (i * j)
theorem ops_mul {G : Ev} : OpS G (rI CMul fun i j => .int (i * j)) oMul := ops_Ic (fun i j h => by
  unfold cMul at h
  rw [Bool.or_eq_true, Bool.and_eq_true, Bool.and_eq_true] at h
  rcases h with ⟨h1, h2⟩ | ⟨h1, h2⟩
  · have h1 := of_decide_eq_true h1
    have h2 := of_decide_eq_true h2
    exact .inl ⟨by omega, by omega⟩
  · have h1 := of_decide_eq_true h1
    have h2 := of_decide_eq_true h2
    exact .inr ⟨by omega, by omega⟩) fun _ _ _ _ _ => .int _

/-! ### a chain of two comparisons -/
def mChain (g g' : D → D → MH → Res D) (a b c : Mo D) : Mo D := mBind a fun x => mBind b fun y => fun sl h => bindR (g x y h) fun z h1 => match z with
  | .bl true => bindR (c sl h1) fun w h2 => g' y w h2
  | .bl false => .ok (.bl false) h1
  | _ => .bad
section
variable {X : Cx} {W : WX} {pos : Pos} {a b c : Expr} {es : List Expr} {fa fb fc : Mo D} {fl : Mo (List D)}
theorem chain_of {op op' : CmpOp} {rr rr' : R2} {g g' : D → D → MH → Res D} (hs : OpS (evOf X) rr g) (hs' : OpS (evOf X) rr' g') (σ : L2.St) (H : Hp) (Q : VK) (q : tE (evOf X) W (mChain g g' fa fb fc) σ H Q) : tChain rr rr' (tE (evOf X) W fa) (tE (evOf X) W fb) (tE (evOf X) W fc) σ H Q := by
  obtain ⟨r, F, sl, h, s, gd, q⟩ := q
  refine tE.of s gd (q.bind.imp fun r1 H1 x h1 e1 g1 q1 v hv => ?_)
  refine tE.of (s.mono gd.mine e1) g1 (q1.bind.imp fun r2 H2 y h2 e2 g2 q2 u hu => ?_)
  have hv2 := Den.mono g1.mine e2 _ _ hv
  refine hs W σ r2 F H2 h2 x y v u _ g2 hv2 hu (q2.bind.imp fun r3 H3 z h3 e3 g3 q3 w hw => ?_)
  cases hw with
  | bl k =>
    refine ⟨k, rfl, ?_⟩
    cases k with
    | false => exact q3.here g3 _ (.bl false)
    | true =>
      refine tE.of ((((s.mono gd.mine e1).mono g1.mine e2)).mono g2.mine e3) g3 (q3.bind.imp fun r4 H4 z' h4 e4 g4 q4 w' hw' => ?_)
      exact hs' W σ r4 F H4 h4 y z' u w' Q g4 (Den.mono g3.mine e4 _ _ (Den.mono g2.mine e3 _ _ hu)) hw' q4
  | _ => exact False.elim q3
theorem de_chain {op op' : CmpOp} {rr rr' : R2} {g g' : D → D → MH → Res D} (ho : OpR X (compareOp op) rr) (hs : OpS (evOf X) rr g) (ho' : OpR X (compareOp op') rr') (hs' : OpS (evOf X) rr' g') (ha : PE X a (tE (evOf X) W fa)) (hb : PE X b (tE (evOf X) W fb)) (hc : PE X c (tE (evOf X) W fc))
    (hm : lastMarks [op, op'] [b, c] = false := by with_unfolding_all rfl) : PE X (.Compare a [op, op'] [b, c] pos) (tE (evOf X) W (mChain g g' fa fb fc)) := (pe_chain ho ho' ha hb hc hm).imp (chain_of (op := op) (op' := op') hs hs')
theorem dt_chain {op op' : CmpOp} {rr rr' : R2} {g g' : D → D → MH → Res D} (ho : OpR X (compareOp op) rr) (hs : OpS (evOf X) rr g) (ho' : OpR X (compareOp op') rr') (hs' : OpS (evOf X) rr' g') (ha : PE X a (tE (evOf X) W fa)) (hb : PE X b (tE (evOf X) W fb)) (hc : PE X c (tE (evOf X) W fc))
    (hm : lastMarks [op, op'] [b, c] = false := by with_unfolding_all rfl) : PT X (.Compare a [op, op'] [b, c] pos) (tT (evOf X) W (mTest (mChain g g' fa fb fc))) := (pt_chain ho ho' ha hb hc hm).imp fun σ H Q ⟨r, F, sl, h, s, gd, q⟩ =>
  chain_of (W := W) (op := op) (op' := op') hs hs' σ H _ (tE.of s gd (q.bind.imp fun r1 H1 x h1 e1 g1 q1 v hv => test_of g1 hv q1))

/-! ### subscripts of sequences -/
def oLst : Option O → Option (List D)
  | some (.lst xs) => some xs
  | _ => none
theorem oLst_some {o : Option O} {xs : List D} (e : oLst o = some xs) : o = some (.lst xs) := by
  cases o with
  | none => cases e
  | some o => cases o with
    | lst ys => cases e; rfl
    | _ => cases e
def ixD (h : MH) (i : Int) : D → Option D
  | .tup xs => atI xs i
  | .lst xs => atI xs i
  | .scr ns => (atI ns i).map D.int
  | .ref k => (oLst h[k]?).bind fun xs => atI xs i
  | _ => none
def oIx : D → D → MH → Res D := fun x y h => match y with
  | .int i => optR (ixD h i x) h
  | _ => .bad
def rIxA (K : PySem.W.Frag) : R2 := fun x y H Q => rIxL K x y H Q ∨ rIxT K x y H Q
theorem ixr {X : Cx} : IxR X (rIxA X.K) := ix_list.or ix_tup
theorem atI_den {G : Ev} {r F : List Addr} {H : Hp} {ds : List D} {vs : List V} {i : Int} {d : D} (l : DenL G r F H ds vs) (e : atI ds i = some d) : ∃ v, atI vs i = some v ∧ Den G r F H d v := by
  unfold atI at e ⊢
  rw [← l.len]
  cases hx : ixN ds.length i with
  | none => rw [hx] at e; cases e
  | some j =>
    rw [hx] at e
    obtain ⟨v, h1, h2⟩ := l.get (i := j) e
    exact ⟨v, h1, h2⟩
theorem atI_map {α β : Type} (f : α → β) (xs : List α) (i : Int) : atI (xs.map f) i = (atI xs i).map f := by
  unfold atI
  rw [List.length_map]
  cases ixN xs.length i with
  | none => rfl
  | some j => simp
theorem optR_ok {α : Type} {G : Ev} {W : WX} {r F : List Addr} {H : Hp} {σ : L2.St} {h : MH} {o : Option α} {Q : List Addr → Hp → α → MH → Prop} (q : Aft G W F σ r H (optR o h) Q) : ∃ a, o = some a ∧ Aft G W F σ r H (.ok a h) Q := by
  cases o with
  | none => exact False.elim q
  | some a => exact ⟨a, rfl, q⟩
theorem scr_sq {K : PySem.W.Frag} {H : Hp} {a : Addr} {vs : List V} (hq : (∃ o, H a = some (.frz o (.lst vs))) ∨ SqL K (fun _ => none) a vs) : SqL K H a vs := by
  rcases hq with ⟨o, hq⟩ | hq
  · exact .inl (.inr ⟨o, hq⟩)
  · rcases hq with (hq | ⟨o, hq⟩) | hq
    · cases hq
    · cases hq
    · exact .inr hq
theorem ops_ix {G : Ev} : OpS G (rIxA G.K) oIx := fun W σ r F H h x y v u Q g hx hy q => by
  cases hy with
  | int i =>
    obtain ⟨d, e, qq⟩ := optR_ok (show Aft G W F σ r H (optR (ixD h i x) h) _ from q)
    cases hx with
    | tup hq hl =>
      obtain ⟨v, h1, h2⟩ := atI_den hl e
      exact .inr ⟨_, _, i, v, rfl, rfl, hq.sq, h1, qq.here g _ h2⟩
    | lst hq hn hl =>
      obtain ⟨v, h1, h2⟩ := atI_den hl e
      exact .inl ⟨_, _, i, v, rfl, rfl, SqL.of hq, h1, qq.here g _ h2⟩
    | scr hq =>
      rename_i a ns
      have e : (atI ns i).map D.int = some d := e
      cases hn : atI ns i with
      | none => rw [hn] at e; cases e
      | some n =>
        rw [hn] at e; cases e
        exact .inl ⟨a, ns.map V.int, i, .int n, rfl, rfl, scr_sq hq, by rw [atI_map, hn]; rfl, qq.here g _ (.int n)⟩
    | ref hk =>
      rename_i k a
      have e : ((oLst h[k]?).bind fun xs => atI xs i) = some d := e
      cases ho : oLst h[k]? with
      | none => rw [ho] at e; cases e
      | some xs =>
        rw [ho] at e
        obtain ⟨a', ea, vs, h1, h2⟩ := g.ob k _ (oLst_some ho)
        rw [hk] at ea; cases ea
        obtain ⟨v, h3, h4⟩ := atI_den h2 e
        exact .inl ⟨_, _, i, v, rfl, rfl, SqL.of h1, h3, qq.here g _ h4⟩
    | _ => cases e
  | _ => exact False.elim q
theorem de_ix {g : D → D → MH → Res D} {rr : R2} (ho : IxR X rr) (hs' : OpS (evOf X) rr g) (ha : PE X a (tE (evOf X) W fa)) (hb : PE X b (tE (evOf X) W fb)) (hs : PlainIx b) : PE X (.Subscript a b pos) (tE (evOf X) W (mOp g fa fb)) :=
  (pe_ix ho ha hb hs).imp fun σ H Q ⟨r, F, sl, h, s, g, q⟩ => by
    refine tE.of s g (q.bind.imp fun r1 H1 x h1 e1 g1 q1 v hv => ?_)
    refine tE.of (s.mono g.mine e1) g1 (q1.bind.imp fun r2 H2 y h2 e2 g2 q2 u hu => ?_)
    exact hs' W σ r2 F H2 h2 x y v u Q g2 (Den.mono g1.mine e2 _ _ hv) hu q2

/-! ### built-in functions, by values -/
def CallS (G : Ev) (rr : List V → Hp → VK → Prop) (g : List D → MH → Res D) : Prop := ∀ (W : WX) (σ : L2.St) (r F : List Addr) (H : Hp) (h : MH) (ds : List D) (vs : List V) (Q : VK), GoodH G r F h H → DenL G r F H ds vs →
  Aft G W F σ r H (g ds h) (fun r' H' d _ => ∀ z, Den G r' F H' d z → Q z H') → rr vs H Q
def mFn (g : List D → MH → Res D) (fl : Mo (List D)) : Mo D := mBind fl fun ds => fun _ h => g ds h
theorem de_callB {id : String} {x : Str} {p : Pos} {rr : List V → Hp → VK → Prop} {g : List D → MH → Res D} (hc : CallR X (.builtin id) rr) (hs : CallS (evOf X) rr g) (hg : Gl X x) (hm : X.mg x = none) (hv : bootBuiltins x = some (.builtin id)) (ha : PA X (a :: es) (tA (evOf X) W fl)) (hn : x ≠ "__name__" := by decide) (hdb : (x == ("__debug__" : Str)) = false := by decide)
    (he : starEach (a :: es) X.env = (false, eval a X.env) :: starEach es X.env := by rfl) (hpl : (backTo pos (starEach es X.env)).any (·.1) = false := by rfl) : PE X (.Call (.Name x p) (a :: es) [] pos) (tE (evOf X) W (mFn g fl)) :=
  (pe_callB hc hg hm hv ha hn hdb he hpl).imp fun σ H Q ⟨r, F, sl, h, s, g, q⟩ => tA.of s g (q.bind.imp fun r1 H1 ds h1 e1 g1 q1 vs hvs => hs W σ r1 F H1 h1 ds vs Q g1 hvs q1)
theorem de_callTy {T : String} {x : Str} {p : Pos} {rr : List V → Hp → VK → Prop} {g : List D → MH → Res D} (hc : CallR X (.type T) rr) (hs : CallS (evOf X) rr g) (hg : Gl X x) (hm : X.mg x = none) (hv : bootBuiltins x = some (.type T)) (ha : PA X (a :: es) (tA (evOf X) W fl)) (hn : x ≠ "__name__" := by decide) (hdb : (x == ("__debug__" : Str)) = false := by decide)
    (he : starEach (a :: es) X.env = (false, eval a X.env) :: starEach es X.env := by rfl) (hpl : (backTo pos (starEach es X.env)).any (·.1) = false := by rfl) : PE X (.Call (.Name x p) (a :: es) [] pos) (tE (evOf X) W (mFn g fl)) :=
  (pe_callTy hc hg hm hv ha hn hdb he hpl).imp fun σ H Q ⟨r, F, sl, h, s, g, q⟩ => tA.of s g (q.bind.imp fun r1 H1 ds h1 e1 g1 q1 vs hvs => hs W σ r1 F H1 h1 ds vs Q g1 hvs q1)
/-- a name that stands for a type, a def | a class -/
theorem de_ty {x : Str} {n : String} (hg : Gl X x) (hm : X.mg x = none) (hv : bootBuiltins x = some (.type n)) (hn : x ≠ "__name__" := by decide) (hd : (x == ("__debug__" : Str)) = false := by decide) : PE X (.Name x pos) (tE (evOf X) W (mC (.ty n))) :=
  de_c (pe_bltn (v := .ty n) hg hm hv rfl hn hd) fun _ _ _ => .ty n
theorem de_gl {x : Str} {f : Addr} (hg : Gl X x) (hm : X.mg x = some (.ref f)) (hd : (x == ("__debug__" : Str)) = false := by decide) : PE X (.Name x pos) (tE (evOf X) W (mC (.gl x))) :=
  de_c (pe_glob (v := .ref f) hg hm rfl hd) fun _ _ _ => .gl hm
/-- a written constant of the module -/
def CoD (G : Ev) (x : Str) (d : D) : Prop := ∃ (u : Value) (v : V), G.mg x = some u ∧ RelV v u ∧ ∀ r F H, Den G r F H d v
theorem de_con {x : Str} {d : D} (hg : Gl X x) (hm : CoD (evOf X) x d) (hd : (x == ("__debug__" : Str)) = false := by decide) : PE X (.Name x pos) (tE (evOf X) W (mC d)) := by
  obtain ⟨u, v, h1, h2, h3⟩ := hm
  exact de_c (pe_glob (v := v) hg h1 h2 hd) h3
end

def lenD (h : MH) : D → Option Nat
  | .tup xs => some xs.length
  | .lst xs => some xs.length
  | .scr xs => some xs.length
  | .str x => if x.length ≤ lim then some x.length else none
  | .ref k => (oLst h[k]?).map List.length
  | _ => none
def fLen : List D → MH → Res D := fun ds h => match ds with
  | [x] => optR ((lenD h x).map fun n => .int (n : Nat)) h
  | _ => .bad
def rLenA (K : PySem.W.Frag) : List V → Hp → VK → Prop := fun xs H Q => (∃ p ys, xs = [.ref p] ∧ (SqL K H p ys ∨ SqT K H p ys) ∧ Q (.int ys.length) H) ∨ (∃ z, xs = [.str z] ∧ z.length ≤ sizeLine ∧ Q (.int z.length) H)
theorem calls_len {G : Ev} : CallS G (rLenA G.K) fLen := fun W σ r F H h ds vs Q g hd q => by
  match ds, hd with
  | [], _ => exact False.elim q
  | _ :: _ :: _, _ => exact False.elim q
  | [x], .cons hx .nil =>
    obtain ⟨d, e, qq⟩ := optR_ok (show Aft G W F σ r H (optR ((lenD h x).map fun n => D.int (n : Nat)) h) _ from q)
    cases hx with
    | tup hq hl =>
      cases e
      exact .inl ⟨_, _, rfl, .inr hq.sq, by rw [← hl.len]; exact qq.here g _ (.int _)⟩
    | lst hq hn hl =>
      cases e
      exact .inl ⟨_, _, rfl, .inl (SqL.of hq), by rw [← hl.len]; exact qq.here g _ (.int _)⟩
    | scr hq =>
      rename_i a ns
      cases e
      exact .inl ⟨a, ns.map V.int, rfl, .inl (scr_sq hq), by rw [List.length_map]; exact qq.here g _ (.int _)⟩
    | str z =>
      have e : ((if z.length ≤ lim then some z.length else none).map fun n => D.int (n : Nat)) = some d := e
      by_cases hz : z.length ≤ lim
      · rw [if_pos hz] at e
        cases e
        exact .inr ⟨z, rfl, lim_ok hz, qq.here g _ (.int _)⟩
      · rw [if_neg hz] at e
        cases e
    | ref hk =>
      rename_i k a
      have e : (((oLst h[k]?).map List.length).map fun n => D.int (n : Nat)) = some d := e
      cases ho : oLst h[k]? with
      | none => rw [ho] at e; cases e
      | some xs =>
        rw [ho] at e
        cases e
        obtain ⟨a', ea, vs, h1, h2⟩ := g.ob k _ (oLst_some ho)
        rw [hk] at ea; cases ea
        exact .inl ⟨_, _, rfl, .inl (SqL.of h1), by rw [← h2.len]; exact qq.here g _ (.int _)⟩
    | _ => cases e
theorem callr_len {X : Cx} : CallR X (.builtin "len") (rLenA X.K) := call_len_seq.or call_len_str
end CH

/-! CH7: built-ins, writes to objects, dicts, methods of built-in types. -/
namespace CH
open PySem PySem.Spec PyProof.Rows L2

/-! ### an object of ours is written -/
section
variable {G : Ev} {r F : List Addr} {H : Hp} {h : MH}
theorem Ext.upd {a : Addr} {o : HO} (ha : a ∈ r) : Ext r H r (upd H a o) := ⟨⟨[], by simp, fun _ z => by cases z⟩, fun b u e n => by rw [upd_ne (fun q => n (by rw [q]; exact ha))]; exact e⟩
theorem GoodH.set {k : Nat} {a : Addr} {o : O} {ho : HO} (g : GoodH G r F h H) (hk : r[k]? = some a) (mu : Mut (some ho)) (q : ODen G r F (upd H a ho) a o) : GoodH G r F (h.set k o) (upd H a ho) := by
  have ha : a ∈ r := List.mem_of_getElem? hk
  have e : Ext r H r (L2.upd H a ho) := Ext.upd ha
  refine ⟨by rw [List.length_set]; exact g.len, g.nd, fun b hb => ⟨?_, (g.fd b hb).2⟩, fun i o' hi => ?_⟩
  · rw [upd_ne (fun z => (g.fd b hb).2 (by rw [z]; exact ha))]
    exact (g.fd b hb).1
  · by_cases hik : k = i
    · subst hik
      have hl : k < h.length := by rw [← g.len]; exact (List.getElem?_eq_some_iff.mp hk).1
      rw [List.getElem?_set_self hl] at hi
      cases hi
      exact ⟨a, hk, q⟩
    · rw [List.getElem?_set_ne hik] at hi
      obtain ⟨b, eb, qb⟩ := g.ob i o' hi
      have ne : b ≠ a := fun z => by
        subst z
        have h1 := (List.getElem?_eq_some_iff.mp hk)
        have h2 := (List.getElem?_eq_some_iff.mp eb)
        obtain ⟨l1, e1⟩ := h1
        obtain ⟨l2, e2⟩ := h2
        exact hik ((List.getElem_inj g.nd).mp (e1.trans e2.symm))
      exact ⟨b, eb, ODen.mono g.mine e qb (upd_ne ne)⟩
end

/-! ### types -/
def tyD (h : MH) : D → Option String
  | .non => some "NoneType"
  | .bl _ => some "bool"
  | .int _ => some "int"
  | .str _ => some "str"
  | .tup _ => some "tuple"
  | .lst _ => some "list"
  | .scr _ => some "list"
  | .dic _ _ => some "dict"
  | .ref k => match h[k]? with
    | some (.lst _) => some "list"
    | some (.dic _ _) => some "dict"
    | _ => none
  | _ => none
/-- is a value of type t an n -/
def isiT (t n : String) : Option Bool :=
  if n = "int" then (if t = "int" ∨ t = "bool" then some true else if t = "NoneType" ∨ t = "str" ∨ t = "tuple" ∨ t = "list" ∨ t = "dict" then some false else none)
  else if n = "bool" ∨ n = "str" ∨ n = "tuple" ∨ n = "list" then (if t = n then some true else if t = "int" ∨ t = "bool" ∨ t = "NoneType" ∨ t = "str" ∨ t = "tuple" ∨ t = "list" ∨ t = "dict" then some false else none)
  else none
theorem isiT_ok {t n : String} {b : Bool} (e : isiT t n = some b) : kitB t n = some b := by
  have key : ∀ t ∈ ["int", "bool", "NoneType", "str", "tuple", "list", "dict"], ∀ n ∈ ["int", "bool", "str", "tuple", "list"], kitB t n = isiT t n := by decide +kernel
  have hn : n ∈ ["int", "bool", "str", "tuple", "list"] := by
    unfold isiT at e
    by_cases h1 : n = "int"
    · simp [h1]
    · rw [if_neg h1] at e
      by_cases h2 : n = "bool" ∨ n = "str" ∨ n = "tuple" ∨ n = "list"
      · rcases h2 with h2 | h2 | h2 | h2 <;> simp [h2]
      · rw [if_neg h2] at e; cases e
  have ht : t ∈ ["int", "bool", "NoneType", "str", "tuple", "list", "dict"] := by
    unfold isiT at e
    by_cases h1 : n = "int"
    · rw [if_pos h1] at e
      by_cases h3 : t = "int" ∨ t = "bool"
      · rcases h3 with h3 | h3 <;> simp [h3]
      · rw [if_neg h3] at e
        by_cases h4 : t = "NoneType" ∨ t = "str" ∨ t = "tuple" ∨ t = "list" ∨ t = "dict"
        · rcases h4 with h4 | h4 | h4 | h4 | h4 <;> simp [h4]
        · rw [if_neg h4] at e; cases e
    · rw [if_neg h1] at e
      by_cases h2 : n = "bool" ∨ n = "str" ∨ n = "tuple" ∨ n = "list"
      · rw [if_pos h2] at e
        by_cases h3 : t = n
        · rcases h2 with h2 | h2 | h2 | h2 <;> simp [h3, h2]
        · rw [if_neg h3] at e
          by_cases h4 : t = "int" ∨ t = "bool" ∨ t = "NoneType" ∨ t = "str" ∨ t = "tuple" ∨ t = "list" ∨ t = "dict"
          · rcases h4 with h4 | h4 | h4 | h4 | h4 | h4 | h4 <;> simp [h4]
          · rw [if_neg h4] at e; cases e
      · rw [if_neg h2] at e; cases e
  rw [key t ht n hn]; exact e
theorem ty_den {G : Ev} {r F : List Addr} {H : Hp} {h : MH} {x : D} {v : V} {t : String} (g : GoodH G r F h H) (hx : Den G r F H x v) (e : tyD h x = some t) : TyX G.K H v (.type t) := by
  cases hx with
  | non => cases e; exact .base .non
  | bl b => cases e; exact .base (.bl b)
  | int i => cases e; exact .base (.int i)
  | str x => cases e; exact .base (.str x)
  | tup hq hl =>
    cases e
    rcases hq with hq | hq
    · exact .base (.tup hq)
    · rcases hq with (hq | ⟨o, hq⟩) | ⟨o, its, n, h1, h2, _⟩
      · cases hq
      · cases hq
      · exact .kTuple h1 h2
  | lst hq hn hl => cases e; exact .base (.lst hq)
  | scr hq =>
    cases e
    rcases hq with ⟨o, hq⟩ | hq
    · exact .base (.frz hq)
    · rcases hq with (hq | ⟨o, hq⟩) | ⟨o, its, n, h1, h2, _⟩
      · cases hq
      · cases hq
      · exact .kList h1 h2
  | dic hq hn hl hd => cases e; exact .base (.dK hq)
  | ref hk =>
    rename_i k a
    cases ho : h[k]? with
    | none => unfold tyD at e; simp only [ho] at e; cases e
    | some o =>
      obtain ⟨a', ea, q⟩ := g.ob k _ ho
      rw [hk] at ea; cases ea
      cases o with
      | lst xs =>
        unfold tyD at e; simp only [ho] at e; cases e
        obtain ⟨vs, h1, _⟩ := q
        exact .base (.lst h1)
      | dic ks xs =>
        unfold tyD at e; simp only [ho] at e; cases e
        obtain ⟨vs, h1, _⟩ := q
        exact .base (.dK h1)
      | ins c ks xs => unfold tyD at e; simp only [ho] at e; cases e
  | ty n => cases e
  | gl hm => cases e
def isiL (t : String) : List D → Option Bool
  | [] => some false
  | .ty n :: cs => match isiT t n, isiL t cs with
    | some a, some b => some (a || b)
    | _, _ => none
  | _ :: _ => none
def isiV (t : String) : D → Option Bool
  | .ty n => isiT t n
  | .tup cs => isiL t cs
  | _ => none
def fIsi : List D → MH → Res D := fun ds h => match ds with
  | [x, c] => match tyD h x with
    | some t => blR (isiV t c) h
    | none => .bad
  | _ => .bad
def rIsiA (K : PySem.W.Frag) : List V → Hp → VK → Prop := fun xs H Q => rIsi K xs H Q ∨ (rIsiT K xs H Q ∨ rIsiK K xs H Q)
theorem isiL_ok {G : Ev} {r F : List Addr} {H : Hp} {t : String} : ∀ {cs : List D} {vs : List V} {b : Bool}, isiL t cs = some b → DenL G r F H cs vs → ∃ us : List Value, Paired ClsV vs us ∧ PySem.W.kitAny G.K (.type t) us = some b
  | [], _, b, e, .nil => by cases e; exact ⟨[], .nil, kitAny_nil⟩
  | .ty n :: cs, _, b, e, .cons h l => by
    cases h
    unfold isiL at e
    cases hn : isiT t n with
    | none => rw [hn] at e; cases e
    | some c =>
      cases hc : isiL t cs with
      | none => rw [hn, hc] at e; cases e
      | some c' =>
        rw [hn, hc] at e
        cases e
        obtain ⟨us, p, q⟩ := isiL_ok (cs := cs) hc l
        exact ⟨.type n :: us, .cons (.ty n) p, kitAny_cons (kit_ty (isiT_ok hn)) (fun z => by rw [z]; exact q) fun z => by rw [z]; rfl⟩
  | .non :: _, _, _, e, _ => by cases e
  | .bl _ :: _, _, _, e, _ => by cases e
  | .int _ :: _, _, _, e, _ => by cases e
  | .str _ :: _, _, _, e, _ => by cases e
  | .tup _ :: _, _, _, e, _ => by cases e
  | .lst _ :: _, _, _, e, _ => by cases e
  | .dic _ _ :: _, _, _, e, _ => by cases e
  | .ref _ :: _, _, _, e, _ => by cases e
  | .gl _ :: _, _, _, e, _ => by cases e
  | .scr _ :: _, _, _, e, _ => by cases e
theorem vals_of_cls {K : PySem.W.Frag} : ∀ {vs : List V} {us : List Value}, Paired ClsV vs us → Vals vs us
  | _, _, .nil => .nil
  | _, _, .cons (.ty n) t => .cons rfl (vals_of_cls (K := K) t)
  | _, _, .cons (.own C) t => .cons rfl (vals_of_cls (K := K) t)
theorem calls_isi {G : Ev} : CallS G (rIsiA G.K) fIsi := fun W σ r F H h ds vs Q g hd q => by
  match ds, hd with
  | [], _ => exact False.elim q
  | [_], _ => exact False.elim q
  | _ :: _ :: _ :: _, _ => exact False.elim q
  | [x, c], .cons hx (.cons hc .nil) =>
    have q0 : Aft G W F σ r H (match tyD h x with
      | some t => blR (isiV t c) h
      | none => .bad) (fun r' H' d _ => ∀ z, Den G r' F H' d z → Q z H') := q
    clear q
    cases ht : tyD h x with
    | none => rw [ht] at q0; exact False.elim q0
    | some t =>
      rw [ht] at q0
      have ty := ty_den g hx ht
      cases hb : isiV t c with
      | none =>
        have q0 : Aft G W F σ r H (blR (isiV t c) h) (fun r' H' d _ => ∀ z, Den G r' F H' d z → Q z H') := q0
        rw [hb] at q0; exact False.elim q0
      | some b =>
        have q0 : Aft G W F σ r H (blR (isiV t c) h) (fun r' H' d _ => ∀ z, Den G r' F H' d z → Q z H') := q0
        rw [hb] at q0
        have q1 := q0.here g _ (.bl b)
        cases hc with
        | ty n => exact .inl ⟨_, _, _, _, b, rfl, .ty n, ty, kit_ty (isiT_ok hb), q1⟩
        | tup hq hl =>
          obtain ⟨us, p1, p2⟩ := isiL_ok hb hl
          rcases hq with hq | hq
          · exact .inr (.inl ⟨_, _, _, _, us, b, rfl, hq, p1, ty, p2, q1⟩)
          · rcases hq with (hq | ⟨o, hq⟩) | ⟨o, its, n, h1, h2, h3, h4, h5⟩
            · cases hq
            · cases hq
            · have eu : its.toList = us := (ClsV.all p1 h5)
              obtain ⟨oc, od, dt, sl⟩ := o
              have h2 : oc = .type "tuple" := h2
              have h3 : dt = .seq its n := h3
              subst h2 h3
              exact .inr (.inr ⟨_, _, od, us, n, sl, _, b, rfl, by rw [← eu]; exact h1, ty, p2, q1⟩)
        | _ => cases hb
theorem callr_isi {X : Cx} : CallR X (.builtin "isinstance") (rIsiA X.K) := call_isi.or (call_isiT.or call_isiK)

/-! ### tuple, list, int, str, max, all, any -/
/-- the items of a list or tuple -/
def seqD (h : MH) : D → Option (List D)
  | .tup xs => some xs
  | .lst xs => some xs
  | .ref k => oLst h[k]?
  | _ => none
def fTuple : List D → MH → Res D := fun ds h => match ds with
  | [x] => optR ((seqD h x).map D.tup) h
  | _ => .bad
def fList : List D → MH → Res D := fun ds h => match ds with
  | [x] => optR ((seqD h x).map D.lst) h
  | _ => .bad
def rTupleA (K : PySem.W.Frag) : List V → Hp → VK → Prop := fun xs H Q => ∃ p ys, xs = [.ref p] ∧ ((SqL K H p ys ∧ ∀ l, H l = none → Q (.ref l) (upd H l (.tup ys))) ∨ (SqT K H p ys ∧ Q (.ref p) H))
def rListA (K : PySem.W.Frag) : List V → Hp → VK → Prop := fun xs H Q => ∃ p ys, xs = [.ref p] ∧ (SqL K H p ys ∨ SqT K H p ys) ∧ ∀ l, H l = none → Q (.ref l) (upd H l (.lst ys))
theorem calls_tuple {G : Ev} : CallS G (rTupleA G.K) fTuple := fun W σ r F H h ds vs Q g hd q => by
  match ds, hd with
  | [], _ => exact False.elim q
  | _ :: _ :: _, _ => exact False.elim q
  | [x], .cons hx .nil =>
    obtain ⟨d, e, qq⟩ := optR_ok (show Aft G W F σ r H (optR ((seqD h x).map D.tup) h) _ from q)
    clear q
    cases hx with
    | tup hq hl => cases e; exact ⟨_, _, rfl, .inr ⟨hq.sq, qq.here g _ (.tup hq hl)⟩⟩
    | lst hq hn hl => cases e; exact ⟨_, _, rfl, .inl ⟨SqL.of hq, fun p hp => qq.hereS g (same_new hp) _ (new_tup g hl hp)⟩⟩
    | ref hk =>
      rename_i k a
      have e : (oLst h[k]?).map D.tup = some d := e
      cases ho : oLst h[k]? with
      | none => rw [ho] at e; cases e
      | some xs =>
        rw [ho] at e
        cases e
        obtain ⟨a', ea, vs, h1, h2⟩ := g.ob k _ (oLst_some ho)
        rw [hk] at ea; cases ea
        exact ⟨_, _, rfl, .inl ⟨SqL.of h1, fun p hp => qq.hereS g (same_new hp) _ (new_tup g h2 hp)⟩⟩
    | _ => cases e
theorem calls_list {G : Ev} : CallS G (rListA G.K) fList := fun W σ r F H h ds vs Q g hd q => by
  match ds, hd with
  | [], _ => exact False.elim q
  | _ :: _ :: _, _ => exact False.elim q
  | [x], .cons hx .nil =>
    obtain ⟨d, e, qq⟩ := optR_ok (show Aft G W F σ r H (optR ((seqD h x).map D.lst) h) _ from q)
    clear q
    cases hx with
    | tup hq hl => cases e; exact ⟨_, _, rfl, .inr hq.sq, fun p hp => qq.hereS g (same_new hp) _ (new_lst g hl hp)⟩
    | lst hq hn hl => cases e; exact ⟨_, _, rfl, .inl (SqL.of hq), fun p hp => qq.hereS g (same_new hp) _ (new_lst g hl hp)⟩
    | ref hk =>
      rename_i k a
      have e : (oLst h[k]?).map D.lst = some d := e
      cases ho : oLst h[k]? with
      | none => rw [ho] at e; cases e
      | some xs =>
        rw [ho] at e
        cases e
        obtain ⟨a', ea, vs, h1, h2⟩ := g.ob k _ (oLst_some ho)
        rw [hk] at ea; cases ea
        exact ⟨_, _, rfl, .inl (SqL.of h1), fun p hp => qq.hereS g (same_new hp) _ (new_lst g h2 hp)⟩
    | _ => cases e
def fInt : List D → MH → Res D := fun ds h => match ds with
  | [.int i] => .ok (.int i) h
  | [.bl b] => .ok (.int (if b then 1 else 0)) h
  | _ => .bad
theorem calls_int {G : Ev} : CallS G (fun xs H Q => (∃ i, xs = [.int i] ∧ Q (.int i) H) ∨ ∃ k, xs = [.bl k] ∧ Q (.int (if k then 1 else 0)) H) fInt := fun W σ r F H h ds vs Q g hd q => by
  match ds, hd with
  | [], _ => exact False.elim q
  | d :: _ :: _, _ => cases d <;> exact False.elim q
  | [x], .cons hx .nil =>
    cases hx with
    | int i => exact .inl ⟨i, rfl, q.here g _ (.int i)⟩
    | bl b => exact .inr ⟨b, rfl, q.here g _ (.int _)⟩
    | _ => exact False.elim q
def fMax2 : List D → MH → Res D := fun ds h => match ds with
  | [.int i, .int j] => .ok (.int (if j > i then j else i)) h
  | _ => .bad
theorem calls_max2 {G : Ev} : CallS G (fun xs H Q => ∃ i j, xs = [.int i, .int j] ∧ Q (.int (if j > i then j else i)) H) fMax2 := fun W σ r F H h ds vs Q g hd q => by
  match ds, hd with
  | [], _ => exact False.elim q
  | [x], _ => cases x <;> exact False.elim q
  | d :: e :: _ :: _, _ => cases d <;> cases e <;> exact False.elim q
  | [x, y], .cons hx (.cons hy .nil) =>
    cases hx <;> cases hy <;> first | exact False.elim q | exact ⟨_, _, rfl, q.here g _ (.int _)⟩
def blsD : List D → Option (List Bool)
  | [] => some []
  | .bl b :: ds => (blsD ds).map fun bs => b :: bs
  | _ :: _ => none
theorem blsD_ok {G : Ev} {r F : List Addr} {H : Hp} : ∀ {ds : List D} {vs : List V} {bs : List Bool}, blsD ds = some bs → DenL G r F H ds vs → vs = bs.map V.bl
  | [], _, bs, e, .nil => by cases e; rfl
  | d :: ds, _, bs, e, .cons h l => by
    cases h with
    | bl b =>
      have e : (blsD ds).map (fun bs => b :: bs) = some bs := e
      cases hb : blsD ds with
      | none => rw [hb] at e; cases e
      | some bs' =>
        rw [hb] at e
        cases e
        rw [blsD_ok hb l]
        rfl
    | _ => cases e
def fAll : List D → MH → Res D := fun ds h => match ds with
  | [.lst xs] => optR ((blsD xs).map fun bs => .bl (bs.all id)) h
  | _ => .bad
def fAny : List D → MH → Res D := fun ds h => match ds with
  | [.lst xs] => optR ((blsD xs).map fun bs => .bl (bs.any id)) h
  | _ => .bad
theorem calls_all {G : Ev} : CallS G (rAll G.K) fAll := fun W σ r F H h ds vs Q g hd q => by
  match ds, hd with
  | [], _ => exact False.elim q
  | d :: _ :: _, _ => cases d <;> exact False.elim q
  | [x], .cons hx .nil =>
    cases hx with
    | lst hq hn hl =>
      rename_i xs vs
      obtain ⟨d, e, qq⟩ := optR_ok (show Aft G W F σ r H (optR ((blsD xs).map fun bs => D.bl (bs.all id)) h) _ from q)
      clear q
      cases hb : blsD xs with
      | none => rw [hb] at e; cases e
      | some bs =>
        rw [hb] at e
        cases e
        exact ⟨_, bs, rfl, by rw [← blsD_ok hb hl]; exact SqL.of hq, qq.here g _ (.bl _)⟩
    | _ => exact False.elim q
theorem calls_any {G : Ev} : CallS G (rAny G.K) fAny := fun W σ r F H h ds vs Q g hd q => by
  match ds, hd with
  | [], _ => exact False.elim q
  | d :: _ :: _, _ => cases d <;> exact False.elim q
  | [x], .cons hx .nil =>
    cases hx with
    | lst hq hn hl =>
      rename_i xs vs
      obtain ⟨d, e, qq⟩ := optR_ok (show Aft G W F σ r H (optR ((blsD xs).map fun bs => D.bl (bs.any id)) h) _ from q)
      clear q
      cases hb : blsD xs with
      | none => rw [hb] at e; cases e
      | some bs =>
        rw [hb] at e
        cases e
        exact ⟨_, bs, rfl, by rw [← blsD_ok hb hl]; exact SqL.of hq, qq.here g _ (.bl _)⟩
    | _ => exact False.elim q
def fStr : List D → MH → Res D := fun ds h => match ds with
  | [.int i] => if i.natAbs ≤ 1000000000 then .ok (.str (toString i)) h else .bad
  | _ => .bad
theorem calls_str {G : Ev} : CallS G (fun xs H Q => ∃ i, xs = [.int i] ∧ i.natAbs.log2 < 1920 ∧ Q (.str (toString i)) H) fStr := fun W σ r F H h ds vs Q g hd q => by
  match ds, hd with
  | [], _ => exact False.elim q
  | d :: _ :: _, _ => cases d <;> exact False.elim q
  | [x], .cons hx .nil =>
    cases hx with
    | int i =>
      have q : Aft G W F σ r H (if i.natAbs ≤ 1000000000 then Res.ok (D.str (toString i)) h else .bad) _ := q
      by_cases z : i.natAbs ≤ 1000000000
      · rw [if_pos z] at q
        refine ⟨i, rfl, ?_, q.here g _ (.str _)⟩
        by_cases z0 : i.natAbs = 0
        · rw [z0]; decide
        · exact (Nat.log2_lt z0).mpr (Nat.lt_of_le_of_lt z (by decide))
      · rw [if_neg z] at q; exact False.elim q
    | _ => exact False.elim q
end CH

/-! CH8: dicts, lists written, methods of built-in types, calls of values. -/
namespace CH
open PySem PySem.Spec PyProof.Rows L2

/-! ### a dict by its keys and values -/
def dget {α : Type} (k : Key) : List Key → List α → Option α
  | k' :: ks, v :: vs => if k' = k then some v else dget k ks vs
  | _, _ => none
def dhas (k : Key) : List Key → Bool
  | [] => false
  | k' :: ks => if k' = k then true else dhas k ks
def drep {α : Type} (k : Key) (x : α) : List Key → List α → List α
  | k' :: ks, v :: vs => (if k' = k then x else v) :: drep k x ks vs
  | _, vs => vs
def dputK (k : Key) (ks : List Key) : List Key := if dhas k ks = true then ks else ks ++ [k]
def dputV {α : Type} (k : Key) (x : α) (ks : List Key) (vs : List α) : List α := if dhas k ks = true then drep k x ks vs else vs ++ [x]
def keyD : D → Option Key
  | .int i => some (.inl i)
  | .str x => some (.inr x)
  | _ => none
theorem key_den {G : Ev} {r F : List Addr} {H : Hp} {d : D} {k : Key} {v : V} (e : keyD d = some k) (h : Den G r F H d v) : v = kV k := by
  cases h <;> cases e <;> rfl
theorem valV_dget (k : Key) : ∀ {ks : List Key} {vs : List V}, ks.length = vs.length → valV (ks.zip vs) k = dget k ks vs
  | [], [], _ => rfl
  | k' :: ks, v :: vs, e => by
    show valV ((k', v) :: ks.zip vs) k = _
    unfold dget
    by_cases h : k' = k
    · rw [valV_pos h, if_pos h]
    · rw [valV_neg h, if_neg h]
      exact valV_dget k (by simpa using e)
  | [], _ :: _, e => by cases e
  | _ :: _, [], e => by cases e
theorem any_dhas (k : Key) : ∀ {ks : List Key} {vs : List V}, ks.length = vs.length → ((ks.zip vs).any fun kv => decide (kv.1 = k)) = dhas k ks
  | [], [], _ => rfl
  | k' :: ks, v :: vs, e => by
    show ((decide (k' = k)) || ((ks.zip vs).any fun kv => decide (kv.1 = k))) = _
    unfold dhas
    rw [any_dhas k (by simpa using e)]
    by_cases h : k' = k <;> simp [h]
  | [], _ :: _, e => by cases e
  | _ :: _, [], e => by cases e
theorem map_drep (k : Key) (x : V) : ∀ {ks : List Key} {vs : List V}, ks.length = vs.length → ((ks.zip vs).map fun kv => if kv.1 = k then (kv.1, x) else kv) = ks.zip (drep k x ks vs)
  | [], [], _ => rfl
  | k' :: ks, v :: vs, e => by
    show (if k' = k then (k', x) else (k', v)) :: ((ks.zip vs).map fun kv => if kv.1 = k then (kv.1, x) else kv) = _
    rw [map_drep k x (by simpa using e)]
    show _ = (k', if k' = k then x else v) :: ks.zip (drep k x ks vs)
    by_cases h : k' = k <;> simp [h]
  | [], _ :: _, e => by cases e
  | _ :: _, [], e => by cases e
theorem drep_len {α : Type} (k : Key) (x : α) : ∀ (ks : List Key) (vs : List α), (drep k x ks vs).length = vs.length
  | [], vs => by cases vs <;> rfl
  | _ :: _, [] => rfl
  | k' :: ks, v :: vs => by simp [drep, drep_len k x ks vs]
theorem put_zip (k : Key) (x : V) {ks : List Key} {vs : List V} (e : ks.length = vs.length) : putK (ks.zip vs) k x = (dputK k ks).zip (dputV k x ks vs) := by
  unfold putK dputK dputV
  rw [any_dhas k e]
  by_cases h : dhas k ks = true
  · rw [if_pos h, if_pos h, if_pos h]
    exact map_drep k x e
  · rw [if_neg h, if_neg h, if_neg h, List.zip_append (by simpa using e)]
    rfl
theorem dput_len {α : Type} (k : Key) (x : α) {ks : List Key} {vs : List α} (e : ks.length = vs.length) : (dputK k ks).length = (dputV k x ks vs).length := by
  unfold dputK dputV
  by_cases h : dhas k ks = true
  · rw [if_pos h, if_pos h, drep_len]; exact e
  · rw [if_neg h, if_neg h]; simp [e]
section
variable {G : Ev} {r F : List Addr} {H : Hp}
theorem dget_den {k : Key} : ∀ {ks : List Key} {ds : List D} {vs : List V} {d : D}, ks.length = vs.length → DenL G r F H ds vs → dget k ks ds = some d → ∃ v, dget k ks vs = some v ∧ Den G r F H d v
  | [], _, _, _, _, _, e => by cases e
  | k' :: ks, d' :: ds, _, d, hl, .cons h l, e => by
    unfold dget at e ⊢
    by_cases hk : k' = k
    · rw [if_pos hk] at e ⊢
      cases e
      exact ⟨_, rfl, h⟩
    · rw [if_neg hk] at e ⊢
      exact dget_den (by simpa using hl) l e
  | _ :: _, [], _, _, _, .nil, e => by cases e
theorem drep_den {k : Key} {x : D} {u : V} (hx : Den G r F H x u) : ∀ {ks : List Key} {ds : List D} {vs : List V}, DenL G r F H ds vs → DenL G r F H (drep k x ks ds) (drep k u ks vs)
  | [], _, _, .nil => .nil
  | [], _, _, .cons h l => .cons h l
  | _ :: _, _, _, .nil => .nil
  | k' :: ks, _, _, .cons h l => by
    unfold drep
    by_cases hk : k' = k
    · rw [if_pos hk, if_pos hk]; exact .cons hx (drep_den hx l)
    · rw [if_neg hk, if_neg hk]; exact .cons h (drep_den hx l)
theorem dput_den {k : Key} {x : D} {u : V} (hx : Den G r F H x u) {ks : List Key} {ds : List D} {vs : List V} (l : DenL G r F H ds vs) : DenL G r F H (dputV k x ks ds) (dputV k u ks vs) := by
  unfold dputV
  by_cases h : dhas k ks = true
  · rw [if_pos h, if_pos h]; exact drep_den hx l
  · rw [if_neg h, if_neg h]; exact l.app (.cons hx .nil)
end
/-- what a dict holds at a key -/
def oDic : Option O → Option (List Key × List D)
  | some (.dic ks vs) => some (ks, vs)
  | _ => none
theorem oDic_some {o : Option O} {p : List Key × List D} (e : oDic o = some p) : o = some (.dic p.1 p.2) := by
  cases o with
  | none => cases e
  | some o => cases o with
    | dic ks vs => cases e; rfl
    | _ => cases e
def dicD (h : MH) : D → Option (List Key × List D)
  | .dic ks vs => some (ks, vs)
  | .ref k => oDic h[k]?
  | _ => none
def atKeyD (h : MH) (x y : D) : Option D := (dicD h x).bind fun p => (keyD y).bind fun k => dget k p.1 p.2
def oDGet : D → D → MH → Res D := fun x y h => optR (atKeyD h x y) h
theorem dic_den {G : Ev} {r F : List Addr} {H : Hp} {h : MH} {x : D} {v : V} {p : List Key × List D} (g : GoodH G r F h H) (hx : Den G r F H x v) (e : dicD h x = some p) : ∃ a vs, v = .ref a ∧ H a = some (.dK (p.1.zip vs)) ∧ p.1.length = vs.length ∧ DenL G r F H p.2 vs := by
  cases hx with
  | dic hq hn hl hd => cases e; exact ⟨_, _, rfl, hq, hl, hd⟩
  | ref hk =>
    have e := oDic_some e
    obtain ⟨a', ea, vs, h1, h2, h3⟩ := g.ob _ _ e
    rw [hk] at ea; cases ea
    exact ⟨_, _, rfl, h1, h2, h3⟩
  | _ => cases e
section
variable {X : Cx} {W : WX} {pos : Pos} {o i e : Expr} {es : List Expr} {fo fi fv : Mo D} {fl : Mo (List D)}
theorem de_dget {k : Nat} (hr : Room k X.A) (ho : PE X o (tE (evOf X) W fo)) (hi : PE X i (tE (evOf X) W fi)) (hs : NoSl i) : PE X (.Subscript o i pos) (tE (evOf X) W (mOp oDGet fo fi)) :=
  (pe_dget (by have := hr.un; omega) ho hi hs).imp fun σ H Q ⟨r, F, sl, h, s, g, q⟩ => by
    refine tE.of s g (q.bind.imp fun r1 H1 x h1 e1 g1 q1 v hv => ?_)
    refine tE.of (s.mono g.mine e1) g1 (q1.bind.imp fun r2 H2 y h2 e2 g2 q2 u hu => ?_)
    obtain ⟨d, e, qq⟩ := optR_ok (show Aft (evOf X) W F σ r2 H2 (optR (atKeyD h2 x y) h2) _ from q2)
    unfold atKeyD at e
    cases hd : dicD h2 x with
    | none => rw [hd] at e; cases e
    | some p =>
      rw [hd] at e
      have e : ((keyD y).bind fun k => dget k p.1 p.2) = some d := e
      cases hk : keyD y with
      | none => rw [hk] at e; cases e
      | some k =>
        rw [hk] at e
        have e : dget k p.1 p.2 = some d := e
        obtain ⟨a, vs, rfl, h3, h4, h5⟩ := dic_den g2 (Den.mono g1.mine e2 _ _ hv) hd
        have ek := key_den hk hu
        subst ek
        obtain ⟨w', h6, h7⟩ := dget_den h4 h5 e
        exact ⟨a, w', rfl, by rw [← h6, ← valV_dget k h4]; exact DGet.k h3, qq.here g2 _ h7⟩

/-- d[y] = v of a dict of ours -/
def dSet (h : MH) (x y v : D) : Option MH := match x with
  | .ref k => (oDic h[k]?).bind fun p => (keyD y).bind fun key => if p.1.length < lim then some (h.set k (.dic (dputK key p.1) (dputV key v p.1 p.2))) else none
  | _ => none
def sDSet (fo fi fv : Mo D) : Ms := fun sl h => bindS sl (fv sl h) fun v h1 => bindS sl (fo sl h1) fun x h2 => bindS sl (fi sl h2) fun y h3 => match dSet h3 x y v with
  | some h4 => .nx sl h4
  | none => .bad
theorem dSet_ok {G : Ev} {r F : List Addr} {H : Hp} {h h' : MH} {x y v : D} {vx vy vv : V} (g : GoodH G r F h H) (hx : Den G r F H x vx) (hy : Den G r F H y vy) (hv : Den G r F H v vv) (e : dSet h x y v = some h') :
    ∃ a H', vx = .ref a ∧ DPut H a vy vv H' ∧ Ext r H r H' ∧ GoodH G r F h' H' := by
  cases hx with
  | ref hk =>
    rename_i k a
    have e : ((oDic h[k]?).bind fun p => (keyD y).bind fun key => if p.1.length < lim then some (h.set k (.dic (dputK key p.1) (dputV key v p.1 p.2))) else none) = some h' := e
    cases hp : oDic h[k]? with
    | none => rw [hp] at e; cases e
    | some p =>
      rw [hp] at e
      have e : ((keyD y).bind fun key => if p.1.length < lim then some (h.set k (.dic (dputK key p.1) (dputV key v p.1 p.2))) else none) = some h' := e
      cases hkey : keyD y with
      | none => rw [hkey] at e; cases e
      | some key =>
        rw [hkey] at e
        have e : (if p.1.length < lim then some (h.set k (.dic (dputK key p.1) (dputV key v p.1 p.2))) else none) = some h' := e
        by_cases z : p.1.length < lim
        · rw [if_pos z] at e
          cases e
          obtain ⟨a', ea, vs, h1, h2, h3⟩ := g.ob k _ (oDic_some hp)
          rw [hk] at ea; cases ea
          have ek := key_den hkey hy
          subst ek
          have ha : a ∈ r := List.mem_of_getElem? hk
          refine ⟨a, upd H a (.dK (putK (p.1.zip vs) key vv)), rfl, DPut.k h1 (by rw [List.length_zip, ← h2, Nat.min_self]; exact lim_lt z), Ext.upd ha, g.set hk trivial ?_⟩
          exact ⟨dputV key vv p.1 vs, by rw [upd_same, put_zip key vv h2], dput_len key vv h2, DenL.mono g.mine (Ext.upd ha) _ _ (dput_den hv h3)⟩
        · rw [if_neg z] at e; cases e
  | _ => cases e
theorem ds_dset {k : Nat} {pos' : Pos} (hr : Room k X.A) (ho : PE X o (tE (evOf X) W fo)) (hi : PE X i (tE (evOf X) W fi)) (hv : PE X e (tE (evOf X) W fv)) (hs : swapsWith e (some (.Subscript o i pos')) pos.line X.env = pure false := by rfl) :
    PS X (.Assign [.Subscript o i pos'] e pos) (tS (evOf X) W (sDSet fo fi fv)) :=
  (ps_dput (by have := hr.un; omega) ho hi hv hs).imp fun E σ H ⟨r, F, sl, h, s, g, q⟩ => by
    refine tE.of s g ((q.bindS s g).imp fun r1 H1 v h1 e1 g1 q1 vv hvv => ?_)
    have s1 := s.mono g.mine e1
    refine tE.of s1 g1 ((q1.bindS s1 g1).imp fun r2 H2 x h2 e2 g2 q2 vx hvx => ?_)
    have s2 := s1.mono g1.mine e2
    refine tE.of s2 g2 ((q2.bindS s2 g2).imp fun r3 H3 y h3 e3 g3 q3 vy hvy => ?_)
    have q3 : SAft (evOf X) W F r3 H3 (match dSet h3 x y v with
      | some h4 => .nx sl h4
      | none => .bad) E := q3
    cases hd : dSet h3 x y v with
    | none => rw [hd] at q3; exact False.elim q3
    | some h4 =>
      rw [hd] at q3
      obtain ⟨a, H', ea, hput, ee, g4⟩ := dSet_ok g3 (Den.mono g2.mine e3 _ _ hvx) hvy (Den.mono g2.mine e3 _ _ (Den.mono g1.mine e2 _ _ hvv)) hd
      exact ⟨a, H', ea, hput, q3 r3 H' σ ee g4 ((s2.mono g2.mine e3).mono g3.mine ee)⟩

/-! ### xs[i] = v of a list of ours -/
def lSet (h : MH) (x y v : D) : Option MH := match x, y with
  | .ref k, .int i => (oLst h[k]?).bind fun xs => (ixN xs.length i).map fun j => h.set k (.lst (xs.set j v))
  | _, _ => none
def sLSet (fo fi fv : Mo D) : Ms := fun sl h => bindS sl (fv sl h) fun v h1 => bindS sl (fo sl h1) fun x h2 => bindS sl (fi sl h2) fun y h3 => match lSet h3 x y v with
  | some h4 => .nx sl h4
  | none => .bad
theorem DenL.set {G : Ev} {r F : List Addr} {H : Hp} {d : D} {v : V} (hd : Den G r F H d v) : ∀ {ds : List D} {vs : List V} (j : Nat), DenL G r F H ds vs → DenL G r F H (ds.set j d) (vs.set j v)
  | _, _, _, .nil => .nil
  | _, _, 0, .cons _ l => .cons hd l
  | _, _, j + 1, .cons h l => .cons h (DenL.set hd j l)
theorem lSet_ok {G : Ev} {r F : List Addr} {H : Hp} {h h' : MH} {x y v : D} {vx vy vv : V} (g : GoodH G r F h H) (hx : Den G r F H x vx) (hy : Den G r F H y vy) (hv : Den G r F H v vv) (e : lSet h x y v = some h') :
    ∃ p xs k j, vx = .ref p ∧ vy = .int k ∧ H p = some (.lst xs) ∧ ixN xs.length k = some j ∧ Ext r H r (upd H p (.lst (xs.set j vv))) ∧ GoodH G r F h' (upd H p (.lst (xs.set j vv))) := by
  cases hx with
  | ref hk =>
    rename_i k a
    cases hy with
    | int i =>
      have e : ((oLst h[k]?).bind fun xs => (ixN xs.length i).map fun j => h.set k (.lst (xs.set j v))) = some h' := e
      cases hp : oLst h[k]? with
      | none => rw [hp] at e; cases e
      | some xs =>
        rw [hp] at e
        have e : ((ixN xs.length i).map fun j => h.set k (.lst (xs.set j v))) = some h' := e
        cases hj : ixN xs.length i with
        | none => rw [hj] at e; cases e
        | some j =>
          rw [hj] at e
          cases e
          obtain ⟨a', ea, vs, h1, h2⟩ := g.ob k _ (oLst_some hp)
          rw [hk] at ea; cases ea
          have ha : a ∈ r := List.mem_of_getElem? hk
          refine ⟨a, vs, i, j, rfl, rfl, h1, by rw [← h2.len]; exact hj, Ext.upd ha, g.set hk trivial ⟨_, upd_same, DenL.mono g.mine (Ext.upd ha) _ _ (DenL.set hv j h2)⟩⟩
    | _ => cases e
  | _ => cases e
theorem ds_lset {pos' : Pos} (hs0 : ∀ v, assign (.Subscript o i pos') X.env v = (do
      let ov ← holding [v] (eval o X.env)
      let iv ← holding [v, ov] (eval i X.env)
      standAt pos'
      holding [v, ov, iv] (setItem ov iv v)
      release [v, ov, iv] []) := by intro _; rfl) (ho : PE X o (tE (evOf X) W fo)) (hi : PE X i (tE (evOf X) W fi)) (hv : PE X e (tE (evOf X) W fv)) (hs : swapsWithSole [.Subscript o i pos'] e pos.line X.env = pure false := by rfl) (hw : swappedStores [.Subscript o i pos'] e X.env = pure none := by rfl)
    (h1 : (assignEach [.Subscript o i pos'] X.env).map (·.2) = [assign (.Subscript o i pos') X.env] := by rfl) :
    PS X (.Assign [.Subscript o i pos'] e pos) (tS (evOf X) W (sLSet fo fi fv)) :=
  (ps_asg hv (pg_sub ho hi set_list hs0) hs hw h1).imp fun E σ H ⟨r, F, sl, h, s, g, q⟩ => by
    refine tE.of s g ((q.bindS s g).imp fun r1 H1 v h1 e1 g1 q1 vv hvv => ?_)
    have s1 := s.mono g.mine e1
    refine tE.of s1 g1 ((q1.bindS s1 g1).imp fun r2 H2 x h2 e2 g2 q2 vx hvx => ?_)
    have s2 := s1.mono g1.mine e2
    refine tE.of s2 g2 ((q2.bindS s2 g2).imp fun r3 H3 y h3 e3 g3 q3 vy hvy => ?_)
    have q3 : SAft (evOf X) W F r3 H3 (match lSet h3 x y v with
      | some h4 => .nx sl h4
      | none => .bad) E := q3
    cases hd : lSet h3 x y v with
    | none => rw [hd] at q3; exact False.elim q3
    | some h4 =>
      rw [hd] at q3
      obtain ⟨p, xs, k, j, e1', e2', hp, hj, ee, g4⟩ := lSet_ok g3 (Den.mono g2.mine e3 _ _ hvx) hvy (Den.mono g2.mine e3 _ _ (Den.mono g1.mine e2 _ _ hvv)) hd
      exact ⟨p, xs, k, j, e1', e2', hp, hj, q3 r3 _ σ ee g4 ((s2.mono g2.mine e3).mono g3.mine ee)⟩

/-! ### a dict display -/
def mPairs : List (Mo D × Mo D) → Mo (List (Key × D))
  | [], _, h => .ok [] h
  | (fk, fv) :: ps, sl, h => bindR (fk sl h) fun x h1 => bindR (fv sl h1) fun y h2 => match keyD x with
    | some k => bindR (mPairs ps sl h2) fun rest h3 => .ok ((k, y) :: rest) h3
    | none => .bad
def mergeD : List (Key × D) → List Key → List D → List Key × List D
  | [], ks, vs => (ks, vs)
  | (k, d) :: ps, ks, vs => mergeD ps (dputK k ks) (dputV k d ks vs)
/-- a dict that is never changed -/
def mDic (ps : List (Mo D × Mo D)) : Mo D := mBind (mPairs ps) fun kds => fun _ h => if kds.length ≤ 15 then .ok (.dic (mergeD kds [] []).1 (mergeD kds [] []).2) h else .bad
/-- a dict that will change -/
def mNewD (ps : List (Mo D × Mo D)) : Mo D := mBind (mPairs ps) fun kds => fun _ h => if kds.length ≤ 15 then .ok (.ref h.length) (h ++ [.dic (mergeD kds [] []).1 (mergeD kds [] []).2]) else .bad
end
/-- the pairs by values -/
inductive DenP (G : Ev) (r F : List Addr) (H : Hp) : List (Key × D) → List (Key × V) → Prop where
  | nil : DenP G r F H [] []
  | cons {k : Key} {d : D} {v : V} {ps : List (Key × D)} {qs : List (Key × V)} : Den G r F H d v → DenP G r F H ps qs → DenP G r F H ((k, d) :: ps) ((k, v) :: qs)
section
variable {G : Ev} {r r' F : List Addr} {H H' : Hp}
theorem DenP.mono (m : Mine r H) (e : Ext r H r' H') : ∀ {ps : List (Key × D)} {qs : List (Key × V)}, DenP G r F H ps qs → DenP G r' F H' ps qs
  | _, _, .nil => .nil
  | _, _, .cons h t => .cons (Den.mono m e _ _ h) (DenP.mono m e t)
theorem DenP.len : ∀ {ps : List (Key × D)} {qs : List (Key × V)}, DenP G r F H ps qs → ps.length = qs.length
  | _, _, .nil => rfl
  | _, _, .cons _ t => by simp [DenP.len t]
theorem merge_den : ∀ {ps : List (Key × D)} {qs : List (Key × V)} {ks : List Key} {ds : List D} {vs : List V}, DenP G r F H ps qs → ks.length = vs.length → DenL G r F H ds vs →
    ∃ us, mergeK (ks.zip vs) qs = (mergeD ps ks ds).1.zip us ∧ (mergeD ps ks ds).1.length = us.length ∧ DenL G r F H (mergeD ps ks ds).2 us
  | [], _, ks, ds, vs, .nil, e, l => ⟨vs, rfl, e, l⟩
  | (k, d) :: ps, _, ks, ds, vs, .cons (v := v) (qs := qs) h t, e, l => by
    show ∃ us, mergeK (putK (ks.zip vs) k v) qs = _ ∧ _
    rw [put_zip k v e]
    exact merge_den t (dput_len k v e) (dput_den h l)
end
section
variable {X : Cx} {W : WX} {pos : Pos}
abbrev trsOf (X : Cx) (W : WX) (ps : List (Mo D × Mo D)) : List (TE × TE) := ps.map fun p => (tE (evOf X) W p.1, tE (evOf X) W p.2)
/-- base r0, H0, where D0 was not yet there -/
theorem pairs_run {G : Ev} {W : WX} {F r0 : List Addr} {H0 : Hp} {σ : L2.St} {D0 : Addr} {sl : Sl} (hD : H0 D0 = none) {β : Type} {QB : List Addr → Hp → β → MH → Prop} : ∀ (ps : List (Mo D × Mo D)) (r1 : List Addr) (H1 : Hp) (h1 : MH) (Q : List (V × V) → Hp → Prop),
    Ext r0 H0 r1 H1 → GoodH G r1 (D0 :: F) h1 H1 → SlR G r1 (D0 :: F) H1 sl σ → ∀ (k : List (Key × D) → MH → Res β), Aft G W F σ r0 H0 (bindR (mPairs ps sl h1) k) QB →
    (∀ r2 H2 kds h2 qs, Ext r0 H0 r2 H2 → Ext r1 H1 r2 H2 → GoodH G r2 (D0 :: F) h2 H2 → DenP G r2 (D0 :: F) H2 kds qs → Aft G W F σ r0 H0 (k kds h2) QB → Q (qs.map fun kv => (kV kv.1, kv.2)) H2) →
    tPairs (ps.map fun p => (tE G W p.1, tE G W p.2)) σ H1 Q
  | [], r1, H1, h1, Q, e, g, s, k, q, f => f r1 H1 [] h1 [] e .refl g .nil q
  | (fk, fv) :: ps, r1, H1, h1, Q, e, g, s, k, q, f => by
    have cast : ∀ {α : Type} (R : Res α) (kk : α → MH → Res β) (r : List Addr) (H : Hp), Ext r0 H0 r H → Mine r H → Aft G W F σ r0 H0 (bindR R kk) QB → Aft G W (D0 :: F) σ r H R (fun _ _ x h' => Aft G W F σ r0 H0 (kk x h') QB) := by
      intro α R kk r H er mr a
      cases R with
      | ok x h' => exact fun _ _ _ _ => a
      | exc c x h' => exact fun r' H' cls y e' g' hx => a r' H' cls y (er.trans mr e') g'.dropF (by
          obtain ⟨C, c1, c2, c3⟩ := hx
          refine ⟨C, c1, c2, ?_⟩
          cases x with
          | none => exact c3
          | some p =>
            obtain ⟨dx, v, b1, b2, b3⟩ := c3
            exact ⟨dx, v, b1, b2, Den.dropF g'.mine b3⟩)
      | bad => exact a
    have q0 : Aft G W F σ r0 H0 (bindR (fk sl h1) fun x h1 => bindR (fv sl h1) fun y h2 => match keyD x with
      | some k' => bindR (mPairs ps sl h2) fun rest h3 => k ((k', y) :: rest) h3
      | none => .bad) QB := by
      have e1 : bindR (mPairs ((fk, fv) :: ps) sl h1) k = bindR (fk sl h1) fun x h1 => bindR (fv sl h1) fun y h2 => match keyD x with
        | some k' => bindR (mPairs ps sl h2) fun rest h3 => k ((k', y) :: rest) h3
        | none => .bad := by
        have eM : mPairs ((fk, fv) :: ps) sl h1 = bindR (fk sl h1) fun x h1 => bindR (fv sl h1) fun y h2 => match keyD x with
          | some k => bindR (mPairs ps sl h2) fun rest h3 => .ok ((k, y) :: rest) h3
          | none => .bad := rfl
        rw [eM]
        generalize mPairs ps = M
        cases fk sl h1 with
        | ok x h2 =>
          show bindR (bindR (fv sl h2) _) k = bindR (fv sl h2) _
          cases fv sl h2 with
          | ok y h3 =>
            show bindR (match keyD x with | some k' => _ | none => _) k = (match keyD x with | some k' => _ | none => _)
            cases keyD x with
            | none => rfl
            | some k' =>
              show bindR (bindR (M sl h3) _) k = bindR (M sl h3) _
              cases M sl h3 <;> rfl
          | exc c a h' => rfl
          | bad => rfl
        | exc c a h' => rfl
        | bad => rfl
      rw [← e1]; exact q
    show tE G W fk σ H1 fun x H1 => tE G W fv σ H1 fun y H2 => tPairs (ps.map fun p => (tE G W p.1, tE G W p.2)) σ H2 fun qs H3 => Q ((x, y) :: qs) H3
    refine tE.of s g ((cast _ _ r1 H1 e g.mine q0).imp fun r2 H2 x h2 e2 g2 q2 vx hvx => ?_)
    have ee2 := e.trans g.mine e2
    have s2 := s.mono g.mine e2
    refine tE.of s2 g2 ((cast _ _ r2 H2 ee2 g2.mine q2).imp fun r3 H3 y h3 e3 g3 q3 vy hvy => ?_)
    have ee3 := ee2.trans g2.mine e3
    have q3 : Aft G W F σ r0 H0 (match keyD x with
      | some k' => bindR (mPairs ps sl h3) fun rest h3 => k ((k', y) :: rest) h3
      | none => .bad) QB := q3
    cases hk : keyD x with
    | none => rw [hk] at q3; exact False.elim q3
    | some k' =>
      rw [hk] at q3
      have ek := key_den hk hvx
      subst ek
      refine pairs_run hD ps r3 H3 h3 _ ee3 g3 (s2.mono g2.mine e3) _ q3 fun r4 H4 kds h4 qs e4 e5 g4 p4 q4 => ?_
      exact f r4 H4 ((k', y) :: kds) h4 ((k', vy) :: qs) e4 ((e2.trans g2.mine e3).trans g3.mine e5) g4 (.cons (Den.mono g3.mine e5 _ _ hvy) p4) q4
theorem disp_run {G : Ev} {r F : List Addr} {H : Hp} {h : MH} {σ : L2.St} {sl : Sl} {Q : VK} {ps : List (Mo D × Mo D)} {k : List (Key × D) → MH → Res D} (s : SlR G r F H sl σ) (g : GoodH G r F h H)
    (q : Aft G W F σ r H (bindR (mPairs ps sl h) fun kds h1 => if kds.length ≤ 15 then k kds h1 else .bad) fun r' H' d _ => ∀ v, Den G r' F H' d v → Q v H')
    (hk : ∀ p r2 H2 kds h2 us, H p = none → p ∉ F → Ext r H r2 H2 → GoodH G r2 (p :: F) h2 H2 → H2 p = some (.dK ((mergeD kds [] []).1.zip us)) → (mergeD kds [] []).1.length = us.length → DenL G r2 (p :: F) H2 (mergeD kds [] []).2 us →
      Aft G W F σ r H (k kds h2) (fun r' H' d _ => ∀ v, Den G r' F H' d v → Q v H') → Q (.ref p) H2) : tDisp (ps.map fun p => (tE G W p.1, tE G W p.2)) σ H Q := by
  intro p hp
  have fo : Foe F H (p :: F) := fun a ha => by
    rcases List.mem_cons.mp ha with e | e
    · exact .inr (by rw [e]; exact hp)
    · exact .inl e
  have sm : Same H (upd H p (.dK [])) := same_new hp
  have s' : SlR G r (p :: F) (upd H p (.dK [])) sl σ := ⟨s.1, fun j d hd => let ⟨v, a1, a2⟩ := s.2 j d hd; ⟨v, a1, Den.monoF g.mine (.same sm) fo _ _ a2⟩⟩
  refine pairs_run (F := F) (D0 := p) hp ps r _ h _ (.same sm) (g.newF hp trivial) s' _ q fun r2 H2 kds h2 qs e1 e2 g2 dp q2 => ?_
  have hp2 : H2 p = some (.dK []) := e2.keep _ _ upd_same (fun hm => (g.fresh hp).1 hm)
  by_cases z : kds.length ≤ 15
  · rw [if_pos z] at q2
    refine ⟨hp2, qs, rfl, by rw [← dp.len]; exact z, ?_⟩
    obtain ⟨us, m1, m2, m3⟩ := merge_den (ks := []) (ds := []) (vs := []) dp rfl .nil
    have m1 : mergeK [] qs = _ := m1
    rw [m1]
    have hm : p ∈ p :: F := List.mem_cons_self
    refine hk p r2 _ kds h2 us hp (g.fresh hp).2 ⟨e1.pre, fun a o ha hr => ?_⟩ (g2.updF hp2 trivial trivial hm) upd_same m2 (DenL.updF hp2 trivial hm _ _ m3) q2
    rw [upd_ne (ne_of_none ha hp)]
    exact e1.keep a o ha hr
  · rw [if_neg z] at q2; exact False.elim q2
theorem de_dic {keys : List (Option Expr)} {values : List Expr} {ps : List (Mo D × Mo D)} (h : PPs X pos keys values (trsOf X W ps)) (hall : keys.all (·.isSome) = true := by rfl) (hl : keys.length = values.length := by rfl) (h0 : keys ≠ [] := by intro z; cases z)
    (h15 : keys.length ≤ 15 := by decide) : PE X (.Dict keys values pos) (tE (evOf X) W (mDic ps)) :=
  (pe_disp h hall hl h0 h15).imp fun σ H Q ⟨r, F, sl, h, s, g, q⟩ => disp_run s g q fun p r2 H2 kds h2 us hp hF e g2 hp2 m2 m3 q2 =>
    q2 r2 H2 e g2.dropF _ (.dic hp2 ⟨(g2.fd p List.mem_cons_self).2, hF⟩ m2 (DenL.dropF g2.mine m3))
theorem de_newD {keys : List (Option Expr)} {values : List Expr} {ps : List (Mo D × Mo D)} (h : PPs X pos keys values (trsOf X W ps)) (hall : keys.all (·.isSome) = true := by rfl) (hl : keys.length = values.length := by rfl) (h0 : keys ≠ [] := by intro z; cases z)
    (h15 : keys.length ≤ 15 := by decide) : PE X (.Dict keys values pos) (tE (evOf X) W (mNewD ps)) :=
  (pe_disp h hall hl h0 h15).imp fun σ H Q ⟨r, F, sl, h, s, g, q⟩ => disp_run s g q fun p r2 H2 kds h2 us hp hF e g2 hp2 m2 m3 q2 => by
    have g3 := g2.adopt (o := .dic (mergeD kds [] []).1 (mergeD kds [] []).2) hF ⟨us, hp2, m2, DenL.re adopt_hp adopt_hr _ _ m3⟩
    refine q2 (r2 ++ [p]) H2 ?_ g3 _ (.ref ?_)
    · obtain ⟨d, e1, f1⟩ := e.pre
      refine ⟨⟨d ++ [p], by rw [e1, List.append_assoc], fun a ha => ?_⟩, e.keep⟩
      rcases List.mem_append.mp ha with ha | ha
      · exact f1 a ha
      · simp at ha
        rw [ha]; exact hp
    · rw [← g2.len, List.getElem?_append_right (Nat.le_refl _)]
      simp
theorem dp_nil : PPs X pos [] [] (trsOf X W []) := pps_nil
theorem dp_cons {k v : Expr} {ks : List (Option Expr)} {vs : List Expr} {fk fv : Mo D} {ps : List (Mo D × Mo D)} (hk : PE X k (tE (evOf X) W fk)) (hv : PE X v (tE (evOf X) W fv)) (hr : PPs X pos ks vs (trsOf X W ps)) :
    PPs X pos (some k :: ks) (v :: vs) (trsOf X W ((fk, fv) :: ps)) := pps_cons hk hv hr
/-- {} that will change -/
def mNewD0 : Mo D := fun _ h => .ok (.ref h.length) (h ++ [.dic [] []])
theorem de_newD0 : PE X (.Dict [] [] pos) (tE (evOf X) W mNewD0) := pe_dnewK.imp fun σ H Q ⟨r, F, sl, h, s, g, q⟩ => fun p hp => by
  refine q (r ++ [p]) _ (grow_ext hp (same_new hp)) (g.grow hp (same_new hp) ⟨[], upd_same, rfl, .nil⟩) _ (.ref ?_)
  rw [← g.len, List.getElem?_append_right (Nat.le_refl _)]
  simp
end
end CH

/-! CH9: methods of built-in types, calls of values. -/
namespace CH
open PySem PySem.Spec PyProof.Rows L2

/-! ### methods of built-in types -/
def isStr : D → Bool
  | .str _ => true
  | _ => false
def isLst (h : MH) : D → Bool
  | .lst _ => true
  | .ref k => (oLst h[k]?).isSome
  | _ => false
def RcS (G : Ev) (T : String) (rc : MH → D → Bool) : Prop := ∀ (r F : List Addr) (H : Hp) (h : MH) (x : D) (v : V), GoodH G r F h H → Den G r F H x v → rc h x = true → tyV G.K T v H
def MtS (G : Ev) (rr : V → List V → Hp → VK → Prop) (g : D → List D → MH → Res D) : Prop := ∀ (W : WX) (σ : L2.St) (r F : List Addr) (H : Hp) (h : MH) (x : D) (v : V) (ds : List D) (vs : List V) (Q : VK), GoodH G r F h H → Den G r F H x v → DenL G r F H ds vs →
  Aft G W F σ r H (g x ds h) (fun r' H' d _ => ∀ z, Den G r' F H' d z → Q z H') → rr v vs H Q
def mMt (rc : MH → D → Bool) (g : D → List D → MH → Res D) (fo : Mo D) (fl : Mo (List D)) : Mo D := mBind fo fun x => fun sl h => if rc h x = true then bindR (fl sl h) fun ds h1 => g x ds h1 else .bad
theorem rc_str {G : Ev} : RcS G "str" (fun _ => isStr) := fun r F H h x v g hx e => by
  cases hx <;> first | rfl | cases e
theorem rc_lst {G : Ev} : RcS G "list" isLst := fun r F H h x v g hx e => by
  cases hx with
  | lst hq hn hl => exact .inl ⟨rfl, _, SqL.of hq⟩
  | ref hk =>
    have e : (oLst h[_]?).isSome = true := e
    obtain ⟨xs, ex⟩ := Option.isSome_iff_exists.mp e
    obtain ⟨a', ea, vs, h1, h2⟩ := g.ob _ _ (oLst_some ex)
    rw [hk] at ea; cases ea
    exact .inl ⟨rfl, _, SqL.of h1⟩
  | _ => cases e
section
variable {X : Cx} {W : WX} {o e : Expr} {es : List Expr} {fo : Mo D} {fl : Mo (List D)} {name : Str} {apos cpos : Pos} {T id : String} {rr : V → List V → Hp → VK → Prop} {g : D → List D → MH → Res D} {rc : MH → D → Bool}
theorem de_bm (pa : PlainAttrs T) (slot : Slot T name id) (hty : typeOf (.builtin id) = pure (.type "method_descriptor")) (hm : MtR X id rr) (hs : MtS (evOf X) rr g) (hrc : RcS (evOf X) T rc) (ho : PE X o (tE (evOf X) W fo)) (ha : PA X (e :: es) (tA (evOf X) W fl))
    (hbase : attributeBase o name X.env (eval o X.env) = eval o X.env := by rfl)
    (hfew : ((backTo cpos (starEach (e :: es) X.env)).all (fun x => !x.1) && (backToKw cpos (keywordEach [] X.env)).all (fun x => x.1.isSome)
      && decide ((e :: es).length + ([] : List Keyword).length + (if ([] : List Keyword).isEmpty then 0 else 1) < 30)) = true := by rfl)
    (hline : (apos.endLine == cpos.line) = true := by rfl) (hst : starEach (e :: es) X.env = (false, eval e X.env) :: starEach es X.env := by rfl) (hplain : (backTo cpos (starEach es X.env)).any (·.1) = false := by rfl) :
    PE X (.Call (.Attribute o name apos) (e :: es) [] cpos) (tE (evOf X) W (mMt rc g fo fl)) :=
  (pe_bm pa slot hty hm ho ha hbase hfew hline hst hplain).imp fun σ H Q ⟨r, F, sl, h, s, gd, q⟩ => by
    refine tE.of s gd (q.bind.imp fun r1 H1 x h1 e1 g1 q1 v hv => ?_)
    have q1 : Aft (evOf X) W F σ r1 H1 (if rc h1 x = true then bindR (fl sl h1) fun ds h2 => g x ds h2 else .bad) _ := q1
    by_cases z : rc h1 x = true
    · rw [if_pos z] at q1
      refine ⟨hrc _ _ _ _ _ _ g1 hv z, tA.of (s.mono gd.mine e1) g1 (q1.bind.imp fun r2 H2 ds h2 e2 g2 q2 vs hvs => ?_)⟩
      exact hs W σ r2 F H2 h2 x v ds vs Q g2 (Den.mono g1.mine e2 _ _ hv) hvs q2
    · rw [if_neg z] at q1; exact False.elim q1
end
def gEnds : D → List D → MH → Res D := fun x ds h => match x, ds with
  | .str a, [.str b] => .ok (.bl (Txt.endswith a b)) h
  | _, _ => .bad
theorem mts_ends {G : Ev} : MtS G (fun x xs H Q => ∃ a b, x = .str a ∧ xs = [.str b] ∧ Q (.bl (Txt.endswith a b)) H) gEnds := fun W σ r F H h x v ds vs Q g hx hd q => by
  cases hx with
  | str a =>
    match ds, hd with
    | [], _ => exact False.elim q
    | d :: _ :: _, _ => cases d <;> exact False.elim q
    | [d], .cons hy .nil =>
      cases hy with
      | str b => exact ⟨a, b, rfl, rfl, q.here g _ (.bl _)⟩
      | _ => exact False.elim q
  | _ => exact False.elim q

/-! ### a call of a value -/
/-- the defs that may be called so -/
abbrev VTab := List (Str × Nat × Fn)
def vFn (tab : VTab) : D → Option (Nat × Fn)
  | .gl x => tab.lookup x
  | _ => none
def mCallV (tab : VTab) (fe : Mo D) (fl : Mo (List D)) : Mo D := mBind fe fun d => match vFn tab d with
  | some p => mBind fl fun ds => fun _ h => ckN p.1 p.2 ds h
  | none => fun _ _ => .bad
section
variable {X : Cx} {W : WX} {e fe : Expr} {es : List Expr} {ff : Mo D} {fl : Mo (List D)} {pos : Pos} {tab : VTab} {k : Nat}
def VTabOk (X : Cx) (k : Nat) (tab : VTab) : Prop := ∀ x p, tab.lookup x = some p → ∃ (f : Addr) (ps : List Str), X.mg x = some (.ref f) ∧ ps.length = p.1 ∧ FT X.prog X.w X.K X.mg X.base k ps p.2 f
/-- fe(e, ..) where fe is itself a call -/
theorem de_callV (T : VTabOk X k tab) (hr : Room k X.A) (tk : Takes X W) (hf : PE X fe (tE (evOf X) W ff)) (ha : PA X (e :: es) (tA (evOf X) W fl))
    (ht : eval (.Call fe (e :: es) [] pos) X.env = (do
      let v ← eval fe X.env
      callWith pos v [] (backTo pos (starEach (e :: es) X.env)) (backToKw pos (keywordEach [] X.env))) := by rfl)
    (he : starEach (e :: es) X.env = (false, eval e X.env) :: starEach es X.env := by rfl) (hpl : (backTo pos (starEach es X.env)).any (·.1) = false := by rfl) :
    PE X (.Call fe (e :: es) [] pos) (tE (evOf X) W (mCallV tab ff fl)) := by
  refine ⟨fun pins s σ H Q I ⟨r, F, sl, h, s', g, q⟩ => ?_⟩
  rw [ht]
  refine wpAny_bind (thn (hf.run pins s σ H (fun v H1 => ∃ r1 d h1, Ext r H r1 H1 ∧ GoodH (evOf X) r1 F h1 H1 ∧ Den (evOf X) r1 F H1 d v ∧ Aft (evOf X) W F σ r1 H1 ((match vFn tab d with
    | some p => mBind fl fun ds => fun _ h => ckN p.1 p.2 ds h
    | none => fun _ _ => .bad) sl h1) fun r' H' d _ => ∀ v, Den (evOf X) r' F H' d v → Q v H') I (tE.of s' g (q.bind.imp fun r1 H1 d h1 e1 g1 q1 v hv => ⟨r1, d, h1, e1, g1, hv, q1⟩))) fun u s1 ⟨v, H1, I1, rv, r1, d, h1, e1, g1, hd, q1⟩ => ?_)
  cases hv : vFn tab d with
  | none => rw [hv] at q1; exact False.elim q1
  | some p =>
    rw [hv] at q1
    cases hd with
    | gl hm =>
      rename_i x f
      obtain ⟨f', ps, hm', hl, t⟩ := T x p hv
      have hm : X.mg x = some (.ref f) := hm
      rw [hm] at hm'
      cases hm'
      obtain ⟨fd, b1, b2⟩ := t.ex
      obtain rfl : u = Value.ref f := rv
      refine PySem.W.callWith_K (h₀ := X.base) I1.ok.mod.kin t.kp (thn (ha.run pos pins s1 σ H1 _ I1 (tA.of (s'.mono g.mine e1) g1 (q1.bind.imp (Q' := fun r2 H2 ds h2 => ∀ vs, DenL (evOf X) r2 F H2 ds vs → spD (evOf X) ps.length p.2 vs H2 Q (WE W σ)) fun r2 H2 ds h2 e2 g2 q2 vs hvs => ?_))) fun us s2 ⟨vs, H2, I2, rr, q2⟩ => ⟨I2.kIn, ?_⟩) he hpl
      · exact ⟨r2, F, h2, ds, g2, hvs, by rw [hl]; exact q2⟩
      · exact run_fnS b1 hr b2.1 (passAt tk σ) I2 rr q2
    | _ => cases hv
end
end CH

/-! CHA: targets of any form, assignments of comprehensions. -/
namespace CH
open PySem PySem.Spec PyProof.Rows L2

/-- what takes a value -/
abbrev Tgt := D → Ms
def GAft (G : Ev) (F r : List Addr) (H : Hp) (R : SRes) (Q : L2.St → Hp → Prop) : Prop := match R with
  | .nx sl h' => ∀ r' H' σ', Ext r H r' H' → GoodH G r' F h' H' → SlR G r' F H' sl σ' → Q σ' H'
  | _ => False
def tG (G : Ev) (f : Tgt) : TG := fun v σ H Q => ∃ r F sl h d, SlR G r F H sl σ ∧ GoodH G r F h H ∧ Den G r F H d v ∧ GAft G F r H (f d sl h) Q
def runT : List Tgt → List D → Ms
  | [], [] => sSkip
  | f :: fs, d :: ds => fun sl h => seqR (f d sl h) (runT fs ds)
  | _, _ => sNever
def tGs (G : Ev) (fs : List Tgt) : TGs := fun vs σ H Q => ∃ r F sl h ds, SlR G r F H sl σ ∧ GoodH G r F h H ∧ DenL G r F H ds vs ∧ GAft G F r H (runT fs ds sl h) Q
def kName (i : Nat) : Tgt := fun d sl h => .nx (sl.set i (some d)) h
def kTup (fs : List Tgt) : Tgt := fun d sl h => match d with
  | .tup ds => if ds.length = fs.length then runT fs ds sl h else .bad
  | _ => .bad
def kDSub (fo fi : Mo D) : Tgt := fun v sl h => bindS sl (fo sl h) fun x h2 => bindS sl (fi sl h2) fun y h3 => match dSet h3 x y v with
  | some h4 => .nx sl h4
  | none => .bad
def kLSub (fo fi : Mo D) : Tgt := fun v sl h => bindS sl (fo sl h) fun x h2 => bindS sl (fi sl h2) fun y h3 => match lSet h3 x y v with
  | some h4 => .nx sl h4
  | none => .bad
def sAsg (f : Mo D) (k : Tgt) : Ms := fun sl h => bindS sl (f sl h) fun d h1 => k d sl h1
section
variable {G : Ev} {r r1 F : List Addr} {H H1 : Hp} {h h1 : MH} {W : WX} {σ : L2.St} {sl : Sl} {Q : L2.St → Hp → Prop}
theorem GAft.later {R : SRes} (a : GAft G F r H R Q) (e : Ext r H r1 H1) (g : GoodH G r1 F h1 H1) : GAft G F r1 H1 R Q := by
  cases R with
  | nx s h' => exact fun r' H' σ' e' g' => a r' H' σ' (e.trans g.mine e') g'
  | _ => exact a
theorem GAft.here (a : GAft G F r H (.nx sl h) Q) (s : SlR G r F H sl σ) (g : GoodH G r F h H) : Q σ H := a r H σ .refl g s
theorem GAft.seq {R : SRes} {k : Ms} (a : GAft G F r H (seqR R k) Q) : GAft G F r H R (fun σ' H' => ∃ r' sl' h', Ext r H r' H' ∧ GoodH G r' F h' H' ∧ SlR G r' F H' sl' σ' ∧ GAft G F r' H' (k sl' h') Q) := by
  cases R with
  | nx s h' => exact fun r' H' σ' e' g' s' => ⟨r', s, h', e', g', s', GAft.later (h1 := h') a e' g'⟩
  | _ => exact a
theorem GAft.bindS {α : Type} {R : Res α} {k : α → MH → SRes} (a : GAft G F r H (bindS sl R k) Q) : Aft G W F σ r H R (fun r1 H1 x h1 => GAft G F r1 H1 (k x h1) Q) := by
  cases R with
  | ok x h' =>
    intro r' H' e g'
    exact GAft.later (h1 := h') a e g'
  | exc c x h' => exact False.elim a
  | bad => exact False.elim a
theorem GAft.bind1 {α : Type} {R : Res α} {k : α → MH → SRes} (a : GAft G F r H (CH.bindS sl R k) Q) : Aft G W F σ r H R (fun r1 H1 x h1 => GAft G F r1 H1 (k x h1) Q) := GAft.bindS a
end
section
variable {X : Cx} {W : WX} {pos : Pos} {e o i : Expr} {es : List Expr} {f fo fi : Mo D} {k : Tgt} {ks : List Tgt}
theorem dg_name {j : Nat} {x : Str} (p : PG X (.Name x pos) (gName j)) : PG X (.Name x pos) (tG (evOf X) (kName j)) := ⟨fun pins s σ H v u Q I rv ⟨r, F, sl, h, d, hs, g, hd, q⟩ => p.run pins s σ H v u Q I rv (GAft.here q (hs.set hd) g)⟩
theorem dgs_nil : PGs X [] (tGs (evOf X) []) := ⟨fun pins s σ H vs us Q I rv ⟨r, F, sl, h, ds, hs, g, hd, q⟩ => by
  cases hd with
  | nil => exact pgs_nil.run pins s σ H _ us Q I rv ⟨rfl, GAft.here q hs g⟩
  | cons _ _ => exact False.elim q⟩
theorem dgs_cons (h1 : PG X e (tG (evOf X) k)) (h2 : PGs X es (tGs (evOf X) ks)) (hs : (assignEach (e :: es) X.env).map (·.2) = assign e X.env :: (assignEach es X.env).map (·.2) := by rfl) : PGs X (e :: es) (tGs (evOf X) (k :: ks)) :=
  ⟨fun pins s σ H vs us Q I rv ⟨r, F, sl, h, ds, hsl, g, hd, q⟩ => by
    cases hd with
    | nil => exact False.elim q
    | cons h3 h4 =>
      refine (pgs_cons h1 h2 hs).run pins s σ H _ us Q I rv ⟨_, _, rfl, r, F, sl, h, _, hsl, g, h3, ?_⟩
      have q' := GAft.seq q
      cases hR : k _ sl h with
      | nx s' h' =>
        rw [hR] at q'
        intro r' H' σ' e' g' s2
        obtain ⟨r2, sl2, h2', a1, a2, a3, a4⟩ := q' r' H' σ' e' g' s2
        have q2 : GAft (evOf X) F r H (seqR (k _ sl h) (runT ks _)) Q := q
        rw [hR] at q2
        exact ⟨r', F, s', h', _, s2, g', DenL.mono g.mine e' _ _ h4, GAft.later (h1 := h') q2 e' g'⟩
      | ct s' h' => rw [hR] at q'; exact q'
      | bk s' h' => rw [hR] at q'; exact q'
      | rt d h' => rw [hR] at q'; exact q'
      | exc c a s' h' => rw [hR] at q'; exact q'
      | bad => rw [hR] at q'; exact q'⟩
theorem dg_tup {n : Nat} {kk : Nat} (hc : X.calm = true) (h : PGs X es (tGs (evOf X) ks)) (hk : ks.length = n) (hn : (assignEach es X.env).length = n := by rfl) (hst : (assignEach es X.env).findIdx? (·.1) = none := by rfl) : PG X (.Tuple es kk pos) (tG (evOf X) (kTup ks)) :=
  ⟨fun pins s σ H v u Q I rv ⟨r, F, sl, h', d, hs, g, hd, q⟩ => by
    cases hd with
    | @tup a ds vs hq hl =>
      have q : GAft (evOf X) F r H (if ds.length = ks.length then runT ks ds sl h' else .bad) Q := q
      by_cases z : ds.length = ks.length
      · rw [if_pos z] at q
        exact (pg_tup hc h hn hst).run pins s σ H _ u Q I rv ⟨_, _, rfl, hq.sq, by rw [← hl.len, z]; exact hk, r, F, sl, h', ds, hs, g, hl, q⟩
      · rw [if_neg z] at q; exact False.elim q
    | _ => exact False.elim q⟩
theorem set_dict {n : Nat} (hr : Room n X.A) : PSet X (fun o i v H Q => ∃ a H', o = .ref a ∧ DPut H a i v H' ∧ Q H') := fun pins s σ H o i v ov iv u Q I ro ri rv ⟨a, H', eo, hp, q⟩ => by
  subst eo
  obtain rfl : ov = Value.ref a := ro
  exact d_setItem (by have := hr.un; omega) I hp ri rv fun s' I' => ⟨H', I', q⟩
theorem dg_dsub {n : Nat} (hr : Room n X.A) (ho : PE X o (tE (evOf X) W fo)) (hi : PE X i (tE (evOf X) W fi)) (ha : ∀ v, assign (.Subscript o i pos) X.env v = (do
      let ov ← holding [v] (eval o X.env)
      let iv ← holding [v, ov] (eval i X.env)
      standAt pos
      holding [v, ov, iv] (setItem ov iv v)
      release [v, ov, iv] []) := by intro _; rfl) : PG X (.Subscript o i pos) (tG (evOf X) (kDSub fo fi)) :=
  ⟨fun pins s σ H v u Q I rv ⟨r, F, sl, h, d, hs, g, hd, q⟩ => (pg_sub ho hi (set_dict hr) ha).run pins s σ H v u Q I rv (by
    refine tE.of hs g ((GAft.bindS (W := W) (σ := σ) q).imp fun r2 H2 x h2 e2 g2 q2 vx hvx => ?_)
    have s2 := hs.mono g.mine e2
    refine tE.of s2 g2 ((GAft.bindS (W := W) (σ := σ) q2).imp fun r3 H3 y h3 e3 g3 q3 vy hvy => ?_)
    have q3 : GAft (evOf X) F r3 H3 (match dSet h3 x y d with
      | some h4 => .nx sl h4
      | none => .bad) Q := q3
    cases hs' : dSet h3 x y d with
    | none => rw [hs'] at q3; exact False.elim q3
    | some h4 =>
      rw [hs'] at q3
      obtain ⟨a, H', ea, hput, ee, g4⟩ := dSet_ok g3 (Den.mono g2.mine e3 _ _ hvx) hvy (Den.mono g2.mine e3 _ _ (Den.mono g.mine e2 _ _ hd)) hs'
      exact ⟨a, H', ea, hput, q3 r3 H' σ ee g4 ((s2.mono g2.mine e3).mono g3.mine ee)⟩)⟩
theorem dg_lsub (ho : PE X o (tE (evOf X) W fo)) (hi : PE X i (tE (evOf X) W fi)) (ha : ∀ v, assign (.Subscript o i pos) X.env v = (do
      let ov ← holding [v] (eval o X.env)
      let iv ← holding [v, ov] (eval i X.env)
      standAt pos
      holding [v, ov, iv] (setItem ov iv v)
      release [v, ov, iv] []) := by intro _; rfl) : PG X (.Subscript o i pos) (tG (evOf X) (kLSub fo fi)) :=
  ⟨fun pins s σ H v u Q I rv ⟨r, F, sl, h, d, hs, g, hd, q⟩ => (pg_sub ho hi set_list ha).run pins s σ H v u Q I rv (by
    refine tE.of hs g ((GAft.bindS (W := W) (σ := σ) q).imp fun r2 H2 x h2 e2 g2 q2 vx hvx => ?_)
    have s2 := hs.mono g.mine e2
    refine tE.of s2 g2 ((GAft.bindS (W := W) (σ := σ) q2).imp fun r3 H3 y h3 e3 g3 q3 vy hvy => ?_)
    have q3 : GAft (evOf X) F r3 H3 (match lSet h3 x y d with
      | some h4 => .nx sl h4
      | none => .bad) Q := q3
    cases hs' : lSet h3 x y d with
    | none => rw [hs'] at q3; exact False.elim q3
    | some h4 =>
      rw [hs'] at q3
      obtain ⟨p, xs, k, j, e1', e2', hp, hj, ee, g4⟩ := lSet_ok g3 (Den.mono g2.mine e3 _ _ hvx) hvy (Den.mono g2.mine e3 _ _ (Den.mono g.mine e2 _ _ hd)) hs'
      exact ⟨p, xs, k, j, e1', e2', hp, hj, q3 r3 _ σ ee g4 ((s2.mono g2.mine e3).mono g3.mine ee)⟩)⟩
/-- only going on, never another way out -/
def onlyNx : SRes → SRes
  | .nx sl h => .nx sl h
  | _ => .bad
def sAsgT (f : Mo D) (k : Tgt) : Ms := fun sl h => bindS sl (f sl h) fun d h1 => onlyNx (k d sl h1)
theorem ds_asg {tg : Expr} (he : PE X e (tE (evOf X) W f)) (hg : PG X tg (tG (evOf X) k)) (hs : swapsWithSole [tg] e pos.line X.env = pure false := by rfl) (hw : swappedStores [tg] e X.env = pure none := by rfl)
    (h1 : (assignEach [tg] X.env).map (·.2) = [assign tg X.env] := by rfl) : PS X (.Assign [tg] e pos) (tS (evOf X) W (sAsgT f k)) :=
  (ps_asg he hg hs hw h1).imp fun E σ H ⟨r, F, sl, h, s, g, q⟩ => by
    refine tE.of s g ((q.bindS s g).imp fun r1 H1 d h1 e1 g1 q1 v hv => ⟨r1, F, sl, h1, d, s.mono g.mine e1, g1, hv, ?_⟩)
    cases hR : k d sl h1 with
    | nx s' h' => rw [hR] at q1; exact q1
    | ct s' h' => rw [hR] at q1; exact q1
    | bk s' h' => rw [hR] at q1; exact q1
    | rt d h' => rw [hR] at q1; exact q1
    | exc c a s' h' => rw [hR] at q1; exact q1
    | bad => rw [hR] at q1; exact q1

/-- name = [..] on one line -/
theorem ds_setLc {i : Nat} {vs : List Nat} {y : Str} {py spos : Pos} {elt te iter : Expr} {ifs : List Expr} {scope : Scope} {own : List (Str × Nat)} {fi : Mo (List D)} {tg : Tg} {fc : Mo Bool} {f : Mo D} (hc : X.calm = true) (hN : X.N.Nodup) (hy : X.N[i]? = some y) (hyl : X.env.scope.names.lookup y = some .local)
    (hsw : swapsWith (.ListComp elt [⟨te, iter, ifs, 0⟩] scope pos) (some (.Name y py)) spos.line X.env = pure true) (hi : PI X te iter (tI (evOf X) W fi)) (ok : BlkOk X.N X.env.scope scope own)
    (ho : ∀ i ∈ tg.slots, i ∈ own.map (·.2))
    (hg : ∀ (s : Shared) (H : Hp) (C : Addr) (cl : List (Str × Addr)) (fp : List Addr), PG (X.blk s H scope (compEnvC scope cl C X.env) fp) te (tgV X.K tg))
    (ht : ∀ (s : Shared) (H : Hp) (C : Addr) (cl : List (Str × Addr)) (fp : List Addr), PTs (X.blk s H scope (compEnvC scope cl C X.env) fp) ifs (tT (evOf X) W0 fc))
    (he : ∀ (s : Shared) (H : Hp) (C : Addr) (cl : List (Str × Addr)) (fp : List Addr), PE (X.blk s H scope (compEnvC scope cl C X.env) fp) elt (tE (evOf X) W0 f)) (hs : ∀ x, foldedSetIterable iter X.env x = pure x := by intro _; rfl) (hv : own.map (·.2) = vs := by rfl) :
    PS X (.Assign [.Name y py] (.ListComp elt [⟨te, iter, ifs, 0⟩] scope pos) spos) (tS (evOf X) W (sSet i (mLc vs fi tg fc f))) := by
  subst hv
  exact (ps_setLc hc hN hy hyl hsw hi ok hg ht he hs).imp fun E σ H ⟨r, F, sl, h, s, g, q⟩ => lc_of ho σ H _ (tE.of s g ((q.bindS s g).imp fun r1 H1 x h1 e1 g1 q1 v hv => q1.nxh ((s.mono g.mine e1).set hv) g1))
/-! ### d.get(k, x) -/
def getOr (h : MH) (x y z : D) : Option D := (dicD h x).bind fun p => (keyD y).map fun k => (dget k p.1 p.2).getD z
def mDGet2 (fo fk fx : Mo D) : Mo D := mBind fo fun x => fun sl h => if (dicD h x).isSome = true then bindR (fk sl h) fun y h1 => bindR (fx sl h1) fun z h2 => optR (getOr h2 x y z) h2 else .bad
theorem dget_none {α β : Type} {k : Key} : ∀ {ks : List Key} {vs : List α} {us : List β}, ks.length = vs.length → ks.length = us.length → dget k ks vs = none → dget k ks us = none
  | [], _, _, _, _, _ => rfl
  | k' :: ks, v :: vs, u :: us, e1, e2, e => by
    unfold dget at e ⊢
    by_cases h : k' = k
    · rw [if_pos h] at e; cases e
    · rw [if_neg h] at e ⊢
      exact dget_none (by simpa using e1) (by simpa using e2) e
  | _ :: _, [], _, e1, _, _ => by cases e1
  | _ :: _, _, [], _, e2, _ => by cases e2
theorem de_dget2 {n : Nat} {apos cpos : Pos} {ee ff : Expr} {fk fx : Mo D} (hr : Room n X.A) (ho : PE X o (tE (evOf X) W fo)) (he : PE X ee (tE (evOf X) W fk)) (hf : PE X ff (tE (evOf X) W fx)) (m : M2 X o "get" apos ee ff cpos := by exact ⟨rfl, rfl, rfl, rfl⟩) :
    PE X (.Call (.Attribute o "get" apos) [ee, ff] [] cpos) (tE (evOf X) W (mDGet2 fo fk fx)) :=
  (pe_dget2 (by have := hr.un; omega) ho he hf m).imp fun σ H Q ⟨r, F, sl, h, s, g, q⟩ => by
    refine tE.of s g (q.bind.imp fun r1 H1 x h1 e1 g1 q1 v hv => ?_)
    have q1 : Aft (evOf X) W F σ r1 H1 (if (dicD h1 x).isSome = true then bindR (fk sl h1) fun y h2 => bindR (fx sl h2) fun z h3 => optR (getOr h3 x y z) h3 else .bad) _ := q1
    by_cases z : (dicD h1 x).isSome = true
    · rw [if_pos z] at q1
      obtain ⟨p, hp⟩ := Option.isSome_iff_exists.mp z
      obtain ⟨a, vs, rfl, h3, h4, h5⟩ := dic_den g1 hv hp
      have s1 := s.mono g.mine e1
      refine ⟨a, rfl, .inl ⟨_, .inl h3⟩, tE.of s1 g1 (q1.bind.imp fun r2 H2 y h2 e2 g2 q2 u hu => ?_)⟩
      refine tE.of (s1.mono g1.mine e2) g2 (q2.bind.imp fun r3 H3 w h3' e3 g3 q3 t ht => ?_)
      obtain ⟨d, e, qq⟩ := optR_ok (show Aft (evOf X) W F σ r3 H3 (optR (getOr h3' x y w) h3') _ from q3)
      unfold getOr at e
      cases hd : dicD h3' x with
      | none => rw [hd] at e; cases e
      | some p' =>
        rw [hd] at e
        have e : ((keyD y).map fun k => (dget k p'.1 p'.2).getD w) = some d := e
        cases hk : keyD y with
        | none => rw [hk] at e; cases e
        | some k =>
          rw [hk] at e
          have e : (dget k p'.1 p'.2).getD w = d := Option.some.inj e
          obtain ⟨a', vs', ea, b3, b4, b5⟩ := dic_den g3 (Den.mono g2.mine e3 _ _ (Den.mono g1.mine e2 _ _ hv)) hd
          cases ea
          have ek := key_den hk hu
          subst ek
          refine ⟨_, DGet.k b3, ?_⟩
          rw [valV_dget k b4]
          cases hg : dget k p'.1 p'.2 with
          | none =>
            rw [hg] at e
            subst e
            rw [dget_none (by rw [b4, b5.len]) b4 hg]
            exact qq.here g3 _ ht
          | some d' =>
            rw [hg] at e
            subst e
            obtain ⟨w', c6, c7⟩ := dget_den b4 b5 hg
            rw [c6]
            exact qq.here g3 _ c7
    · rw [if_neg z] at q1; exact False.elim q1
end
end CH

/-! CHB: written constants; the end of a law. -/
namespace CH
open PySem PySem.Spec PyProof.Rows L2

mutual
/-- does the written value u stand for d -/
def chkV (K : PySem.W.Frag) : D → Value → Bool
  | .non, .none => true
  | .bl a, .bool b => a == b
  | .int i, .int j _ => decide (i = j)
  | .str x, .str y _ => decide (x = y)
  | .tup ds, .ref a => match K.lookup a with
    | some ⟨.type c, _, .seq its _, _⟩ => decide (c = "tuple") && (decide (its.size ≤ sizeLine) && chkL K ds its.toList)
    | _ => false
  | _, _ => false
def chkL (K : PySem.W.Frag) : List D → List Value → Bool
  | [], [] => true
  | d :: ds, u :: us => chkV K d u && chkL K ds us
  | _, _ => false
end
section
variable {K : PySem.W.Frag} {mg : Str → Option Value}
mutual
theorem chkV_ok : ∀ (d : D) (u : Value), chkV K d u = true → ∃ v, RelV v u ∧ ∀ r F H, Den ⟨K, mg⟩ r F H d v
  | .non, u, h => by cases u <;> first | exact ⟨.non, rfl, fun _ _ _ => .non⟩ | cases h
  | .bl a, u, h => by
    cases u with
    | bool b =>
      have e : a = b := eq_of_beq (show (a == b) = true from h)
      exact ⟨.bl a, by rw [e]; rfl, fun _ _ _ => .bl a⟩
    | _ => cases h
  | .int i, u, h => by
    cases u with
    | int j t =>
      have e : i = j := of_decide_eq_true h
      exact ⟨.int i, ⟨t, by rw [e]⟩, fun _ _ _ => .int i⟩
    | _ => cases h
  | .str x, u, h => by
    cases u with
    | str y t =>
      have e : x = y := of_decide_eq_true h
      exact ⟨.str x, ⟨t, by rw [e]⟩, fun _ _ _ => .str x⟩
    | _ => cases h
  | .tup ds, u, h => by
    cases u with
    | ref a =>
      have h1 : (match K.lookup a with
        | some ⟨.type c, _, .seq its _, _⟩ => decide (c = "tuple") && (decide (its.size ≤ sizeLine) && chkL K ds its.toList)
        | _ => false) = true := h
      cases q : K.lookup a with
      | none => rw [q] at h1; cases h1
      | some o =>
        obtain ⟨oc, od, dt, osl⟩ := o
        rw [q] at h1
        cases oc with
        | type c =>
          cases dt with
          | seq its n =>
            have h2 : (decide (c = "tuple") && (decide (its.size ≤ sizeLine) && chkL K ds its.toList)) = true := h1
            rw [Bool.and_eq_true, Bool.and_eq_true] at h2
            obtain ⟨h3, h4, h5⟩ := h2
            have h3 : c = "tuple" := of_decide_eq_true h3
            have h4 : its.size ≤ sizeLine := of_decide_eq_true h4
            subst h3
            obtain ⟨vs, rv, f⟩ := chkL_ok ds its.toList h5
            exact ⟨.ref a, rfl, fun r F H => .tup (.inr (.inr ⟨_, its, n, q, rfl, rfl, h4, rv⟩)) (f r F H)⟩
          | _ => cases h1
        | _ => cases dt <;> cases h1
    | _ => cases h
  | .lst _, u, h => by cases u <;> cases h
  | .dic _ _, u, h => by cases u <;> cases h
  | .ref _, u, h => by cases u <;> cases h
  | .gl _, u, h => by cases u <;> cases h
  | .ty _, u, h => by cases u <;> cases h
  | .scr _, u, h => by cases u <;> cases h
theorem chkL_ok : ∀ (ds : List D) (us : List Value), chkL K ds us = true → ∃ vs, Vals vs us ∧ ∀ r F H, DenL ⟨K, mg⟩ r F H ds vs
  | [], [], _ => ⟨[], .nil, fun _ _ _ => .nil⟩
  | [], _ :: _, h => by cases h
  | _ :: _, [], h => by cases h
  | d :: ds, u :: us, h => by
    have h1 : (chkV K d u && chkL K ds us) = true := h
    rw [Bool.and_eq_true] at h1
    obtain ⟨v, a1, a2⟩ := chkV_ok d u h1.1
    obtain ⟨vs, b1, b2⟩ := chkL_ok ds us h1.2
    exact ⟨v :: vs, .cons a1 b1, fun r F H => .cons (a2 r F H) (b2 r F H)⟩
end
/-- the module's name x stands for d -/
def chkC (K : PySem.W.Frag) (p : Str × D) : Bool := match PySem.W.nsIn K mainGlobals p.1 with
  | some (some u) => chkV K p.2 u
  | _ => false
theorem chkC_ok {h : Heap} (X : K.In h) (G : h.Ns mainGlobals mg) {x : Str} {d : D} (c : chkC K (x, d) = true) : CoD ⟨K, mg⟩ x d := by
  unfold chkC at c
  cases e : PySem.W.nsIn K mainGlobals x with
  | none => simp only [e] at c; cases c
  | some o =>
    cases o with
    | none => simp only [e] at c; cases c
    | some u =>
      simp only [e] at c
      obtain ⟨v, a1, a2⟩ := chkV_ok (mg := mg) d u c
      exact ⟨u, v, PySem.W.mg_of X G e, a1, a2⟩
end

/-- what leaves a def's body leaves the def -/
theorem takes_cx {P : Program} {w : World} {K : PySem.W.Frag} {mg : Str → Option Value} {base : Heap} {N : List Str} {qual : Str} {scope : Scope} {f : Addr} {cd : Value} {A : Around} {outer : List Env} {s : Shared} {H : Hp} {E : XK} :
    Takes (cxOf (L2.CX P w) P w K mg base N qual scope f cd A outer s H E) (WX0 E) := takes_of rfl rfl rfl rfl
/-- a def that never ends well -/
theorem FT.bad {P : Program} {w : World} {K : PySem.W.Frag} {mg : Str → Option Value} {base : Heap} {k : Nat} {ps : List Str} {f : Addr} {fd : FuncData} (bd : Binds K fd ps [] ∧ ∀ (s : Shared) (us : List Value), us.length = ps.length → BindsTo s fd ⟨us, []⟩ (ps.zip us)) (kp : PySem.W.keepIn K (.ref f) = true) : FT P w K mg base k ps (fun _ _ => .bad) f := by
  have no : ∀ vs H Q E, spD ⟨K, mg⟩ ps.length (fun _ _ => .bad) vs H Q E → False := fun vs H Q E h => by
    obtain ⟨r, F, h, ds, g, hd, q⟩ := h
    unfold ckN at q
    by_cases z : ds.length = ps.length
    · rw [if_pos z] at q; exact q
    · rw [if_neg z] at q; exact q
  exact ⟨⟨fd, ⟨fun vs H Q E h => (no vs H Q E h).elim, fun A outer s H args us vs Q E _ _ _ _ h => (no vs H Q E h).elim⟩, bd⟩, kp⟩
/-- the law's promise from its mirror -/
theorem sp_law {K : PySem.W.Frag} {mg : Str → Option Value} {c : Fn} {H : Hp} {a : Addr} {ns : List Int} (hO : L2.Only H) (hS : SqL K H a (ns.map V.int)) (hc : ∃ h', c [.scr ns] [] = .ok (.bl true) h') : spD ⟨K, mg⟩ 1 c [.ref a] H (fun v _ => v = .bl true) fun _ _ _ => False := by
  obtain ⟨h', hc⟩ := hc
  refine ⟨[], [], [], [.scr ns], ⟨rfl, List.nodup_nil, (fun _ z => by cases z), (fun i o hi => by simp at hi)⟩, .cons (.scr ?_) .nil, ?_⟩
  · rcases hS with (hS | ⟨o, hS⟩) | hS
    · rcases hO a with z | ⟨o, xs, z⟩
      · rw [z] at hS; cases hS
      · rw [z] at hS; cases hS
    · exact .inl ⟨o, hS⟩
    · exact .inr (.inr hS)
  · show Aft _ _ _ _ _ _ (c [.scr ns] []) _
    rw [hc]
    intro r' H' e g v hv
    cases hv
    rfl
/-- what is known of the law's def in each world: its text in the written part, and that it answers True of every script -/
def LawDef (P : Program) (CX : World → CXT) (YP : World → Heap → Prop) (name x : Str) (n k : Nat) : Prop :=
  ∀ (w : World) (mg : Str → Option Value) (fa : Addr) (h : Heap), YP w h → h.Ns mainGlobals mg → mg name = some (.ref fa) → ∃ (K : PySem.W.Frag) (fd : FuncData) (sp : Sp), K.In h ∧ (∀ (s : Shared) (u : Value), BindsTo s fd ⟨[u], []⟩ [(x, u)]) ∧
    (∀ (H : Hp) (a : Addr) (ns : List Int), ns.length ≤ n → L2.Only H → SqL K H a (ns.map V.int) → sp [.ref a] H (fun v _ => v = .bl true) fun _ _ _ => False) ∧ ∀ base : Heap, K.In base → base.Ns mainGlobals mg → FnOk P w K mg base (CX w) k fa fd [x] sp
/-- no error leaves the law -/
def NoErr (CX : World → CXT) : Prop := ∀ (w : World) (H : Hp) (s : Shared) (e : Value) (s' : Shared), CX w [] H s (fun _ _ _ => False) e s' → False
theorem walk_ofW {l : PySem.W.OpenLaw} {n k : Nat} {q : Program} {loose : List Str} {XP : (Str → Option Value) → Heap → Prop} {YP : World → Heap → Prop} {d : DefRec} {CX : World → CXT} {x : Str} (hn : l.most = some n) (hn2 : n ≤ sizeLine) (hdf : d.params.defaults = []) (hr : Room k callerA)
    (F : LawDef l.prog CX YP d.name x n k) (hCX : NoErr CX) : PySem.W.WalkO q loose XP YP l.row.toRowW d [] (fun f vs => PySem.call f vs) := by
  refine Att.attach_call hn hdf fun w s₀ s₁ mg mb fa o pm cd doc a vs ns G Y ho hd hcd hmg hobj hints hlen hg => ?_
  have ⟨K, fd, sp, KX, hb, hsp, hF⟩ := F w mg fa _ Y G.T.g hmg
  exact law_call KX G.T.g G.T.b G.T.builtins G.T.nolimit hg hobj hints (Nat.le_trans hlen hn2) hr hF hb (fun H hO hS => hsp H a ns hlen hO hS) fun H e s' => hCX w H s₁ e s'
theorem cx_no {P : Program} {w : World} (H : Hp) (s : Shared) (e : Value) (s' : Shared) (h : L2.CX P w [] H s (fun _ _ _ => False) e s') : False := by
  obtain ⟨_, _, _, _, _, _, _, _, _, _, _, _, z⟩ := h
  exact z
end CH

/-! P0: rules for reckoning with mirrors. -/
namespace CH
open PySem L2
theorem ofString_inj {a b : String} : (Str.ofString a = Str.ofString b) = (a = b) := by
  apply propext
  constructor
  · intro h
    rw [Str.ofString_eq_toList, Str.ofString_eq_toList] at h
    injection h with h
    have h := congrArg Array.toList h
    exact String.toList_inj.mp ((List.map_inj_right (f := Char.toNat) (fun a b e => Char.toNat_inj.mp e)).mp h)
  · rintro rfl; rfl
theorem atI0 {α : Type} {a : α} {xs : List α} : atI (a :: xs) 0 = some a := by
  have := atI_nat (xs := a :: xs) (j := 0) (v := a) rfl
  simpa using this
theorem atI1 {α : Type} {a b : α} {xs : List α} : atI (a :: b :: xs) 1 = some b := by
  have := atI_nat (xs := a :: b :: xs) (j := 1) (v := b) rfl
  simpa using this
theorem atI2 {α : Type} {a b c : α} {xs : List α} : atI (a :: b :: c :: xs) 2 = some c := by
  have := atI_nat (xs := a :: b :: c :: xs) (j := 2) (v := c) rfl
  simpa using this
theorem atI3 {α : Type} {a b c d : α} {xs : List α} : atI (a :: b :: c :: d :: xs) 3 = some d := by
  have := atI_nat (xs := a :: b :: c :: d :: xs) (j := 3) (v := d) rfl
  simpa using this
/-! shaped texts -/
theorem char_lt (c : Char) : c.toNat < 0x110000 := by
  have h := c.valid
  rcases h with h | ⟨_, h⟩
  · exact Nat.lt_of_lt_of_le h (by decide)
  · exact h
theorem strOk_of (x : String) : PyData.strOk (Str.ofString x) = true := by
  unfold PyData.strOk
  rw [Str.ofString_eq_toList]
  rw [← Array.all_toList, List.all_eq_true]
  intro n hn
  obtain ⟨c, _, rfl⟩ := List.mem_map.mp hn
  exact decide_eq_true (char_lt c)
theorem pyOk_str {n : Nat} {x : String} : pyOk n (.str (Str.ofString x)) = true := by
  have h : SeqAt.shaped (.str (Str.ofString x)) = true := by
    unfold SeqAt.shaped PyData.canLay0
    rw [strOk_of]
    rfl
  cases n <;> exact h
theorem pyOk_non {n : Nat} : pyOk n .non = true := by cases n <;> rfl
theorem pyOk_bl {n : Nat} {b : Bool} : pyOk n (.bl b) = true := by cases n <;> rfl
theorem pyOk_int {n : Nat} {i : Int} : pyOk n (.int i) = true := by cases n <;> rfl
theorem pyOk_tup {n : Nat} {xs : List D} : pyOk (n + 1) (.tup xs) = pyOkL n xs := rfl
theorem pyOk_lst {n : Nat} {xs : List D} : pyOk (n + 1) (.lst xs) = pyOkL n xs := rfl
theorem pyOkL_nil {n : Nat} : pyOkL n [] = true := by cases n <;> rfl
theorem pyOkL_cons {n : Nat} {d : D} {ds : List D} : pyOkL n (d :: ds) = (pyOk n d && pyOkL n ds) := by cases n <;> rfl
/-! ### one step of a mirror, applied -/
@[simp] theorem bindR_ok {α β : Type} {a : α} {h : MH} {k : α → MH → Res β} : bindR (.ok a h) k = k a h := rfl
@[simp] theorem bindR_exc {α β : Type} {c : Str} {a : Option (Str × D)} {h : MH} {k : α → MH → Res β} : bindR (.exc c a h) k = .exc c a h := rfl
@[simp] theorem bindR_bad {α β : Type} {k : α → MH → Res β} : bindR .bad k = .bad := rfl
@[simp] theorem optR_some {α : Type} {a : α} {h : MH} : optR (some a) h = .ok a h := rfl
@[simp] theorem bindS_ok {α : Type} {sl : Sl} {a : α} {h : MH} {k : α → MH → SRes} : bindS sl (.ok a h) k = k a h := rfl
@[simp] theorem bindS_exc {α : Type} {sl : Sl} {c : Str} {a : Option (Str × D)} {h : MH} {k : α → MH → SRes} : bindS sl (.exc c a h) k = .exc c a sl h := rfl
@[simp] theorem seqR_nx {sl : Sl} {h : MH} {k : Ms} : seqR (.nx sl h) k = k sl h := rfl
@[simp] theorem seqR_rt {d : D} {h : MH} {k : Ms} : seqR (.rt d h) k = .rt d h := rfl
@[simp] theorem seqR_exc {c : Str} {a : Option (Str × D)} {sl : Sl} {h : MH} {k : Ms} : seqR (.exc c a sl h) k = .exc c a sl h := rfl
@[simp] theorem seqR_ite {P : Prop} [Decidable P] {a b : SRes} {k : Ms} : seqR (if P then a else b) k = if P then seqR a k else seqR b k := by split <;> rfl
@[simp] theorem bindR_ite {α β : Type} {P : Prop} [Decidable P] {a b : Res α} {k : α → MH → Res β} : bindR (if P then a else b) k = if P then bindR a k else bindR b k := by split <;> rfl
@[simp] theorem bindS_ite {α : Type} {sl : Sl} {P : Prop} [Decidable P] {a b : Res α} {k : α → MH → SRes} : bindS sl (if P then a else b) k = if P then bindS sl a k else bindS sl b k := by split <;> rfl
@[simp] theorem endB_nx {sl : Sl} {h : MH} : endB (.nx sl h) = .ok .non h := rfl
@[simp] theorem endB_rt {d : D} {h : MH} : endB (.rt d h) = .ok d h := rfl
@[simp] theorem endB_exc {c : Str} {a : Option (Str × D)} {sl : Sl} {h : MH} : endB (.exc c a sl h) = .exc c a h := rfl
@[simp] theorem endB_ite {P : Prop} [Decidable P] {a b : SRes} : endB (if P then a else b) = if P then endB a else endB b := by split <;> rfl
@[simp] theorem ite_ok {α : Type} {P : Prop} [Decidable P] {a b : α} {h : MH} : (if P then Res.ok a h else Res.ok b h) = Res.ok (if P then a else b) h := by split <;> rfl
@[simp] theorem ite_blD {P : Prop} [Decidable P] {a b : Bool} : (if P then D.bl a else D.bl b) = D.bl (if P then a else b) := by split <;> rfl
theorem runB_ap {n : Nat} {b : Ms} {ds : List D} {h : MH} : runB n b ds h = endB (b (slots0 n ds) h) := rfl
@[simp] theorem slots0_ap {n : Nat} {ds : List D} : slots0 n ds = ds.map some ++ List.replicate (n - ds.length) none := rfl
@[simp] theorem mVar_ap {i : Nat} {sl : Sl} {h : MH} : mVar i sl h = optR (sl[i]?.join) h := rfl
@[simp] theorem mC_ap {d : D} {sl : Sl} {h : MH} : mC d sl h = .ok d h := rfl
@[simp] theorem mBind_ap {α β : Type} {m : Mo α} {k : α → Mo β} {sl : Sl} {h : MH} : mBind m k sl h = bindR (m sl h) fun a h1 => k a sl h1 := rfl
@[simp] theorem mNil_ap {sl : Sl} {h : MH} : mNil sl h = .ok [] h := rfl
@[simp] theorem mCons_ap {a : Mo D} {b : Mo (List D)} {sl : Sl} {h : MH} : mCons a b sl h = bindR (a sl h) fun x h1 => bindR (b sl h1) fun xs h2 => .ok (x :: xs) h2 := rfl
@[simp] theorem mOp_ap {g : D → D → MH → Res D} {a b : Mo D} {sl : Sl} {h : MH} : mOp g a b sl h = bindR (a sl h) fun x h1 => bindR (b sl h1) fun y h2 => g x y h2 := rfl
def andK (b : Mo D) (sl : Sl) : D → MH → Res D
  | .bl c, h => if c = true then b sl h else .ok (.bl false) h
  | _, _ => .bad
def orK (b : Mo D) (sl : Sl) : D → MH → Res D
  | .bl c, h => if c = true then .ok (.bl true) h else b sl h
  | _, _ => .bad
@[simp] theorem mAnd_ap {a b : Mo D} {sl : Sl} {h : MH} : mAnd a b sl h = bindR (a sl h) fun x h1 => andK b sl x h1 := by
  show bindR (a sl h) _ = _
  refine congrArg _ (funext fun x => funext fun h1 => ?_)
  cases x with
  | bl c => cases c <;> rfl
  | _ => rfl
@[simp] theorem mOr_ap {a b : Mo D} {sl : Sl} {h : MH} : mOr a b sl h = bindR (a sl h) fun x h1 => orK b sl x h1 := by
  show bindR (a sl h) _ = _
  refine congrArg _ (funext fun x => funext fun h1 => ?_)
  cases x with
  | bl c => cases c <;> rfl
  | _ => rfl
@[simp] theorem andK_bl {b : Mo D} {sl : Sl} {c : Bool} {h : MH} : andK b sl (.bl c) h = if c = true then b sl h else .ok (.bl false) h := rfl
@[simp] theorem orK_bl {b : Mo D} {sl : Sl} {c : Bool} {h : MH} : orK b sl (.bl c) h = if c = true then .ok (.bl true) h else b sl h := rfl
def notK : D → MH → Res D
  | .bl c, h => .ok (.bl (!c)) h
  | _, _ => .bad
@[simp] theorem mNot_ap {a : Mo D} {sl : Sl} {h : MH} : mNot a sl h = bindR (a sl h) fun x h1 => notK x h1 := by
  show bindR (a sl h) _ = _
  refine congrArg _ (funext fun x => funext fun h1 => ?_)
  cases x <;> rfl
@[simp] theorem notK_bl {c : Bool} {h : MH} : notK (.bl c) h = .ok (.bl (!c)) h := rfl
@[simp] theorem mTest_ap {a : Mo D} {sl : Sl} {h : MH} : mTest a sl h = bindR (a sl h) fun x h1 => optR (truthD x) h1 := rfl
@[simp] theorem truthD_bl {b : Bool} : truthD (.bl b) = some b := rfl
@[simp] theorem mAndT_ap {a b : Mo Bool} {sl : Sl} {h : MH} : mAndT a b sl h = bindR (a sl h) fun x h1 => if x = true then b sl h1 else .ok false h1 := by
  show bindR (a sl h) _ = _
  refine congrArg _ (funext fun x => funext fun h1 => ?_)
  cases x <;> rfl
@[simp] theorem mOrT_ap {a b : Mo Bool} {sl : Sl} {h : MH} : mOrT a b sl h = bindR (a sl h) fun x h1 => if x = true then .ok true h1 else b sl h1 := by
  show bindR (a sl h) _ = _
  refine congrArg _ (funext fun x => funext fun h1 => ?_)
  cases x <;> rfl
@[simp] theorem mNotT_ap {a : Mo Bool} {sl : Sl} {h : MH} : mNotT a sl h = bindR (a sl h) fun x h1 => .ok (!x) h1 := rfl
@[simp] theorem mIf_ap {c : Mo Bool} {a b : Mo D} {sl : Sl} {h : MH} : mIf c a b sl h = bindR (c sl h) fun x h1 => if x = true then a sl h1 else b sl h1 := by
  show bindR (c sl h) _ = _
  refine congrArg _ (funext fun x => funext fun h1 => ?_)
  cases x <;> rfl
@[simp] theorem mTup_ap {a : Mo (List D)} {sl : Sl} {h : MH} : mTup a sl h = bindR (a sl h) fun ds h1 => tupR ds h1 := rfl
@[simp] theorem mLst_ap {a : Mo (List D)} {sl : Sl} {h : MH} : mLst a sl h = bindR (a sl h) fun ds h1 => lstR ds h1 := rfl
@[simp] theorem mFn_ap {g : List D → MH → Res D} {fl : Mo (List D)} {sl : Sl} {h : MH} : mFn g fl sl h = bindR (fl sl h) fun ds h1 => g ds h1 := rfl
@[simp] theorem mCall_ap {n : Nat} {c : Fn} {fl : Mo (List D)} {sl : Sl} {h : MH} : mCall n c fl sl h = bindR (fl sl h) fun ds h1 => ckN n c ds h1 := rfl
@[simp] theorem sRet_ap {f : Mo D} {sl : Sl} {h : MH} : sRet f sl h = bindS sl (f sl h) fun d h1 => .rt d h1 := rfl
@[simp] theorem sExpr_ap {f : Mo D} {sl : Sl} {h : MH} : sExpr f sl h = bindS sl (f sl h) fun _ h1 => .nx sl h1 := rfl
@[simp] theorem sSkip_ap {sl : Sl} {h : MH} : sSkip sl h = .nx sl h := rfl
@[simp] theorem sSeq_ap {a b : Ms} {sl : Sl} {h : MH} : sSeq a b sl h = seqR (a sl h) b := rfl
@[simp] theorem sSet_ap {i : Nat} {f : Mo D} {sl : Sl} {h : MH} : sSet i f sl h = bindS sl (f sl h) fun d h1 => .nx (sl.set i (some d)) h1 := rfl
@[simp] theorem sIf_ap {c : Mo Bool} {a b : Ms} {sl : Sl} {h : MH} : sIf c a b sl h = bindS sl (c sl h) fun x h1 => if x = true then a sl h1 else b sl h1 := by
  show bindS sl (c sl h) _ = _
  refine congrArg _ (funext fun x => funext fun h1 => ?_)
  cases x <;> rfl
@[simp] theorem eqD_str {a b : Str} : eqD (.str a) (.str b) = some (decide (a = b)) := rfl
@[simp] theorem eqD_int {a b : Int} : eqD (.int a) (.int b) = some (decide (a = b)) := rfl
@[simp] theorem eqD_bl {a b : Bool} : eqD (.bl a) (.bl b) = some (decide (a = b)) := rfl
@[simp] theorem blR_some {b : Bool} {h : MH} : blR (some b) h = .ok (.bl b) h := rfl
@[simp] theorem oEq_ap {x y : D} {h : MH} : oEq x y h = blR (eqD x y) h := rfl
@[simp] theorem oNe_ap {x y : D} {h : MH} : oNe x y h = blR ((eqD x y).map not) h := rfl
@[simp] theorem oIx_int {x : D} {i : Int} {h : MH} : oIx x (.int i) h = optR (ixD h i x) h := rfl
@[simp] theorem ixD_tup {xs : List D} {i : Int} {h : MH} : ixD h i (.tup xs) = atI xs i := rfl
@[simp] theorem ixD_lst {xs : List D} {i : Int} {h : MH} : ixD h i (.lst xs) = atI xs i := rfl
@[simp] theorem ckN_ap {n : Nat} {c : Fn} {ds : List D} {h : MH} : ckN n c ds h = if ds.length = n then c ds h else .bad := rfl
@[simp] theorem eqv_str {a b : Str} : PyData.eqv (.str a) (.str b) = decide (b = a) := by
  simp only [PyData.eqv]
  by_cases h : b = a
  · subst h; simp
  · have h' : ¬ a = b := fun e => h e.symm
    simp [h, h']
@[simp] theorem inD_tup {x : D} {ys : List D} : inD x (.tup ys) = if (pyOk 40 x && pyOkL 39 ys) = true then some ((toPyL ys).any fun z => PyData.eqv z (toPy x)) else none := rfl
@[simp] theorem inD_lst {x : D} {ys : List D} : inD x (.lst ys) = if (pyOk 40 x && pyOkL 39 ys) = true then some ((toPyL ys).any fun z => PyData.eqv z (toPy x)) else none := rfl
@[simp] theorem toPy_str {x : Str} : toPy (.str x) = .str x := rfl
@[simp] theorem toPy_int {x : Int} : toPy (.int x) = .int x := rfl
@[simp] theorem toPyL_nil : toPyL [] = [] := rfl
@[simp] theorem toPyL_cons {d : D} {ds : List D} : toPyL (d :: ds) = toPy d :: toPyL ds := rfl
@[simp] theorem oIn_ap {x y : D} {h : MH} : oIn x y h = blR (inD x y) h := rfl
@[simp] theorem oNi_ap {x y : D} {h : MH} : oNi x y h = blR ((inD x y).map not) h := rfl
@[simp] theorem tupR_ap {ds : List D} {h : MH} : tupR ds h = if ds.length ≤ lim then .ok (.tup ds) h else .bad := rfl
@[simp] theorem lstR_ap {ds : List D} {h : MH} : lstR ds h = if ds.length ≤ lim then .ok (.lst ds) h else .bad := rfl
theorem lim_eq : lim = 100000 := rfl
@[simp] theorem le_lim {n : Nat} (h : n ≤ 100000) : (n ≤ lim) = True := eq_true h
@[simp] theorem lt_lim {n : Nat} (h : n < 100000) : (n < lim) = True := eq_true h
@[simp] theorem mDic_ap {ps : List (Mo D × Mo D)} {sl : Sl} {h : MH} : mDic ps sl h = bindR (mPairs ps sl h) fun kds h1 => if kds.length ≤ 15 then .ok (.dic (mergeD kds [] []).1 (mergeD kds [] []).2) h1 else .bad := rfl
@[simp] theorem mNewD_ap {ps : List (Mo D × Mo D)} {sl : Sl} {h : MH} : mNewD ps sl h = bindR (mPairs ps sl h) fun kds h1 => if kds.length ≤ 15 then .ok (.ref h1.length) (h1 ++ [.dic (mergeD kds [] []).1 (mergeD kds [] []).2]) else .bad := rfl
@[simp] theorem mPairs_nil {sl : Sl} {h : MH} : mPairs [] sl h = .ok [] h := rfl
def pairK (fs : List (Mo D × Mo D)) (sl : Sl) (y : D) (h : MH) : Option Key → Res (List (Key × D))
  | some k => bindR (mPairs fs sl h) fun rest h3 => .ok ((k, y) :: rest) h3
  | none => .bad
@[simp] theorem pairK_some {fs : List (Mo D × Mo D)} {sl : Sl} {y : D} {h : MH} {k : Key} : pairK fs sl y h (some k) = bindR (mPairs fs sl h) fun rest h3 => .ok ((k, y) :: rest) h3 := rfl
@[simp] theorem mPairs_cons {fk fv : Mo D} {ps : List (Mo D × Mo D)} {sl : Sl} {h : MH} : mPairs ((fk, fv) :: ps) sl h = bindR (fk sl h) fun x h1 => bindR (fv sl h1) fun y h2 => pairK ps sl y h2 (keyD x) := by
  show bindR _ _ = _
  refine congrArg _ (funext fun x => funext fun h1 => congrArg _ (funext fun y => funext fun h2 => ?_))
  cases keyD x <;> rfl
@[simp] theorem keyD_str {x : Str} : keyD (.str x) = some (.inr x) := rfl
@[simp] theorem keyD_int {x : Int} : keyD (.int x) = some (.inl x) := rfl
@[simp] theorem mergeD_nil {ks : List Key} {vs : List D} : mergeD [] ks vs = (ks, vs) := rfl
@[simp] theorem mergeD_cons {k : Key} {d : D} {ps : List (Key × D)} {ks : List Key} {vs : List D} : mergeD ((k, d) :: ps) ks vs = mergeD ps (dputK k ks) (dputV k d ks vs) := rfl
@[simp] theorem mDGet2_ap {fo fk fx : Mo D} {sl : Sl} {h : MH} : mDGet2 fo fk fx sl h = bindR (fo sl h) fun x h0 => if (dicD h0 x).isSome = true then bindR (fk sl h0) fun y h1 => bindR (fx sl h1) fun z h2 => optR (getOr h2 x y z) h2 else .bad := rfl
@[simp] theorem dicD_dic {ks : List Key} {vs : List D} {h : MH} : dicD h (.dic ks vs) = some (ks, vs) := rfl
@[simp] theorem mItT_ap {f : Mo D} {sl : Sl} {h : MH} : mItT f sl h = bindR (f sl h) fun d h1 => optR (itemsT d) h1 := rfl
@[simp] theorem mItL_ap {f : Mo D} {sl : Sl} {h : MH} : mItL f sl h = bindR (f sl h) fun d h1 => optR (itemsL d) h1 := rfl
@[simp] theorem itemsT_tup {ds : List D} : itemsT (.tup ds) = some ds := rfl
@[simp] theorem itemsL_lst {ds : List D} : itemsL (.lst ds) = some ds := rfl
def zipK (h : MH) : List D → Res (List D)
  | [.tup xs, .tup ys] => .ok (zipD xs ys) h
  | _ => .bad
@[simp] theorem mItZ_ap {f : Mo (List D)} {sl : Sl} {h : MH} : mItZ f sl h = bindR (f sl h) fun d h1 => zipK h1 d := by
  show bindR _ _ = _
  refine congrArg _ (funext fun x => funext fun h1 => ?_)
  unfold zipK
  rfl
@[simp] theorem zipK_two {xs ys : List D} {h : MH} : zipK h [.tup xs, .tup ys] = .ok (zipD xs ys) h := rfl
@[simp] theorem mLc_ap {vs : List Nat} {fi : Mo (List D)} {tg : Tg} {c : Mo Bool} {f : Mo D} {sl : Sl} {h : MH} : mLc vs fi tg c f sl h = bindR (fi sl h) fun ds h1 => bindR (lcD tg c f (wipeD sl vs) [] ds h1) fun xs h2 => .ok (.lst xs) h2 := rfl
@[simp] theorem mYes_ap {sl : Sl} {h : MH} : mYes sl h = .ok true h := rfl
@[simp] theorem fIsi_ap {x c : D} {h : MH} : fIsi [x, c] h = (match tyD h x with
    | some t => blR (isiV t c) h
    | none => .bad) := rfl
@[simp] theorem tyD_str {x : Str} {h : MH} : tyD h (.str x) = some "str" := rfl
@[simp] theorem tyD_tup {x : List D} {h : MH} : tyD h (.tup x) = some "tuple" := rfl
@[simp] theorem tyD_lst {x : List D} {h : MH} : tyD h (.lst x) = some "list" := rfl
@[simp] theorem tyD_bl {x : Bool} {h : MH} : tyD h (.bl x) = some "bool" := rfl
@[simp] theorem tyD_int {x : Int} {h : MH} : tyD h (.int x) = some "int" := rfl
@[simp] theorem isiV_ty {t n : String} : isiV t (.ty n) = isiT t n := rfl
@[simp] theorem isiV_tup {t : String} {cs : List D} : isiV t (.tup cs) = isiL t cs := rfl
@[simp] theorem fLen_ap {x : D} {h : MH} : fLen [x] h = optR ((lenD h x).map fun n => .int (n : Nat)) h := rfl
@[simp] theorem lenD_tup {xs : List D} {h : MH} : lenD h (.tup xs) = some xs.length := rfl
@[simp] theorem lenD_lst {xs : List D} {h : MH} : lenD h (.lst xs) = some xs.length := rfl
@[simp] theorem fAll_ap {xs : List D} {h : MH} : fAll [.lst xs] h = optR ((blsD xs).map fun bs => .bl (bs.all id)) h := rfl
@[simp] theorem fTuple_ap {x : D} {h : MH} : fTuple [x] h = optR ((seqD h x).map D.tup) h := rfl
@[simp] theorem seqD_lst {xs : List D} {h : MH} : seqD h (.lst xs) = some xs := rfl
@[simp] theorem oLe_int {i j : Int} {h : MH} : oLe (.int i) (.int j) h = .ok (.bl (decide (i ≤ j))) h := rfl
def chK (g' : D → D → MH → Res D) (y : D) (c : Mo D) (sl : Sl) : D → MH → Res D
  | .bl true, h1 => bindR (c sl h1) fun w h2 => g' y w h2
  | .bl false, h1 => .ok (.bl false) h1
  | _, _ => .bad
@[simp] theorem mChain_ap {g g' : D → D → MH → Res D} {a b c : Mo D} {sl : Sl} {h : MH} : mChain g g' a b c sl h = bindR (a sl h) fun x h0 => bindR (b sl h0) fun y h1 => bindR (g x y h1) fun z h2 => chK g' y c sl z h2 := by
  show bindR _ _ = _
  refine congrArg _ (funext fun x => funext fun h1 => ?_)
  show bindR _ _ = _
  refine congrArg _ (funext fun y => funext fun h2 => ?_)
  show bindR _ _ = _
  refine congrArg _ (funext fun z => funext fun h3 => ?_)
  cases z with
  | bl b => cases b <;> rfl
  | _ => rfl
@[simp] theorem chK_t {g' : D → D → MH → Res D} {y : D} {c : Mo D} {sl : Sl} {h1 : MH} : chK g' y c sl (.bl true) h1 = bindR (c sl h1) fun w h2 => g' y w h2 := rfl
@[simp] theorem chK_f {g' : D → D → MH → Res D} {y : D} {c : Mo D} {sl : Sl} {h1 : MH} : chK g' y c sl (.bl false) h1 = .ok (.bl false) h1 := rfl
@[simp] theorem mCallV_ap {tab : VTab} {fe : Mo D} {fl : Mo (List D)} {sl : Sl} {h : MH} : mCallV tab fe fl sl h = bindR (fe sl h) fun d h1 => (match vFn tab d with
  | some p => bindR (fl sl h1) fun ds h2 => ckN p.1 p.2 ds h2
  | none => .bad) := by
  show bindR _ _ = _
  refine congrArg _ (funext fun x => funext fun h1 => ?_)
  show (match vFn tab x with
  | some p => mBind fl fun ds => fun _ h => ckN p.1 p.2 ds h
  | none => fun _ _ => .bad : Mo D) sl h1 = _
  cases vFn tab x <;> rfl
@[simp] theorem vFn_gl {tab : VTab} {x : Str} : vFn tab (.gl x) = tab.lookup x := rfl
@[simp] theorem mMt_ap {rc : MH → D → Bool} {g : D → List D → MH → Res D} {fo : Mo D} {fl : Mo (List D)} {sl : Sl} {h : MH} : mMt rc g fo fl sl h = bindR (fo sl h) fun x h0 => if rc h0 x = true then bindR (fl sl h0) fun ds h1 => g x ds h1 else .bad := rfl
@[simp] theorem isStr_str {x : Str} : isStr (.str x) = true := rfl
@[simp] theorem gEnds_ap {a b : Str} {h : MH} : gEnds (.str a) [.str b] h = .ok (.bl (Txt.endswith a b)) h := rfl
/-! comprehensions -/
@[simp] theorem lcD_nil {tg : Tg} {c : Mo Bool} {f : Mo D} {sl : Sl} {acc : List D} {h : MH} : lcD tg c f sl acc [] h = .ok acc h := by unfold lcD; rfl
@[simp] theorem noX_ok {α : Type} {a : α} {h : MH} : noX (.ok a h) = .ok a h := rfl
theorem lcD_cons {tg : Tg} {c : Mo Bool} {f : Mo D} {sl : Sl} {acc ds : List D} {d : D} {h : MH} : lcD tg c f sl acc (d :: ds) h = (match tgD tg d sl with
    | none => .bad
    | some sl1 => bindR (noX (c sl1 h)) fun b h1 => if b then (if acc.length < lim then bindR (noX (f sl1 h1)) fun x h2 => lcD tg c f sl (acc ++ [x]) ds h2 else .bad) else lcD tg c f sl acc ds h1) := by rw [lcD]; try rfl
@[simp] theorem tgD_nm {i : Nat} {d : D} {sl : Sl} : tgD (.nm i) d sl = some (sl.set i (some d)) := rfl
@[simp] theorem tgD_tp {is : List Nat} {ds : List D} {sl : Sl} : tgD (.tp is) (.tup ds) sl = setAll is ds sl := rfl
/-- a comprehension whose parts change no heap -/
theorem lcD_pure {i : Nat} {c : Mo Bool} {f : Mo D} {sl : Sl} {h : MH} {p : D → Bool} {g : D → D} : ∀ (ds acc : List D), (∀ d ∈ ds, c (sl.set i (some d)) h = .ok (p d) h ∧ f (sl.set i (some d)) h = .ok (g d) h) → acc.length + ds.length < lim →
    lcD (.nm i) c f sl acc ds h = .ok (acc ++ (ds.filter p).map g) h := by
  intro ds
  induction ds with
  | nil => intro acc _ _; simp
  | cons d ds ih =>
    intro acc hd hl
    have h1 := hd d (by simp)
    rw [lcD_cons]
    simp only [tgD_nm, h1.1, noX_ok, bindR_ok]
    simp only [List.length_cons] at hl
    cases e : p d with
    | true =>
      simp only [if_true]
      rw [if_pos (by omega), h1.2]
      simp only [noX_ok, bindR_ok]
      rw [ih _ (fun d' hd' => hd d' (by simp [hd'])) (by simp only [List.length_append, List.length_cons, List.length_nil]; omega)]
      simp [e]
    | false =>
      simp only [Bool.false_eq_true, if_false]
      rw [ih _ (fun d' hd' => hd d' (by simp [hd'])) (by omega)]
      simp [e]
abbrev S (a : String) : D := .str (Str.ofString a)
abbrev St3 (a b c : String) : D := .tup [S a, S b, S c]
@[simp] theorem pyOk_str' {n : Nat} {x : String} : pyOk n (.str (Str.ofString x)) = true := pyOk_str
@[simp] theorem pyOkL_nil' {n : Nat} : pyOkL n [] = true := pyOkL_nil
@[simp] theorem pyOkL_cons' {n : Nat} {d : D} {ds : List D} : pyOkL n (d :: ds) = (pyOk n d && pyOkL n ds) := pyOkL_cons
@[simp] theorem ofString_inj' {a b : String} : (Str.ofString a = Str.ofString b) = (a = b) := ofString_inj
@[simp] theorem atI0' {α : Type} {a : α} {xs : List α} : atI (a :: xs) 0 = some a := atI0
@[simp] theorem atI1' {α : Type} {a b : α} {xs : List α} : atI (a :: b :: xs) 1 = some b := atI1
@[simp] theorem atI2' {α : Type} {a b c : α} {xs : List α} : atI (a :: b :: c :: xs) 2 = some c := atI2
@[simp] theorem atI3' {α : Type} {a b c d : α} {xs : List α} : atI (a :: b :: c :: d :: xs) 3 = some d := atI3
@[simp] theorem runB_ap' {n : Nat} {b : Ms} {ds : List D} {h : MH} : runB n b ds h = endB (b (slots0 n ds) h) := rfl
@[simp] theorem dget_nil {α : Type} {k : Key} {vs : List α} : dget k [] vs = none := by cases vs <;> rfl
@[simp] theorem dget_cons {α : Type} {k k' : Key} {ks : List Key} {v : α} {vs : List α} : dget k (k' :: ks) (v :: vs) = if k' = k then some v else dget k ks vs := rfl
@[simp] theorem dhas_nil {k : Key} : dhas k [] = false := rfl
@[simp] theorem dhas_cons {k k' : Key} {ks : List Key} : dhas k (k' :: ks) = if k' = k then true else dhas k ks := rfl
@[simp] theorem drep_nil {α : Type} {k : Key} {x : α} {vs : List α} : drep k x [] vs = vs := by cases vs <;> rfl
@[simp] theorem drep_cons {α : Type} {k k' : Key} {ks : List Key} {x v : α} {vs : List α} : drep k x (k' :: ks) (v :: vs) = (if k' = k then x else v) :: drep k x ks vs := rfl
@[simp] theorem dputK_ap {k : Key} {ks : List Key} : dputK k ks = if dhas k ks = true then ks else ks ++ [k] := rfl
@[simp] theorem dputV_ap {α : Type} {k : Key} {x : α} {ks : List Key} {vs : List α} : dputV k x ks vs = if dhas k ks = true then drep k x ks vs else vs ++ [x] := rfl
@[simp] theorem str_beq {a b : String} : (Str.ofString a == Str.ofString b) = decide (a = b) := by
  by_cases h : a = b
  · subst h; simp
  · have h' : ¬ (Str.ofString a = Str.ofString b) := fun e => h (ofString_inj.mp e)
    simp [h]
@[simp] theorem getOr_ap {h : MH} {x y z : D} : getOr h x y z = (dicD h x).bind fun p => (keyD y).map fun k => (dget k p.1 p.2).getD z := rfl
@[simp] theorem optR_none {α : Type} {h : MH} : optR (none : Option α) h = .bad := rfl
@[simp] theorem sDSet_ap {fo fi fv : Mo D} {sl : Sl} {h : MH} : sDSet fo fi fv sl h = bindS sl (fv sl h) fun v h1 => bindS sl (fo sl h1) fun x h2 => bindS sl (fi sl h2) fun y h3 => match dSet h3 x y v with
  | some h4 => .nx sl h4
  | none => .bad := rfl
@[simp] theorem sLSet_ap {fo fi fv : Mo D} {sl : Sl} {h : MH} : sLSet fo fi fv sl h = bindS sl (fv sl h) fun v h1 => bindS sl (fo sl h1) fun x h2 => bindS sl (fi sl h2) fun y h3 => match lSet h3 x y v with
  | some h4 => .nx sl h4
  | none => .bad := rfl
@[simp] theorem oDGet_ap {x y : D} {h : MH} : oDGet x y h = optR (atKeyD h x y) h := rfl
@[simp] theorem lookS {β : Type} {a b : String} {v : β} {l : List (Str × β)} : List.lookup (Str.ofString a) ((Str.ofString b, v) :: l) = if a = b then some v else List.lookup (Str.ofString a) l := by
  rw [List.lookup_cons, str_beq]
  by_cases h : a = b
  · simp [h]
  · simp [h]
theorem lcD_map {α : Type} {to : α → D} {i : Nat} {c : Mo Bool} {f : Mo D} {sl : Sl} {h : MH} {p : α → Bool} {g : α → D} : ∀ (xs : List α) (acc : List D), (∀ x ∈ xs, c (sl.set i (some (to x))) h = .ok (p x) h ∧ (p x = true → f (sl.set i (some (to x))) h = .ok (g x) h)) → acc.length + xs.length < lim →
    lcD (.nm i) c f sl acc (xs.map to) h = .ok (acc ++ (xs.filter p).map g) h := by
  intro xs
  induction xs with
  | nil => intro acc _ _; simp
  | cons d ds ih =>
    intro acc hd hl
    have h1 := hd d (by simp)
    rw [List.map_cons, lcD_cons]
    simp only [tgD_nm, h1.1, noX_ok, bindR_ok]
    simp only [List.length_cons] at hl
    cases e : p d with
    | true =>
      simp only [if_true]
      rw [if_pos (by omega), h1.2 e]
      simp only [noX_ok, bindR_ok]
      rw [ih _ (fun d' hd' => hd d' (by simp [hd'])) (by simp only [List.length_append, List.length_cons, List.length_nil]; omega)]
      simp [e]
    | false =>
      simp only [Bool.false_eq_true, if_false]
      rw [ih _ (fun d' hd' => hd d' (by simp [hd'])) (by omega)]
      simp [e]
theorem lcD_map0 {α : Type} {to : α → D} {i : Nat} {c : Mo Bool} {f : Mo D} {sl : Sl} {h : MH} {p : α → Bool} {g : α → D} (xs : List α) (H : ∀ x ∈ xs, c (sl.set i (some (to x))) h = .ok (p x) h ∧ (p x = true → f (sl.set i (some (to x))) h = .ok (g x) h)) (hl : xs.length < lim) :
    lcD (.nm i) c f sl [] (xs.map to) h = .ok ((xs.filter p).map g) h := by
  have := lcD_map (to := to) xs [] H (by simpa using hl)
  simpa using this
@[simp] theorem oSub_int {i j : Int} {h : MH} : oSub (.int i) (.int j) h = .ok (.int (i - j)) h := rfl
@[simp] theorem oLt_int {i j : Int} {h : MH} : oLt (.int i) (.int j) h = .ok (.bl (decide (i < j))) h := rfl
@[simp] theorem oGt_int {i j : Int} {h : MH} : oGt (.int i) (.int j) h = .ok (.bl (decide (j < i))) h := rfl
@[simp] theorem oGe_int {i j : Int} {h : MH} : oGe (.int i) (.int j) h = .ok (.bl (decide (j ≤ i))) h := rfl
@[simp] theorem oAdd_int {i j : Int} {h : MH} : oAdd (.int i) (.int j) h = .ok (.int (i + j)) h := rfl
@[simp] theorem oDiv_int {i j : Int} {h : MH} : oDiv (.int i) (.int j) h = if cDiv i j = true then .ok (.int (i / j)) h else .bad := rfl
@[simp] theorem oMod_int {i j : Int} {h : MH} : oMod (.int i) (.int j) h = if decide (0 < j) = true then .ok (.int (i % j)) h else .bad := rfl
@[simp] theorem oPow_int {i j : Int} {h : MH} : oPow (.int i) (.int j) h = if cPow i j = true then .ok (.int (i ^ j.toNat)) h else .bad := rfl
@[simp] theorem oMul_int {i j : Int} {h : MH} : oMul (.int i) (.int j) h = if cMul i j = true then .ok (.int (i * j)) h else .bad := rfl
@[simp] theorem fInt_int {i : Int} {h : MH} : fInt [.int i] h = .ok (.int i) h := rfl
@[simp] theorem ixD_ref {k : Nat} {i : Int} {h : MH} : ixD h i (.ref k) = (oLst h[k]?).bind fun xs => atI xs i := rfl
@[simp] theorem ixD_scr {ns : List Int} {i : Int} {h : MH} : ixD h i (.scr ns) = (atI ns i).map D.int := rfl
@[simp] theorem lenD_scr {xs : List Int} {h : MH} : lenD h (.scr xs) = some xs.length := rfl
@[simp] theorem oLst_lst {xs : List D} : oLst (some (.lst xs)) = some xs := rfl
theorem seq_set {i : Nat} {f : Mo D} {rest : Ms} {sl : Sl} {h h1 : MH} (d : D) (e : f sl h = .ok d h1) : sSeq (sSet i f) rest sl h = rest (sl.set i (some d)) h1 := by
  simp [e]
theorem seq_nx {a b : Ms} {sl sl1 : Sl} {h h1 : MH} (e : a sl h = .nx sl1 h1) : sSeq a b sl h = b sl1 h1 := by
  simp [e]
theorem dSet_ref {h : MH} {k : Nat} {key : Key} {y v : D} {ks : List Key} {vs : List D} (hk : h[k]? = some (.dic ks vs)) (hy : keyD y = some key) (hl : ks.length < lim) : dSet h (.ref k) y v = some (h.set k (.dic (dputK key ks) (dputV key v ks vs))) := by
  simp [dSet, hk, oDic, hy, hl]
theorem seq_dset {fo fi fv : Mo D} {rest : Ms} {sl : Sl} {h : MH} {k : Nat} {key : Key} {y v : D} {ks : List Key} {vs : List D} (e1 : fv sl h = .ok v h) (e2 : fo sl h = .ok (.ref k) h) (e3 : fi sl h = .ok y h) (hk : h[k]? = some (.dic ks vs)) (hy : keyD y = some key) (hl : ks.length < lim) :
    sSeq (sDSet fo fi fv) rest sl h = rest sl (h.set k (.dic (dputK key ks) (dputV key v ks vs))) := by
  simp [e1, e2, e3, dSet_ref hk hy hl]
def r1K (h : MH) : List D → Res (List D)
  | [.int j] => if -big ≤ j ∧ j ≤ big then .ok (rangeD 0 j.toNat) h else .bad
  | _ => .bad
@[simp] theorem r1K_int {j : Int} {h : MH} : r1K h [.int j] = if -big ≤ j ∧ j ≤ big then .ok (rangeD 0 j.toNat) h else .bad := rfl
@[simp] theorem mItR1_ap {f : Mo (List D)} {sl : Sl} {h : MH} : mItR1 f sl h = bindR (f sl h) fun d h1 => r1K h1 d := by
  show bindR _ _ = _
  refine congrArg _ (funext fun x => funext fun h1 => ?_)
  unfold r1K
  rfl
theorem forD_inv {i : Nat} {body : Ms} {Inv : Sl → MH → Prop} : ∀ (ds : List D) (sl : Sl) (h : MH), (∀ d ∈ ds, ∀ sl h, Inv sl h → ∃ sl' h', body (sl.set i (some d)) h = .nx sl' h' ∧ Inv sl' h') → Inv sl h → ∃ sl' h', forD (.nm i) body ds sl h = .nx sl' h' ∧ Inv sl' h' := by
  intro ds
  induction ds with
  | nil => intro sl h _ hi; exact ⟨sl, h, by unfold forD; rfl, hi⟩
  | cons d ds ih =>
    intro sl h hb hi
    obtain ⟨sl1, h1, e1, hi1⟩ := hb d (by simp) sl h hi
    obtain ⟨sl2, h2, e2, hi2⟩ := ih sl1 h1 (fun d' hd' => hb d' (by simp [hd'])) hi1
    refine ⟨sl2, h2, ?_, hi2⟩
    rw [forD]
    simp only [tgD_nm, e1]
    exact e2
@[simp] theorem sFor_ap {fi : Mo (List D)} {tg : Tg} {body : Ms} {sl : Sl} {h : MH} : sFor fi tg body sl h = bindS sl (fi sl h) fun ds h1 => forD tg body ds sl h1 := rfl
@[simp] theorem newLst_ap {ds : List D} {h : MH} : newLst ds h = if ds.length ≤ lim then .ok (.ref h.length) (h ++ [.lst ds]) else .bad := rfl
@[simp] theorem mNewL_ap {a : Mo (List D)} {sl : Sl} {h : MH} : mNewL a sl h = bindR (a sl h) fun ds h1 => newLst ds h1 := rfl
theorem forD_ex {i : Nat} {body : Ms} {Inv : Sl → MH → Prop} {ds : List D} {sl : Sl} {h : MH} (hi : Inv sl h) (hb : ∀ d ∈ ds, ∀ sl h, Inv sl h → ∃ sl' h', body (sl.set i (some d)) h = .nx sl' h' ∧ Inv sl' h') : ∃ sl' h', forD (.nm i) body ds sl h = .nx sl' h' ∧ True := by
  obtain ⟨sl', h', e, _⟩ := forD_inv ds sl h hb hi
  exact ⟨sl', h', e, trivial⟩
end CH

/-! the mirror of the law's text -/
namespace CH
open PySem L2

def k_PROMISES : D := D.tup [D.str "ending", D.str "filled", D.str "forward", D.str "fresh", D.str "linear", D.str "mended", D.str "moving", D.str "quiet", D.str "rest", D.str "single"]
def k_DROPS_LAST : D := D.tup [D.str "drop store drop", D.str "store drop"]
def k_PATHS : D := D.tup [D.str "drop store", D.str "drop store drop", D.str "store", D.str "store drop", D.str "store set"]
def k_GUARDS : D := D.tup [D.str "always", D.str "empty", D.str "mark", D.str "never", D.str "newer", D.str "token"]
def k_FLIGHTS : D := D.tup [D.str "alone", D.str "shared"]
def k_DESIGNS : D := D.tup [k_PATHS, k_GUARDS, k_FLIGHTS]
def k_WORLDS : D := D.tup [D.tup [D.str "primary", D.str "replica"], D.tup [D.str "evicts", D.str "keeps"], D.tup [D.str "finishes", D.str "stops"]]
def k_VERSIONED : D := D.tup [D.str "mark", D.str "newer"]
inductive Fid where
  | is_list
  | is_choice
  | is_design
  | is_world
  | need_design
  | need_world
  | need_both
  | need_promise
  | is_passed_by
  | is_climbing
  | is_guarded
  | rest_holds
  | fresh_holds
  | forward_holds
  | filled_holds
  | quiet_holds
  | does_hold
  | holds
  | kept_in
  | profile
  | l_taken
  | l_pick
  | l_alike
  | l_paths
  | l_promises
  | l_holds
  | l_designs
  | l_worlds
  | l_is
  | law_
/-- is_list(value, least, most) slots: value, least, most -/
def b_is_list (c : Fid → Fn) : Ms :=
  sRet (mAnd (mFn fIsi (mCons (mVar 0) (mCons (mC (.ty "tuple")) (mNil)))) (mChain oLe oLe (mVar 1) (mFn fLen (mCons (mVar 0) (mNil))) (mVar 2)))
/-- is_choice(value, options) slots: value, options, one, some -/
def b_is_choice (c : Fid → Fn) : Ms :=
  sSeq (sIf (mOrT (mNotT (mTest (mCall 3 (c .is_list) (mCons (mVar 0) (mCons (mFn fLen (mCons (mVar 1) (mNil))) (mCons (mFn fLen (mCons (mVar 1) (mNil))) (mNil))))))) (mNotT (mTest (mFn fAll (mCons (mLc [2] (mItT (mVar 0)) (.nm 2) (mYes) (mFn fIsi (mCons (mVar 2) (mCons (mC (.ty "str")) (mNil))))) (mNil)))))) (sRet (mC (.bl false))) (sSkip)) (sRet (mFn fAll (mCons (mLc [2, 3] (mItZ (mCons (mVar 0) (mCons (mVar 1) (mNil)))) (.tp [2, 3]) (mYes) (mOp oIn (mVar 2) (mVar 3))) (mNil))))
/-- is_design(value) slots: value -/
def b_is_design (c : Fid → Fn) : Ms :=
  sRet (mCall 2 (c .is_choice) (mCons (mVar 0) (mCons (mC k_DESIGNS) (mNil))))
/-- is_world(value) slots: value -/
def b_is_world (c : Fid → Fn) : Ms :=
  sRet (mCall 2 (c .is_choice) (mCons (mVar 0) (mCons (mC k_WORLDS) (mNil))))
/-- need_design(design) slots: design -/
def b_need_design (c : Fid → Fn) : Ms :=
  sIf (mNotT (mTest (mCall 1 (c .is_design) (mCons (mVar 0) (mNil))))) (sNever) (sSkip)
/-- need_world(world) slots: world -/
def b_need_world (c : Fid → Fn) : Ms :=
  sIf (mNotT (mTest (mCall 1 (c .is_world) (mCons (mVar 0) (mNil))))) (sNever) (sSkip)
/-- need_both(design, world) slots: design, world -/
def b_need_both (c : Fid → Fn) : Ms :=
  sSeq (sExpr (mCall 1 (c .need_design) (mCons (mVar 0) (mNil)))) (sExpr (mCall 1 (c .need_world) (mCons (mVar 1) (mNil))))
/-- need_promise(promise) slots: promise -/
def b_need_promise (c : Fid → Fn) : Ms :=
  sIf (mOrT (mNotT (mTest (mFn fIsi (mCons (mVar 0) (mCons (mC (.ty "str")) (mNil)))))) (mTest (mOp oNi (mVar 0) (mC k_PROMISES)))) (sNever) (sSkip)
/-- is_passed_by(design) slots: design -/
def b_is_passed_by (c : Fid → Fn) : Ms :=
  sRet (mAnd (mOp oEq (mOp oIx (mVar 0) (mC (.int 1))) (mC (.str "never"))) (mOp oNe (mOp oIx (mVar 0) (mC (.int 0))) (mC (.str "store set"))))
/-- is_climbing(design, world) slots: design, world -/
def b_is_climbing (c : Fid → Fn) : Ms :=
  sRet (mAnd (mOp oEq (mOp oIx (mVar 0) (mC (.int 0))) (mC (.str "store set"))) (mAnd (mOp oIn (mOp oIx (mVar 0) (mC (.int 1))) (mC k_VERSIONED)) (mOp oEq (mOp oIx (mVar 1) (mC (.int 1))) (mC (.str "keeps")))))
/-- is_guarded(design, world) slots: design, world -/
def b_is_guarded (c : Fid → Fn) : Ms :=
  sSeq (sIf (mTest (mOp oNi (mOp oIx (mVar 0) (mC (.int 0))) (mC k_DROPS_LAST))) (sRet (mC (.bl false))) (sSkip)) (sRet (mOr (mOp oEq (mOp oIx (mVar 0) (mC (.int 1))) (mC (.str "token"))) (mAnd (mOp oEq (mOp oIx (mVar 0) (mC (.int 1))) (mC (.str "mark"))) (mOp oEq (mOp oIx (mVar 1) (mC (.int 1))) (mC (.str "keeps"))))))
/-- rest_holds(design, world) slots: design, world, is_token_late -/
def b_rest_holds (c : Fid → Fn) : Ms :=
  sSeq (sIf (mTest (mCall 1 (c .is_passed_by) (mCons (mVar 0) (mNil)))) (sRet (mC (.bl true))) (sSkip)) (sSeq (sIf (mTest (mOp oEq (mOp oIx (mVar 1) (mC (.int 2))) (mC (.str "stops")))) (sRet (mC (.bl false))) (sSkip)) (sSeq (sSet 2 (mAnd (mOp oEq (mOp oIx (mVar 0) (mC (.int 1))) (mC (.str "token"))) (mOp oEq (mOp oIx (mVar 1) (mC (.int 0))) (mC (.str "replica"))))) (sRet (mOr (mCall 2 (c .is_climbing) (mCons (mVar 0) (mCons (mVar 1) (mNil)))) (mAnd (mCall 2 (c .is_guarded) (mCons (mVar 0) (mCons (mVar 1) (mNil)))) (mNot (mVar 2)))))))
/-- fresh_holds(design, world) slots: design, world -/
def b_fresh_holds (c : Fid → Fn) : Ms :=
  sSeq (sIf (mTest (mCall 2 (c .is_climbing) (mCons (mVar 0) (mCons (mVar 1) (mNil))))) (sRet (mC (.bl true))) (sSkip)) (sSeq (sIf (mTest (mOp oEq (mOp oIx (mVar 1) (mC (.int 0))) (mC (.str "replica")))) (sRet (mC (.bl false))) (sSkip)) (sRet (mOr (mCall 1 (c .is_passed_by) (mCons (mVar 0) (mNil))) (mAnd (mCall 2 (c .is_guarded) (mCons (mVar 0) (mCons (mVar 1) (mNil)))) (mOp oEq (mOp oIx (mVar 0) (mC (.int 2))) (mC (.str "alone")))))))
/-- forward_holds(design, world) slots: design, world -/
def b_forward_holds (c : Fid → Fn) : Ms :=
  sSeq (sIf (mOrT (mTest (mCall 1 (c .is_passed_by) (mCons (mVar 0) (mNil)))) (mAndT (mTest (mOp oEq (mOp oIx (mVar 0) (mC (.int 2))) (mC (.str "shared")))) (mTest (mOp oNe (mOp oIx (mVar 0) (mC (.int 0))) (mC (.str "store set")))))) (sRet (mC (.bl true))) (sSkip)) (sSeq (sIf (mTest (mOp oEq (mOp oIx (mVar 1) (mC (.int 1))) (mC (.str "evicts")))) (sRet (mC (.bl false))) (sSkip)) (sRet (mOr (mOp oEq (mOp oIx (mVar 0) (mC (.int 1))) (mC (.str "mark"))) (mAnd (mOp oEq (mOp oIx (mVar 0) (mC (.int 1))) (mC (.str "newer"))) (mOp oIn (mOp oIx (mVar 0) (mC (.int 0))) (mTup (mCons (mC (.str "store")) (mCons (mC (.str "store set")) (mNil)))))))))
/-- filled_holds(design, world) slots: design, world -/
def b_filled_holds (c : Fid → Fn) : Ms :=
  sSeq (sIf (mOrT (mTest (mOp oEq (mOp oIx (mVar 0) (mC (.int 1))) (mC (.str "never")))) (mAndT (mTest (mOp oEq (mOp oIx (mVar 0) (mC (.int 2))) (mC (.str "shared")))) (mTest (mOp oEq (mOp oIx (mVar 1) (mC (.int 2))) (mC (.str "stops")))))) (sRet (mC (.bl false))) (sSkip)) (sRet (mOr (mOp oNe (mOp oIx (mVar 0) (mC (.int 1))) (mC (.str "mark"))) (mOr (mOp oEq (mOp oIx (mVar 1) (mC (.int 0))) (mC (.str "primary"))) (mOp oNi (mOp oIx (mVar 0) (mC (.int 0))) (mC k_DROPS_LAST)))))
/-- quiet_holds(design, world) slots: design, world -/
def b_quiet_holds (c : Fid → Fn) : Ms :=
  sSeq (sIf (mTest (mCall 1 (c .is_passed_by) (mCons (mVar 0) (mNil)))) (sRet (mOp oEq (mOp oIx (mVar 1) (mC (.int 0))) (mC (.str "primary")))) (sSkip)) (sRet (mAnd (mOp oEq (mOp oIx (mVar 1) (mC (.int 2))) (mC (.str "finishes"))) (mCall 2 (c .fresh_holds) (mCons (mVar 0) (mCons (mVar 1) (mNil))))))
def vt_does_hold (c : Fid → Fn) : VTab := [("filled_holds", 2, c .filled_holds), ("forward_holds", 2, c .forward_holds), ("fresh_holds", 2, c .fresh_holds), ("quiet_holds", 2, c .quiet_holds), ("rest_holds", 2, c .rest_holds)]
/-- does_hold(design, world, promise) slots: design, world, promise, told -/
def b_does_hold (c : Fid → Fn) : Ms :=
  sSeq (sIf (mTest (mOp oEq (mVar 2) (mC (.str "ending")))) (sRet (mOr (mOp oEq (mOp oIx (mVar 0) (mC (.int 2))) (mC (.str "alone"))) (mOp oEq (mOp oIx (mVar 1) (mC (.int 2))) (mC (.str "finishes"))))) (sSkip)) (sSeq (sIf (mTest (mOp oEq (mVar 2) (mC (.str "mended")))) (sRet (mOr (mOp oNe (mOp oIx (mVar 0) (mC (.int 0))) (mC (.str "store"))) (mOp oEq (mOp oIx (mVar 0) (mC (.int 1))) (mC (.str "never"))))) (sSkip)) (sSeq (sIf (mTest (mOp oIn (mVar 2) (mTup (mCons (mC (.str "moving")) (mCons (mC (.str "single")) (mNil)))))) (sRet (mOp oEq (mOp oIx (mVar 0) (mC (.int 2))) (mIf (mTest (mOp oEq (mVar 2) (mC (.str "moving")))) (mC (.str "alone")) (mC (.str "shared"))))) (sSkip)) (sSeq (sIf (mTest (mOp oEq (mVar 2) (mC (.str "linear")))) (sRet (mAnd (mCall 2 (c .fresh_holds) (mCons (mVar 0) (mCons (mVar 1) (mNil)))) (mCall 2 (c .forward_holds) (mCons (mVar 0) (mCons (mVar 1) (mNil)))))) (sSkip)) (sSeq (sSet 3 (mDic [(mC (.str "filled"), mC (.gl "filled_holds")), (mC (.str "forward"), mC (.gl "forward_holds")), (mC (.str "fresh"), mC (.gl "fresh_holds")), (mC (.str "quiet"), mC (.gl "quiet_holds"))])) (sRet (mCallV (vt_does_hold c) (mDGet2 (mVar 3) (mVar 2) (mC (.gl "rest_holds"))) (mCons (mVar 0) (mCons (mVar 1) (mNil)))))))))
/-- holds(design, world, promise) slots: design, world, promise -/
def b_holds (c : Fid → Fn) : Ms :=
  sSeq (sExpr (mCall 2 (c .need_both) (mCons (mVar 0) (mCons (mVar 1) (mNil))))) (sSeq (sExpr (mCall 1 (c .need_promise) (mCons (mVar 2) (mNil)))) (sRet (mCall 3 (c .does_hold) (mCons (mVar 0) (mCons (mVar 1) (mCons (mVar 2) (mNil)))))))
/-- kept_in(design, world) slots: design, world, one -/
def b_kept_in (c : Fid → Fn) : Ms :=
  sRet (mFn fTuple (mCons (mLc [2] (mItT (mC k_PROMISES)) (.nm 2) (mTest (mCall 3 (c .does_hold) (mCons (mVar 0) (mCons (mVar 1) (mCons (mVar 2) (mNil)))))) (mVar 2)) (mNil)))
/-- profile(design, world) slots: design, world -/
def b_profile (c : Fid → Fn) : Ms :=
  sSeq (sExpr (mCall 2 (c .need_both) (mCons (mVar 0) (mCons (mVar 1) (mNil))))) (sRet (mCall 2 (c .kept_in) (mCons (mVar 0) (mCons (mVar 1) (mNil)))))
/-- _law_taken(_law_row, _law_many) slots: _law_row, _law_many, _law_cell, _law_found -/
def b_l_taken (c : Fid → Fn) : Ms :=
  sSeq (sIf (mTest (mOp oGt (mOp oIx (mVar 0) (mC (.int 3))) (mC (.int 0)))) (sSeq (sSet 3 (mOp oMod (mFn fInt (mCons (mOp oIx (mVar 0) (mC (.int 3))) (mNil))) (mVar 1))) (sSeq (sLSet (mVar 0) (mC (.int 3)) (mOp oDiv (mOp oIx (mVar 0) (mC (.int 3))) (mVar 1))) (sRet (mVar 3)))) (sSkip)) (sSeq (sLSet (mVar 0) (mC (.int 1)) (mOp oAdd (mOp oIx (mVar 0) (mC (.int 1))) (mC (.int 1)))) (sSeq (sIf (mTest (mOp oGt (mOp oIx (mVar 0) (mC (.int 1))) (mFn fLen (mCons (mOp oIx (mVar 0) (mC (.int 0))) (mNil))))) (sSeq (sLSet (mVar 0) (mC (.int 2)) (mOp oMod (mFn fInt (mCons (mOp oAdd (mOp oMul (mOp oIx (mVar 0) (mC (.int 2))) (mC (.int 48271))) (mC (.int 11))) (mNil))) (mC (.int 2147483647)))) (sRet (mOp oMod (mFn fInt (mCons (mOp oDiv (mOp oIx (mVar 0) (mC (.int 2))) (mC (.int 7))) (mNil))) (mVar 1)))) (sSkip)) (sSeq (sSet 2 (mOp oIx (mOp oIx (mVar 0) (mC (.int 0))) (mOp oSub (mOp oIx (mVar 0) (mC (.int 1))) (mC (.int 1))))) (sSeq (sLSet (mVar 0) (mC (.int 2)) (mOp oMod (mFn fInt (mCons (mOp oAdd (mOp oAdd (mOp oMul (mOp oIx (mVar 0) (mC (.int 2))) (mC (.int 48271))) (mVar 2)) (mC (.int 11))) (mNil))) (mC (.int 2147483647)))) (sSeq (sIf (mTest (mOp oGe (mVar 2) (mOp oPow (mC (.int 10)) (mC (.int 18))))) (sLSet (mVar 0) (mC (.int 3)) (mOp oDiv (mVar 2) (mVar 1))) (sSkip)) (sRet (mOp oMod (mFn fInt (mCons (mVar 2) (mNil))) (mVar 1))))))))
/-- _law_pick(_law_row, _law_kinds) slots: _law_row, _law_kinds -/
def b_l_pick (c : Fid → Fn) : Ms :=
  sRet (mOp oIx (mVar 1) (mCall 2 (c .l_taken) (mCons (mVar 0) (mCons (mFn fLen (mCons (mVar 1) (mNil))) (mNil)))))
/-- _law_alike(_law_found, _law_due) slots: _law_found, _law_due, _law_k -/
def b_l_alike (c : Fid → Fn) : Ms :=
  sSeq (sIf (mTest (mFn fIsi (mCons (mVar 1) (mCons (mTup (mCons (mC (.ty "tuple")) (mCons (mC (.ty "list")) (mNil)))) (mNil))))) (sSeq (sIf (mOrT (mNotT (mTest (mFn fIsi (mCons (mVar 0) (mCons (mTup (mCons (mC (.ty "tuple")) (mCons (mC (.ty "list")) (mNil)))) (mNil)))))) (mTest (mOp oNe (mFn fIsi (mCons (mVar 0) (mCons (mC (.ty "list")) (mNil)))) (mFn fIsi (mCons (mVar 1) (mCons (mC (.ty "list")) (mNil))))))) (sRet (mC (.bl false))) (sSkip)) (sSeq (sIf (mTest (mOp oNe (mFn fLen (mCons (mVar 0) (mNil))) (mFn fLen (mCons (mVar 1) (mNil))))) (sRet (mC (.bl false))) (sSkip)) (sRet (mOp oEq (mLc [2] (mItR1 (mCons (mFn fLen (mCons (mVar 1) (mNil))) (mNil))) (.nm 2) (mNotT (mTest (mCall 2 (c .l_alike) (mCons (mOp oIx (mVar 0) (mVar 2)) (mCons (mOp oIx (mVar 1) (mVar 2)) (mNil)))))) (mVar 2)) (mLst (mNil)))))) (sSkip)) (sSeq (sIf (mOrT (mTest (mOp oIsN (mVar 1) (mC .non))) (mTest (mFn fIsi (mCons (mVar 1) (mCons (mC (.ty "str")) (mNil)))))) (sRet (mAnd (mOp oEq (mVar 0) (mVar 1)) (mOp oEq (mFn fIsi (mCons (mVar 0) (mCons (mC (.ty "str")) (mNil)))) (mFn fIsi (mCons (mVar 1) (mCons (mC (.ty "str")) (mNil))))))) (sSkip)) (sRet (mAnd (mFn fIsi (mCons (mVar 0) (mCons (mC (.ty "int")) (mNil)))) (mAnd (mOp oEq (mFn fIsi (mCons (mVar 0) (mCons (mC (.ty "bool")) (mNil)))) (mFn fIsi (mCons (mVar 1) (mCons (mC (.ty "bool")) (mNil))))) (mOp oEq (mVar 0) (mVar 1))))))
/-- _law_paths() slots:  -/
def b_l_paths (c : Fid → Fn) : Ms :=
  sRet (mLst (mCons (mC (.str "drop store")) (mCons (mC (.str "drop store drop")) (mCons (mC (.str "store")) (mCons (mC (.str "store drop")) (mCons (mC (.str "store set")) (mNil)))))))
/-- _law_promises() slots:  -/
def b_l_promises (c : Fid → Fn) : Ms :=
  sRet (mLst (mCons (mC (.str "ending")) (mCons (mC (.str "filled")) (mCons (mC (.str "forward")) (mCons (mC (.str "fresh")) (mCons (mC (.str "linear")) (mCons (mC (.str "mended")) (mCons (mC (.str "moving")) (mCons (mC (.str "quiet")) (mCons (mC (.str "rest")) (mCons (mC (.str "single")) (mNil))))))))))))
/-- _law_holds(_law_design, _law_world, _law_promise) slots: _law_design, _law_world, _law_promise, _law_by, _law_climbs, _law_guards, _law_fresh, _law_low, _law_forward, _law_late, _law_whole, _law_found, _law_path, _law_guard, _law_flight -/
def b_l_holds (c : Fid → Fn) : Ms :=
  sSeq (sAsgT (mVar 0) (kTup [kName 12, kName 13, kName 14])) (sSeq (sSet 3 (mAnd (mOp oEq (mVar 13) (mC (.str "never"))) (mOp oNe (mVar 12) (mC (.str "store set"))))) (sSeq (sSet 4 (mAnd (mOp oEq (mVar 12) (mC (.str "store set"))) (mAnd (mOp oIn (mVar 13) (mLst (mCons (mC (.str "mark")) (mCons (mC (.str "newer")) (mNil))))) (mOp oEq (mOp oIx (mVar 1) (mC (.int 1))) (mC (.str "keeps")))))) (sSeq (sSet 5 (mAnd (mMt (fun _ => isStr) gEnds (mVar 12) (mCons (mC (.str "drop")) (mNil))) (mOr (mOp oEq (mVar 13) (mC (.str "token"))) (mAnd (mOp oEq (mVar 13) (mC (.str "mark"))) (mOp oEq (mOp oIx (mVar 1) (mC (.int 1))) (mC (.str "keeps"))))))) (sSeq (sSet 6 (mOr (mVar 4) (mAnd (mOp oEq (mOp oIx (mVar 1) (mC (.int 0))) (mC (.str "primary"))) (mOr (mVar 3) (mAnd (mVar 5) (mOp oEq (mVar 14) (mC (.str "alone")))))))) (sSeq (sSet 7 (mOr (mOp oEq (mVar 13) (mC (.str "mark"))) (mAnd (mOp oEq (mVar 13) (mC (.str "newer"))) (mOp oIn (mVar 12) (mLst (mCons (mC (.str "store")) (mCons (mC (.str "store set")) (mNil)))))))) (sSeq (sSet 8 (mOr (mVar 3) (mOr (mAnd (mOp oEq (mVar 14) (mC (.str "shared"))) (mOp oNe (mVar 12) (mC (.str "store set")))) (mAnd (mOp oEq (mOp oIx (mVar 1) (mC (.int 1))) (mC (.str "keeps"))) (mVar 7))))) (sSeq (sSet 9 (mAnd (mOp oEq (mVar 13) (mC (.str "token"))) (mOp oEq (mOp oIx (mVar 1) (mC (.int 0))) (mC (.str "replica"))))) (sSeq (sSet 10 (mOp oEq (mOp oIx (mVar 1) (mC (.int 2))) (mC (.str "finishes")))) (sSeq (sSet 11 (mNewD [(mC (.str "ending"), mOr (mOp oEq (mVar 14) (mC (.str "alone"))) (mVar 10)), (mC (.str "fresh"), mVar 6), (mC (.str "forward"), mVar 8), (mC (.str "linear"), mAnd (mVar 6) (mVar 8))])) (sSeq (sDSet (mVar 11) (mC (.str "filled")) (mAnd (mOp oNe (mVar 13) (mC (.str "never"))) (mOr (mVar 10) (mOp oEq (mVar 14) (mC (.str "alone")))))) (sSeq (sDSet (mVar 11) (mC (.str "filled")) (mAnd (mOp oDGet (mVar 11) (mC (.str "filled"))) (mNot (mAnd (mOp oEq (mVar 13) (mC (.str "mark"))) (mAnd (mOp oEq (mOp oIx (mVar 1) (mC (.int 0))) (mC (.str "replica"))) (mMt (fun _ => isStr) gEnds (mVar 12) (mCons (mC (.str "drop")) (mNil)))))))) (sSeq (sAsgT (mTup (mCons (mOr (mOp oNe (mVar 12) (mC (.str "store"))) (mOp oEq (mVar 13) (mC (.str "never")))) (mCons (mOp oEq (mVar 14) (mC (.str "alone"))) (mNil)))) (kTup [kDSub (mVar 11) (mC (.str "mended")), kDSub (mVar 11) (mC (.str "moving"))])) (sSeq (sDSet (mVar 11) (mC (.str "quiet")) (mIf (mTest (mVar 3)) (mOp oEq (mOp oIx (mVar 1) (mC (.int 0))) (mC (.str "primary"))) (mAnd (mVar 10) (mVar 6)))) (sSeq (sDSet (mVar 11) (mC (.str "rest")) (mOr (mVar 3) (mAnd (mVar 10) (mOr (mVar 4) (mAnd (mVar 5) (mNot (mVar 9))))))) (sSeq (sDSet (mVar 11) (mC (.str "single")) (mOp oEq (mVar 14) (mC (.str "shared")))) (sRet (mOp oDGet (mVar 11) (mVar 2))))))))))))))))))
/-- _law_designs() slots: _law_found, _law_path, _law_guard -/
def b_l_designs (c : Fid → Fn) : Ms :=
  sSeq (sSet 0 (mLst (mNil))) (sSeq (sFor (mItL (mCall 0 (c .l_paths) mNil)) (.nm 1) (sFor (mItL (mLst (mCons (mC (.str "always")) (mCons (mC (.str "empty")) (mCons (mC (.str "mark")) (mCons (mC (.str "never")) (mCons (mC (.str "newer")) (mCons (mC (.str "token")) (mNil))))))))) (.nm 2) (sSet 0 (mOp oAdd (mVar 0) (mLst (mCons (mTup (mCons (mVar 1) (mCons (mVar 2) (mCons (mC (.str "alone")) (mNil))))) (mCons (mTup (mCons (mVar 1) (mCons (mVar 2) (mCons (mC (.str "shared")) (mNil))))) (mNil)))))))) (sRet (mVar 0)))
/-- _law_worlds() slots: _law_found, _law_source, _law_evictions -/
def b_l_worlds (c : Fid → Fn) : Ms :=
  sSeq (sSet 0 (mLst (mNil))) (sSeq (sFor (mItL (mLst (mCons (mC (.str "primary")) (mCons (mC (.str "replica")) (mNil))))) (.nm 1) (sFor (mItL (mLst (mCons (mC (.str "evicts")) (mCons (mC (.str "keeps")) (mNil))))) (.nm 2) (sSet 0 (mOp oAdd (mVar 0) (mLst (mCons (mTup (mCons (mVar 1) (mCons (mVar 2) (mCons (mC (.str "finishes")) (mNil))))) (mCons (mTup (mCons (mVar 1) (mCons (mVar 2) (mCons (mC (.str "stops")) (mNil))))) (mNil)))))))) (sRet (mVar 0)))
/-- _law_is(_law_found, _law_due) slots: _law_found, _law_due -/
def b_l_is (c : Fid → Fn) : Ms :=
  sRet (mAnd (mFn fIsi (mCons (mVar 0) (mCons (mC (.ty "bool")) (mNil)))) (mOp oEq (mVar 0) (mVar 1)))
/-- law(_law_script) slots: _law_script, _law_row, _law_turn, _law_due, _law_design, _law_world, _law_one -/
def b_law_ (c : Fid → Fn) : Ms :=
  sSeq (sSet 1 (mNewL (mCons (mVar 0) (mCons (mC (.int 0)) (mCons (mC (.int 15550)) (mCons (mC (.int 0)) (mNil))))))) (sSeq (sFor (mItR1 (mCons (mC (.int 6)) (mNil))) (.nm 2) (sSeq (sAsgT (mTup (mCons (mCall 2 (c .l_pick) (mCons (mVar 1) (mCons (mCall 0 (c .l_designs) mNil) (mNil)))) (mCons (mCall 2 (c .l_pick) (mCons (mVar 1) (mCons (mCall 0 (c .l_worlds) mNil) (mNil)))) (mNil)))) (kTup [kName 4, kName 5])) (sSeq (sSet 3 (mLc [6] (mItL (mCall 0 (c .l_promises) mNil)) (.nm 6) (mTest (mCall 3 (c .l_holds) (mCons (mVar 4) (mCons (mVar 5) (mCons (mVar 6) (mNil)))))) (mVar 6))) (sSeq (sIf (mNotT (mTest (mCall 2 (c .l_alike) (mCons (mCall 2 (c .profile) (mCons (mVar 4) (mCons (mVar 5) (mNil)))) (mCons (mFn fTuple (mCons (mVar 3) (mNil))) (mNil)))))) (sRet (mC (.bl false))) (sSkip)) (sIf (mTest (mOp oNe (mLc [6] (mItL (mCall 0 (c .l_promises) mNil)) (.nm 6) (mNotT (mTest (mCall 2 (c .l_is) (mCons (mCall 3 (c .holds) (mCons (mVar 4) (mCons (mVar 5) (mCons (mVar 6) (mNil))))) (mCons (mOp oIn (mVar 6) (mVar 3)) (mNil)))))) (mVar 6)) (mLst (mNil)))) (sRet (mC (.bl false))) (sSkip)))))) (sRet (mC (.bl true))))
def bodyOf (c : Fid → Fn) : Fid → Fn
  | .is_list => (runB 3 (b_is_list c))
  | .is_choice => (runB 4 (b_is_choice c))
  | .is_design => (runB 1 (b_is_design c))
  | .is_world => (runB 1 (b_is_world c))
  | .need_design => (runB 1 (b_need_design c))
  | .need_world => (runB 1 (b_need_world c))
  | .need_both => (runB 2 (b_need_both c))
  | .need_promise => (runB 1 (b_need_promise c))
  | .is_passed_by => (runB 1 (b_is_passed_by c))
  | .is_climbing => (runB 2 (b_is_climbing c))
  | .is_guarded => (runB 2 (b_is_guarded c))
  | .rest_holds => (runB 3 (b_rest_holds c))
  | .fresh_holds => (runB 2 (b_fresh_holds c))
  | .forward_holds => (runB 2 (b_forward_holds c))
  | .filled_holds => (runB 2 (b_filled_holds c))
  | .quiet_holds => (runB 2 (b_quiet_holds c))
  | .does_hold => (runB 4 (b_does_hold c))
  | .holds => isoR (runB 3 (b_holds c))
  | .kept_in => (runB 3 (b_kept_in c))
  | .profile => isoR (runB 2 (b_profile c))
  | .l_taken => (runB 4 (b_l_taken c))
  | .l_pick => (runB 2 (b_l_pick c))
  | .l_alike => (runB 3 (b_l_alike c))
  | .l_paths => (runB 0 (b_l_paths c))
  | .l_promises => (runB 0 (b_l_promises c))
  | .l_holds => isoR (runB 15 (b_l_holds c))
  | .l_designs => (runB 3 (b_l_designs c))
  | .l_worlds => (runB 3 (b_l_worlds c))
  | .l_is => (runB 2 (b_l_is c))
  | .law_ => (runB 7 (b_law_ c))
def callF : Nat → Fid → Fn
  | 0, _ => fun _ _ => .bad
  | n + 1, f => bodyOf (callF n) f
end CH

/-! the derivations, the head -/
namespace CH
open PySem PySem.Spec PyProof.Rows L2

def topS (i : Nat) : Stmt := PySem.Challenge.pw_cacheheld_k03_whole_verdicts.main.body.getD i (.Pass ⟨0, 0, 0, 0⟩)
abbrev s_is_list : Stmt := topS 1
abbrev N_is_list : List Str := ["value", "least", "most"]
theorem sc_is_list : FnScope N_is_list ["value", "least", "most"] (defScope s_is_list) := ⟨rfl, rfl, rfl, by decide +kernel, rfl, by decide +kernel, by decide +kernel⟩
abbrev s_is_choice : Stmt := topS 13
abbrev N_is_choice : List Str := ["value", "options", "one", "some"]
theorem sc_is_choice : FnScope N_is_choice ["value", "options"] (defScope s_is_choice) := ⟨rfl, rfl, rfl, by decide +kernel, rfl, by decide +kernel, by decide +kernel⟩
abbrev s_is_design : Stmt := topS 14
abbrev N_is_design : List Str := ["value"]
theorem sc_is_design : FnScope N_is_design ["value"] (defScope s_is_design) := ⟨rfl, rfl, rfl, by decide +kernel, rfl, by decide +kernel, by decide +kernel⟩
abbrev s_is_world : Stmt := topS 15
abbrev N_is_world : List Str := ["value"]
theorem sc_is_world : FnScope N_is_world ["value"] (defScope s_is_world) := ⟨rfl, rfl, rfl, by decide +kernel, rfl, by decide +kernel, by decide +kernel⟩
abbrev s_need_design : Stmt := topS 16
abbrev N_need_design : List Str := ["design"]
theorem sc_need_design : FnScope N_need_design ["design"] (defScope s_need_design) := ⟨rfl, rfl, rfl, by decide +kernel, rfl, by decide +kernel, by decide +kernel⟩
abbrev s_need_world : Stmt := topS 17
abbrev N_need_world : List Str := ["world"]
theorem sc_need_world : FnScope N_need_world ["world"] (defScope s_need_world) := ⟨rfl, rfl, rfl, by decide +kernel, rfl, by decide +kernel, by decide +kernel⟩
abbrev s_need_both : Stmt := topS 18
abbrev N_need_both : List Str := ["design", "world"]
theorem sc_need_both : FnScope N_need_both ["design", "world"] (defScope s_need_both) := ⟨rfl, rfl, rfl, by decide +kernel, rfl, by decide +kernel, by decide +kernel⟩
abbrev s_need_promise : Stmt := topS 21
abbrev N_need_promise : List Str := ["promise"]
theorem sc_need_promise : FnScope N_need_promise ["promise"] (defScope s_need_promise) := ⟨rfl, rfl, rfl, by decide +kernel, rfl, by decide +kernel, by decide +kernel⟩
abbrev s_is_passed_by : Stmt := topS 25
abbrev N_is_passed_by : List Str := ["design"]
theorem sc_is_passed_by : FnScope N_is_passed_by ["design"] (defScope s_is_passed_by) := ⟨rfl, rfl, rfl, by decide +kernel, rfl, by decide +kernel, by decide +kernel⟩
abbrev s_is_climbing : Stmt := topS 26
abbrev N_is_climbing : List Str := ["design", "world"]
theorem sc_is_climbing : FnScope N_is_climbing ["design", "world"] (defScope s_is_climbing) := ⟨rfl, rfl, rfl, by decide +kernel, rfl, by decide +kernel, by decide +kernel⟩
abbrev s_is_guarded : Stmt := topS 27
abbrev N_is_guarded : List Str := ["design", "world"]
theorem sc_is_guarded : FnScope N_is_guarded ["design", "world"] (defScope s_is_guarded) := ⟨rfl, rfl, rfl, by decide +kernel, rfl, by decide +kernel, by decide +kernel⟩
abbrev s_rest_holds : Stmt := topS 28
abbrev N_rest_holds : List Str := ["design", "world", "is_token_late"]
theorem sc_rest_holds : FnScope N_rest_holds ["design", "world"] (defScope s_rest_holds) := ⟨rfl, rfl, rfl, by decide +kernel, rfl, by decide +kernel, by decide +kernel⟩
abbrev s_fresh_holds : Stmt := topS 29
abbrev N_fresh_holds : List Str := ["design", "world"]
theorem sc_fresh_holds : FnScope N_fresh_holds ["design", "world"] (defScope s_fresh_holds) := ⟨rfl, rfl, rfl, by decide +kernel, rfl, by decide +kernel, by decide +kernel⟩
abbrev s_forward_holds : Stmt := topS 30
abbrev N_forward_holds : List Str := ["design", "world"]
theorem sc_forward_holds : FnScope N_forward_holds ["design", "world"] (defScope s_forward_holds) := ⟨rfl, rfl, rfl, by decide +kernel, rfl, by decide +kernel, by decide +kernel⟩
abbrev s_filled_holds : Stmt := topS 31
abbrev N_filled_holds : List Str := ["design", "world"]
theorem sc_filled_holds : FnScope N_filled_holds ["design", "world"] (defScope s_filled_holds) := ⟨rfl, rfl, rfl, by decide +kernel, rfl, by decide +kernel, by decide +kernel⟩
abbrev s_quiet_holds : Stmt := topS 32
abbrev N_quiet_holds : List Str := ["design", "world"]
theorem sc_quiet_holds : FnScope N_quiet_holds ["design", "world"] (defScope s_quiet_holds) := ⟨rfl, rfl, rfl, by decide +kernel, rfl, by decide +kernel, by decide +kernel⟩
abbrev s_does_hold : Stmt := topS 33
abbrev N_does_hold : List Str := ["design", "world", "promise", "told"]
theorem sc_does_hold : FnScope N_does_hold ["design", "world", "promise"] (defScope s_does_hold) := ⟨rfl, rfl, rfl, by decide +kernel, rfl, by decide +kernel, by decide +kernel⟩
abbrev s_holds : Stmt := topS 34
abbrev N_holds : List Str := ["design", "world", "promise"]
theorem sc_holds : FnScope N_holds ["design", "world", "promise"] (defScope s_holds) := ⟨rfl, rfl, rfl, by decide +kernel, rfl, by decide +kernel, by decide +kernel⟩
abbrev s_kept_in : Stmt := topS 35
abbrev N_kept_in : List Str := ["design", "world", "one"]
theorem sc_kept_in : FnScope N_kept_in ["design", "world"] (defScope s_kept_in) := ⟨rfl, rfl, rfl, by decide +kernel, rfl, by decide +kernel, by decide +kernel⟩
abbrev s_profile : Stmt := topS 36
abbrev N_profile : List Str := ["design", "world"]
theorem sc_profile : FnScope N_profile ["design", "world"] (defScope s_profile) := ⟨rfl, rfl, rfl, by decide +kernel, rfl, by decide +kernel, by decide +kernel⟩
abbrev s_l_taken : Stmt := topS 38
abbrev N_l_taken : List Str := ["_law_row", "_law_many", "_law_cell", "_law_found"]
theorem sc_l_taken : FnScope N_l_taken ["_law_row", "_law_many"] (defScope s_l_taken) := ⟨rfl, rfl, rfl, by decide +kernel, rfl, by decide +kernel, by decide +kernel⟩
abbrev s_l_pick : Stmt := topS 39
abbrev N_l_pick : List Str := ["_law_row", "_law_kinds"]
theorem sc_l_pick : FnScope N_l_pick ["_law_row", "_law_kinds"] (defScope s_l_pick) := ⟨rfl, rfl, rfl, by decide +kernel, rfl, by decide +kernel, by decide +kernel⟩
abbrev s_l_alike : Stmt := topS 40
abbrev N_l_alike : List Str := ["_law_found", "_law_due", "_law_k"]
theorem sc_l_alike : FnScope N_l_alike ["_law_found", "_law_due"] (defScope s_l_alike) := ⟨rfl, rfl, rfl, by decide +kernel, rfl, by decide +kernel, by decide +kernel⟩
abbrev s_l_paths : Stmt := topS 41
abbrev N_l_paths : List Str := []
theorem sc_l_paths : FnScope N_l_paths [] (defScope s_l_paths) := ⟨rfl, rfl, rfl, by decide +kernel, rfl, by decide +kernel, by decide +kernel⟩
abbrev s_l_promises : Stmt := topS 42
abbrev N_l_promises : List Str := []
theorem sc_l_promises : FnScope N_l_promises [] (defScope s_l_promises) := ⟨rfl, rfl, rfl, by decide +kernel, rfl, by decide +kernel, by decide +kernel⟩
abbrev s_l_holds : Stmt := topS 43
abbrev N_l_holds : List Str := ["_law_design", "_law_world", "_law_promise", "_law_by", "_law_climbs", "_law_guards", "_law_fresh", "_law_low", "_law_forward", "_law_late", "_law_whole", "_law_found", "_law_path", "_law_guard", "_law_flight"]
theorem sc_l_holds : FnScope N_l_holds ["_law_design", "_law_world", "_law_promise"] (defScope s_l_holds) := ⟨rfl, rfl, rfl, by decide +kernel, rfl, by decide +kernel, by decide +kernel⟩
abbrev s_l_designs : Stmt := topS 44
abbrev N_l_designs : List Str := ["_law_found", "_law_path", "_law_guard"]
theorem sc_l_designs : FnScope N_l_designs [] (defScope s_l_designs) := ⟨rfl, rfl, rfl, by decide +kernel, rfl, by decide +kernel, by decide +kernel⟩
abbrev s_l_worlds : Stmt := topS 45
abbrev N_l_worlds : List Str := ["_law_found", "_law_source", "_law_evictions"]
theorem sc_l_worlds : FnScope N_l_worlds [] (defScope s_l_worlds) := ⟨rfl, rfl, rfl, by decide +kernel, rfl, by decide +kernel, by decide +kernel⟩
abbrev s_l_is : Stmt := topS 46
abbrev N_l_is : List Str := ["_law_found", "_law_due"]
theorem sc_l_is : FnScope N_l_is ["_law_found", "_law_due"] (defScope s_l_is) := ⟨rfl, rfl, rfl, by decide +kernel, rfl, by decide +kernel, by decide +kernel⟩
abbrev s_law_ : Stmt := topS 47
abbrev N_law_ : List Str := ["_law_script", "_law_row", "_law_turn", "_law_due", "_law_design", "_law_world", "_law_one"]
theorem sc_law_ : FnScope N_law_ ["_law_script"] (defScope s_law_) := ⟨rfl, rfl, rfl, by decide +kernel, rfl, by decide +kernel, by decide +kernel⟩
def psOf : Fid → List Str
  | .is_list => ["value", "least", "most"]
  | .is_choice => ["value", "options"]
  | .is_design => ["value"]
  | .is_world => ["value"]
  | .need_design => ["design"]
  | .need_world => ["world"]
  | .need_both => ["design", "world"]
  | .need_promise => ["promise"]
  | .is_passed_by => ["design"]
  | .is_climbing => ["design", "world"]
  | .is_guarded => ["design", "world"]
  | .rest_holds => ["design", "world"]
  | .fresh_holds => ["design", "world"]
  | .forward_holds => ["design", "world"]
  | .filled_holds => ["design", "world"]
  | .quiet_holds => ["design", "world"]
  | .does_hold => ["design", "world", "promise"]
  | .holds => ["design", "world", "promise"]
  | .kept_in => ["design", "world"]
  | .profile => ["design", "world"]
  | .l_taken => ["_law_row", "_law_many"]
  | .l_pick => ["_law_row", "_law_kinds"]
  | .l_alike => ["_law_found", "_law_due"]
  | .l_paths => []
  | .l_promises => []
  | .l_holds => ["_law_design", "_law_world", "_law_promise"]
  | .l_designs => []
  | .l_worlds => []
  | .l_is => ["_law_found", "_law_due"]
  | .law_ => ["_law_script"]
def atOf : Fid → Str × Option Str
  | .is_list => ("is_list", none)
  | .is_choice => ("is_choice", none)
  | .is_design => ("is_design", none)
  | .is_world => ("is_world", none)
  | .need_design => ("need_design", none)
  | .need_world => ("need_world", none)
  | .need_both => ("need_both", none)
  | .need_promise => ("need_promise", none)
  | .is_passed_by => ("is_passed_by", none)
  | .is_climbing => ("is_climbing", none)
  | .is_guarded => ("is_guarded", none)
  | .rest_holds => ("rest_holds", none)
  | .fresh_holds => ("fresh_holds", none)
  | .forward_holds => ("forward_holds", none)
  | .filled_holds => ("filled_holds", none)
  | .quiet_holds => ("quiet_holds", none)
  | .does_hold => ("does_hold", none)
  | .holds => ("holds", none)
  | .kept_in => ("kept_in", none)
  | .profile => ("profile", none)
  | .l_taken => ("_law_taken", none)
  | .l_pick => ("_law_pick", none)
  | .l_alike => ("_law_alike", none)
  | .l_paths => ("_law_paths", none)
  | .l_promises => ("_law_promises", none)
  | .l_holds => ("_law_holds", none)
  | .l_designs => ("_law_designs", none)
  | .l_worlds => ("_law_worlds", none)
  | .l_is => ("_law_is", none)
  | .law_ => ("law", none)
structure Tab (P : Program) (w : World) (K : PySem.W.Frag) (mg : Str → Option Value) (base : Heap) (n : Nat) : Prop where
  fn : ∀ f : Fid, FT P w K mg base (2 * n) (psOf f) (callF n f) (He.fAd K (atOf f))
  gl_is_list : mg "is_list" = some (.ref (He.ga K "is_list"))
  gl_is_choice : mg "is_choice" = some (.ref (He.ga K "is_choice"))
  gl_is_design : mg "is_design" = some (.ref (He.ga K "is_design"))
  gl_is_world : mg "is_world" = some (.ref (He.ga K "is_world"))
  gl_need_design : mg "need_design" = some (.ref (He.ga K "need_design"))
  gl_need_world : mg "need_world" = some (.ref (He.ga K "need_world"))
  gl_need_both : mg "need_both" = some (.ref (He.ga K "need_both"))
  gl_need_promise : mg "need_promise" = some (.ref (He.ga K "need_promise"))
  gl_is_passed_by : mg "is_passed_by" = some (.ref (He.ga K "is_passed_by"))
  gl_is_climbing : mg "is_climbing" = some (.ref (He.ga K "is_climbing"))
  gl_is_guarded : mg "is_guarded" = some (.ref (He.ga K "is_guarded"))
  gl_rest_holds : mg "rest_holds" = some (.ref (He.ga K "rest_holds"))
  gl_fresh_holds : mg "fresh_holds" = some (.ref (He.ga K "fresh_holds"))
  gl_forward_holds : mg "forward_holds" = some (.ref (He.ga K "forward_holds"))
  gl_filled_holds : mg "filled_holds" = some (.ref (He.ga K "filled_holds"))
  gl_quiet_holds : mg "quiet_holds" = some (.ref (He.ga K "quiet_holds"))
  gl_does_hold : mg "does_hold" = some (.ref (He.ga K "does_hold"))
  gl_holds : mg "holds" = some (.ref (He.ga K "holds"))
  gl_kept_in : mg "kept_in" = some (.ref (He.ga K "kept_in"))
  gl_profile : mg "profile" = some (.ref (He.ga K "profile"))
  gl_l_taken : mg "_law_taken" = some (.ref (He.ga K "_law_taken"))
  gl_l_pick : mg "_law_pick" = some (.ref (He.ga K "_law_pick"))
  gl_l_alike : mg "_law_alike" = some (.ref (He.ga K "_law_alike"))
  gl_l_paths : mg "_law_paths" = some (.ref (He.ga K "_law_paths"))
  gl_l_promises : mg "_law_promises" = some (.ref (He.ga K "_law_promises"))
  gl_l_holds : mg "_law_holds" = some (.ref (He.ga K "_law_holds"))
  gl_l_designs : mg "_law_designs" = some (.ref (He.ga K "_law_designs"))
  gl_l_worlds : mg "_law_worlds" = some (.ref (He.ga K "_law_worlds"))
  gl_l_is : mg "_law_is" = some (.ref (He.ga K "_law_is"))
  gl_law_ : mg "law" = some (.ref (He.ga K "law"))
  m_all : mg "all" = none
  m_bool : mg "bool" = none
  m_int : mg "int" = none
  m_isinstance : mg "isinstance" = none
  m_len : mg "len" = none
  m_list : mg "list" = none
  m_range : mg "range" = none
  m_str : mg "str" = none
  m_tuple : mg "tuple" = none
  m_zip : mg "zip" = none
  c_PROMISES : CoD ⟨K, mg⟩ "PROMISES" k_PROMISES
  c_DROPS_LAST : CoD ⟨K, mg⟩ "DROPS_LAST" k_DROPS_LAST
  c_PATHS : CoD ⟨K, mg⟩ "PATHS" k_PATHS
  c_GUARDS : CoD ⟨K, mg⟩ "GUARDS" k_GUARDS
  c_FLIGHTS : CoD ⟨K, mg⟩ "FLIGHTS" k_FLIGHTS
  c_DESIGNS : CoD ⟨K, mg⟩ "DESIGNS" k_DESIGNS
  c_WORLDS : CoD ⟨K, mg⟩ "WORLDS" k_WORLDS
  c_VERSIONED : CoD ⟨K, mg⟩ "VERSIONED" k_VERSIONED
section
variable {P : Program} {w : World} {K : PySem.W.Frag} {mg : Str → Option Value} {base : Heap} {n : Nat}
theorem d_is_list (T : Tab P w K mg base n) {cdv : Value} {A : Around} {outer : List Env} {s : Shared} {H : Hp} {E : XK} {f : Addr} (hr1 : Room (2 * n + 1) (A.deeper (envOfC "is_list" (defScope s_is_list) s.heap.objs.size f cdv))) :
    PSs (cxOf (L2.CX P w) P w K mg base N_is_list "is_list" (defScope s_is_list) f cdv A outer s H E) (defBody s_is_list) (tS ⟨K, mg⟩ (WX0 E) (b_is_list (callF n))) := by
  have hr := hr1.mono (Nat.le_succ (2 * n))
  have tk := takes_cx (P := P) (w := w) (K := K) (mg := mg) (base := base) (N := N_is_list) (qual := "is_list") (scope := defScope s_is_list) (f := f) (cd := cdv) (A := A) (outer := outer) (s := s) (H := H) (E := E)
  exact dss_one (ds_ret (de_and (de_callB callr_isi calls_isi rfl T.m_isinstance boot_isinstance (da_cons (de_var (pv 0)) (da_cons (de_ty rfl T.m_tuple boot_tuple) (da_nil)))) (de_one (de_chain op_le ops_le op_le ops_le (de_var (pv 1)) (de_callB callr_len calls_len rfl T.m_len boot_len (da_cons (de_var (pv 0)) (da_nil))) (de_var (pv 2))))))
theorem d_is_choice (T : Tab P w K mg base n) {cdv : Value} {A : Around} {outer : List Env} {s : Shared} {H : Hp} {E : XK} {f : Addr} (hr1 : Room (2 * n + 1) (A.deeper (envOfC "is_choice" (defScope s_is_choice) s.heap.objs.size f cdv))) :
    PSs (cxOf (L2.CX P w) P w K mg base N_is_choice "is_choice" (defScope s_is_choice) f cdv A outer s H E) (defBody s_is_choice) (tS ⟨K, mg⟩ (WX0 E) (b_is_choice (callF n))) := by
  have hr := hr1.mono (Nat.le_succ (2 * n))
  have tk := takes_cx (P := P) (w := w) (K := K) (mg := mg) (base := base) (N := N_is_choice) (qual := "is_choice") (scope := defScope s_is_choice) (f := f) (cd := cdv) (A := A) (outer := outer) (s := s) (H := H) (E := E)
  exact dss_cons (ds_if (PW.pt (dw_or (dt_not (dt_val (de_call (T.fn .is_list) hr rfl T.gl_is_list tk (da_cons (de_var (pv 0)) (da_cons (de_callB callr_len calls_len rfl T.m_len boot_len (da_cons (de_var (pv 1)) (da_nil))) (da_cons (de_callB callr_len calls_len rfl T.m_len boot_len (da_cons (de_var (pv 1)) (da_nil))) (da_nil))))))) (dw_or1 (dt_not (dt_val (de_callB (cr_all rfl) calls_all rfl T.m_all boot_all (da_cons (de_lc (tg := (.nm 2)) (own := [("one", 2)]) rfl sc_is_choice.nd (di_tup (de_var (pv 0))) (blkOk_by (N := N_is_choice) (sc := defScope s_is_choice) (own := [("one", 2)]) (by decide +kernel)) (by decide) (fun _ _ _ _ _ => pg_name (i := 2) sc_is_choice.nd rfl (by first | exact Or.inl rfl | exact Or.inr rfl)) (fun _ _ _ _ _ => dt_yes) (fun _ _ _ _ _ => de_callB callr_isi calls_isi rfl T.m_isinstance boot_isinstance (da_cons (de_var (pv 2)) (da_cons (de_ty rfl T.m_str boot_str) (da_nil))))) (da_nil)))))))) (dss_one (ds_ret (de_bl))) (dss_nil)) (dss_one (ds_ret (de_callB (cr_all rfl) calls_all rfl T.m_all boot_all (da_cons (de_lc (tg := (.tp [2, 3])) (own := [("one", 2), ("some", 3)]) rfl sc_is_choice.nd (di_zipT rfl T.m_zip (da_cons (de_var (pv 0)) (da_cons (de_var (pv 1)) (da_nil)))) (blkOk_by (N := N_is_choice) (sc := defScope s_is_choice) (own := [("one", 2), ("some", 3)]) (by decide +kernel)) (by decide) (fun _ _ _ _ _ => pg_tup rfl (pgs_cons (pg_name (i := 2) sc_is_choice.nd rfl (by first | exact Or.inl rfl | exact Or.inr rfl)) (pgs_cons (pg_name (i := 3) sc_is_choice.nd rfl (by first | exact Or.inl rfl | exact Or.inr rfl)) (pgs_nil)))) (fun _ _ _ _ _ => dt_yes) (fun _ _ _ _ _ => de_cmp (opr_in hr) ops_in (de_var (pv 2)) (de_var (pv 3)) (by rfl))) (da_nil)))))
theorem d_is_design (T : Tab P w K mg base n) {cdv : Value} {A : Around} {outer : List Env} {s : Shared} {H : Hp} {E : XK} {f : Addr} (hr1 : Room (2 * n + 1) (A.deeper (envOfC "is_design" (defScope s_is_design) s.heap.objs.size f cdv))) :
    PSs (cxOf (L2.CX P w) P w K mg base N_is_design "is_design" (defScope s_is_design) f cdv A outer s H E) (defBody s_is_design) (tS ⟨K, mg⟩ (WX0 E) (b_is_design (callF n))) := by
  have hr := hr1.mono (Nat.le_succ (2 * n))
  have tk := takes_cx (P := P) (w := w) (K := K) (mg := mg) (base := base) (N := N_is_design) (qual := "is_design") (scope := defScope s_is_design) (f := f) (cd := cdv) (A := A) (outer := outer) (s := s) (H := H) (E := E)
  exact dss_one (ds_ret (de_call (T.fn .is_choice) hr rfl T.gl_is_choice tk (da_cons (de_var (pv 0)) (da_cons (de_con rfl T.c_DESIGNS) (da_nil)))))
theorem d_is_world (T : Tab P w K mg base n) {cdv : Value} {A : Around} {outer : List Env} {s : Shared} {H : Hp} {E : XK} {f : Addr} (hr1 : Room (2 * n + 1) (A.deeper (envOfC "is_world" (defScope s_is_world) s.heap.objs.size f cdv))) :
    PSs (cxOf (L2.CX P w) P w K mg base N_is_world "is_world" (defScope s_is_world) f cdv A outer s H E) (defBody s_is_world) (tS ⟨K, mg⟩ (WX0 E) (b_is_world (callF n))) := by
  have hr := hr1.mono (Nat.le_succ (2 * n))
  have tk := takes_cx (P := P) (w := w) (K := K) (mg := mg) (base := base) (N := N_is_world) (qual := "is_world") (scope := defScope s_is_world) (f := f) (cd := cdv) (A := A) (outer := outer) (s := s) (H := H) (E := E)
  exact dss_one (ds_ret (de_call (T.fn .is_choice) hr rfl T.gl_is_choice tk (da_cons (de_var (pv 0)) (da_cons (de_con rfl T.c_WORLDS) (da_nil)))))
theorem d_need_design (T : Tab P w K mg base n) {cdv : Value} {A : Around} {outer : List Env} {s : Shared} {H : Hp} {E : XK} {f : Addr} (hr1 : Room (2 * n + 1) (A.deeper (envOfC "need_design" (defScope s_need_design) s.heap.objs.size f cdv))) :
    PSs (cxOf (L2.CX P w) P w K mg base N_need_design "need_design" (defScope s_need_design) f cdv A outer s H E) (defBody s_need_design) (tS ⟨K, mg⟩ (WX0 E) (b_need_design (callF n))) := by
  have hr := hr1.mono (Nat.le_succ (2 * n))
  have tk := takes_cx (P := P) (w := w) (K := K) (mg := mg) (base := base) (N := N_need_design) (qual := "need_design") (scope := defScope s_need_design) (f := f) (cd := cdv) (A := A) (outer := outer) (s := s) (H := H) (E := E)
  exact dss_one (ds_if (dt_not (dt_val (de_call (T.fn .is_design) hr rfl T.gl_is_design tk (da_cons (de_var (pv 0)) (da_nil))))) (dss_one (ds_never)) (dss_nil))
theorem d_need_world (T : Tab P w K mg base n) {cdv : Value} {A : Around} {outer : List Env} {s : Shared} {H : Hp} {E : XK} {f : Addr} (hr1 : Room (2 * n + 1) (A.deeper (envOfC "need_world" (defScope s_need_world) s.heap.objs.size f cdv))) :
    PSs (cxOf (L2.CX P w) P w K mg base N_need_world "need_world" (defScope s_need_world) f cdv A outer s H E) (defBody s_need_world) (tS ⟨K, mg⟩ (WX0 E) (b_need_world (callF n))) := by
  have hr := hr1.mono (Nat.le_succ (2 * n))
  have tk := takes_cx (P := P) (w := w) (K := K) (mg := mg) (base := base) (N := N_need_world) (qual := "need_world") (scope := defScope s_need_world) (f := f) (cd := cdv) (A := A) (outer := outer) (s := s) (H := H) (E := E)
  exact dss_one (ds_if (dt_not (dt_val (de_call (T.fn .is_world) hr rfl T.gl_is_world tk (da_cons (de_var (pv 0)) (da_nil))))) (dss_one (ds_never)) (dss_nil))
theorem d_need_both (T : Tab P w K mg base n) {cdv : Value} {A : Around} {outer : List Env} {s : Shared} {H : Hp} {E : XK} {f : Addr} (hr1 : Room (2 * n + 1) (A.deeper (envOfC "need_both" (defScope s_need_both) s.heap.objs.size f cdv))) :
    PSs (cxOf (L2.CX P w) P w K mg base N_need_both "need_both" (defScope s_need_both) f cdv A outer s H E) (defBody s_need_both) (tS ⟨K, mg⟩ (WX0 E) (b_need_both (callF n))) := by
  have hr := hr1.mono (Nat.le_succ (2 * n))
  have tk := takes_cx (P := P) (w := w) (K := K) (mg := mg) (base := base) (N := N_need_both) (qual := "need_both") (scope := defScope s_need_both) (f := f) (cd := cdv) (A := A) (outer := outer) (s := s) (H := H) (E := E)
  exact dss_cons (ds_expr (de_call (T.fn .need_design) hr rfl T.gl_need_design tk (da_cons (de_var (pv 0)) (da_nil)))) (dss_one (ds_expr (de_call (T.fn .need_world) hr rfl T.gl_need_world tk (da_cons (de_var (pv 1)) (da_nil)))))
theorem d_need_promise (T : Tab P w K mg base n) {cdv : Value} {A : Around} {outer : List Env} {s : Shared} {H : Hp} {E : XK} {f : Addr} (hr1 : Room (2 * n + 1) (A.deeper (envOfC "need_promise" (defScope s_need_promise) s.heap.objs.size f cdv))) :
    PSs (cxOf (L2.CX P w) P w K mg base N_need_promise "need_promise" (defScope s_need_promise) f cdv A outer s H E) (defBody s_need_promise) (tS ⟨K, mg⟩ (WX0 E) (b_need_promise (callF n))) := by
  have hr := hr1.mono (Nat.le_succ (2 * n))
  have tk := takes_cx (P := P) (w := w) (K := K) (mg := mg) (base := base) (N := N_need_promise) (qual := "need_promise") (scope := defScope s_need_promise) (f := f) (cd := cdv) (A := A) (outer := outer) (s := s) (H := H) (E := E)
  exact dss_one (ds_if (PW.pt (dw_or (dt_not (dt_val (de_callB callr_isi calls_isi rfl T.m_isinstance boot_isinstance (da_cons (de_var (pv 0)) (da_cons (de_ty rfl T.m_str boot_str) (da_nil)))))) (dw_or1 (dt_cmp (opr_ni hr) ops_ni (de_var (pv 0)) (de_con rfl T.c_PROMISES) (by rfl))))) (dss_one (ds_never)) (dss_nil))
theorem d_is_passed_by (T : Tab P w K mg base n) {cdv : Value} {A : Around} {outer : List Env} {s : Shared} {H : Hp} {E : XK} {f : Addr} (hr1 : Room (2 * n + 1) (A.deeper (envOfC "is_passed_by" (defScope s_is_passed_by) s.heap.objs.size f cdv))) :
    PSs (cxOf (L2.CX P w) P w K mg base N_is_passed_by "is_passed_by" (defScope s_is_passed_by) f cdv A outer s H E) (defBody s_is_passed_by) (tS ⟨K, mg⟩ (WX0 E) (b_is_passed_by (callF n))) := by
  have hr := hr1.mono (Nat.le_succ (2 * n))
  have tk := takes_cx (P := P) (w := w) (K := K) (mg := mg) (base := base) (N := N_is_passed_by) (qual := "is_passed_by") (scope := defScope s_is_passed_by) (f := f) (cd := cdv) (A := A) (outer := outer) (s := s) (H := H) (E := E)
  exact dss_one (ds_ret (de_and (de_cmp (opr_eq hr) ops_eq (de_ix ixr ops_ix (de_var (pv 0)) (de_int) (fun _ _ => rfl)) (de_str) (by rfl)) (de_one (de_cmp (opr_ne hr) ops_ne (de_ix ixr ops_ix (de_var (pv 0)) (de_int) (fun _ _ => rfl)) (de_str) (by rfl)))))
theorem d_is_climbing (T : Tab P w K mg base n) {cdv : Value} {A : Around} {outer : List Env} {s : Shared} {H : Hp} {E : XK} {f : Addr} (hr1 : Room (2 * n + 1) (A.deeper (envOfC "is_climbing" (defScope s_is_climbing) s.heap.objs.size f cdv))) :
    PSs (cxOf (L2.CX P w) P w K mg base N_is_climbing "is_climbing" (defScope s_is_climbing) f cdv A outer s H E) (defBody s_is_climbing) (tS ⟨K, mg⟩ (WX0 E) (b_is_climbing (callF n))) := by
  have hr := hr1.mono (Nat.le_succ (2 * n))
  have tk := takes_cx (P := P) (w := w) (K := K) (mg := mg) (base := base) (N := N_is_climbing) (qual := "is_climbing") (scope := defScope s_is_climbing) (f := f) (cd := cdv) (A := A) (outer := outer) (s := s) (H := H) (E := E)
  exact dss_one (ds_ret (de_and (de_cmp (opr_eq hr) ops_eq (de_ix ixr ops_ix (de_var (pv 0)) (de_int) (fun _ _ => rfl)) (de_str) (by rfl)) (de_and (de_cmp (opr_in hr) ops_in (de_ix ixr ops_ix (de_var (pv 0)) (de_int) (fun _ _ => rfl)) (de_con rfl T.c_VERSIONED) (by rfl)) (de_one (de_cmp (opr_eq hr) ops_eq (de_ix ixr ops_ix (de_var (pv 1)) (de_int) (fun _ _ => rfl)) (de_str) (by rfl))))))
theorem d_is_guarded (T : Tab P w K mg base n) {cdv : Value} {A : Around} {outer : List Env} {s : Shared} {H : Hp} {E : XK} {f : Addr} (hr1 : Room (2 * n + 1) (A.deeper (envOfC "is_guarded" (defScope s_is_guarded) s.heap.objs.size f cdv))) :
    PSs (cxOf (L2.CX P w) P w K mg base N_is_guarded "is_guarded" (defScope s_is_guarded) f cdv A outer s H E) (defBody s_is_guarded) (tS ⟨K, mg⟩ (WX0 E) (b_is_guarded (callF n))) := by
  have hr := hr1.mono (Nat.le_succ (2 * n))
  have tk := takes_cx (P := P) (w := w) (K := K) (mg := mg) (base := base) (N := N_is_guarded) (qual := "is_guarded") (scope := defScope s_is_guarded) (f := f) (cd := cdv) (A := A) (outer := outer) (s := s) (H := H) (E := E)
  exact dss_cons (ds_if (dt_cmp (opr_ni hr) ops_ni (de_ix ixr ops_ix (de_var (pv 0)) (de_int) (fun _ _ => rfl)) (de_con rfl T.c_DROPS_LAST) (by rfl)) (dss_one (ds_ret (de_bl))) (dss_nil)) (dss_one (ds_ret (de_or (de_cmp (opr_eq hr) ops_eq (de_ix ixr ops_ix (de_var (pv 0)) (de_int) (fun _ _ => rfl)) (de_str) (by rfl)) (de_one (de_and (de_cmp (opr_eq hr) ops_eq (de_ix ixr ops_ix (de_var (pv 0)) (de_int) (fun _ _ => rfl)) (de_str) (by rfl)) (de_one (de_cmp (opr_eq hr) ops_eq (de_ix ixr ops_ix (de_var (pv 1)) (de_int) (fun _ _ => rfl)) (de_str) (by rfl))))))))
theorem d_rest_holds (T : Tab P w K mg base n) {cdv : Value} {A : Around} {outer : List Env} {s : Shared} {H : Hp} {E : XK} {f : Addr} (hr1 : Room (2 * n + 1) (A.deeper (envOfC "rest_holds" (defScope s_rest_holds) s.heap.objs.size f cdv))) :
    PSs (cxOf (L2.CX P w) P w K mg base N_rest_holds "rest_holds" (defScope s_rest_holds) f cdv A outer s H E) (defBody s_rest_holds) (tS ⟨K, mg⟩ (WX0 E) (b_rest_holds (callF n))) := by
  have hr := hr1.mono (Nat.le_succ (2 * n))
  have tk := takes_cx (P := P) (w := w) (K := K) (mg := mg) (base := base) (N := N_rest_holds) (qual := "rest_holds") (scope := defScope s_rest_holds) (f := f) (cd := cdv) (A := A) (outer := outer) (s := s) (H := H) (E := E)
  exact dss_cons (ds_if (dt_val (de_call (T.fn .is_passed_by) hr rfl T.gl_is_passed_by tk (da_cons (de_var (pv 0)) (da_nil)))) (dss_one (ds_ret (de_bl))) (dss_nil)) (dss_cons (ds_if (dt_cmp (opr_eq hr) ops_eq (de_ix ixr ops_ix (de_var (pv 1)) (de_int) (fun _ _ => rfl)) (de_str) (by rfl)) (dss_one (ds_ret (de_bl))) (dss_nil)) (dss_cons (ds_set (i := 2) sc_rest_holds.nd rfl (by first | exact Or.inl rfl | exact Or.inr rfl) (de_and (de_cmp (opr_eq hr) ops_eq (de_ix ixr ops_ix (de_var (pv 0)) (de_int) (fun _ _ => rfl)) (de_str) (by rfl)) (de_one (de_cmp (opr_eq hr) ops_eq (de_ix ixr ops_ix (de_var (pv 1)) (de_int) (fun _ _ => rfl)) (de_str) (by rfl))))) (dss_one (ds_ret (de_or (de_call (T.fn .is_climbing) hr rfl T.gl_is_climbing tk (da_cons (de_var (pv 0)) (da_cons (de_var (pv 1)) (da_nil)))) (de_one (de_and (de_call (T.fn .is_guarded) hr rfl T.gl_is_guarded tk (da_cons (de_var (pv 0)) (da_cons (de_var (pv 1)) (da_nil)))) (de_one (de_not (de_var (pv 2)))))))))))
theorem d_fresh_holds (T : Tab P w K mg base n) {cdv : Value} {A : Around} {outer : List Env} {s : Shared} {H : Hp} {E : XK} {f : Addr} (hr1 : Room (2 * n + 1) (A.deeper (envOfC "fresh_holds" (defScope s_fresh_holds) s.heap.objs.size f cdv))) :
    PSs (cxOf (L2.CX P w) P w K mg base N_fresh_holds "fresh_holds" (defScope s_fresh_holds) f cdv A outer s H E) (defBody s_fresh_holds) (tS ⟨K, mg⟩ (WX0 E) (b_fresh_holds (callF n))) := by
  have hr := hr1.mono (Nat.le_succ (2 * n))
  have tk := takes_cx (P := P) (w := w) (K := K) (mg := mg) (base := base) (N := N_fresh_holds) (qual := "fresh_holds") (scope := defScope s_fresh_holds) (f := f) (cd := cdv) (A := A) (outer := outer) (s := s) (H := H) (E := E)
  exact dss_cons (ds_if (dt_val (de_call (T.fn .is_climbing) hr rfl T.gl_is_climbing tk (da_cons (de_var (pv 0)) (da_cons (de_var (pv 1)) (da_nil))))) (dss_one (ds_ret (de_bl))) (dss_nil)) (dss_cons (ds_if (dt_cmp (opr_eq hr) ops_eq (de_ix ixr ops_ix (de_var (pv 1)) (de_int) (fun _ _ => rfl)) (de_str) (by rfl)) (dss_one (ds_ret (de_bl))) (dss_nil)) (dss_one (ds_ret (de_or (de_call (T.fn .is_passed_by) hr rfl T.gl_is_passed_by tk (da_cons (de_var (pv 0)) (da_nil))) (de_one (de_and (de_call (T.fn .is_guarded) hr rfl T.gl_is_guarded tk (da_cons (de_var (pv 0)) (da_cons (de_var (pv 1)) (da_nil)))) (de_one (de_cmp (opr_eq hr) ops_eq (de_ix ixr ops_ix (de_var (pv 0)) (de_int) (fun _ _ => rfl)) (de_str) (by rfl)))))))))
theorem d_forward_holds (T : Tab P w K mg base n) {cdv : Value} {A : Around} {outer : List Env} {s : Shared} {H : Hp} {E : XK} {f : Addr} (hr1 : Room (2 * n + 1) (A.deeper (envOfC "forward_holds" (defScope s_forward_holds) s.heap.objs.size f cdv))) :
    PSs (cxOf (L2.CX P w) P w K mg base N_forward_holds "forward_holds" (defScope s_forward_holds) f cdv A outer s H E) (defBody s_forward_holds) (tS ⟨K, mg⟩ (WX0 E) (b_forward_holds (callF n))) := by
  have hr := hr1.mono (Nat.le_succ (2 * n))
  have tk := takes_cx (P := P) (w := w) (K := K) (mg := mg) (base := base) (N := N_forward_holds) (qual := "forward_holds") (scope := defScope s_forward_holds) (f := f) (cd := cdv) (A := A) (outer := outer) (s := s) (H := H) (E := E)
  exact dss_cons (ds_if (PW.pt (dw_or (dt_val (de_call (T.fn .is_passed_by) hr rfl T.gl_is_passed_by tk (da_cons (de_var (pv 0)) (da_nil)))) (dw_or1 (PW.pt (dw_and (dt_cmp (opr_eq hr) ops_eq (de_ix ixr ops_ix (de_var (pv 0)) (de_int) (fun _ _ => rfl)) (de_str) (by rfl)) (dw_and1 (dt_cmp (opr_ne hr) ops_ne (de_ix ixr ops_ix (de_var (pv 0)) (de_int) (fun _ _ => rfl)) (de_str) (by rfl)))))))) (dss_one (ds_ret (de_bl))) (dss_nil)) (dss_cons (ds_if (dt_cmp (opr_eq hr) ops_eq (de_ix ixr ops_ix (de_var (pv 1)) (de_int) (fun _ _ => rfl)) (de_str) (by rfl)) (dss_one (ds_ret (de_bl))) (dss_nil)) (dss_one (ds_ret (de_or (de_cmp (opr_eq hr) ops_eq (de_ix ixr ops_ix (de_var (pv 0)) (de_int) (fun _ _ => rfl)) (de_str) (by rfl)) (de_one (de_and (de_cmp (opr_eq hr) ops_eq (de_ix ixr ops_ix (de_var (pv 0)) (de_int) (fun _ _ => rfl)) (de_str) (by rfl)) (de_one (de_cmp (opr_in hr) ops_in (de_ix ixr ops_ix (de_var (pv 0)) (de_int) (fun _ _ => rfl)) (de_tup (da_cons (de_str) (da_cons (de_str) (da_nil)))) (by rfl)))))))))
theorem d_filled_holds (T : Tab P w K mg base n) {cdv : Value} {A : Around} {outer : List Env} {s : Shared} {H : Hp} {E : XK} {f : Addr} (hr1 : Room (2 * n + 1) (A.deeper (envOfC "filled_holds" (defScope s_filled_holds) s.heap.objs.size f cdv))) :
    PSs (cxOf (L2.CX P w) P w K mg base N_filled_holds "filled_holds" (defScope s_filled_holds) f cdv A outer s H E) (defBody s_filled_holds) (tS ⟨K, mg⟩ (WX0 E) (b_filled_holds (callF n))) := by
  have hr := hr1.mono (Nat.le_succ (2 * n))
  have tk := takes_cx (P := P) (w := w) (K := K) (mg := mg) (base := base) (N := N_filled_holds) (qual := "filled_holds") (scope := defScope s_filled_holds) (f := f) (cd := cdv) (A := A) (outer := outer) (s := s) (H := H) (E := E)
  exact dss_cons (ds_if (PW.pt (dw_or (dt_cmp (opr_eq hr) ops_eq (de_ix ixr ops_ix (de_var (pv 0)) (de_int) (fun _ _ => rfl)) (de_str) (by rfl)) (dw_or1 (PW.pt (dw_and (dt_cmp (opr_eq hr) ops_eq (de_ix ixr ops_ix (de_var (pv 0)) (de_int) (fun _ _ => rfl)) (de_str) (by rfl)) (dw_and1 (dt_cmp (opr_eq hr) ops_eq (de_ix ixr ops_ix (de_var (pv 1)) (de_int) (fun _ _ => rfl)) (de_str) (by rfl)))))))) (dss_one (ds_ret (de_bl))) (dss_nil)) (dss_one (ds_ret (de_or (de_cmp (opr_ne hr) ops_ne (de_ix ixr ops_ix (de_var (pv 0)) (de_int) (fun _ _ => rfl)) (de_str) (by rfl)) (de_or (de_cmp (opr_eq hr) ops_eq (de_ix ixr ops_ix (de_var (pv 1)) (de_int) (fun _ _ => rfl)) (de_str) (by rfl)) (de_one (de_cmp (opr_ni hr) ops_ni (de_ix ixr ops_ix (de_var (pv 0)) (de_int) (fun _ _ => rfl)) (de_con rfl T.c_DROPS_LAST) (by rfl)))))))
theorem d_quiet_holds (T : Tab P w K mg base n) {cdv : Value} {A : Around} {outer : List Env} {s : Shared} {H : Hp} {E : XK} {f : Addr} (hr1 : Room (2 * n + 1) (A.deeper (envOfC "quiet_holds" (defScope s_quiet_holds) s.heap.objs.size f cdv))) :
    PSs (cxOf (L2.CX P w) P w K mg base N_quiet_holds "quiet_holds" (defScope s_quiet_holds) f cdv A outer s H E) (defBody s_quiet_holds) (tS ⟨K, mg⟩ (WX0 E) (b_quiet_holds (callF n))) := by
  have hr := hr1.mono (Nat.le_succ (2 * n))
  have tk := takes_cx (P := P) (w := w) (K := K) (mg := mg) (base := base) (N := N_quiet_holds) (qual := "quiet_holds") (scope := defScope s_quiet_holds) (f := f) (cd := cdv) (A := A) (outer := outer) (s := s) (H := H) (E := E)
  exact dss_cons (ds_if (dt_val (de_call (T.fn .is_passed_by) hr rfl T.gl_is_passed_by tk (da_cons (de_var (pv 0)) (da_nil)))) (dss_one (ds_ret (de_cmp (opr_eq hr) ops_eq (de_ix ixr ops_ix (de_var (pv 1)) (de_int) (fun _ _ => rfl)) (de_str) (by rfl)))) (dss_nil)) (dss_one (ds_ret (de_and (de_cmp (opr_eq hr) ops_eq (de_ix ixr ops_ix (de_var (pv 1)) (de_int) (fun _ _ => rfl)) (de_str) (by rfl)) (de_one (de_call (T.fn .fresh_holds) hr rfl T.gl_fresh_holds tk (da_cons (de_var (pv 0)) (da_cons (de_var (pv 1)) (da_nil))))))))
theorem vtok_does_hold {X : Cx} (T : Tab X.prog X.w X.K X.mg X.base n) : VTabOk X (2 * n) (vt_does_hold (callF n)) := fun x p e => by
  have key : ∀ y, (vt_does_hold (callF n)).lookup y = some p → ∃ (f : Addr) (ps : List Str), X.mg y = some (.ref f) ∧ ps.length = p.1 ∧ FT X.prog X.w X.K X.mg X.base (2 * n) ps p.2 f := by
    intro y e
    unfold vt_does_hold at e
    simp only [List.lookup] at e
    split at e
    · rename_i hy
      have ey := eq_of_beq hy
      cases e
      rw [ey]
      exact ⟨_, _, T.gl_filled_holds, rfl, T.fn .filled_holds⟩
    split at e
    · rename_i hy
      have ey := eq_of_beq hy
      cases e
      rw [ey]
      exact ⟨_, _, T.gl_forward_holds, rfl, T.fn .forward_holds⟩
    split at e
    · rename_i hy
      have ey := eq_of_beq hy
      cases e
      rw [ey]
      exact ⟨_, _, T.gl_fresh_holds, rfl, T.fn .fresh_holds⟩
    split at e
    · rename_i hy
      have ey := eq_of_beq hy
      cases e
      rw [ey]
      exact ⟨_, _, T.gl_quiet_holds, rfl, T.fn .quiet_holds⟩
    split at e
    · rename_i hy
      have ey := eq_of_beq hy
      cases e
      rw [ey]
      exact ⟨_, _, T.gl_rest_holds, rfl, T.fn .rest_holds⟩
    cases e
  exact key x e
theorem d_does_hold (T : Tab P w K mg base n) {cdv : Value} {A : Around} {outer : List Env} {s : Shared} {H : Hp} {E : XK} {f : Addr} (hr1 : Room (2 * n + 1) (A.deeper (envOfC "does_hold" (defScope s_does_hold) s.heap.objs.size f cdv))) :
    PSs (cxOf (L2.CX P w) P w K mg base N_does_hold "does_hold" (defScope s_does_hold) f cdv A outer s H E) (defBody s_does_hold) (tS ⟨K, mg⟩ (WX0 E) (b_does_hold (callF n))) := by
  have hr := hr1.mono (Nat.le_succ (2 * n))
  have tk := takes_cx (P := P) (w := w) (K := K) (mg := mg) (base := base) (N := N_does_hold) (qual := "does_hold") (scope := defScope s_does_hold) (f := f) (cd := cdv) (A := A) (outer := outer) (s := s) (H := H) (E := E)
  exact dss_cons (ds_if (dt_cmp (opr_eq hr) ops_eq (de_var (pv 2)) (de_str) (by rfl)) (dss_one (ds_ret (de_or (de_cmp (opr_eq hr) ops_eq (de_ix ixr ops_ix (de_var (pv 0)) (de_int) (fun _ _ => rfl)) (de_str) (by rfl)) (de_one (de_cmp (opr_eq hr) ops_eq (de_ix ixr ops_ix (de_var (pv 1)) (de_int) (fun _ _ => rfl)) (de_str) (by rfl)))))) (dss_nil)) (dss_cons (ds_if (dt_cmp (opr_eq hr) ops_eq (de_var (pv 2)) (de_str) (by rfl)) (dss_one (ds_ret (de_or (de_cmp (opr_ne hr) ops_ne (de_ix ixr ops_ix (de_var (pv 0)) (de_int) (fun _ _ => rfl)) (de_str) (by rfl)) (de_one (de_cmp (opr_eq hr) ops_eq (de_ix ixr ops_ix (de_var (pv 0)) (de_int) (fun _ _ => rfl)) (de_str) (by rfl)))))) (dss_nil)) (dss_cons (ds_if (dt_cmp (opr_in hr) ops_in (de_var (pv 2)) (de_tup (da_cons (de_str) (da_cons (de_str) (da_nil)))) (by rfl)) (dss_one (ds_ret (de_cmp (opr_eq hr) ops_eq (de_ix ixr ops_ix (de_var (pv 0)) (de_int) (fun _ _ => rfl)) (de_if (dt_cmp (opr_eq hr) ops_eq (de_var (pv 2)) (de_str) (by rfl)) (de_str) (de_str)) (by rfl)))) (dss_nil)) (dss_cons (ds_if (dt_cmp (opr_eq hr) ops_eq (de_var (pv 2)) (de_str) (by rfl)) (dss_one (ds_ret (de_and (de_call (T.fn .fresh_holds) hr rfl T.gl_fresh_holds tk (da_cons (de_var (pv 0)) (da_cons (de_var (pv 1)) (da_nil)))) (de_one (de_call (T.fn .forward_holds) hr rfl T.gl_forward_holds tk (da_cons (de_var (pv 0)) (da_cons (de_var (pv 1)) (da_nil)))))))) (dss_nil)) (dss_cons (ds_set (i := 3) sc_does_hold.nd rfl (by first | exact Or.inl rfl | exact Or.inr rfl) (de_dic (dp_cons (de_str) (de_gl rfl (T.gl_filled_holds)) (dp_cons (de_str) (de_gl rfl (T.gl_forward_holds)) (dp_cons (de_str) (de_gl rfl (T.gl_fresh_holds)) (dp_cons (de_str) (de_gl rfl (T.gl_quiet_holds)) (dp_nil))))))) (dss_one (ds_ret (de_callV (vtok_does_hold T) hr tk (de_dget2 hr (de_var (pv 3)) (de_var (pv 2)) (de_gl rfl (T.gl_rest_holds))) (da_cons (de_var (pv 0)) (da_cons (de_var (pv 1)) (da_nil))))))))))
theorem d_holds (T : Tab P w K mg base n) {cdv : Value} {A : Around} {outer : List Env} {s : Shared} {H : Hp} {E : XK} {f : Addr} (hr1 : Room (2 * n + 1) (A.deeper (envOfC "holds" (defScope s_holds) s.heap.objs.size f cdv))) :
    PSs (cxOf (L2.CX P w) P w K mg base N_holds "holds" (defScope s_holds) f cdv A outer s H E) (defBody s_holds) (tS ⟨K, mg⟩ (WX0 E) (b_holds (callF n))) := by
  have hr := hr1.mono (Nat.le_succ (2 * n))
  have tk := takes_cx (P := P) (w := w) (K := K) (mg := mg) (base := base) (N := N_holds) (qual := "holds") (scope := defScope s_holds) (f := f) (cd := cdv) (A := A) (outer := outer) (s := s) (H := H) (E := E)
  exact dss_cons (ds_expr (de_call (T.fn .need_both) hr rfl T.gl_need_both tk (da_cons (de_var (pv 0)) (da_cons (de_var (pv 1)) (da_nil))))) (dss_cons (ds_expr (de_call (T.fn .need_promise) hr rfl T.gl_need_promise tk (da_cons (de_var (pv 2)) (da_nil)))) (dss_one (ds_ret (de_call (T.fn .does_hold) hr rfl T.gl_does_hold tk (da_cons (de_var (pv 0)) (da_cons (de_var (pv 1)) (da_cons (de_var (pv 2)) (da_nil))))))))
theorem d_kept_in (T : Tab P w K mg base n) {cdv : Value} {A : Around} {outer : List Env} {s : Shared} {H : Hp} {E : XK} {f : Addr} (hr1 : Room (2 * n + 1) (A.deeper (envOfC "kept_in" (defScope s_kept_in) s.heap.objs.size f cdv))) :
    PSs (cxOf (L2.CX P w) P w K mg base N_kept_in "kept_in" (defScope s_kept_in) f cdv A outer s H E) (defBody s_kept_in) (tS ⟨K, mg⟩ (WX0 E) (b_kept_in (callF n))) := by
  have hr := hr1.mono (Nat.le_succ (2 * n))
  have tk := takes_cx (P := P) (w := w) (K := K) (mg := mg) (base := base) (N := N_kept_in) (qual := "kept_in") (scope := defScope s_kept_in) (f := f) (cd := cdv) (A := A) (outer := outer) (s := s) (H := H) (E := E)
  exact dss_one (ds_ret (de_callTy call_tuple_of calls_tuple rfl T.m_tuple boot_tuple (da_cons (de_lc (tg := (.nm 2)) (own := [("one", 2)]) rfl sc_kept_in.nd (di_tup (de_con rfl T.c_PROMISES)) (blkOk_by (N := N_kept_in) (sc := defScope s_kept_in) (own := [("one", 2)]) (by decide +kernel)) (by decide) (fun _ _ _ _ _ => pg_name (i := 2) sc_kept_in.nd rfl (by first | exact Or.inl rfl | exact Or.inr rfl)) (fun _ _ _ _ _ => dt_cond (dt_val (de_call (T.fn .does_hold) hr rfl T.gl_does_hold takes0 (da_cons (de_var (pv 0)) (da_cons (de_var (pv 1)) (da_cons (de_var (pv 2)) (da_nil))))))) (fun _ _ _ _ _ => de_var (pv 2))) (da_nil))))
theorem d_profile (T : Tab P w K mg base n) {cdv : Value} {A : Around} {outer : List Env} {s : Shared} {H : Hp} {E : XK} {f : Addr} (hr1 : Room (2 * n + 1) (A.deeper (envOfC "profile" (defScope s_profile) s.heap.objs.size f cdv))) :
    PSs (cxOf (L2.CX P w) P w K mg base N_profile "profile" (defScope s_profile) f cdv A outer s H E) (defBody s_profile) (tS ⟨K, mg⟩ (WX0 E) (b_profile (callF n))) := by
  have hr := hr1.mono (Nat.le_succ (2 * n))
  have tk := takes_cx (P := P) (w := w) (K := K) (mg := mg) (base := base) (N := N_profile) (qual := "profile") (scope := defScope s_profile) (f := f) (cd := cdv) (A := A) (outer := outer) (s := s) (H := H) (E := E)
  exact dss_cons (ds_expr (de_call (T.fn .need_both) hr rfl T.gl_need_both tk (da_cons (de_var (pv 0)) (da_cons (de_var (pv 1)) (da_nil))))) (dss_one (ds_ret (de_call (T.fn .kept_in) hr rfl T.gl_kept_in tk (da_cons (de_var (pv 0)) (da_cons (de_var (pv 1)) (da_nil))))))
theorem d_l_taken (T : Tab P w K mg base n) {cdv : Value} {A : Around} {outer : List Env} {s : Shared} {H : Hp} {E : XK} {f : Addr} (hr1 : Room (2 * n + 1) (A.deeper (envOfC "_law_taken" (defScope s_l_taken) s.heap.objs.size f cdv))) :
    PSs (cxOf (L2.CX P w) P w K mg base N_l_taken "_law_taken" (defScope s_l_taken) f cdv A outer s H E) (defBody s_l_taken) (tS ⟨K, mg⟩ (WX0 E) (b_l_taken (callF n))) := by
  have hr := hr1.mono (Nat.le_succ (2 * n))
  have tk := takes_cx (P := P) (w := w) (K := K) (mg := mg) (base := base) (N := N_l_taken) (qual := "_law_taken") (scope := defScope s_l_taken) (f := f) (cd := cdv) (A := A) (outer := outer) (s := s) (H := H) (E := E)
  exact dss_cons (ds_if (dt_cmp op_gt ops_gt (de_ix ixr ops_ix (de_var (pv 0)) (de_int) (fun _ _ => rfl)) (de_int) (by rfl)) (dss_cons (ds_set (i := 3) sc_l_taken.nd rfl (by first | exact Or.inl rfl | exact Or.inr rfl) (de_op op_mod ops_mod (de_callTy call_int1 calls_int rfl T.m_int boot_int (da_cons (de_ix ixr ops_ix (de_var (pv 0)) (de_int) (fun _ _ => rfl)) (da_nil))) (de_var (pv 1)))) (dss_cons (ds_lset (by intro _; rfl) (de_var (pv 0)) (de_int) (de_op op_fdiv ops_div (de_ix ixr ops_ix (de_var (pv 0)) (de_int) (fun _ _ => rfl)) (de_var (pv 1)))) (dss_one (ds_ret (de_var (pv 3)))))) (dss_nil)) (dss_cons (ds_lset (by intro _; rfl) (de_var (pv 0)) (de_int) (de_op opr_add ops_add (de_ix ixr ops_ix (de_var (pv 0)) (de_int) (fun _ _ => rfl)) (de_int))) (dss_cons (ds_if (dt_cmp op_gt ops_gt (de_ix ixr ops_ix (de_var (pv 0)) (de_int) (fun _ _ => rfl)) (de_callB callr_len calls_len rfl T.m_len boot_len (da_cons (de_ix ixr ops_ix (de_var (pv 0)) (de_int) (fun _ _ => rfl)) (da_nil))) (by rfl)) (dss_cons (ds_lset (by intro _; rfl) (de_var (pv 0)) (de_int) (de_op op_mod ops_mod (de_callTy call_int1 calls_int rfl T.m_int boot_int (da_cons (de_op opr_add ops_add (de_op op_mul ops_mul (de_ix ixr ops_ix (de_var (pv 0)) (de_int) (fun _ _ => rfl)) (de_int)) (de_int)) (da_nil))) (de_int))) (dss_one (ds_ret (de_op op_mod ops_mod (de_callTy call_int1 calls_int rfl T.m_int boot_int (da_cons (de_op op_fdiv ops_div (de_ix ixr ops_ix (de_var (pv 0)) (de_int) (fun _ _ => rfl)) (de_int)) (da_nil))) (de_var (pv 1)))))) (dss_nil)) (dss_cons (ds_set (i := 2) sc_l_taken.nd rfl (by first | exact Or.inl rfl | exact Or.inr rfl) (de_ix ixr ops_ix (de_ix ixr ops_ix (de_var (pv 0)) (de_int) (fun _ _ => rfl)) (de_op op_sub ops_sub (de_ix ixr ops_ix (de_var (pv 0)) (de_int) (fun _ _ => rfl)) (de_int)) (fun _ _ => rfl))) (dss_cons (ds_lset (by intro _; rfl) (de_var (pv 0)) (de_int) (de_op op_mod ops_mod (de_callTy call_int1 calls_int rfl T.m_int boot_int (da_cons (de_op opr_add ops_add (de_op opr_add ops_add (de_op op_mul ops_mul (de_ix ixr ops_ix (de_var (pv 0)) (de_int) (fun _ _ => rfl)) (de_int)) (de_var (pv 2))) (de_int)) (da_nil))) (de_int))) (dss_cons (ds_if (dt_cmp op_ge ops_ge (de_var (pv 2)) (de_op op_pow ops_pow (de_int) (de_int)) (by rfl)) (dss_one (ds_lset (by intro _; rfl) (de_var (pv 0)) (de_int) (de_op op_fdiv ops_div (de_var (pv 2)) (de_var (pv 1))))) (dss_nil)) (dss_one (ds_ret (de_op op_mod ops_mod (de_callTy call_int1 calls_int rfl T.m_int boot_int (da_cons (de_var (pv 2)) (da_nil))) (de_var (pv 1))))))))))
theorem d_l_pick (T : Tab P w K mg base n) {cdv : Value} {A : Around} {outer : List Env} {s : Shared} {H : Hp} {E : XK} {f : Addr} (hr1 : Room (2 * n + 1) (A.deeper (envOfC "_law_pick" (defScope s_l_pick) s.heap.objs.size f cdv))) :
    PSs (cxOf (L2.CX P w) P w K mg base N_l_pick "_law_pick" (defScope s_l_pick) f cdv A outer s H E) (defBody s_l_pick) (tS ⟨K, mg⟩ (WX0 E) (b_l_pick (callF n))) := by
  have hr := hr1.mono (Nat.le_succ (2 * n))
  have tk := takes_cx (P := P) (w := w) (K := K) (mg := mg) (base := base) (N := N_l_pick) (qual := "_law_pick") (scope := defScope s_l_pick) (f := f) (cd := cdv) (A := A) (outer := outer) (s := s) (H := H) (E := E)
  exact dss_one (ds_ret (de_ix ixr ops_ix (de_var (pv 1)) (de_call (T.fn .l_taken) hr rfl T.gl_l_taken tk (da_cons (de_var (pv 0)) (da_cons (de_callB callr_len calls_len rfl T.m_len boot_len (da_cons (de_var (pv 1)) (da_nil))) (da_nil)))) (fun _ _ => rfl)))
theorem d_l_alike (T : Tab P w K mg base n) {cdv : Value} {A : Around} {outer : List Env} {s : Shared} {H : Hp} {E : XK} {f : Addr} (hr1 : Room (2 * n + 1) (A.deeper (envOfC "_law_alike" (defScope s_l_alike) s.heap.objs.size f cdv))) :
    PSs (cxOf (L2.CX P w) P w K mg base N_l_alike "_law_alike" (defScope s_l_alike) f cdv A outer s H E) (defBody s_l_alike) (tS ⟨K, mg⟩ (WX0 E) (b_l_alike (callF n))) := by
  have hr := hr1.mono (Nat.le_succ (2 * n))
  have tk := takes_cx (P := P) (w := w) (K := K) (mg := mg) (base := base) (N := N_l_alike) (qual := "_law_alike") (scope := defScope s_l_alike) (f := f) (cd := cdv) (A := A) (outer := outer) (s := s) (H := H) (E := E)
  exact dss_cons (ds_if (dt_val (de_callB callr_isi calls_isi rfl T.m_isinstance boot_isinstance (da_cons (de_var (pv 1)) (da_cons (de_tup (da_cons (de_ty rfl T.m_tuple boot_tuple) (da_cons (de_ty rfl T.m_list boot_list) (da_nil)))) (da_nil))))) (dss_cons (ds_if (PW.pt (dw_or (dt_not (dt_val (de_callB callr_isi calls_isi rfl T.m_isinstance boot_isinstance (da_cons (de_var (pv 0)) (da_cons (de_tup (da_cons (de_ty rfl T.m_tuple boot_tuple) (da_cons (de_ty rfl T.m_list boot_list) (da_nil)))) (da_nil)))))) (dw_or1 (dt_cmp (opr_ne hr) ops_ne (de_callB callr_isi calls_isi rfl T.m_isinstance boot_isinstance (da_cons (de_var (pv 0)) (da_cons (de_ty rfl T.m_list boot_list) (da_nil)))) (de_callB callr_isi calls_isi rfl T.m_isinstance boot_isinstance (da_cons (de_var (pv 1)) (da_cons (de_ty rfl T.m_list boot_list) (da_nil)))) (by rfl))))) (dss_one (ds_ret (de_bl))) (dss_nil)) (dss_cons (ds_if (dt_cmp (opr_ne hr) ops_ne (de_callB callr_len calls_len rfl T.m_len boot_len (da_cons (de_var (pv 0)) (da_nil))) (de_callB callr_len calls_len rfl T.m_len boot_len (da_cons (de_var (pv 1)) (da_nil))) (by rfl)) (dss_one (ds_ret (de_bl))) (dss_nil)) (dss_one (ds_ret (de_cmp (opr_eq hr) ops_eq (de_lc (tg := (.nm 2)) (own := [("_law_k", 2)]) rfl sc_l_alike.nd (di_range1 rfl T.m_range (da_cons (de_callB callr_len calls_len rfl T.m_len boot_len (da_cons (de_var (pv 1)) (da_nil))) (da_nil))) (blkOk_by (N := N_l_alike) (sc := defScope s_l_alike) (own := [("_law_k", 2)]) (by decide +kernel)) (by decide) (fun _ _ _ _ _ => pg_name (i := 2) sc_l_alike.nd rfl (by first | exact Or.inl rfl | exact Or.inr rfl)) (fun _ _ _ _ _ => dt_cond (dt_not (dt_val (de_call (T.fn .l_alike) hr rfl T.gl_l_alike takes0 (da_cons (de_ix ixr ops_ix (de_var (pv 0)) (de_var (pv 2)) (fun _ _ => rfl)) (da_cons (de_ix ixr ops_ix (de_var (pv 1)) (de_var (pv 2)) (fun _ _ => rfl)) (da_nil))))))) (fun _ _ _ _ _ => de_var (pv 2))) (de_lst (da_nil)) (by rfl)))))) (dss_nil)) (dss_cons (ds_if (PW.pt (dw_or (dt_cmp op_isN ops_isN (de_var (pv 1)) (de_non) (by rfl)) (dw_or1 (dt_val (de_callB callr_isi calls_isi rfl T.m_isinstance boot_isinstance (da_cons (de_var (pv 1)) (da_cons (de_ty rfl T.m_str boot_str) (da_nil)))))))) (dss_one (ds_ret (de_and (de_cmp (opr_eq hr) ops_eq (de_var (pv 0)) (de_var (pv 1)) (by rfl)) (de_one (de_cmp (opr_eq hr) ops_eq (de_callB callr_isi calls_isi rfl T.m_isinstance boot_isinstance (da_cons (de_var (pv 0)) (da_cons (de_ty rfl T.m_str boot_str) (da_nil)))) (de_callB callr_isi calls_isi rfl T.m_isinstance boot_isinstance (da_cons (de_var (pv 1)) (da_cons (de_ty rfl T.m_str boot_str) (da_nil)))) (by rfl)))))) (dss_nil)) (dss_one (ds_ret (de_and (de_callB callr_isi calls_isi rfl T.m_isinstance boot_isinstance (da_cons (de_var (pv 0)) (da_cons (de_ty rfl T.m_int boot_int) (da_nil)))) (de_and (de_cmp (opr_eq hr) ops_eq (de_callB callr_isi calls_isi rfl T.m_isinstance boot_isinstance (da_cons (de_var (pv 0)) (da_cons (de_ty rfl T.m_bool boot_bool) (da_nil)))) (de_callB callr_isi calls_isi rfl T.m_isinstance boot_isinstance (da_cons (de_var (pv 1)) (da_cons (de_ty rfl T.m_bool boot_bool) (da_nil)))) (by rfl)) (de_one (de_cmp (opr_eq hr) ops_eq (de_var (pv 0)) (de_var (pv 1)) (by rfl))))))))
theorem d_l_paths (T : Tab P w K mg base n) {cdv : Value} {A : Around} {outer : List Env} {s : Shared} {H : Hp} {E : XK} {f : Addr} (hr1 : Room (2 * n + 1) (A.deeper (envOfC "_law_paths" (defScope s_l_paths) s.heap.objs.size f cdv))) :
    PSs (cxOf (L2.CX P w) P w K mg base N_l_paths "_law_paths" (defScope s_l_paths) f cdv A outer s H E) (defBody s_l_paths) (tS ⟨K, mg⟩ (WX0 E) (b_l_paths (callF n))) := by
  have hr := hr1.mono (Nat.le_succ (2 * n))
  have tk := takes_cx (P := P) (w := w) (K := K) (mg := mg) (base := base) (N := N_l_paths) (qual := "_law_paths") (scope := defScope s_l_paths) (f := f) (cd := cdv) (A := A) (outer := outer) (s := s) (H := H) (E := E)
  exact dss_one (ds_ret (de_lst (da_cons (de_str) (da_cons (de_str) (da_cons (de_str) (da_cons (de_str) (da_cons (de_str) (da_nil))))))))
theorem d_l_promises (T : Tab P w K mg base n) {cdv : Value} {A : Around} {outer : List Env} {s : Shared} {H : Hp} {E : XK} {f : Addr} (hr1 : Room (2 * n + 1) (A.deeper (envOfC "_law_promises" (defScope s_l_promises) s.heap.objs.size f cdv))) :
    PSs (cxOf (L2.CX P w) P w K mg base N_l_promises "_law_promises" (defScope s_l_promises) f cdv A outer s H E) (defBody s_l_promises) (tS ⟨K, mg⟩ (WX0 E) (b_l_promises (callF n))) := by
  have hr := hr1.mono (Nat.le_succ (2 * n))
  have tk := takes_cx (P := P) (w := w) (K := K) (mg := mg) (base := base) (N := N_l_promises) (qual := "_law_promises") (scope := defScope s_l_promises) (f := f) (cd := cdv) (A := A) (outer := outer) (s := s) (H := H) (E := E)
  exact dss_one (ds_ret (de_lst (da_cons (de_str) (da_cons (de_str) (da_cons (de_str) (da_cons (de_str) (da_cons (de_str) (da_cons (de_str) (da_cons (de_str) (da_cons (de_str) (da_cons (de_str) (da_cons (de_str) (da_nil)))))))))))))
theorem d_l_holds (T : Tab P w K mg base n) {cdv : Value} {A : Around} {outer : List Env} {s : Shared} {H : Hp} {E : XK} {f : Addr} (hr1 : Room (2 * n + 1) (A.deeper (envOfC "_law_holds" (defScope s_l_holds) s.heap.objs.size f cdv))) :
    PSs (cxOf (L2.CX P w) P w K mg base N_l_holds "_law_holds" (defScope s_l_holds) f cdv A outer s H E) (defBody s_l_holds) (tS ⟨K, mg⟩ (WX0 E) (b_l_holds (callF n))) := by
  have hr := hr1.mono (Nat.le_succ (2 * n))
  have tk := takes_cx (P := P) (w := w) (K := K) (mg := mg) (base := base) (N := N_l_holds) (qual := "_law_holds") (scope := defScope s_l_holds) (f := f) (cd := cdv) (A := A) (outer := outer) (s := s) (H := H) (E := E)
  exact dss_cons (ds_asg (de_var (pv 0)) (dg_tup rfl (dgs_cons (dg_name (pg_name (i := 12) sc_l_holds.nd rfl (by first | exact Or.inl rfl | exact Or.inr rfl))) (dgs_cons (dg_name (pg_name (i := 13) sc_l_holds.nd rfl (by first | exact Or.inl rfl | exact Or.inr rfl))) (dgs_cons (dg_name (pg_name (i := 14) sc_l_holds.nd rfl (by first | exact Or.inl rfl | exact Or.inr rfl))) (dgs_nil)))) rfl)) (dss_cons (ds_set (i := 3) sc_l_holds.nd rfl (by first | exact Or.inl rfl | exact Or.inr rfl) (de_and (de_cmp (opr_eq hr) ops_eq (de_var (pv 13)) (de_str) (by rfl)) (de_one (de_cmp (opr_ne hr) ops_ne (de_var (pv 12)) (de_str) (by rfl))))) (dss_cons (ds_set (i := 4) sc_l_holds.nd rfl (by first | exact Or.inl rfl | exact Or.inr rfl) (de_and (de_cmp (opr_eq hr) ops_eq (de_var (pv 12)) (de_str) (by rfl)) (de_and (de_cmp (opr_in hr) ops_in (de_var (pv 13)) (de_lst (da_cons (de_str) (da_cons (de_str) (da_nil)))) (by rfl)) (de_one (de_cmp (opr_eq hr) ops_eq (de_ix ixr ops_ix (de_var (pv 1)) (de_int) (fun _ _ => rfl)) (de_str) (by rfl)))))) (dss_cons (ds_set (i := 5) sc_l_holds.nd rfl (by first | exact Or.inl rfl | exact Or.inr rfl) (de_and (de_bm PySem.F.plainAttrs_str PySem.F.slot_str_endswith PySem.F.type_str_endswith mt_endswith mts_ends rc_str (de_var (pv 12)) (da_cons (de_str) (da_nil))) (de_one (de_or (de_cmp (opr_eq hr) ops_eq (de_var (pv 13)) (de_str) (by rfl)) (de_one (de_and (de_cmp (opr_eq hr) ops_eq (de_var (pv 13)) (de_str) (by rfl)) (de_one (de_cmp (opr_eq hr) ops_eq (de_ix ixr ops_ix (de_var (pv 1)) (de_int) (fun _ _ => rfl)) (de_str) (by rfl))))))))) (dss_cons (ds_set (i := 6) sc_l_holds.nd rfl (by first | exact Or.inl rfl | exact Or.inr rfl) (de_or (de_var (pv 4)) (de_one (de_and (de_cmp (opr_eq hr) ops_eq (de_ix ixr ops_ix (de_var (pv 1)) (de_int) (fun _ _ => rfl)) (de_str) (by rfl)) (de_one (de_or (de_var (pv 3)) (de_one (de_and (de_var (pv 5)) (de_one (de_cmp (opr_eq hr) ops_eq (de_var (pv 14)) (de_str) (by rfl))))))))))) (dss_cons (ds_set (i := 7) sc_l_holds.nd rfl (by first | exact Or.inl rfl | exact Or.inr rfl) (de_or (de_cmp (opr_eq hr) ops_eq (de_var (pv 13)) (de_str) (by rfl)) (de_one (de_and (de_cmp (opr_eq hr) ops_eq (de_var (pv 13)) (de_str) (by rfl)) (de_one (de_cmp (opr_in hr) ops_in (de_var (pv 12)) (de_lst (da_cons (de_str) (da_cons (de_str) (da_nil)))) (by rfl))))))) (dss_cons (ds_set (i := 8) sc_l_holds.nd rfl (by first | exact Or.inl rfl | exact Or.inr rfl) (de_or (de_var (pv 3)) (de_or (de_and (de_cmp (opr_eq hr) ops_eq (de_var (pv 14)) (de_str) (by rfl)) (de_one (de_cmp (opr_ne hr) ops_ne (de_var (pv 12)) (de_str) (by rfl)))) (de_one (de_and (de_cmp (opr_eq hr) ops_eq (de_ix ixr ops_ix (de_var (pv 1)) (de_int) (fun _ _ => rfl)) (de_str) (by rfl)) (de_one (de_var (pv 7)))))))) (dss_cons (ds_set (i := 9) sc_l_holds.nd rfl (by first | exact Or.inl rfl | exact Or.inr rfl) (de_and (de_cmp (opr_eq hr) ops_eq (de_var (pv 13)) (de_str) (by rfl)) (de_one (de_cmp (opr_eq hr) ops_eq (de_ix ixr ops_ix (de_var (pv 1)) (de_int) (fun _ _ => rfl)) (de_str) (by rfl))))) (dss_cons (ds_set (i := 10) sc_l_holds.nd rfl (by first | exact Or.inl rfl | exact Or.inr rfl) (de_cmp (opr_eq hr) ops_eq (de_ix ixr ops_ix (de_var (pv 1)) (de_int) (fun _ _ => rfl)) (de_str) (by rfl))) (dss_cons (ds_set (i := 11) sc_l_holds.nd rfl (by first | exact Or.inl rfl | exact Or.inr rfl) (de_newD (dp_cons (de_str) (de_or (de_cmp (opr_eq hr) ops_eq (de_var (pv 14)) (de_str) (by rfl)) (de_one (de_var (pv 10)))) (dp_cons (de_str) (de_var (pv 6)) (dp_cons (de_str) (de_var (pv 8)) (dp_cons (de_str) (de_and (de_var (pv 6)) (de_one (de_var (pv 8)))) (dp_nil))))))) (dss_cons (ds_dset hr (de_var (pv 11)) (de_str) (de_and (de_cmp (opr_ne hr) ops_ne (de_var (pv 13)) (de_str) (by rfl)) (de_one (de_or (de_var (pv 10)) (de_one (de_cmp (opr_eq hr) ops_eq (de_var (pv 14)) (de_str) (by rfl))))))) (dss_cons (ds_dset hr (de_var (pv 11)) (de_str) (de_and (de_dget hr (de_var (pv 11)) (de_str) (fun _ _ => rfl)) (de_one (de_not (de_and (de_cmp (opr_eq hr) ops_eq (de_var (pv 13)) (de_str) (by rfl)) (de_and (de_cmp (opr_eq hr) ops_eq (de_ix ixr ops_ix (de_var (pv 1)) (de_int) (fun _ _ => rfl)) (de_str) (by rfl)) (de_one (de_bm PySem.F.plainAttrs_str PySem.F.slot_str_endswith PySem.F.type_str_endswith mt_endswith mts_ends rc_str (de_var (pv 12)) (da_cons (de_str) (da_nil)))))))))) (dss_cons (ds_asg (de_tup (da_cons (de_or (de_cmp (opr_ne hr) ops_ne (de_var (pv 12)) (de_str) (by rfl)) (de_one (de_cmp (opr_eq hr) ops_eq (de_var (pv 13)) (de_str) (by rfl)))) (da_cons (de_cmp (opr_eq hr) ops_eq (de_var (pv 14)) (de_str) (by rfl)) (da_nil)))) (dg_tup rfl (dgs_cons (dg_dsub (W := WX0 E) hr (de_var (pv 11)) (de_str)) (dgs_cons (dg_dsub (W := WX0 E) hr (de_var (pv 11)) (de_str)) (dgs_nil))) rfl)) (dss_cons (ds_dset hr (de_var (pv 11)) (de_str) (de_if (dt_val (de_var (pv 3))) (de_cmp (opr_eq hr) ops_eq (de_ix ixr ops_ix (de_var (pv 1)) (de_int) (fun _ _ => rfl)) (de_str) (by rfl)) (de_and (de_var (pv 10)) (de_one (de_var (pv 6)))))) (dss_cons (ds_dset hr (de_var (pv 11)) (de_str) (de_or (de_var (pv 3)) (de_one (de_and (de_var (pv 10)) (de_one (de_or (de_var (pv 4)) (de_one (de_and (de_var (pv 5)) (de_one (de_not (de_var (pv 9)))))))))))) (dss_cons (ds_dset hr (de_var (pv 11)) (de_str) (de_cmp (opr_eq hr) ops_eq (de_var (pv 14)) (de_str) (by rfl))) (dss_one (ds_ret (de_dget hr (de_var (pv 11)) (de_var (pv 2)) (fun _ _ => rfl)))))))))))))))))))
theorem d_l_designs (T : Tab P w K mg base n) {cdv : Value} {A : Around} {outer : List Env} {s : Shared} {H : Hp} {E : XK} {f : Addr} (hr1 : Room (2 * n + 1) (A.deeper (envOfC "_law_designs" (defScope s_l_designs) s.heap.objs.size f cdv))) :
    PSs (cxOf (L2.CX P w) P w K mg base N_l_designs "_law_designs" (defScope s_l_designs) f cdv A outer s H E) (defBody s_l_designs) (tS ⟨K, mg⟩ (WX0 E) (b_l_designs (callF n))) := by
  have hr := hr1.mono (Nat.le_succ (2 * n))
  have tk := takes_cx (P := P) (w := w) (K := K) (mg := mg) (base := base) (N := N_l_designs) (qual := "_law_designs") (scope := defScope s_l_designs) (f := f) (cd := cdv) (A := A) (outer := outer) (s := s) (H := H) (E := E)
  exact dss_cons (ds_set (i := 0) sc_l_designs.nd rfl (by first | exact Or.inl rfl | exact Or.inr rfl) (de_lst (da_nil))) (dss_cons (ds_for (tg := (.nm 1)) (passes_of rfl) rfl (di_lst (de_call0 (T.fn .l_paths) hr rfl T.gl_l_paths tk)) (pg_name (i := 1) sc_l_designs.nd rfl (by first | exact Or.inl rfl | exact Or.inr rfl)) (dss_one (ds_for (tg := (.nm 2)) (passes_of rfl) rfl (di_lst (de_lst (da_cons (de_str) (da_cons (de_str) (da_cons (de_str) (da_cons (de_str) (da_cons (de_str) (da_cons (de_str) (da_nil))))))))) (pg_name (i := 2) sc_l_designs.nd rfl (by first | exact Or.inl rfl | exact Or.inr rfl)) (dss_one (ds_set (i := 0) sc_l_designs.nd rfl (by first | exact Or.inl rfl | exact Or.inr rfl) (de_op opr_add ops_add (de_var (pv 0)) (de_lst (da_cons (de_tup (da_cons (de_var (pv 1)) (da_cons (de_var (pv 2)) (da_cons (de_str) (da_nil))))) (da_cons (de_tup (da_cons (de_var (pv 1)) (da_cons (de_var (pv 2)) (da_cons (de_str) (da_nil))))) (da_nil)))))))))) (dss_one (ds_ret (de_var (pv 0)))))
theorem d_l_worlds (T : Tab P w K mg base n) {cdv : Value} {A : Around} {outer : List Env} {s : Shared} {H : Hp} {E : XK} {f : Addr} (hr1 : Room (2 * n + 1) (A.deeper (envOfC "_law_worlds" (defScope s_l_worlds) s.heap.objs.size f cdv))) :
    PSs (cxOf (L2.CX P w) P w K mg base N_l_worlds "_law_worlds" (defScope s_l_worlds) f cdv A outer s H E) (defBody s_l_worlds) (tS ⟨K, mg⟩ (WX0 E) (b_l_worlds (callF n))) := by
  have hr := hr1.mono (Nat.le_succ (2 * n))
  have tk := takes_cx (P := P) (w := w) (K := K) (mg := mg) (base := base) (N := N_l_worlds) (qual := "_law_worlds") (scope := defScope s_l_worlds) (f := f) (cd := cdv) (A := A) (outer := outer) (s := s) (H := H) (E := E)
  exact dss_cons (ds_set (i := 0) sc_l_worlds.nd rfl (by first | exact Or.inl rfl | exact Or.inr rfl) (de_lst (da_nil))) (dss_cons (ds_for (tg := (.nm 1)) (passes_of rfl) rfl (di_lst (de_lst (da_cons (de_str) (da_cons (de_str) (da_nil))))) (pg_name (i := 1) sc_l_worlds.nd rfl (by first | exact Or.inl rfl | exact Or.inr rfl)) (dss_one (ds_for (tg := (.nm 2)) (passes_of rfl) rfl (di_lst (de_lst (da_cons (de_str) (da_cons (de_str) (da_nil))))) (pg_name (i := 2) sc_l_worlds.nd rfl (by first | exact Or.inl rfl | exact Or.inr rfl)) (dss_one (ds_set (i := 0) sc_l_worlds.nd rfl (by first | exact Or.inl rfl | exact Or.inr rfl) (de_op opr_add ops_add (de_var (pv 0)) (de_lst (da_cons (de_tup (da_cons (de_var (pv 1)) (da_cons (de_var (pv 2)) (da_cons (de_str) (da_nil))))) (da_cons (de_tup (da_cons (de_var (pv 1)) (da_cons (de_var (pv 2)) (da_cons (de_str) (da_nil))))) (da_nil)))))))))) (dss_one (ds_ret (de_var (pv 0)))))
theorem d_l_is (T : Tab P w K mg base n) {cdv : Value} {A : Around} {outer : List Env} {s : Shared} {H : Hp} {E : XK} {f : Addr} (hr1 : Room (2 * n + 1) (A.deeper (envOfC "_law_is" (defScope s_l_is) s.heap.objs.size f cdv))) :
    PSs (cxOf (L2.CX P w) P w K mg base N_l_is "_law_is" (defScope s_l_is) f cdv A outer s H E) (defBody s_l_is) (tS ⟨K, mg⟩ (WX0 E) (b_l_is (callF n))) := by
  have hr := hr1.mono (Nat.le_succ (2 * n))
  have tk := takes_cx (P := P) (w := w) (K := K) (mg := mg) (base := base) (N := N_l_is) (qual := "_law_is") (scope := defScope s_l_is) (f := f) (cd := cdv) (A := A) (outer := outer) (s := s) (H := H) (E := E)
  exact dss_one (ds_ret (de_and (de_callB callr_isi calls_isi rfl T.m_isinstance boot_isinstance (da_cons (de_var (pv 0)) (da_cons (de_ty rfl T.m_bool boot_bool) (da_nil)))) (de_one (de_cmp (opr_eq hr) ops_eq (de_var (pv 0)) (de_var (pv 1)) (by rfl)))))
theorem d_law_ (T : Tab P w K mg base n) {cdv : Value} {A : Around} {outer : List Env} {s : Shared} {H : Hp} {E : XK} {f : Addr} (hr1 : Room (2 * n + 1) (A.deeper (envOfC "law" (defScope s_law_) s.heap.objs.size f cdv))) :
    PSs (cxOf (L2.CX P w) P w K mg base N_law_ "law" (defScope s_law_) f cdv A outer s H E) (defBody s_law_) (tS ⟨K, mg⟩ (WX0 E) (b_law_ (callF n))) := by
  have hr := hr1.mono (Nat.le_succ (2 * n))
  have tk := takes_cx (P := P) (w := w) (K := K) (mg := mg) (base := base) (N := N_law_) (qual := "law") (scope := defScope s_law_) (f := f) (cd := cdv) (A := A) (outer := outer) (s := s) (H := H) (E := E)
  exact dss_cons (ds_set (i := 1) sc_law_.nd rfl (by first | exact Or.inl rfl | exact Or.inr rfl) (de_newL (da_cons (de_var (pv 0)) (da_cons (de_int) (da_cons (de_int) (da_cons (de_int) (da_nil))))))) (dss_cons (ds_for (tg := (.nm 2)) (passes_of rfl) rfl (di_range1 rfl T.m_range (da_cons (de_int) (da_nil))) (pg_name (i := 2) sc_law_.nd rfl (by first | exact Or.inl rfl | exact Or.inr rfl)) (dss_cons (ds_asg (de_tup (da_cons (de_call (T.fn .l_pick) hr rfl T.gl_l_pick tk (da_cons (de_var (pv 1)) (da_cons (de_call0 (T.fn .l_designs) hr rfl T.gl_l_designs tk) (da_nil)))) (da_cons (de_call (T.fn .l_pick) hr rfl T.gl_l_pick tk (da_cons (de_var (pv 1)) (da_cons (de_call0 (T.fn .l_worlds) hr rfl T.gl_l_worlds tk) (da_nil)))) (da_nil)))) (dg_tup rfl (dgs_cons (dg_name (pg_name (i := 4) sc_law_.nd rfl (by first | exact Or.inl rfl | exact Or.inr rfl))) (dgs_cons (dg_name (pg_name (i := 5) sc_law_.nd rfl (by first | exact Or.inl rfl | exact Or.inr rfl))) (dgs_nil))) rfl)) (dss_cons (ds_set (i := 3) sc_law_.nd rfl (by first | exact Or.inl rfl | exact Or.inr rfl) (de_lc (tg := (.nm 6)) (own := [("_law_one", 6)]) rfl sc_law_.nd (di_lst (de_call0 (T.fn .l_promises) hr rfl T.gl_l_promises tk)) (blkOk_by (N := N_law_) (sc := defScope s_law_) (own := [("_law_one", 6)]) (by decide +kernel)) (by decide) (fun _ _ _ _ _ => pg_name (i := 6) sc_law_.nd rfl (by first | exact Or.inl rfl | exact Or.inr rfl)) (fun _ _ _ _ _ => dt_cond (dt_val (de_call (T.fn .l_holds) hr rfl T.gl_l_holds takes0 (da_cons (de_var (pv 4)) (da_cons (de_var (pv 5)) (da_cons (de_var (pv 6)) (da_nil))))))) (fun _ _ _ _ _ => de_var (pv 6)))) (dss_cons (ds_if (dt_not (dt_val (de_call (T.fn .l_alike) hr rfl T.gl_l_alike tk (da_cons (de_call (T.fn .profile) hr rfl T.gl_profile tk (da_cons (de_var (pv 4)) (da_cons (de_var (pv 5)) (da_nil)))) (da_cons (de_callTy call_tuple_of calls_tuple rfl T.m_tuple boot_tuple (da_cons (de_var (pv 3)) (da_nil))) (da_nil)))))) (dss_one (ds_ret (de_bl))) (dss_nil)) (dss_one (ds_if (dt_cmp (opr_ne hr) ops_ne (de_lc (tg := (.nm 6)) (own := [("_law_one", 6)]) rfl sc_law_.nd (di_lst (de_call0 (T.fn .l_promises) hr rfl T.gl_l_promises tk)) (blkOk_by (N := N_law_) (sc := defScope s_law_) (own := [("_law_one", 6)]) (by decide +kernel)) (by decide) (fun _ _ _ _ _ => pg_name (i := 6) sc_law_.nd rfl (by first | exact Or.inl rfl | exact Or.inr rfl)) (fun _ _ _ _ _ => dt_cond (dt_not (dt_val (de_call (T.fn .l_is) hr rfl T.gl_l_is takes0 (da_cons (de_call (T.fn .holds) hr rfl T.gl_holds takes0 (da_cons (de_var (pv 4)) (da_cons (de_var (pv 5)) (da_cons (de_var (pv 6)) (da_nil))))) (da_cons (de_cmp (opr_in hr) ops_in (de_var (pv 6)) (de_var (pv 3)) (by rfl)) (da_nil))))))) (fun _ _ _ _ _ => de_var (pv 6))) (de_lst (da_nil)) (by rfl)) (dss_one (ds_ret (de_bl))) (dss_nil))))))) (dss_one (ds_ret (de_bl))))
end
end CH

namespace CH
open PySem PySem.Spec PyProof.Rows L2
abbrev FnP (K : PySem.W.Frag) (x q : Str) (st : Stmt) (f : Addr) (fd : FuncData) : Prop := FunD K x q (defArgs st) (defBody st) (defScope st) [] [] f fd
def dOf : Fid → He.DefD
  | .is_list => ⟨atOf .is_list, "is_list", "is_list", defArgs s_is_list, defBody s_is_list, defScope s_is_list, [], []⟩
  | .is_choice => ⟨atOf .is_choice, "is_choice", "is_choice", defArgs s_is_choice, defBody s_is_choice, defScope s_is_choice, [], []⟩
  | .is_design => ⟨atOf .is_design, "is_design", "is_design", defArgs s_is_design, defBody s_is_design, defScope s_is_design, [], []⟩
  | .is_world => ⟨atOf .is_world, "is_world", "is_world", defArgs s_is_world, defBody s_is_world, defScope s_is_world, [], []⟩
  | .need_design => ⟨atOf .need_design, "need_design", "need_design", defArgs s_need_design, defBody s_need_design, defScope s_need_design, [], []⟩
  | .need_world => ⟨atOf .need_world, "need_world", "need_world", defArgs s_need_world, defBody s_need_world, defScope s_need_world, [], []⟩
  | .need_both => ⟨atOf .need_both, "need_both", "need_both", defArgs s_need_both, defBody s_need_both, defScope s_need_both, [], []⟩
  | .need_promise => ⟨atOf .need_promise, "need_promise", "need_promise", defArgs s_need_promise, defBody s_need_promise, defScope s_need_promise, [], []⟩
  | .is_passed_by => ⟨atOf .is_passed_by, "is_passed_by", "is_passed_by", defArgs s_is_passed_by, defBody s_is_passed_by, defScope s_is_passed_by, [], []⟩
  | .is_climbing => ⟨atOf .is_climbing, "is_climbing", "is_climbing", defArgs s_is_climbing, defBody s_is_climbing, defScope s_is_climbing, [], []⟩
  | .is_guarded => ⟨atOf .is_guarded, "is_guarded", "is_guarded", defArgs s_is_guarded, defBody s_is_guarded, defScope s_is_guarded, [], []⟩
  | .rest_holds => ⟨atOf .rest_holds, "rest_holds", "rest_holds", defArgs s_rest_holds, defBody s_rest_holds, defScope s_rest_holds, [], []⟩
  | .fresh_holds => ⟨atOf .fresh_holds, "fresh_holds", "fresh_holds", defArgs s_fresh_holds, defBody s_fresh_holds, defScope s_fresh_holds, [], []⟩
  | .forward_holds => ⟨atOf .forward_holds, "forward_holds", "forward_holds", defArgs s_forward_holds, defBody s_forward_holds, defScope s_forward_holds, [], []⟩
  | .filled_holds => ⟨atOf .filled_holds, "filled_holds", "filled_holds", defArgs s_filled_holds, defBody s_filled_holds, defScope s_filled_holds, [], []⟩
  | .quiet_holds => ⟨atOf .quiet_holds, "quiet_holds", "quiet_holds", defArgs s_quiet_holds, defBody s_quiet_holds, defScope s_quiet_holds, [], []⟩
  | .does_hold => ⟨atOf .does_hold, "does_hold", "does_hold", defArgs s_does_hold, defBody s_does_hold, defScope s_does_hold, [], []⟩
  | .holds => ⟨atOf .holds, "holds", "holds", defArgs s_holds, defBody s_holds, defScope s_holds, [], []⟩
  | .kept_in => ⟨atOf .kept_in, "kept_in", "kept_in", defArgs s_kept_in, defBody s_kept_in, defScope s_kept_in, [], []⟩
  | .profile => ⟨atOf .profile, "profile", "profile", defArgs s_profile, defBody s_profile, defScope s_profile, [], []⟩
  | .l_taken => ⟨atOf .l_taken, "_law_taken", "_law_taken", defArgs s_l_taken, defBody s_l_taken, defScope s_l_taken, [], []⟩
  | .l_pick => ⟨atOf .l_pick, "_law_pick", "_law_pick", defArgs s_l_pick, defBody s_l_pick, defScope s_l_pick, [], []⟩
  | .l_alike => ⟨atOf .l_alike, "_law_alike", "_law_alike", defArgs s_l_alike, defBody s_l_alike, defScope s_l_alike, [], []⟩
  | .l_paths => ⟨atOf .l_paths, "_law_paths", "_law_paths", defArgs s_l_paths, defBody s_l_paths, defScope s_l_paths, [], []⟩
  | .l_promises => ⟨atOf .l_promises, "_law_promises", "_law_promises", defArgs s_l_promises, defBody s_l_promises, defScope s_l_promises, [], []⟩
  | .l_holds => ⟨atOf .l_holds, "_law_holds", "_law_holds", defArgs s_l_holds, defBody s_l_holds, defScope s_l_holds, [], []⟩
  | .l_designs => ⟨atOf .l_designs, "_law_designs", "_law_designs", defArgs s_l_designs, defBody s_l_designs, defScope s_l_designs, [], []⟩
  | .l_worlds => ⟨atOf .l_worlds, "_law_worlds", "_law_worlds", defArgs s_l_worlds, defBody s_l_worlds, defScope s_l_worlds, [], []⟩
  | .l_is => ⟨atOf .l_is, "_law_is", "_law_is", defArgs s_l_is, defBody s_l_is, defScope s_l_is, [], []⟩
  | .law_ => ⟨atOf .law_, "law", "law", defArgs s_law_, defBody s_law_, defScope s_law_, [], []⟩
def allF : List Fid := [.is_list, .is_choice, .is_design, .is_world, .need_design, .need_world, .need_both, .need_promise, .is_passed_by, .is_climbing, .is_guarded, .rest_holds, .fresh_holds, .forward_holds, .filled_holds, .quiet_holds, .does_hold, .holds, .kept_in, .profile, .l_taken, .l_pick, .l_alike, .l_paths, .l_promises, .l_holds, .l_designs, .l_worlds, .l_is, .law_]
theorem allF_mem : ∀ f : Fid, f ∈ allF := by
  intro f
  unfold allF
  cases f <;> simp
def fnL : List He.DefD := allF.map dOf
def faL : List He.Fa := [.glo "is_list", .glo "is_choice", .glo "is_design", .glo "is_world", .glo "need_design", .glo "need_world", .glo "need_both", .glo "need_promise", .glo "is_passed_by", .glo "is_climbing", .glo "is_guarded", .glo "rest_holds", .glo "fresh_holds", .glo "forward_holds", .glo "filled_holds", .glo "quiet_holds", .glo "does_hold", .glo "holds", .glo "kept_in", .glo "profile", .glo "_law_taken", .glo "_law_pick", .glo "_law_alike", .glo "_law_paths", .glo "_law_promises", .glo "_law_holds", .glo "_law_designs", .glo "_law_worlds", .glo "_law_is", .glo "law", .free "all", .free "bool", .free "int", .free "isinstance", .free "len", .free "list", .free "range", .free "str", .free "tuple", .free "zip"]
def coL : List (Str × D) := [("PROMISES", k_PROMISES), ("DROPS_LAST", k_DROPS_LAST), ("PATHS", k_PATHS), ("GUARDS", k_GUARDS), ("FLIGHTS", k_FLIGHTS), ("DESIGNS", k_DESIGNS), ("WORLDS", k_WORLDS), ("VERSIONED", k_VERSIONED)]
def exL (K : PySem.W.Frag) : Bool := coL.all fun p => chkC K p
theorem bind_of {K : PySem.W.Frag} : ∀ (f : Fid) (fd : FuncData), FnP K (dOf f).name (dOf f).qual (match f with
  | .is_list => s_is_list
  | .is_choice => s_is_choice
  | .is_design => s_is_design
  | .is_world => s_is_world
  | .need_design => s_need_design
  | .need_world => s_need_world
  | .need_both => s_need_both
  | .need_promise => s_need_promise
  | .is_passed_by => s_is_passed_by
  | .is_climbing => s_is_climbing
  | .is_guarded => s_is_guarded
  | .rest_holds => s_rest_holds
  | .fresh_holds => s_fresh_holds
  | .forward_holds => s_forward_holds
  | .filled_holds => s_filled_holds
  | .quiet_holds => s_quiet_holds
  | .does_hold => s_does_hold
  | .holds => s_holds
  | .kept_in => s_kept_in
  | .profile => s_profile
  | .l_taken => s_l_taken
  | .l_pick => s_l_pick
  | .l_alike => s_l_alike
  | .l_paths => s_l_paths
  | .l_promises => s_l_promises
  | .l_holds => s_l_holds
  | .l_designs => s_l_designs
  | .l_worlds => s_l_worlds
  | .l_is => s_l_is
  | .law_ => s_law_) (He.fAd K (atOf f)) fd → Binds K fd (psOf f) [] ∧ ∀ (s : Shared) (us : List Value), us.length = (psOf f).length → BindsTo s fd ⟨us, []⟩ ((psOf f).zip us)
  | .is_list, fd, F => ⟨FunD.bindsN (ps := psOf .is_list) F (fun _ _ _ _ _ _ us hl => match us, hl with | [_, _, _], _ => rfl), FunD.bindsA (ps := psOf .is_list) F fun _ _ _ _ _ _ us hl => match us, hl with | [_, _, _], _ => rfl⟩
  | .is_choice, fd, F => ⟨FunD.bindsN (ps := psOf .is_choice) F (fun _ _ _ _ _ _ us hl => match us, hl with | [_, _], _ => rfl), FunD.bindsA (ps := psOf .is_choice) F fun _ _ _ _ _ _ us hl => match us, hl with | [_, _], _ => rfl⟩
  | .is_design, fd, F => ⟨FunD.bindsN (ps := psOf .is_design) F (fun _ _ _ _ _ _ us hl => match us, hl with | [_], _ => rfl), FunD.bindsA (ps := psOf .is_design) F fun _ _ _ _ _ _ us hl => match us, hl with | [_], _ => rfl⟩
  | .is_world, fd, F => ⟨FunD.bindsN (ps := psOf .is_world) F (fun _ _ _ _ _ _ us hl => match us, hl with | [_], _ => rfl), FunD.bindsA (ps := psOf .is_world) F fun _ _ _ _ _ _ us hl => match us, hl with | [_], _ => rfl⟩
  | .need_design, fd, F => ⟨FunD.bindsN (ps := psOf .need_design) F (fun _ _ _ _ _ _ us hl => match us, hl with | [_], _ => rfl), FunD.bindsA (ps := psOf .need_design) F fun _ _ _ _ _ _ us hl => match us, hl with | [_], _ => rfl⟩
  | .need_world, fd, F => ⟨FunD.bindsN (ps := psOf .need_world) F (fun _ _ _ _ _ _ us hl => match us, hl with | [_], _ => rfl), FunD.bindsA (ps := psOf .need_world) F fun _ _ _ _ _ _ us hl => match us, hl with | [_], _ => rfl⟩
  | .need_both, fd, F => ⟨FunD.bindsN (ps := psOf .need_both) F (fun _ _ _ _ _ _ us hl => match us, hl with | [_, _], _ => rfl), FunD.bindsA (ps := psOf .need_both) F fun _ _ _ _ _ _ us hl => match us, hl with | [_, _], _ => rfl⟩
  | .need_promise, fd, F => ⟨FunD.bindsN (ps := psOf .need_promise) F (fun _ _ _ _ _ _ us hl => match us, hl with | [_], _ => rfl), FunD.bindsA (ps := psOf .need_promise) F fun _ _ _ _ _ _ us hl => match us, hl with | [_], _ => rfl⟩
  | .is_passed_by, fd, F => ⟨FunD.bindsN (ps := psOf .is_passed_by) F (fun _ _ _ _ _ _ us hl => match us, hl with | [_], _ => rfl), FunD.bindsA (ps := psOf .is_passed_by) F fun _ _ _ _ _ _ us hl => match us, hl with | [_], _ => rfl⟩
  | .is_climbing, fd, F => ⟨FunD.bindsN (ps := psOf .is_climbing) F (fun _ _ _ _ _ _ us hl => match us, hl with | [_, _], _ => rfl), FunD.bindsA (ps := psOf .is_climbing) F fun _ _ _ _ _ _ us hl => match us, hl with | [_, _], _ => rfl⟩
  | .is_guarded, fd, F => ⟨FunD.bindsN (ps := psOf .is_guarded) F (fun _ _ _ _ _ _ us hl => match us, hl with | [_, _], _ => rfl), FunD.bindsA (ps := psOf .is_guarded) F fun _ _ _ _ _ _ us hl => match us, hl with | [_, _], _ => rfl⟩
  | .rest_holds, fd, F => ⟨FunD.bindsN (ps := psOf .rest_holds) F (fun _ _ _ _ _ _ us hl => match us, hl with | [_, _], _ => rfl), FunD.bindsA (ps := psOf .rest_holds) F fun _ _ _ _ _ _ us hl => match us, hl with | [_, _], _ => rfl⟩
  | .fresh_holds, fd, F => ⟨FunD.bindsN (ps := psOf .fresh_holds) F (fun _ _ _ _ _ _ us hl => match us, hl with | [_, _], _ => rfl), FunD.bindsA (ps := psOf .fresh_holds) F fun _ _ _ _ _ _ us hl => match us, hl with | [_, _], _ => rfl⟩
  | .forward_holds, fd, F => ⟨FunD.bindsN (ps := psOf .forward_holds) F (fun _ _ _ _ _ _ us hl => match us, hl with | [_, _], _ => rfl), FunD.bindsA (ps := psOf .forward_holds) F fun _ _ _ _ _ _ us hl => match us, hl with | [_, _], _ => rfl⟩
  | .filled_holds, fd, F => ⟨FunD.bindsN (ps := psOf .filled_holds) F (fun _ _ _ _ _ _ us hl => match us, hl with | [_, _], _ => rfl), FunD.bindsA (ps := psOf .filled_holds) F fun _ _ _ _ _ _ us hl => match us, hl with | [_, _], _ => rfl⟩
  | .quiet_holds, fd, F => ⟨FunD.bindsN (ps := psOf .quiet_holds) F (fun _ _ _ _ _ _ us hl => match us, hl with | [_, _], _ => rfl), FunD.bindsA (ps := psOf .quiet_holds) F fun _ _ _ _ _ _ us hl => match us, hl with | [_, _], _ => rfl⟩
  | .does_hold, fd, F => ⟨FunD.bindsN (ps := psOf .does_hold) F (fun _ _ _ _ _ _ us hl => match us, hl with | [_, _, _], _ => rfl), FunD.bindsA (ps := psOf .does_hold) F fun _ _ _ _ _ _ us hl => match us, hl with | [_, _, _], _ => rfl⟩
  | .holds, fd, F => ⟨FunD.bindsN (ps := psOf .holds) F (fun _ _ _ _ _ _ us hl => match us, hl with | [_, _, _], _ => rfl), FunD.bindsA (ps := psOf .holds) F fun _ _ _ _ _ _ us hl => match us, hl with | [_, _, _], _ => rfl⟩
  | .kept_in, fd, F => ⟨FunD.bindsN (ps := psOf .kept_in) F (fun _ _ _ _ _ _ us hl => match us, hl with | [_, _], _ => rfl), FunD.bindsA (ps := psOf .kept_in) F fun _ _ _ _ _ _ us hl => match us, hl with | [_, _], _ => rfl⟩
  | .profile, fd, F => ⟨FunD.bindsN (ps := psOf .profile) F (fun _ _ _ _ _ _ us hl => match us, hl with | [_, _], _ => rfl), FunD.bindsA (ps := psOf .profile) F fun _ _ _ _ _ _ us hl => match us, hl with | [_, _], _ => rfl⟩
  | .l_taken, fd, F => ⟨FunD.bindsN (ps := psOf .l_taken) F (fun _ _ _ _ _ _ us hl => match us, hl with | [_, _], _ => rfl), FunD.bindsA (ps := psOf .l_taken) F fun _ _ _ _ _ _ us hl => match us, hl with | [_, _], _ => rfl⟩
  | .l_pick, fd, F => ⟨FunD.bindsN (ps := psOf .l_pick) F (fun _ _ _ _ _ _ us hl => match us, hl with | [_, _], _ => rfl), FunD.bindsA (ps := psOf .l_pick) F fun _ _ _ _ _ _ us hl => match us, hl with | [_, _], _ => rfl⟩
  | .l_alike, fd, F => ⟨FunD.bindsN (ps := psOf .l_alike) F (fun _ _ _ _ _ _ us hl => match us, hl with | [_, _], _ => rfl), FunD.bindsA (ps := psOf .l_alike) F fun _ _ _ _ _ _ us hl => match us, hl with | [_, _], _ => rfl⟩
  | .l_paths, fd, F => ⟨FunD.bindsN (ps := psOf .l_paths) F (fun _ _ _ _ _ _ us hl => match us, hl with | [], _ => rfl), FunD.bindsA (ps := psOf .l_paths) F fun _ _ _ _ _ _ us hl => match us, hl with | [], _ => rfl⟩
  | .l_promises, fd, F => ⟨FunD.bindsN (ps := psOf .l_promises) F (fun _ _ _ _ _ _ us hl => match us, hl with | [], _ => rfl), FunD.bindsA (ps := psOf .l_promises) F fun _ _ _ _ _ _ us hl => match us, hl with | [], _ => rfl⟩
  | .l_holds, fd, F => ⟨FunD.bindsN (ps := psOf .l_holds) F (fun _ _ _ _ _ _ us hl => match us, hl with | [_, _, _], _ => rfl), FunD.bindsA (ps := psOf .l_holds) F fun _ _ _ _ _ _ us hl => match us, hl with | [_, _, _], _ => rfl⟩
  | .l_designs, fd, F => ⟨FunD.bindsN (ps := psOf .l_designs) F (fun _ _ _ _ _ _ us hl => match us, hl with | [], _ => rfl), FunD.bindsA (ps := psOf .l_designs) F fun _ _ _ _ _ _ us hl => match us, hl with | [], _ => rfl⟩
  | .l_worlds, fd, F => ⟨FunD.bindsN (ps := psOf .l_worlds) F (fun _ _ _ _ _ _ us hl => match us, hl with | [], _ => rfl), FunD.bindsA (ps := psOf .l_worlds) F fun _ _ _ _ _ _ us hl => match us, hl with | [], _ => rfl⟩
  | .l_is, fd, F => ⟨FunD.bindsN (ps := psOf .l_is) F (fun _ _ _ _ _ _ us hl => match us, hl with | [_, _], _ => rfl), FunD.bindsA (ps := psOf .l_is) F fun _ _ _ _ _ _ us hl => match us, hl with | [_, _], _ => rfl⟩
  | .law_, fd, F => ⟨FunD.bindsN (ps := psOf .law_) F (fun _ _ _ _ _ _ us hl => match us, hl with | [_], _ => rfl), FunD.bindsA (ps := psOf .law_) F fun _ _ _ _ _ _ us hl => match us, hl with | [_], _ => rfl⟩
section
variable {P : Program} {w : World} {K : PySem.W.Frag} {mg : Str → Option Value} {h : Heap}
theorem fun_of (c : He.SaysD faL fnL K) (f : Fid) : ∃ fd, FnP K (dOf f).name (dOf f).qual (match f with
  | .is_list => s_is_list
  | .is_choice => s_is_choice
  | .is_design => s_is_design
  | .is_world => s_is_world
  | .need_design => s_need_design
  | .need_world => s_need_world
  | .need_both => s_need_both
  | .need_promise => s_need_promise
  | .is_passed_by => s_is_passed_by
  | .is_climbing => s_is_climbing
  | .is_guarded => s_is_guarded
  | .rest_holds => s_rest_holds
  | .fresh_holds => s_fresh_holds
  | .forward_holds => s_forward_holds
  | .filled_holds => s_filled_holds
  | .quiet_holds => s_quiet_holds
  | .does_hold => s_does_hold
  | .holds => s_holds
  | .kept_in => s_kept_in
  | .profile => s_profile
  | .l_taken => s_l_taken
  | .l_pick => s_l_pick
  | .l_alike => s_l_alike
  | .l_paths => s_l_paths
  | .l_promises => s_l_promises
  | .l_holds => s_l_holds
  | .l_designs => s_l_designs
  | .l_worlds => s_l_worlds
  | .l_is => s_l_is
  | .law_ => s_law_) (He.fAd K (atOf f)) fd := by
  have hm : dOf f ∈ fnL := List.mem_map_of_mem (allF_mem f)
  obtain ⟨fd, F⟩ := He.SaysD.defs c hm
  cases f <;> exact ⟨fd, F⟩
theorem tab_of (X : K.In h) (G : h.Ns mainGlobals mg) (c : He.SaysD faL fnL K) (ce : exL K = true) {base : Heap} {n : Nat} (fn : ∀ f : Fid, FT P w K mg base (2 * n) (psOf f) (callF n f) (He.fAd K (atOf f))) : Tab P w K mg base n where
  fn := fn
  gl_is_list := He.glo_ok X G (c.fact 0 (f := .glo "is_list") rfl)
  gl_is_choice := He.glo_ok X G (c.fact 1 (f := .glo "is_choice") rfl)
  gl_is_design := He.glo_ok X G (c.fact 2 (f := .glo "is_design") rfl)
  gl_is_world := He.glo_ok X G (c.fact 3 (f := .glo "is_world") rfl)
  gl_need_design := He.glo_ok X G (c.fact 4 (f := .glo "need_design") rfl)
  gl_need_world := He.glo_ok X G (c.fact 5 (f := .glo "need_world") rfl)
  gl_need_both := He.glo_ok X G (c.fact 6 (f := .glo "need_both") rfl)
  gl_need_promise := He.glo_ok X G (c.fact 7 (f := .glo "need_promise") rfl)
  gl_is_passed_by := He.glo_ok X G (c.fact 8 (f := .glo "is_passed_by") rfl)
  gl_is_climbing := He.glo_ok X G (c.fact 9 (f := .glo "is_climbing") rfl)
  gl_is_guarded := He.glo_ok X G (c.fact 10 (f := .glo "is_guarded") rfl)
  gl_rest_holds := He.glo_ok X G (c.fact 11 (f := .glo "rest_holds") rfl)
  gl_fresh_holds := He.glo_ok X G (c.fact 12 (f := .glo "fresh_holds") rfl)
  gl_forward_holds := He.glo_ok X G (c.fact 13 (f := .glo "forward_holds") rfl)
  gl_filled_holds := He.glo_ok X G (c.fact 14 (f := .glo "filled_holds") rfl)
  gl_quiet_holds := He.glo_ok X G (c.fact 15 (f := .glo "quiet_holds") rfl)
  gl_does_hold := He.glo_ok X G (c.fact 16 (f := .glo "does_hold") rfl)
  gl_holds := He.glo_ok X G (c.fact 17 (f := .glo "holds") rfl)
  gl_kept_in := He.glo_ok X G (c.fact 18 (f := .glo "kept_in") rfl)
  gl_profile := He.glo_ok X G (c.fact 19 (f := .glo "profile") rfl)
  gl_l_taken := He.glo_ok X G (c.fact 20 (f := .glo "_law_taken") rfl)
  gl_l_pick := He.glo_ok X G (c.fact 21 (f := .glo "_law_pick") rfl)
  gl_l_alike := He.glo_ok X G (c.fact 22 (f := .glo "_law_alike") rfl)
  gl_l_paths := He.glo_ok X G (c.fact 23 (f := .glo "_law_paths") rfl)
  gl_l_promises := He.glo_ok X G (c.fact 24 (f := .glo "_law_promises") rfl)
  gl_l_holds := He.glo_ok X G (c.fact 25 (f := .glo "_law_holds") rfl)
  gl_l_designs := He.glo_ok X G (c.fact 26 (f := .glo "_law_designs") rfl)
  gl_l_worlds := He.glo_ok X G (c.fact 27 (f := .glo "_law_worlds") rfl)
  gl_l_is := He.glo_ok X G (c.fact 28 (f := .glo "_law_is") rfl)
  gl_law_ := He.glo_ok X G (c.fact 29 (f := .glo "law") rfl)
  m_all := He.free_ok X G (c.fact 30 (f := .free "all") rfl)
  m_bool := He.free_ok X G (c.fact 31 (f := .free "bool") rfl)
  m_int := He.free_ok X G (c.fact 32 (f := .free "int") rfl)
  m_isinstance := He.free_ok X G (c.fact 33 (f := .free "isinstance") rfl)
  m_len := He.free_ok X G (c.fact 34 (f := .free "len") rfl)
  m_list := He.free_ok X G (c.fact 35 (f := .free "list") rfl)
  m_range := He.free_ok X G (c.fact 36 (f := .free "range") rfl)
  m_str := He.free_ok X G (c.fact 37 (f := .free "str") rfl)
  m_tuple := He.free_ok X G (c.fact 38 (f := .free "tuple") rfl)
  m_zip := He.free_ok X G (c.fact 39 (f := .free "zip") rfl)
  c_PROMISES := chkC_ok X G (List.all_eq_true.mp ce _ (List.mem_of_getElem? (i := 0) (show coL[0]? = some (("PROMISES" : Str), k_PROMISES) from rfl)))
  c_DROPS_LAST := chkC_ok X G (List.all_eq_true.mp ce _ (List.mem_of_getElem? (i := 1) (show coL[1]? = some (("DROPS_LAST" : Str), k_DROPS_LAST) from rfl)))
  c_PATHS := chkC_ok X G (List.all_eq_true.mp ce _ (List.mem_of_getElem? (i := 2) (show coL[2]? = some (("PATHS" : Str), k_PATHS) from rfl)))
  c_GUARDS := chkC_ok X G (List.all_eq_true.mp ce _ (List.mem_of_getElem? (i := 3) (show coL[3]? = some (("GUARDS" : Str), k_GUARDS) from rfl)))
  c_FLIGHTS := chkC_ok X G (List.all_eq_true.mp ce _ (List.mem_of_getElem? (i := 4) (show coL[4]? = some (("FLIGHTS" : Str), k_FLIGHTS) from rfl)))
  c_DESIGNS := chkC_ok X G (List.all_eq_true.mp ce _ (List.mem_of_getElem? (i := 5) (show coL[5]? = some (("DESIGNS" : Str), k_DESIGNS) from rfl)))
  c_WORLDS := chkC_ok X G (List.all_eq_true.mp ce _ (List.mem_of_getElem? (i := 6) (show coL[6]? = some (("WORLDS" : Str), k_WORLDS) from rfl)))
  c_VERSIONED := chkC_ok X G (List.all_eq_true.mp ce _ (List.mem_of_getElem? (i := 7) (show coL[7]? = some (("VERSIONED" : Str), k_VERSIONED) from rfl)))
theorem step_of {base : Heap} {n : Nat} (T : Tab P w K mg base n) (c : He.SaysD faL fnL K) : ∀ f : Fid, FT P w K mg base (2 * (n + 1)) (psOf f) (callF (n + 1) f) (He.fAd K (atOf f))
  | .is_list => by
    obtain ⟨fd, F⟩ := fun_of c .is_list
    exact (FT.of (N := N_is_list) (b := b_is_list (callF n)) F sc_is_list (bind_of .is_list fd F) fun cdv A outer s H E hr => d_is_list T hr)
  | .is_choice => by
    obtain ⟨fd, F⟩ := fun_of c .is_choice
    exact (FT.of (N := N_is_choice) (b := b_is_choice (callF n)) F sc_is_choice (bind_of .is_choice fd F) fun cdv A outer s H E hr => d_is_choice T hr)
  | .is_design => by
    obtain ⟨fd, F⟩ := fun_of c .is_design
    exact (FT.of (N := N_is_design) (b := b_is_design (callF n)) F sc_is_design (bind_of .is_design fd F) fun cdv A outer s H E hr => d_is_design T hr)
  | .is_world => by
    obtain ⟨fd, F⟩ := fun_of c .is_world
    exact (FT.of (N := N_is_world) (b := b_is_world (callF n)) F sc_is_world (bind_of .is_world fd F) fun cdv A outer s H E hr => d_is_world T hr)
  | .need_design => by
    obtain ⟨fd, F⟩ := fun_of c .need_design
    exact (FT.of (N := N_need_design) (b := b_need_design (callF n)) F sc_need_design (bind_of .need_design fd F) fun cdv A outer s H E hr => d_need_design T hr)
  | .need_world => by
    obtain ⟨fd, F⟩ := fun_of c .need_world
    exact (FT.of (N := N_need_world) (b := b_need_world (callF n)) F sc_need_world (bind_of .need_world fd F) fun cdv A outer s H E hr => d_need_world T hr)
  | .need_both => by
    obtain ⟨fd, F⟩ := fun_of c .need_both
    exact (FT.of (N := N_need_both) (b := b_need_both (callF n)) F sc_need_both (bind_of .need_both fd F) fun cdv A outer s H E hr => d_need_both T hr)
  | .need_promise => by
    obtain ⟨fd, F⟩ := fun_of c .need_promise
    exact (FT.of (N := N_need_promise) (b := b_need_promise (callF n)) F sc_need_promise (bind_of .need_promise fd F) fun cdv A outer s H E hr => d_need_promise T hr)
  | .is_passed_by => by
    obtain ⟨fd, F⟩ := fun_of c .is_passed_by
    exact (FT.of (N := N_is_passed_by) (b := b_is_passed_by (callF n)) F sc_is_passed_by (bind_of .is_passed_by fd F) fun cdv A outer s H E hr => d_is_passed_by T hr)
  | .is_climbing => by
    obtain ⟨fd, F⟩ := fun_of c .is_climbing
    exact (FT.of (N := N_is_climbing) (b := b_is_climbing (callF n)) F sc_is_climbing (bind_of .is_climbing fd F) fun cdv A outer s H E hr => d_is_climbing T hr)
  | .is_guarded => by
    obtain ⟨fd, F⟩ := fun_of c .is_guarded
    exact (FT.of (N := N_is_guarded) (b := b_is_guarded (callF n)) F sc_is_guarded (bind_of .is_guarded fd F) fun cdv A outer s H E hr => d_is_guarded T hr)
  | .rest_holds => by
    obtain ⟨fd, F⟩ := fun_of c .rest_holds
    exact (FT.of (N := N_rest_holds) (b := b_rest_holds (callF n)) F sc_rest_holds (bind_of .rest_holds fd F) fun cdv A outer s H E hr => d_rest_holds T hr)
  | .fresh_holds => by
    obtain ⟨fd, F⟩ := fun_of c .fresh_holds
    exact (FT.of (N := N_fresh_holds) (b := b_fresh_holds (callF n)) F sc_fresh_holds (bind_of .fresh_holds fd F) fun cdv A outer s H E hr => d_fresh_holds T hr)
  | .forward_holds => by
    obtain ⟨fd, F⟩ := fun_of c .forward_holds
    exact (FT.of (N := N_forward_holds) (b := b_forward_holds (callF n)) F sc_forward_holds (bind_of .forward_holds fd F) fun cdv A outer s H E hr => d_forward_holds T hr)
  | .filled_holds => by
    obtain ⟨fd, F⟩ := fun_of c .filled_holds
    exact (FT.of (N := N_filled_holds) (b := b_filled_holds (callF n)) F sc_filled_holds (bind_of .filled_holds fd F) fun cdv A outer s H E hr => d_filled_holds T hr)
  | .quiet_holds => by
    obtain ⟨fd, F⟩ := fun_of c .quiet_holds
    exact (FT.of (N := N_quiet_holds) (b := b_quiet_holds (callF n)) F sc_quiet_holds (bind_of .quiet_holds fd F) fun cdv A outer s H E hr => d_quiet_holds T hr)
  | .does_hold => by
    obtain ⟨fd, F⟩ := fun_of c .does_hold
    exact (FT.of (N := N_does_hold) (b := b_does_hold (callF n)) F sc_does_hold (bind_of .does_hold fd F) fun cdv A outer s H E hr => d_does_hold T hr)
  | .holds => by
    obtain ⟨fd, F⟩ := fun_of c .holds
    exact FT.iso (FT.of (N := N_holds) (b := b_holds (callF n)) F sc_holds (bind_of .holds fd F) fun cdv A outer s H E hr => d_holds T hr)
  | .kept_in => by
    obtain ⟨fd, F⟩ := fun_of c .kept_in
    exact (FT.of (N := N_kept_in) (b := b_kept_in (callF n)) F sc_kept_in (bind_of .kept_in fd F) fun cdv A outer s H E hr => d_kept_in T hr)
  | .profile => by
    obtain ⟨fd, F⟩ := fun_of c .profile
    exact FT.iso (FT.of (N := N_profile) (b := b_profile (callF n)) F sc_profile (bind_of .profile fd F) fun cdv A outer s H E hr => d_profile T hr)
  | .l_taken => by
    obtain ⟨fd, F⟩ := fun_of c .l_taken
    exact (FT.of (N := N_l_taken) (b := b_l_taken (callF n)) F sc_l_taken (bind_of .l_taken fd F) fun cdv A outer s H E hr => d_l_taken T hr)
  | .l_pick => by
    obtain ⟨fd, F⟩ := fun_of c .l_pick
    exact (FT.of (N := N_l_pick) (b := b_l_pick (callF n)) F sc_l_pick (bind_of .l_pick fd F) fun cdv A outer s H E hr => d_l_pick T hr)
  | .l_alike => by
    obtain ⟨fd, F⟩ := fun_of c .l_alike
    exact (FT.of (N := N_l_alike) (b := b_l_alike (callF n)) F sc_l_alike (bind_of .l_alike fd F) fun cdv A outer s H E hr => d_l_alike T hr)
  | .l_paths => by
    obtain ⟨fd, F⟩ := fun_of c .l_paths
    exact (FT.of (N := N_l_paths) (b := b_l_paths (callF n)) F sc_l_paths (bind_of .l_paths fd F) fun cdv A outer s H E hr => d_l_paths T hr)
  | .l_promises => by
    obtain ⟨fd, F⟩ := fun_of c .l_promises
    exact (FT.of (N := N_l_promises) (b := b_l_promises (callF n)) F sc_l_promises (bind_of .l_promises fd F) fun cdv A outer s H E hr => d_l_promises T hr)
  | .l_holds => by
    obtain ⟨fd, F⟩ := fun_of c .l_holds
    exact FT.iso (FT.of (N := N_l_holds) (b := b_l_holds (callF n)) F sc_l_holds (bind_of .l_holds fd F) fun cdv A outer s H E hr => d_l_holds T hr)
  | .l_designs => by
    obtain ⟨fd, F⟩ := fun_of c .l_designs
    exact (FT.of (N := N_l_designs) (b := b_l_designs (callF n)) F sc_l_designs (bind_of .l_designs fd F) fun cdv A outer s H E hr => d_l_designs T hr)
  | .l_worlds => by
    obtain ⟨fd, F⟩ := fun_of c .l_worlds
    exact (FT.of (N := N_l_worlds) (b := b_l_worlds (callF n)) F sc_l_worlds (bind_of .l_worlds fd F) fun cdv A outer s H E hr => d_l_worlds T hr)
  | .l_is => by
    obtain ⟨fd, F⟩ := fun_of c .l_is
    exact (FT.of (N := N_l_is) (b := b_l_is (callF n)) F sc_l_is (bind_of .l_is fd F) fun cdv A outer s H E hr => d_l_is T hr)
  | .law_ => by
    obtain ⟨fd, F⟩ := fun_of c .law_
    exact (FT.of (N := N_law_) (b := b_law_ (callF n)) F sc_law_ (bind_of .law_ fd F) fun cdv A outer s H E hr => d_law_ T hr)
theorem all_of (X : K.In h) (G : h.Ns mainGlobals mg) (c : He.SaysD faL fnL K) (ce : exL K = true) {base : Heap} : ∀ (n : Nat) (f : Fid), FT P w K mg base (2 * n) (psOf f) (callF n f) (He.fAd K (atOf f))
  | 0, f => by
    obtain ⟨fd, F⟩ := fun_of c f
    exact FT.bad (bind_of f fd F) F.kp
  | n + 1, f => step_of (tab_of X G c ce (all_of X G c ce n)) c f
theorem law_ok {base : Heap} {n : Nat} (T : Tab P w K mg base n) {fd : FuncData} (F : FnP K (dOf .law_).name (dOf .law_).qual s_law_ (He.fAd K (atOf .law_)) fd) : FnOk P w K mg base (L2.CX P w) (2 * (n + 1)) (He.fAd K (atOf .law_)) fd (psOf .law_) (spD ⟨K, mg⟩ 1 (callF (n + 1) .law_)) :=
  FT.of_ok (N := N_law_) (b := b_law_ (callF n)) F sc_law_ fun cdv A outer s H E hr => d_law_ T hr
end
def loose0 : List Str := ["__name__", "is_list", "CacheError", "BadDesign", "BadWorld", "BadPromise", "PATHS", "GUARDS", "FLIGHTS", "DESIGNS", "WORLDS", "is_choice"]
def loose1 : List Str := ["is_design", "is_world", "need_design", "need_world", "need_both", "PROMISES", "need_promise", "DROPS_LAST", "VERSIONED", "is_passed_by", "is_climbing", "is_guarded"]
def loose2 : List Str := ["rest_holds", "fresh_holds", "forward_holds", "filled_holds", "quiet_holds", "does_hold", "holds", "kept_in", "profile", "_law_taken", "_law_pick", "_law_alike"]
def loose3 : List Str := ["_law_paths", "_law_promises", "_law_holds", "_law_designs", "_law_worlds", "_law_is"]
def looseL : List Str := loose0 ++ loose1 ++ loose2 ++ loose3
abbrev RR : PySem.W.OpenRow := PySem.W.OpenLaw.row PySem.Challenge.rw_cacheheld_k03_whole_verdicts
abbrev hkL : PySem.W.Hook := He.hookX 6 faL fnL [] [] exL
def obL (s : PySem.W.SharedT) : He.AlX := He.obsX 6 faL fnL [] [] exL (HandSHeadRun.getT s)
theorem obL_eq (s : PySem.W.SharedT) : obL s = hkL.obs s.abs := He.obsX_eq (HandSHeadRun.getT_eq s)
theorem runL (w : World) : HandSHeadRun.RunEq RR (PySem.W.view RR.prog [47]) hkL obL 6000 looseL w := by
  intro os
  kernel_rfl
end CH
open PySem PySem.W PySem.Calls PyProof.Rows
theorem CH.law_red (hlaw : ∀ ns : List Int, ns.length ≤ 63 → ∃ h', CH.callF 40 .law_ [.scr ns] [] = .ok (.bl true) h') : PySem.Challenge.rw_cacheheld_k03_whole_verdicts.Holds := by
  w_on; o_law
  refine HandSHeadRun.head_any (r := OpenLaw.row PySem.Challenge.rw_cacheheld_k03_whole_verdicts) (q := view (OpenLaw.row PySem.Challenge.rw_cacheheld_k03_whole_verdicts).prog [47]) (H := CH.hkL) (ob := CH.obL) (M := 6000) (loose := CH.looseL) (d := HandSHeadRun.topDef (OpenLaw.row PySem.Challenge.rw_cacheheld_k03_whole_verdicts).prog 47) (kwd := []) CH.obL_eq
    (by kernel_rfl) (fun s => by kernel_rfl) CH.runL (by kernel_rfl) (by kernel_rfl) (by kernel_rfl) (by rfl) (by first | assumption | decide +kernel) (by decide +kernel) ⟨rfl, rfl, rfl, rfl, rfl, by decide +kernel⟩ ?hw ?hc
  case hw => w_witness2
  case hc =>
    refine CH.walk_ofW (l := PySem.Challenge.rw_cacheheld_k03_whole_verdicts) (n := 63) (k := 80) (x := "_law_script") (CX := fun w => L2.CX (PySem.Challenge.rw_cacheheld_k03_whole_verdicts).prog w) rfl (by decide) (by kernel_rfl) ⟨rfl, by decide, by decide⟩ ?F (fun w => CH.cx_no)
    intro w mg fa h Y G hmg0
    obtain ⟨K, KX, c⟩ := Y
    have hmg : mg ("law" : PySem.Str) = some (.ref fa) := by
      have e : (HandSHeadRun.topDef (OpenLaw.row PySem.Challenge.rw_cacheheld_k03_whole_verdicts).prog 47).name = ("law" : PySem.Str) := by kernel_rfl
      rw [← e]
      exact hmg0
    have cd : He.SaysD CH.faL CH.fnL K := c.t.d
    have e := hmg.symm.trans (He.glo_ok KX G (cd.fact 29 (f := .glo "law") rfl))
    cases e
    obtain ⟨fd, F⟩ := CH.fun_of cd .law_
    refine ⟨K, fd, CH.spD ⟨K, mg⟩ 1 (CH.callF 40 .law_), KX, fun s u => (CH.bind_of .law_ fd F).2 s [u] rfl, fun H a ns hl hO hS => CH.sp_law hO hS (hlaw ns hl), fun base hb hg => ?_⟩
    exact CH.law_ok (CH.tab_of KX G cd c.more (CH.all_of (P := (PySem.Challenge.rw_cacheheld_k03_whole_verdicts).prog) (w := w) KX G cd c.more (base := base) 39)) F

namespace CH
open PySem L2
section
variable {n : Nat} {p g f s e k q : String} {h : MH}
theorem callF_s {f : Fid} {ds : List D} : callF (n + 1) f ds h = bodyOf (callF n) f ds h := rfl
/-! the program's conditions -/
def bPassed (p g : String) : Bool := decide (g = "never") && !decide (p = "store set")
def bClimb (p g e : String) : Bool := decide (p = "store set") && ((decide (g = "mark") || decide (g = "newer")) && decide (e = "keeps"))
def bLast (p : String) : Bool := decide (p = "drop store drop") || decide (p = "store drop")
def bGuarded (p g e : String) : Bool := bLast p && (decide (g = "token") || (decide (g = "mark") && decide (e = "keeps")))
def bRest (p g s e k : String) : Bool := bPassed p g || (!decide (k = "stops") && (bClimb p g e || (bGuarded p g e && !(decide (g = "token") && decide (s = "replica")))))
def bFresh (p g f s e : String) : Bool := bClimb p g e || (!decide (s = "replica") && (bPassed p g || (bGuarded p g e && decide (f = "alone"))))
def bForward (p g f e : String) : Bool := (bPassed p g || (decide (f = "shared") && !decide (p = "store set"))) || (!decide (e = "evicts") && (decide (g = "mark") || (decide (g = "newer") && (decide (p = "store") || decide (p = "store set")))))
def bFilled (p g f s k : String) : Bool := !(decide (g = "never") || (decide (f = "shared") && decide (k = "stops"))) && (!decide (g = "mark") || (decide (s = "primary") || !bLast p))
def bQuiet (p g f s e k : String) : Bool := if bPassed p g = true then decide (s = "primary") else decide (k = "finishes") && bFresh p g f s e
def bDoes (p g f s e k q : String) : Bool :=
  if q = "ending" then decide (f = "alone") || decide (k = "finishes")
  else if q = "mended" then !decide (p = "store") || decide (g = "never")
  else if q = "moving" then decide (f = "alone")
  else if q = "single" then decide (f = "shared")
  else if q = "linear" then bFresh p g f s e && bForward p g f e
  else if q = "filled" then bFilled p g f s k
  else if q = "forward" then bForward p g f e
  else if q = "fresh" then bFresh p g f s e
  else if q = "quiet" then bQuiet p g f s e k
  else bRest p g s e k
@[simp] theorem e_passed : callF (n + 1) .is_passed_by [St3 p g f] h = .ok (.bl (bPassed p g)) h := by
  simp [callF_s, bodyOf, b_is_passed_by, bPassed]
@[simp] theorem e_climb : callF (n + 1) .is_climbing [St3 p g f, St3 s e k] h = .ok (.bl (bClimb p g e)) h := by
  simp [callF_s, bodyOf, b_is_climbing, k_VERSIONED, bClimb]
@[simp] theorem e_guarded : callF (n + 1) .is_guarded [St3 p g f, St3 s e k] h = .ok (.bl (bGuarded p g e)) h := by
  simp [callF_s, bodyOf, b_is_guarded, k_DROPS_LAST, bGuarded, bLast]
@[simp] theorem e_rest : callF (n + 2) .rest_holds [St3 p g f, St3 s e k] h = .ok (.bl (bRest p g s e k)) h := by
  rw [callF_s]
  simp [bodyOf, b_rest_holds, bRest]
@[simp] theorem e_fresh : callF (n + 2) .fresh_holds [St3 p g f, St3 s e k] h = .ok (.bl (bFresh p g f s e)) h := by
  rw [callF_s]
  simp [bodyOf, b_fresh_holds, bFresh]
@[simp] theorem e_forward : callF (n + 2) .forward_holds [St3 p g f, St3 s e k] h = .ok (.bl (bForward p g f e)) h := by
  rw [callF_s]
  simp [bodyOf, b_forward_holds, bForward]
@[simp] theorem e_filled : callF (n + 2) .filled_holds [St3 p g f, St3 s e k] h = .ok (.bl (bFilled p g f s k)) h := by
  rw [callF_s]
  simp [bodyOf, b_filled_holds, bFilled, k_DROPS_LAST, bLast]
@[simp] theorem e_quiet : callF (n + 3) .quiet_holds [St3 p g f, St3 s e k] h = .ok (.bl (bQuiet p g f s e k)) h := by
  rw [callF_s]
  simp [bodyOf, b_quiet_holds, bQuiet]
@[simp] theorem e_does : callF (n + 4) .does_hold [St3 p g f, St3 s e k, S q] h = .ok (.bl (bDoes p g f s e k q)) h := by
  rw [callF_s]
  by_cases h1 : q = "ending"
  · subst h1; simp [bodyOf, b_does_hold, bDoes]
  by_cases h2 : q = "mended"
  · subst h2; simp [bodyOf, b_does_hold, bDoes]
  by_cases h3 : q = "moving"
  · subst h3; simp [bodyOf, b_does_hold, bDoes]
  by_cases h4 : q = "single"
  · subst h4; simp [bodyOf, b_does_hold, bDoes]
  by_cases h5 : q = "linear"
  · subst h5; simp [bodyOf, b_does_hold, bDoes]
  by_cases h6 : q = "filled"
  · subst h6; simp [bodyOf, b_does_hold, bDoes, vt_does_hold]
  by_cases h7 : q = "forward"
  · subst h7; simp [bodyOf, b_does_hold, bDoes, vt_does_hold]
  by_cases h8 : q = "fresh"
  · subst h8; simp [bodyOf, b_does_hold, bDoes, vt_does_hold]
  by_cases h9 : q = "quiet"
  · subst h9; simp [bodyOf, b_does_hold, bDoes, vt_does_hold]
  simp [bodyOf, b_does_hold, bDoes, vt_does_hold, h1, h2, h3, h4, h5, h6, h7, h8, h9, Ne.symm h6, Ne.symm h7, Ne.symm h8, Ne.symm h9]
  done
end

end CH

namespace CH
open PySem L2
section
variable {n : Nat} {p g f s e k q : String} {h : MH}
def okP (p : String) : Bool := decide (p = "drop store") || (decide (p = "drop store drop") || (decide (p = "store") || (decide (p = "store drop") || decide (p = "store set"))))
def okG (g : String) : Bool := decide (g = "always") || (decide (g = "empty") || (decide (g = "mark") || (decide (g = "never") || (decide (g = "newer") || decide (g = "token")))))
def okF (f : String) : Bool := decide (f = "alone") || decide (f = "shared")
def okD (p g f : String) : Bool := okP p && (okG g && okF f)
def okW (s e k : String) : Bool := (decide (s = "primary") || decide (s = "replica")) && ((decide (e = "evicts") || decide (e = "keeps")) && (decide (k = "finishes") || decide (k = "stops")))
def okQ (q : String) : Bool := decide (q = "ending") || (decide (q = "filled") || (decide (q = "forward") || (decide (q = "fresh") || (decide (q = "linear") || (decide (q = "mended") || (decide (q = "moving") || (decide (q = "quiet") || (decide (q = "rest") || decide (q = "single")))))))))
theorem e_chd : callF (n + 2) .is_choice [St3 p g f, k_DESIGNS] h = .ok (.bl (okD p g f)) h := by
  rw [callF_s]
  simp [bodyOf, b_is_choice, k_DESIGNS, k_PATHS, k_GUARDS, k_FLIGHTS, lcD_cons, isiT, callF_s, b_is_list, zipD, setAll, wipeD, blsD, okD, okP, okG, okF]
  done
theorem e_chw : callF (n + 2) .is_choice [St3 s e k, k_WORLDS] h = .ok (.bl (okW s e k)) h := by
  rw [callF_s]
  simp [bodyOf, b_is_choice, k_WORLDS, lcD_cons, isiT, callF_s, b_is_list, zipD, setAll, wipeD, blsD, okW]
  done
theorem e_isd : callF (n + 3) .is_design [St3 p g f] h = .ok (.bl (okD p g f)) h := by
  rw [callF_s]
  simp [bodyOf, b_is_design, e_chd]
theorem e_isw : callF (n + 3) .is_world [St3 p g f] h = .ok (.bl (okW p g f)) h := by
  rw [callF_s]
  simp [bodyOf, b_is_world, e_chw]
theorem e_need_both (hd : okD p g f = true) (hw : okW s e k = true) : callF (n + 5) .need_both [St3 p g f, St3 s e k] h = .ok .non h := by
  have h1 : callF (n + 4) .need_design [St3 p g f] h = .ok .non h := by
    rw [callF_s]
    simp [bodyOf, b_need_design, e_isd, hd]
  have h2 : callF (n + 4) .need_world [St3 s e k] h = .ok .non h := by
    rw [callF_s]
    simp [bodyOf, b_need_world, e_isw, hw]
  rw [callF_s]
  simp [bodyOf, b_need_both, h1, h2]
theorem e_need_promise (hq : okQ q = true) : callF (n + 1) .need_promise [S q] h = .ok .non h := by
  rw [callF_s]
  simp [okQ] at hq
  rcases hq with rfl | rfl | rfl | rfl | rfl | rfl | rfl | rfl | rfl | rfl <;> simp [bodyOf, b_need_promise, k_PROMISES, isiT]
theorem e_holds (hd : okD p g f = true) (hw : okW s e k = true) (hq : okQ q = true) : callF (n + 6) .holds [St3 p g f, St3 s e k, S q] h = .ok (.bl (bDoes p g f s e k q)) h := by
  rw [callF_s]
  simp [bodyOf, b_holds, e_need_both hd hw, e_need_promise hq, isoR, pureL, pureD]
def QS : List String := ["ending", "filled", "forward", "fresh", "linear", "mended", "moving", "quiet", "rest", "single"]
theorem k_PROMISES_eq : k_PROMISES = .tup (QS.map S) := by rfl
theorem e_kept : callF (n + 5) .kept_in [St3 p g f, St3 s e k] h = .ok (.tup ((QS.filter fun q => bDoes p g f s e k q).map S)) h := by
  rw [callF_s]
  have e1 := lcD_map0 (to := S) (i := 2) (c := mTest (mCall 3 (callF (n + 4) .does_hold) (mCons (mVar 0) (mCons (mVar 1) (mCons (mVar 2) mNil))))) (f := mVar 2) (sl := wipeD [some (St3 p g f), some (St3 s e k), none] [2]) (h := h)
    (p := fun q => bDoes p g f s e k q) (g := S) QS (by
      intro q hq
      simp [wipeD]) (by simp [QS])
  simp only [wipeD] at e1
  simp [bodyOf, b_kept_in, k_PROMISES_eq, wipeD] 
  simp at e1
  simp [e1]
  done
theorem pureS {xs : List String} : pureL (xs.map S) = true := by
  induction xs with
  | nil => rfl
  | cons x xs ih => simp [pureL, pureD, ih]
theorem e_profile (hd : okD p g f = true) (hw : okW s e k = true) : callF (n + 6) .profile [St3 p g f, St3 s e k] h = .ok (.tup ((QS.filter fun q => bDoes p g f s e k q).map S)) h := by
  rw [callF_s]
  simp [bodyOf, b_profile, e_need_both hd hw, isoR, pureL, pureD, e_kept, pureS]
end

end CH

namespace CH
open PySem L2
section
variable {n : Nat} {h : MH}
abbrev Row (ns : List Int) (i s r : Int) : O := .lst [.scr ns, .int i, .int s, .int r]
theorem e_taken {k : Nat} {ns : List Int} {i s r m : Int} (hk : h[k]? = some (Row ns i s r)) (hi : 0 ≤ i) (hm : 0 < m) (hm2 : m < 1073741824) :
    ∃ x i' s' r', 0 ≤ x ∧ x < m ∧ 0 ≤ i' ∧ callF (n + 1) .l_taken [.ref k, .int m] h = .ok (.int x) (h.set k (Row ns i' s' r')) := by
  have hlt : k < h.length := by
    rcases Nat.lt_or_ge k h.length with e | e
    · exact e
    · rw [List.getElem?_eq_none e] at hk; cases hk
  have hg : h[k] = Row ns i s r := by rw [List.getElem?_eq_getElem hlt] at hk; exact Option.some.inj hk
  by_cases h1 : 0 < r
  · refine ⟨r % m, i, s, r / m, Int.emod_nonneg _ (by omega), Int.emod_lt_of_pos _ hm, hi, ?_⟩
    rw [callF_s]
    simp [bodyOf, b_l_taken, hk, h1, hm, cDiv, hm2, lSet, ixN, hlt, hg]
  by_cases h2 : (ns.length : Int) < i + 1
  · refine ⟨(((s * 48271 + 11) % 2147483647) / 7) % m, i + 1, (s * 48271 + 11) % 2147483647, r, Int.emod_nonneg _ (by omega), Int.emod_lt_of_pos _ hm, by omega, ?_⟩
    rw [callF_s]
    simp [bodyOf, b_l_taken, hk, h1, h2, hm, cDiv, hm2, lSet, ixN, hlt, hg, cMul]
    done
  obtain ⟨c, hc⟩ : ∃ c, ns[i.toNat]? = some c := ⟨ns[i.toNat]'(by omega), List.getElem?_eq_getElem _⟩
  have hat : atI ns i = some c := by
    have := atI_nat hc
    rw [show i = ((i.toNat : Nat) : Int) by omega]
    exact this
  refine ⟨c % m, i + 1, (s * 48271 + c + 11) % 2147483647, if 1000000000000000000 ≤ c then c / m else r, Int.emod_nonneg _ (by omega), Int.emod_lt_of_pos _ hm, by omega, ?_⟩
  rw [callF_s]
  by_cases h3 : 1000000000000000000 ≤ c
  · simp [bodyOf, b_l_taken, hk, h1, h2, hm, cDiv, hm2, lSet, ixN, hlt, hg, cMul, hat, cPow, h3]
    done
  · simp [bodyOf, b_l_taken, hk, h1, h2, hm, cDiv, hm2, lSet, ixN, hlt, hg, cMul, hat, cPow, h3]
    done
end

end CH

namespace CH
open PySem L2
section
variable {n : Nat} {h : MH}
theorem e_pick {k : Nat} {ns : List Int} {i s r : Int} {xs : List D} (hk : h[k]? = some (Row ns i s r)) (hi : 0 ≤ i) (h0 : xs ≠ []) (h1 : xs.length ≤ 100000) :
    ∃ d i' s' r', d ∈ xs ∧ 0 ≤ i' ∧ callF (n + 2) .l_pick [.ref k, .lst xs] h = .ok d (h.set k (Row ns i' s' r')) := by
  have hl : 0 < xs.length := List.length_pos_iff.mpr h0
  obtain ⟨x, i', s', r', hx0, hx1, hi', e⟩ := e_taken (n := n) (m := (xs.length : Int)) hk hi (by omega) (by omega)
  have hx : x.toNat < xs.length := by omega
  have hat : atI xs x = some xs[x.toNat] := by
    have := atI_nat (List.getElem?_eq_getElem hx)
    rw [show ((x.toNat : Nat) : Int) = x by omega] at this
    exact this
  refine ⟨xs[x.toNat], i', s', r', List.getElem_mem _, hi', ?_⟩
  rw [callF_s]
  simp [bodyOf, b_l_pick, e, hat]
def PS : List String := ["drop store", "drop store drop", "store", "store drop", "store set"]
def GS : List String := ["always", "empty", "mark", "never", "newer", "token"]
def FS : List String := ["alone", "shared"]
def designsL : List D := PS.flatMap fun p => GS.flatMap fun g => [St3 p g "alone", St3 p g "shared"]
def worldsL : List D := ["primary", "replica"].flatMap fun p => ["evicts", "keeps"].flatMap fun g => [St3 p g "finishes", St3 p g "stops"]
theorem e_designs : callF (n + 2) .l_designs [] h = .ok (.lst designsL) h := by rfl
theorem e_worlds : callF (n + 2) .l_worlds [] h = .ok (.lst worldsL) h := by rfl
theorem e_promises : callF (n + 1) .l_promises [] h = .ok (.lst (QS.map S)) h := by rfl
theorem of_designs {d : D} (hd : d ∈ designsL) : ∃ p g f, d = St3 p g f ∧ okD p g f = true := by
  unfold designsL at hd
  obtain ⟨p, hp, hd⟩ := List.mem_flatMap.mp hd
  obtain ⟨g, hg, hd⟩ := List.mem_flatMap.mp hd
  have h1 : okP p = true := by simpa [PS, okP] using hp
  have h2 : okG g = true := by simpa [GS, okG] using hg
  simp only [List.mem_cons, List.not_mem_nil, or_false] at hd
  rcases hd with e | e
  · exact ⟨p, g, "alone", e, by simp [okD, h1, h2, okF]⟩
  · exact ⟨p, g, "shared", e, by simp [okD, h1, h2, okF]⟩
theorem of_worlds {d : D} (hd : d ∈ worldsL) : ∃ s e k, d = St3 s e k ∧ okW s e k = true := by
  unfold worldsL at hd
  obtain ⟨p, hp, hd⟩ := List.mem_flatMap.mp hd
  obtain ⟨g, hg, hd⟩ := List.mem_flatMap.mp hd
  simp only [List.mem_cons, List.not_mem_nil, or_false] at hd hp hg
  rcases hd with e | e
  · exact ⟨p, g, "finishes", e, by simp [okW, hp, hg]⟩
  · exact ⟨p, g, "stops", e, by simp [okW, hp, hg]⟩
end

end CH

namespace CH
open PySem L2
section
variable {n : Nat} {p g f s e k q : String} {h : MH}
def dropE (p : String) : Bool := Txt.endswith (Str.ofString p) (Str.ofString "drop")
def lGuards (p g e : String) : Bool := dropE p && (decide (g = "token") || (decide (g = "mark") && decide (e = "keeps")))
def lFresh (p g f s e : String) : Bool := bClimb p g e || (decide (s = "primary") && (bPassed p g || (lGuards p g e && decide (f = "alone"))))
def lLow (p g : String) : Bool := decide (g = "mark") || (decide (g = "newer") && (decide (p = "store") || decide (p = "store set")))
def lForward (p g f e : String) : Bool := bPassed p g || ((decide (f = "shared") && !decide (p = "store set")) || (decide (e = "keeps") && lLow p g))
def lLate (g s : String) : Bool := decide (g = "token") && decide (s = "replica")
def lWhole (k : String) : Bool := decide (k = "finishes")
def lEnding (f k : String) : Bool := decide (f = "alone") || lWhole k
def lFilled0 (g f k : String) : Bool := !decide (g = "never") && (lWhole k || decide (f = "alone"))
def lFilled (p g f s k : String) : Bool := lFilled0 g f k && !(decide (g = "mark") && (decide (s = "replica") && dropE p))
def lMended (p g : String) : Bool := !decide (p = "store") || decide (g = "never")
def lQuiet (p g f s e k : String) : Bool := if bPassed p g = true then decide (s = "primary") else lWhole k && lFresh p g f s e
def lRest (p g s e k : String) : Bool := bPassed p g || (lWhole k && (bClimb p g e || (lGuards p g e && !lLate g s)))
def lLinear (p g f s e : String) : Bool := lFresh p g f s e && lForward p g f e
def lDoes (p g f s e k q : String) : Bool :=
  if q = "ending" then lEnding f k
  else if q = "mended" then lMended p g
  else if q = "moving" then decide (f = "alone")
  else if q = "single" then decide (f = "shared")
  else if q = "linear" then lLinear p g f s e
  else if q = "filled" then lFilled p g f s k
  else if q = "forward" then lForward p g f e
  else if q = "fresh" then lFresh p g f s e
  else if q = "quiet" then lQuiet p g f s e k
  else lRest p g s e k
theorem sAsgT_two {f1 f2 fo1 fi1 fo2 fi2 : Mo D} {sl : Sl} {h : MH} {k : Nat} {key1 key2 : Key} {y1 y2 v1 v2 : D} {ks : List Key} {vs : List D} (e1 : f1 sl h = .ok v1 h) (e2 : f2 sl h = .ok v2 h) (e3 : ∀ h, fo1 sl h = .ok (.ref k) h) (e4 : ∀ h, fi1 sl h = .ok y1 h) (e5 : ∀ h, fo2 sl h = .ok (.ref k) h) (e6 : ∀ h, fi2 sl h = .ok y2 h) (hk : h[k]? = some (.dic ks vs)) (hy1 : keyD y1 = some key1) (hy2 : keyD y2 = some key2) (hl : ks.length < lim) (hl2 : (dputK key1 ks).length < lim) :
    sAsgT (mTup (mCons f1 (mCons f2 mNil))) (kTup [kDSub fo1 fi1, kDSub fo2 fi2]) sl h = .nx sl ((h.set k (.dic (dputK key1 ks) (dputV key1 v1 ks vs))).set k (.dic (dputK key2 (dputK key1 ks)) (dputV key2 v2 (dputK key1 ks) (dputV key1 v1 ks vs)))) := by
  have hlt : k < h.length := by
    rcases Nat.lt_or_ge k h.length with e | e
    · exact e
    · rw [List.getElem?_eq_none e] at hk; cases hk
  have hk2 : (h.set k (.dic (dputK key1 ks) (dputV key1 v1 ks vs)))[k]? = some (.dic (dputK key1 ks) (dputV key1 v1 ks vs)) := by
    rw [List.getElem?_set_self hlt]
  have d1 := dSet_ref (y := y1) (v := v1) hk hy1 hl
  have d2 := dSet_ref (y := y2) (v := v2) hk2 hy2 hl2
  have hr : runT [kDSub fo1 fi1, kDSub fo2 fi2] [v1, v2] sl h = .nx sl ((h.set k (.dic (dputK key1 ks) (dputV key1 v1 ks vs))).set k (.dic (dputK key2 (dputK key1 ks)) (dputV key2 v2 (dputK key1 ks) (dputV key1 v1 ks vs)))) := by
    simp only [runT, kDSub, e3, e4, e5, e6, bindS_ok, d1, d2, seqR_nx, sSkip_ap]
  have ht : mTup (mCons f1 (mCons f2 mNil)) sl h = .ok (.tup [v1, v2]) h := by
    simp [e1, e2]
  simp only [sAsgT, ht, bindS_ok, kTup, List.length_cons, List.length_nil, if_true, hr]
  rfl
theorem l_holds1 {c : Fid → Fn} (hq : okQ q = true) : ∃ h', runB 15 (b_l_holds c) [St3 p g f, St3 s e k, S q] [] = .ok (.bl (lDoes p g f s e k q)) h' := by
  simp only [runB_ap', slots0_ap, List.map, List.length_cons, List.length_nil, Nat.reduceAdd, Nat.reduceSub, List.replicate, List.cons_append, List.nil_append]
  unfold b_l_holds
  rw [seq_nx (sl1 := [some (St3 p g f), some (St3 s e k), some (S q), none, none, none, none, none, none, none, none, none, some (S p), some (S g), some (S f)]) (h1 := []) (by simp [sAsgT, kTup, runT, kName, onlyNx])]
  rw [seq_set (h1 := []) (.bl (bPassed p g)) (by simp [bPassed])]
  simp only [List.set_cons_succ, List.set_cons_zero]
  rw [seq_set (h1 := []) (.bl (bClimb p g e)) (by simp [bClimb])]
  simp only [List.set_cons_succ, List.set_cons_zero]
  rw [seq_set (h1 := []) (.bl (lGuards p g e)) (by simp [lGuards, dropE])]
  simp only [List.set_cons_succ, List.set_cons_zero]
  rw [seq_set (h1 := []) (.bl (lFresh p g f s e)) (by simp [lFresh])]
  simp only [List.set_cons_succ, List.set_cons_zero]
  rw [seq_set (h1 := []) (.bl (lLow p g)) (by simp [lLow])]
  simp only [List.set_cons_succ, List.set_cons_zero]
  rw [seq_set (h1 := []) (.bl (lForward p g f e)) (by simp [lForward])]
  simp only [List.set_cons_succ, List.set_cons_zero]
  rw [seq_set (h1 := []) (.bl (lLate g s)) (by simp [lLate])]
  simp only [List.set_cons_succ, List.set_cons_zero]
  rw [seq_set (h1 := []) (.bl (lWhole k)) (by simp [lWhole])]
  simp only [List.set_cons_succ, List.set_cons_zero]
  rw [seq_set (h1 := [.dic [.inr (Str.ofString "ending"), .inr (Str.ofString "fresh"), .inr (Str.ofString "forward"), .inr (Str.ofString "linear")] [.bl (lEnding f k), .bl (lFresh p g f s e), .bl (lForward p g f e), .bl (lLinear p g f s e)]]) (.ref 0) (by simp [lLinear, lEnding])]
  simp only [List.set_cons_succ, List.set_cons_zero]
  rw [seq_dset (k := 0) (key := .inr (Str.ofString "filled")) (v := .bl (lFilled0 g f k)) (y := S "filled") (by simp [lFilled0]) (by simp) (by simp) rfl rfl (by simp)]
  simp only [List.set_cons_succ, List.set_cons_zero, dputK_ap, dputV_ap, dhas_cons, dhas_nil, drep_cons, drep_nil, Sum.inr.injEq, ofString_inj', String.reduceEq, ↓reduceIte, Bool.false_eq_true, List.cons_append, List.nil_append]
  rw [seq_dset (k := 0) (key := .inr (Str.ofString "filled")) (v := .bl (lFilled p g f s k)) (y := S "filled") (by simp [lFilled, dropE, atKeyD, dicD, oDic]) (by simp) (by simp) rfl rfl (by simp)]
  simp only [List.set_cons_succ, List.set_cons_zero, dputK_ap, dputV_ap, dhas_cons, dhas_nil, drep_cons, drep_nil, Sum.inr.injEq, ofString_inj', String.reduceEq, ↓reduceIte, Bool.false_eq_true, List.cons_append, List.nil_append]
  rw [seq_nx (sl1 := _) (h1 := _) (sAsgT_two (v1 := .bl (lMended p g)) (v2 := .bl (decide (f = "alone"))) (k := 0) (key1 := .inr (Str.ofString "mended")) (key2 := .inr (Str.ofString "moving")) (y1 := S "mended") (y2 := S "moving") (by simp [lMended]) (by simp) (fun h => by simp) (fun h => by simp) (fun h => by simp) (fun h => by simp) rfl rfl rfl (by simp) (by simp))]
  simp only [List.set_cons_succ, List.set_cons_zero, dputK_ap, dputV_ap, dhas_cons, dhas_nil, drep_cons, drep_nil, Sum.inr.injEq, ofString_inj', String.reduceEq, ↓reduceIte, Bool.false_eq_true, List.cons_append, List.nil_append]
  rw [seq_dset (k := 0) (key := .inr (Str.ofString "quiet")) (v := .bl (lQuiet p g f s e k)) (y := S "quiet") (by simp [lQuiet]) (by simp) (by simp) rfl rfl (by simp)]
  simp only [List.set_cons_succ, List.set_cons_zero, dputK_ap, dputV_ap, dhas_cons, dhas_nil, drep_cons, drep_nil, Sum.inr.injEq, ofString_inj', String.reduceEq, ↓reduceIte, Bool.false_eq_true, List.cons_append, List.nil_append]
  rw [seq_dset (k := 0) (key := .inr (Str.ofString "rest")) (v := .bl (lRest p g s e k)) (y := S "rest") (by simp [lRest]) (by simp) (by simp) rfl rfl (by simp)]
  simp only [List.set_cons_succ, List.set_cons_zero, dputK_ap, dputV_ap, dhas_cons, dhas_nil, drep_cons, drep_nil, Sum.inr.injEq, ofString_inj', String.reduceEq, ↓reduceIte, Bool.false_eq_true, List.cons_append, List.nil_append]
  rw [seq_dset (k := 0) (key := .inr (Str.ofString "single")) (v := .bl (decide (f = "shared"))) (y := S "single") (by simp []) (by simp) (by simp) rfl rfl (by simp)]
  simp only [List.set_cons_succ, List.set_cons_zero, dputK_ap, dputV_ap, dhas_cons, dhas_nil, drep_cons, drep_nil, Sum.inr.injEq, ofString_inj', String.reduceEq, ↓reduceIte, Bool.false_eq_true, List.cons_append, List.nil_append]
  simp [okQ] at hq
  rcases hq with rfl | rfl | rfl | rfl | rfl | rfl | rfl | rfl | rfl | rfl <;> simp [atKeyD, dicD, oDic, lDoes]
  done
end

end CH

namespace CH
open PySem L2
section
variable {n : Nat} {p g f s e k q : String} {h : MH}
theorem drop_last (hp : okP p = true) : dropE p = bLast p := by
  simp [okP] at hp
  rcases hp with rfl | rfl | rfl | rfl | rfl
  · simp [bLast]; exact (by decide +kernel : dropE "drop store" = false)
  · simp [bLast]; exact (by decide +kernel : dropE "drop store drop" = true)
  · simp [bLast]; exact (by decide +kernel : dropE "store" = false)
  · simp [bLast]; exact (by decide +kernel : dropE "store drop" = true)
  · simp [bLast]; exact (by decide +kernel : dropE "store set" = false)
theorem two_s {a b x : String} (hab : a ≠ b) (h : (decide (x = a) || decide (x = b)) = true) : decide (x = a) = !decide (x = b) := by
  simp at h
  rcases h with rfl | rfl
  · simp [hab]
  · simp [Ne.symm hab]
theorem lDoes_eq (hd : okD p g f = true) (hw : okW s e k = true) : lDoes p g f s e k q = bDoes p g f s e k q := by
  simp only [okD, okW, Bool.and_eq_true] at hd hw
  obtain ⟨hp, hg, hf⟩ := hd
  obtain ⟨hs, he, hk⟩ := hw
  have e1 : dropE p = bLast p := drop_last hp
  have e2 := two_s (by simp) hf
  have e3 := two_s (by simp) hs
  have e4 : decide (e = "evicts") = !decide (e = "keeps") := two_s (by simp) he
  have e5 := two_s (by simp) hk
  have f1 : lGuards p g e = bGuarded p g e := by simp only [lGuards, bGuarded, e1]
  have f2 : lFresh p g f s e = bFresh p g f s e := by simp only [lFresh, bFresh, f1, e3]
  have f3 : lForward p g f e = bForward p g f e := by simp only [lForward, bForward, e4, lLow, Bool.or_assoc, Bool.not_not]
  have f4 : lFilled p g f s k = bFilled p g f s k := by
    simp only [lFilled, bFilled, lFilled0, lWhole, e1, e2, e3, e5]
    cases decide (g = "never") <;> cases decide (f = "shared") <;> cases decide (k = "stops") <;> cases decide (g = "mark") <;> cases decide (s = "replica") <;> cases bLast p <;> rfl
  have f5 : lQuiet p g f s e k = bQuiet p g f s e k := by simp only [lQuiet, bQuiet, f2, lWhole]
  have f6 : lRest p g s e k = bRest p g s e k := by simp only [lRest, bRest, f1, lWhole, lLate, e5]
  simp only [lDoes, bDoes, f2, f3, f4, f5, f6, lEnding, lWhole, lMended, lLinear]
theorem l_holds_e (hd : okD p g f = true) (hw : okW s e k = true) (hq : okQ q = true) : callF (n + 1) .l_holds [St3 p g f, St3 s e k, S q] h = .ok (.bl (bDoes p g f s e k q)) h := by
  rw [callF_s]
  obtain ⟨h', e1⟩ := l_holds1 (p := p) (g := g) (f := f) (s := s) (e := e) (k := k) (c := callF n) hq
  rw [lDoes_eq hd hw] at e1
  simp only [bodyOf, isoR, pureL, pureD, Bool.and_true, if_true, e1]
theorem rangeD_eq {lo : Int} {m : Nat} : rangeD lo m = (List.range m).map fun (i : Nat) => D.int (lo + i) := by
  induction m generalizing lo with
  | zero => rfl
  | succ m ih =>
    rw [rangeD, ih, List.range_succ_eq_map]
    simp
    intro a _
    omega
theorem range0_eq {m : Nat} : rangeD 0 m = (List.range m).map fun (i : Nat) => D.int i := by
  rw [rangeD_eq]; simp
@[simp] theorem toPy_tup {xs : List D} : toPy (.tup xs) = .tuple (toPyL xs) := rfl
@[simp] theorem toPy_lst {xs : List D} : toPy (.lst xs) = .list (toPyL xs) := rfl
theorem alikeS : callF (n + 1) .l_alike [S q, S q] h = .ok (.bl true) h := by
  rw [callF_s]
  simp [bodyOf, b_l_alike, isiL, isiT, oIsN]
theorem eqD_nil : eqD (.lst []) (.lst []) = some true := by rfl
theorem alikeTS {xs : List String} (hl : xs.length < 100000) : callF (n + 2) .l_alike [.tup (xs.map S), .tup (xs.map S)] h = .ok (.bl true) h := by
  rw [callF_s]
  have e1 := lcD_map0 (to := fun (i : Nat) => D.int i) (i := 2) (c := mNotT (mTest (mCall 2 (callF (n + 1) .l_alike) (mCons (mOp oIx (mVar 0) (mVar 2)) (mCons (mOp oIx (mVar 1) (mVar 2)) mNil))))) (f := mVar 2) (sl := wipeD [some (.tup (xs.map S)), some (.tup (xs.map S)), none] [2]) (h := h)
    (p := fun q => false) (g := fun _ => D.non) (List.range xs.length) (by
      intro q hq
      have hq' : q < xs.length := by simpa using hq
      have ha : atI (xs.map S) (q : Int) = some (S xs[q]) := atI_nat (by simp [hq'])
      simp [wipeD, ha, alikeS]) (by rw [List.length_range, lim_eq]; exact hl)
  have hr : ((xs.length : Int) ≤ 1000000000) := by omega
  have hr2 : (-1000000000 ≤ (xs.length : Int)) := by omega
  have e0 : (List.range xs.length).filter (fun _ => false) = [] := by simp
  rw [e0] at e1
  simp only [wipeD, List.set_cons_succ, List.set_cons_zero, List.map_nil] at e1
  simp [bodyOf, b_l_alike, isiL, isiT, range0_eq, big, hr, hr2, wipeD]
  rw [e1]
  simp [eqD_nil]
end

end CH

namespace CH
open PySem L2
section
variable {n : Nat} {p g f s e k q : String} {h : MH}
theorem pyOkL_S {m : Nat} {xs : List String} : pyOkL m (xs.map S) = true := by
  induction xs with
  | nil => exact pyOkL_nil
  | cons x xs ih => rw [List.map_cons, pyOkL_cons, ih, pyOk_str]; rfl
theorem toPyL_S {xs : List String} : toPyL (xs.map S) = xs.map fun x => PyData.str (Str.ofString x) := by
  induction xs with
  | nil => rfl
  | cons x xs ih => simp [ih]
theorem inD_S {xs : List String} {q : String} : inD (S q) (.lst (xs.map S)) = some (decide (q ∈ xs)) := by
  rw [inD_lst, pyOkL_S, pyOk_str, toPyL_S]
  simp only [Bool.and_true, if_true, Option.some.injEq]
  induction xs with
  | nil => simp
  | cons x xs ih => simp at ih ⊢; rw [ih]
theorem e_is {a b : Bool} : callF (n + 1) .l_is [.bl a, .bl b] h = .ok (.bl (decide (a = b))) h := by
  rw [callF_s]
  simp [bodyOf, b_l_is, isiT]
theorem okQ_of (h : q ∈ QS) : okQ q = true := by simpa [QS, okQ] using h
theorem l_due {a0 a1 a2 a3 a6 : Option D} (hd : okD p g f = true) (hw : okW s e k = true) : mLc [6] (mItL (mCall 0 (callF (n + 1) .l_promises) mNil)) (.nm 6) (mTest (mCall 3 (callF (n + 1) .l_holds) (mCons (mVar 4) (mCons (mVar 5) (mCons (mVar 6) mNil))))) (mVar 6) [a0, a1, a2, a3, some (St3 p g f), some (St3 s e k), a6] h = .ok (.lst ((QS.filter fun q => bDoes p g f s e k q).map S)) h := by
  have e1 := lcD_map0 (to := S) (i := 6) (c := mTest (mCall 3 (callF (n + 1) .l_holds) (mCons (mVar 4) (mCons (mVar 5) (mCons (mVar 6) mNil))))) (f := mVar 6) (sl := wipeD [a0, a1, a2, a3, some (St3 p g f), some (St3 s e k), a6] [6]) (h := h)
    (p := fun q => bDoes p g f s e k q) (g := S) QS (by
      intro q hq
      simp [wipeD, l_holds_e hd hw (okQ_of hq)]) (by simp [QS])
  simp only [wipeD, List.set_cons_succ, List.set_cons_zero] at e1
  simp [e_promises, wipeD, e1]
theorem l_chk {a0 a1 a2 a6 : Option D} (hd : okD p g f = true) (hw : okW s e k = true) : mLc [6] (mItL (mCall 0 (callF (n + 6) .l_promises) mNil)) (.nm 6) (mNotT (mTest (mCall 2 (callF (n + 6) .l_is) (mCons (mCall 3 (callF (n + 6) .holds) (mCons (mVar 4) (mCons (mVar 5) (mCons (mVar 6) mNil)))) (mCons (mOp oIn (mVar 6) (mVar 3)) mNil))))) (mVar 6) [a0, a1, a2, some (.lst ((QS.filter fun q => bDoes p g f s e k q).map S)), some (St3 p g f), some (St3 s e k), a6] h = .ok (.lst []) h := by
  have e1 := lcD_map0 (to := S) (i := 6) (c := mNotT (mTest (mCall 2 (callF (n + 6) .l_is) (mCons (mCall 3 (callF (n + 6) .holds) (mCons (mVar 4) (mCons (mVar 5) (mCons (mVar 6) mNil)))) (mCons (mOp oIn (mVar 6) (mVar 3)) mNil))))) (f := mVar 6) (sl := wipeD [a0, a1, a2, some (.lst ((QS.filter fun q => bDoes p g f s e k q).map S)), some (St3 p g f), some (St3 s e k), a6] [6]) (h := h)
    (p := fun q => false) (g := S) QS (by
      intro q hq
      have hm : (q ∈ QS.filter fun q => bDoes p g f s e k q) ↔ bDoes p g f s e k q = true := by simp [hq]
      simp [wipeD, e_holds hd hw (okQ_of hq), inD_S, hm, e_is, -inD_lst]
      ) (by simp [QS])
  have e0 : QS.filter (fun _ => false) = [] := by simp
  rw [e0] at e1
  simp only [wipeD, List.map_nil, List.set_cons_succ, List.set_cons_zero] at e1
  simp [e_promises, wipeD, e1]
theorem law_true {ns : List Int} : ∃ h', callF (n + 9) .law_ [.scr ns] [] = .ok (.bl true) h' := by
  rw [callF_s]
  simp only [bodyOf, b_law_, runB_ap', slots0_ap, List.map, List.length_cons, List.length_nil, Nat.reduceAdd, Nat.reduceSub, List.replicate, List.cons_append, List.nil_append]
  rw [seq_set (h1 := [Row ns 0 15550 0]) (.ref 0) (by simp [Row])]
  simp only [List.set_cons_succ, List.set_cons_zero]
  have key : ∃ sl' h', sFor (mItR1 (mCons (mC (.int 6)) mNil)) (.nm 2) (sSeq (sAsgT (mTup (mCons (mCall 2 (callF (n + 8) .l_pick) (mCons (mVar 1) (mCons (mCall 0 (callF (n + 8) .l_designs) mNil) mNil))) (mCons (mCall 2 (callF (n + 8) .l_pick) (mCons (mVar 1) (mCons (mCall 0 (callF (n + 8) .l_worlds) mNil) mNil))) mNil))) (kTup [kName 4, kName 5])) (sSeq (sSet 3 (mLc [6] (mItL (mCall 0 (callF (n + 8) .l_promises) mNil)) (.nm 6) (mTest (mCall 3 (callF (n + 8) .l_holds) (mCons (mVar 4) (mCons (mVar 5) (mCons (mVar 6) mNil))))) (mVar 6))) (sSeq (sIf (mNotT (mTest (mCall 2 (callF (n + 8) .l_alike) (mCons (mCall 2 (callF (n + 8) .profile) (mCons (mVar 4) (mCons (mVar 5) mNil))) (mCons (mFn fTuple (mCons (mVar 3) mNil)) mNil))))) (sRet (mC (.bl false))) sSkip) (sIf (mTest (mOp oNe (mLc [6] (mItL (mCall 0 (callF (n + 8) .l_promises) mNil)) (.nm 6) (mNotT (mTest (mCall 2 (callF (n + 8) .l_is) (mCons (mCall 3 (callF (n + 8) .holds) (mCons (mVar 4) (mCons (mVar 5) (mCons (mVar 6) mNil)))) (mCons (mOp oIn (mVar 6) (mVar 3)) mNil))))) (mVar 6)) (mLst mNil))) (sRet (mC (.bl false))) sSkip)))) [some (.scr ns), some (.ref 0), none, none, none, none, none] [Row ns 0 15550 0] = .nx sl' h' ∧ True := by
    simp only [sFor_ap, mItR1_ap, mCons_ap, mC_ap, mNil_ap, bindR_ok, r1K_int]
    have hb : -big ≤ (6 : Int) ∧ (6 : Int) ≤ big := by decide
    rw [if_pos hb]
    show ∃ sl' h', forD _ _ _ _ _ = SRes.nx sl' h' ∧ True
    refine forD_ex (i := 2) (Inv := fun sl h => (∃ a2 a3 a4 a5 a6, sl = [some (.scr ns), some (.ref 0), a2, a3, a4, a5, a6]) ∧ ∃ i s r, 0 ≤ i ∧ h = [Row ns i s r]) ⟨⟨_, _, _, _, _, rfl⟩, _, _, _, by decide, rfl⟩ ?_
    rintro d _ sl h ⟨⟨a2, a3, a4, a5, a6, hsl⟩, i, s0, r, hi, hh⟩
    subst hsl; subst hh
    obtain ⟨d1, i1, s1, r1, hd1, hi1, e1⟩ := e_pick (n := n + 6) (h := [Row ns i s0 r]) (k := 0) (xs := designsL) rfl hi (by decide) (by decide)
    obtain ⟨d2, i2, s2, r2, hd2, hi2, e2⟩ := e_pick (n := n + 6) (h := [Row ns i1 s1 r1]) (k := 0) (xs := worldsL) rfl hi1 (by decide) (by decide)
    obtain ⟨p, g, f, rfl, hd⟩ := of_designs hd1
    obtain ⟨s, e, k, rfl, hw⟩ := of_worlds hd2
    simp only [List.set_cons_succ, List.set_cons_zero] at e1 e2 ⊢
    rw [seq_nx (sl1 := [some (.scr ns), some (.ref 0), some d, a3, some (St3 p g f), some (St3 s e k), a6]) (h1 := [Row ns i2 s2 r2]) (by
      simp [sAsgT, e_designs, e_worlds, e1, e2, kTup, runT, kName, onlyNx])]
    rw [seq_set (h1 := [Row ns i2 s2 r2]) (.lst ((QS.filter fun q => bDoes p g f s e k q).map S)) (l_due hd hw)]
    simp only [List.set_cons_succ, List.set_cons_zero]
    have hal := alikeTS (n := n + 6) (xs := QS.filter fun q => bDoes p g f s e k q) (h := [Row ns i2 s2 r2]) (Nat.lt_of_le_of_lt (List.length_filter_le _ _) (by decide))
    rw [seq_nx (sl1 := [some (.scr ns), some (.ref 0), some d, some (.lst ((QS.filter fun q => bDoes p g f s e k q).map S)), some (St3 p g f), some (St3 s e k), a6]) (h1 := [Row ns i2 s2 r2]) (by
      simp [e_profile (n := n + 2) hd hw, hal])]
    refine ⟨[some (.scr ns), some (.ref 0), some d, some (.lst ((QS.filter fun q => bDoes p g f s e k q).map S)), some (St3 p g f), some (St3 s e k), a6], [Row ns i2 s2 r2], ?_, ⟨_, _, _, _, _, rfl⟩, i2, s2, r2, hi2, rfl⟩
    have hc := l_chk (n := n + 2) (a0 := some (.scr ns)) (a1 := some (.ref 0)) (a2 := some d) (a6 := a6) (h := [Row ns i2 s2 r2]) hd hw
    simp only [sIf_ap, mTest_ap, mOp_ap, hc, bindR_ok]
    simp [eqD_nil]
  obtain ⟨sl', h', e, _⟩ := key
  refine ⟨h', ?_⟩
  rw [seq_nx e]
  rfl
end

end CH

theorem PySem.Challenge.cw_cacheheld_k03_whole_verdicts_holds : PySem.Challenge.rw_cacheheld_k03_whole_verdicts.Holds := by
  exact CH.law_red fun ns _ => CH.law_true (n := 31)
