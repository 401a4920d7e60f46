import PyProof.Rows.All
import KE.KDictWalk
import Wide.All
import OpenK.AllK
import Wide.FinOn
import HandS.ForMost
import HandS.Deep
import HandS.TupAny
import HandS.Zip
import HandS.IsInst
import HandS.Exc
import HandS.Lambda
import HandS.HeadHook4
import HandS.ExcOwn
import HandS.CallSlots
import HandS.WordsExc
import HandS.Style
import HandS.Defaults
import HandS.TupMul
import HandS.Head0
import HandS.Head1
import HandS.Head2
import HandS.HeadEnd
import HandS.HeadHook1
import HandS.HeadHook2
import HandS.HeadHook3
import KE.SortData
import KE.DataMinMax
import HandS.ListItems
import PyProof.SeqI3
import PyProof.WalkInts
import PyProof.EqAt
import PyProof.NeKinds
import HandS.More
import HandS.Iter
import HandS.Conv
import HandS.Text
import HandS.ExcInit
import HandS.Nested
import KE.KExcSuper
import HandS.TryOnly
import PyProof.DictCompW
import HandS.Base
import HandS.Call
import HandS.List
import HandS.Comp
import HandS.Dict
import HandS.DictComp
import HandS.DictTup
import PySem.Challenge.RW_cacheheld_k07_whole_choices
set_option Elab.async false
set_option linter.all false
set_option maxRecDepth 100000
set_option maxHeartbeats 4000000
/-! CH0: deep values, the mirror heap, their relation to the hand layer's abstract heap. -/
namespace CH
open PySem PySem.Spec PyProof.Rows L2

/-- a deep value -/
inductive D where
  | non | bl (b : Bool) | int (i : Int) | str (x : Str)
  | tup (xs : List D) | lst (xs : List D) | dic (ks : List Key) (vs : List D)
  | ref (i : Nat) | gl (x : Str) | ty (n : String) | scr (ns : List Int) | dct (ks : List (List Key)) (vs : List D)
/-- a mutable object -/
inductive O where
  | lst (xs : List D) | dic (ks : List Key) (vs : List D) | ins (c : Str) (ks : List Str) (vs : List D)
  | tbl
abbrev MH := List O
abbrev Sl := List (Option D)
inductive Res (α : Type) where
  | ok (a : α) (h : MH) | exc (c : Str) (a : Option (Str × D)) (h : MH) | bad

/-! ### what stands for what -/
structure Ev where
  K : PySem.W.Frag
  mg : Str → Option Value
/-- a tuple: one that was made, or a written one -/
def TuA (K : PySem.W.Frag) (H : Hp) (a : Addr) (vs : List V) : Prop := H a = some (.tup vs) ∨ SqT K (fun _ => none) a vs
theorem TuA.sq {K : PySem.W.Frag} {H : Hp} {a : Addr} {vs : List V} (h : TuA K H a vs) : SqT K H a vs := by
  rcases h with h | h
  · exact SqT.of h
  · rcases h with (h | ⟨o, h⟩) | h
    · cases h
    · cases h
    · exact .inr h
section
variable (G : Ev) (r : List Addr) (F : List Addr) (H : Hp)
mutual
inductive Den : D → V → Prop
  | non : Den .non .non
  | bl (b : Bool) : Den (.bl b) (.bl b)
  | int (i : Int) : Den (.int i) (.int i)
  | str (x : Str) : Den (.str x) (.str x)
  | ty (n : String) : Den (.ty n) (.ty n)
  | tup {a : Addr} {ds : List D} {vs : List V} : TuA G.K H a vs → DenL ds vs → Den (.tup ds) (.ref a)
  | lst {a : Addr} {ds : List D} {vs : List V} : H a = some (.lst vs) → a ∉ r ∧ a ∉ F → DenL ds vs → Den (.lst ds) (.ref a)
  | scr {a : Addr} {ns : List Int} : ((∃ o, H a = some (.frz o (.lst (ns.map V.int)))) ∨ SqL G.K (fun _ => none) a (ns.map V.int)) → Den (.scr ns) (.ref a)
  | dic {a : Addr} {ks : List Key} {ds : List D} {vs : List V} : H a = some (.dK (ks.zip vs)) → a ∉ r ∧ a ∉ F → ks.length = vs.length → DenL ds vs → Den (.dic ks ds) (.ref a)
  | ref {i : Nat} {a : Addr} : r[i]? = some a → Den (.ref i) (.ref a)
  | gl {x : Str} {a : Addr} : G.mg x = some (.ref a) → Den (.gl x) (.ref a)
  | dct {a : Addr} {o : Obj} {ks : List (List Key)} {ds : List D} {vs : List V} : H a = some (.frz o (.dT (ks.zip vs))) → ks.length = vs.length → DenL ds vs → Den (.dct ks ds) (.ref a)
inductive DenL : List D → List V → Prop
  | nil : DenL [] []
  | cons {d : D} {v : V} {ds : List D} {vs : List V} : Den d v → DenL ds vs → DenL (d :: ds) (v :: vs)
end
end

/-- the heap has grown: new addresses d, what was not ours is kept -/
structure Ext (r : List Addr) (H : Hp) (r' : List Addr) (H' : Hp) : Prop where
  pre : ∃ d, r' = r ++ d ∧ ∀ a ∈ d, H a = none
  keep : ∀ a o, H a = some o → a ∉ r → H' a = some o

section
variable {G : Ev} {r r' r2 F : List Addr} {H H' H2 : Hp}
theorem Ext.refl : Ext r H r H := ⟨⟨[], by simp, fun _ h => by cases h⟩, fun _ _ e _ => e⟩
theorem Ext.same (s : Same H H') : Ext r H r H' := ⟨⟨[], by simp, fun _ h => by cases h⟩, fun _ _ e _ => s _ _ e⟩
theorem Ext.notin (e : Ext r H r' H') {a : Addr} {o : HO} (h : H a = some o) (n : a ∉ r) : a ∉ r' := by
  obtain ⟨d, rfl, hd⟩ := e.pre
  intro hm
  rcases List.mem_append.mp hm with hm | hm
  · exact n hm
  · rw [hd a hm] at h; cases h
theorem Ext.get (e : Ext r H r' H') {i : Nat} {a : Addr} (h : r[i]? = some a) : r'[i]? = some a := by
  obtain ⟨d, rfl, _⟩ := e.pre
  have hl : i < r.length := (List.getElem?_eq_some_iff.mp h).1
  rw [List.getElem?_append_left hl]; exact h
theorem Ext.rd (e : Ext r H r' H') {a : Addr} {u : HO} (h : Rd H a u) (n : a ∉ r) : Rd H' a u := by
  rcases h with h | ⟨o, h⟩
  · exact .inl (e.keep _ _ h n)
  · exact .inr ⟨o, e.keep _ _ h n⟩
theorem rd_some {a : Addr} {u : HO} (h : Rd H a u) : ∃ o, H a = some o := by
  rcases h with h | ⟨o, h⟩
  · exact ⟨_, h⟩
  · exact ⟨_, h⟩

/-- what is ours to write: no table of another's, no code object -/
def MutT : Option HO → Prop
  | some (.tbl _) => True
  | some (.ext _) => False
  | o => Mut o
/-- the law's table of code objects, the name of a lambda of the law -/
def lawT (K : PySem.W.Frag) : Addr := (He.cT K (("law" : Str), none)).2
def lamQ : Str := (("law" : Str) ++ ".<locals>.") ++ "<lambda>"
/-- what another may write: of tables the law's alone -/
def MutF (K : PySem.W.Frag) (a : Addr) : HO → Prop
  | .tbl _ => a = lawT K
  | .ext _ => False
  | o => Mut (some o)
theorem mutFT {K : PySem.W.Frag} {a : Addr} {o : HO} (h : MutF K a o) : MutT (some o) := by cases o <;> first | exact h | trivial
/-- an object of ours -/
def ODen (G : Ev) (r F : List Addr) (H : Hp) (a : Addr) : O → Prop
  | .lst ds => ∃ vs, H a = some (.lst vs) ∧ DenL G r F H ds vs
  | .dic ks ds => ∃ vs, H a = some (.dK (ks.zip vs)) ∧ ks.length = vs.length ∧ DenL G r F H ds vs
  | .ins c ks ds => ∃ C dx vs, G.mg c = some (.ref C) ∧ H a = some (.ins C dx (ks.zip vs)) ∧ ks.length = vs.length ∧ H dx = some (.own a) ∧ DenL G r F H ds vs
  | .tbl => a = lawT G.K ∧ LamX.TabS H a lamQ
structure GoodH (G : Ev) (r F : List Addr) (h : MH) (H : Hp) : Prop where
  len : r.length = h.length
  nd : r.Nodup
  fd : ∀ a ∈ F, (∃ o, H a = some o ∧ MutF G.K a o) ∧ a ∉ r
  ob : ∀ (i : Nat) (o : O), h[i]? = some o → ∃ a, r[i]? = some a ∧ ODen G r F H a o

/-- tuples stand whatever is written -/
def KeepT (H H' : Hp) : Prop := ∀ a xs, H a = some (.tup xs) → H' a = some (.tup xs)
end

/-- no tuple, no locked thing is ours -/
def Mine (r : List Addr) (H : Hp) : Prop := ∀ a ∈ r, ∃ o, H a = some o ∧ MutT (some o) 
theorem GoodH.mine {G : Ev} {r F : List Addr} {h : MH} {H : Hp} (g : GoodH G r F h H) : Mine r H := by
  intro a ha
  obtain ⟨i, hi, e⟩ := List.mem_iff_getElem.mp ha
  have hl : i < h.length := by rw [← g.len]; exact hi
  obtain ⟨b, e2, q⟩ := g.ob i h[i] (List.getElem?_eq_getElem hl)
  have e3 : r[i]? = some a := by rw [List.getElem?_eq_getElem hi, e]
  rw [e3] at e2; cases e2
  cases hh : h[i] with
  | lst ds => rw [hh] at q; obtain ⟨vs, q, _⟩ := q; exact ⟨_, q, trivial⟩
  | dic ks ds => rw [hh] at q; obtain ⟨vs, q, _⟩ := q; exact ⟨_, q, trivial⟩
  | ins c ks ds => rw [hh] at q; obtain ⟨C, dx, vs, _, q, _⟩ := q; exact ⟨_, q, trivial⟩
  | tbl => rw [hh] at q; obtain ⟨_, ps, q, _⟩ := q; exact ⟨_, q, trivial⟩
theorem GoodH.mineA {G : Ev} {r F : List Addr} {h : MH} {H : Hp} (g : GoodH G r F h H) : ∀ a ∈ r, ∃ o, H a = some o ∧ MutF G.K a o := by
  intro a ha
  obtain ⟨i, hi, e⟩ := List.mem_iff_getElem.mp ha
  have hl : i < h.length := by rw [← g.len]; exact hi
  obtain ⟨b, e2, q⟩ := g.ob i h[i] (List.getElem?_eq_getElem hl)
  have e3 : r[i]? = some a := by rw [List.getElem?_eq_getElem hi, e]
  rw [e3] at e2; cases e2
  cases hh : h[i] with
  | lst ds => rw [hh] at q; obtain ⟨vs, q, _⟩ := q; exact ⟨_, q, trivial⟩
  | dic ks ds => rw [hh] at q; obtain ⟨vs, q, _⟩ := q; exact ⟨_, q, trivial⟩
  | ins c ks ds => rw [hh] at q; obtain ⟨C, dx, vs, _, q, _⟩ := q; exact ⟨_, q, trivial⟩
  | tbl => rw [hh] at q; obtain ⟨q0, ps, q, _⟩ := q; exact ⟨_, q, q0⟩
theorem Mine.out {r : List Addr} {H : Hp} (m : Mine r H) {a : Addr} {o : HO} (h : H a = some o) (n : ¬ MutT (some o)) : a ∉ r := fun hm => by
  obtain ⟨o', e, q⟩ := m a hm
  rw [h] at e; cases e; exact n q
theorem Mine.seqT {K : PySem.W.Frag} {r r' : List Addr} {H H' : Hp} (m : Mine r H) (e : Ext r H r' H') {a : Addr} {vs : List V} (h : TuA K H a vs) : TuA K H' a vs := by
  rcases h with h | h
  · exact .inl (e.keep _ _ h (m.out h id))
  · exact .inr h
theorem Mine.frz {r r' : List Addr} {H H' : Hp} (m : Mine r H) (e : Ext r H r' H') {a : Addr} {o : Obj} {u : HO} (h : H a = some (.frz o u)) : H' a = some (.frz o u) := e.keep _ _ h (m.out h id)

/-- foreign things: those of before, or new ones -/
def Foe (F : List Addr) (H : Hp) (F' : List Addr) : Prop := ∀ a ∈ F', a ∈ F ∨ H a = none
theorem Foe.refl {F : List Addr} {H : Hp} : Foe F H F := fun _ h => .inl h
theorem Foe.out {F F' : List Addr} {H : Hp} (f : Foe F H F') {a : Addr} {o : HO} (h : H a = some o) (n : a ∉ F) : a ∉ F' := fun hm => by
  rcases f a hm with q | q
  · exact n q
  · rw [q] at h; cases h
section
variable {G : Ev} {r r' r2 F F' : List Addr} {H H' H2 : Hp}
mutual
theorem Den.monoF (m : Mine r H) (e : Ext r H r' H') (f : Foe F H F') : ∀ (d : D) (v : V), Den G r F H d v → Den G r' F' H' d v
  | .non, _, .non => .non
  | .bl _, _, .bl b => .bl b
  | .int _, _, .int b => .int b
  | .str _, _, .str b => .str b
  | .ty _, _, .ty b => .ty b
  | .tup ds, _, .tup h l => .tup (m.seqT e h) (DenL.monoF m e f ds _ l)
  | .lst ds, _, .lst h n l => .lst (e.keep _ _ h n.1) ⟨e.notin h n.1, f.out h n.2⟩ (DenL.monoF m e f ds _ l)
  | .scr _, _, .scr h => .scr (h.imp (fun ⟨o, h⟩ => ⟨o, m.frz e h⟩) id)
  | .dic ks ds, _, .dic h n hl l => .dic (e.keep _ _ h n.1) ⟨e.notin h n.1, f.out h n.2⟩ hl (DenL.monoF m e f ds _ l)
  | .ref _, _, .ref h => .ref (e.get h)
  | .gl _, _, .gl h => .gl h
  | .dct ks ds, _, .dct h hl l => .dct (m.frz e h) hl (DenL.monoF m e f ds _ l)
theorem DenL.monoF (m : Mine r H) (e : Ext r H r' H') (f : Foe F H F') : ∀ (ds : List D) (vs : List V), DenL G r F H ds vs → DenL G r' F' H' ds vs
  | [], _, .nil => .nil
  | d :: ds, _, .cons h t => .cons (Den.monoF m e f d _ h) (DenL.monoF m e f ds _ t)
end
/-- the heap has grown, foreign things may have changed -/
structure ExtF (r F : List Addr) (H : Hp) (r' : List Addr) (H' : Hp) : Prop where
  pre : ∃ d, r' = r ++ d ∧ ∀ a ∈ d, H a = none
  keep : ∀ a o, H a = some o → a ∉ r → a ∉ F → H' a = some o
theorem Ext.toF (e : Ext r H r' H') : ExtF r F H r' H' := ⟨e.pre, fun a o h n _ => e.keep a o h n⟩
theorem ExtF.notin (e : ExtF r F H r' H') {a : Addr} {o : HO} (h : H a = some o) (n : a ∉ r) : a ∉ r' := by
  obtain ⟨d, rfl, hd⟩ := e.pre
  simp only [List.mem_append, not_or]
  exact ⟨n, fun hm => by rw [hd a hm] at h; cases h⟩
theorem ExtF.get (e : ExtF r F H r' H') {i : Nat} {a : Addr} (h : r[i]? = some a) : r'[i]? = some a := by
  obtain ⟨d, rfl, _⟩ := e.pre
  obtain ⟨hl, _⟩ := List.getElem?_eq_some_iff.mp h
  rw [List.getElem?_append_left hl]; exact h
theorem GoodH.mineF {h : MH} (g : GoodH G r F h H) : Mine F H := fun a ha => by
  obtain ⟨o, q, mu⟩ := (g.fd a ha).1
  exact ⟨o, q, mutFT mu⟩
theorem ExtF.seqT {K : PySem.W.Frag} (m : Mine r H) (mf : Mine F H) (e : ExtF r F H r' H') {a : Addr} {vs : List V} (h : TuA K H a vs) : TuA K H' a vs := by
  rcases h with h | h
  · exact .inl (e.keep _ _ h (m.out h id) (mf.out h id))
  · exact .inr h
mutual
theorem Den.monoX (m : Mine r H) (mf : Mine F H) (e : ExtF r F H r' H') (f : Foe F H F') : ∀ (d : D) (v : V), Den G r F H d v → Den G r' F' H' d v
  | .non, _, .non => .non
  | .bl _, _, .bl b => .bl b
  | .int _, _, .int b => .int b
  | .str _, _, .str b => .str b
  | .ty _, _, .ty b => .ty b
  | .tup ds, _, .tup h l => .tup (e.seqT m mf h) (DenL.monoX m mf e f ds _ l)
  | .lst ds, _, .lst h n l => .lst (e.keep _ _ h n.1 n.2) ⟨e.notin h n.1, f.out h n.2⟩ (DenL.monoX m mf e f ds _ l)
  | .scr _, _, .scr h => .scr (h.imp (fun ⟨o, h⟩ => ⟨o, e.keep _ _ h (m.out h id) (mf.out h id)⟩) id)
  | .dic ks ds, _, .dic h n hl l => .dic (e.keep _ _ h n.1 n.2) ⟨e.notin h n.1, f.out h n.2⟩ hl (DenL.monoX m mf e f ds _ l)
  | .ref _, _, .ref h => .ref (e.get h)
  | .gl _, _, .gl h => .gl h
  | .dct ks ds, _, .dct h hl l => .dct (e.keep _ _ h (m.out h id) (mf.out h id)) hl (DenL.monoX m mf e f ds _ l)
theorem DenL.monoX (m : Mine r H) (mf : Mine F H) (e : ExtF r F H r' H') (f : Foe F H F') : ∀ (ds : List D) (vs : List V), DenL G r F H ds vs → DenL G r' F' H' ds vs
  | [], _, .nil => .nil
  | d :: ds, _, .cons h t => .cons (Den.monoX m mf e f d _ h) (DenL.monoX m mf e f ds _ t)
end
theorem Den.mono (m : Mine r H) (e : Ext r H r' H') (d : D) (v : V) (h : Den G r F H d v) : Den G r' F H' d v := Den.monoF m e .refl d v h
theorem DenL.mono (m : Mine r H) (e : Ext r H r' H') (d : List D) (v : List V) (h : DenL G r F H d v) : DenL G r' F H' d v := DenL.monoF m e .refl d v h
/-- a foreign list is written -/
theorem mut_ne {H : Hp} {D a : Addr} {acc o : HO} (hD : H D = some acc) (mu : MutT (some acc)) (h : H a = some o) (n : ¬ MutT (some o)) : a ≠ D := fun e => by
  subst e
  rw [h] at hD
  cases hD
  exact n mu
theorem seqT_upd {K : PySem.W.Frag} {H : Hp} {D a : Addr} {acc acc' : HO} {vs : List V} (hD : H D = some acc) (mu : MutT (some acc)) (h : TuA K H a vs) : TuA K (upd H D acc') a vs := by
  rcases h with h | h
  · exact .inl (by rw [upd_ne (mut_ne hD mu h id)]; exact h)
  · exact .inr h
mutual
theorem Den.updF {D0 : Addr} {acc acc' : HO} (hD : H D0 = some acc) (mu : MutT (some acc)) (hF : D0 ∈ F) : ∀ (d : D) (v : V), Den G r F H d v → Den G r F (upd H D0 acc') d v
  | .non, _, .non => .non
  | .bl _, _, .bl b => .bl b
  | .int _, _, .int b => .int b
  | .str _, _, .str b => .str b
  | .ty _, _, .ty b => .ty b
  | .tup ds, _, .tup h l => .tup (seqT_upd hD mu h) (DenL.updF hD mu hF ds _ l)
  | .lst ds, _, .lst h n l => .lst (by rw [upd_ne (fun e => n.2 (by rw [e]; exact hF))]; exact h) n (DenL.updF hD mu hF ds _ l)
  | .scr _, _, .scr h => .scr (h.imp (fun ⟨o, h⟩ => ⟨o, by rw [upd_ne (mut_ne hD mu h id)]; exact h⟩) id)
  | .dic ks ds, _, .dic h n hl l => .dic (by rw [upd_ne (fun e => n.2 (by rw [e]; exact hF))]; exact h) n hl (DenL.updF hD mu hF ds _ l)
  | .ref _, _, .ref h => .ref h
  | .gl _, _, .gl h => .gl h
  | .dct ks ds, _, .dct h hl l => .dct (by rw [upd_ne (mut_ne hD mu h id)]; exact h) hl (DenL.updF hD mu hF ds _ l)
theorem DenL.updF {D0 : Addr} {acc acc' : HO} (hD : H D0 = some acc) (mu : MutT (some acc)) (hF : D0 ∈ F) : ∀ (ds : List D) (vs : List V), DenL G r F H ds vs → DenL G r F (upd H D0 acc') ds vs
  | [], _, .nil => .nil
  | d :: ds, _, .cons h t => .cons (Den.updF hD mu hF d _ h) (DenL.updF hD mu hF ds _ t)
end
theorem GoodH.updF {h : MH} {D0 : Addr} {acc acc' : HO} (g : GoodH G r F h H) (hD : H D0 = some acc) (mu : MutT (some acc)) (mu' : MutF G.K D0 acc') (hF : D0 ∈ F) : GoodH G r F h (upd H D0 acc') := by
  refine ⟨g.len, g.nd, fun a ha => ⟨?_, (g.fd a ha).2⟩, fun i o hi => ?_⟩
  · by_cases e : a = D0
    · exact ⟨acc', by rw [e]; exact upd_same, by rw [e]; exact mu'⟩
    · rw [upd_ne e]; exact (g.fd a ha).1
  · obtain ⟨a, ea, q⟩ := g.ob i o hi
    have ne : a ≠ D0 := fun e => (g.fd D0 hF).2 (by rw [← e]; exact List.mem_of_getElem? ea)
    refine ⟨a, ea, ?_⟩
    cases o with
    | lst ds =>
      obtain ⟨vs, q1, q2⟩ := q
      exact ⟨vs, by rw [upd_ne ne]; exact q1, DenL.updF hD mu hF _ _ q2⟩
    | dic ks ds =>
      obtain ⟨vs, q1, ql, q2⟩ := q
      exact ⟨vs, by rw [upd_ne ne]; exact q1, ql, DenL.updF hD mu hF _ _ q2⟩
    | ins c ks ds =>
      obtain ⟨C, dx, vs, q0, q1, ql, q3, q2⟩ := q
      exact ⟨C, dx, vs, q0, by rw [upd_ne ne]; exact q1, ql, by rw [upd_ne (mut_ne hD mu q3 id)]; exact q3, DenL.updF hD mu hF _ _ q2⟩
    | tbl =>
      obtain ⟨q0, ps, q1, q2, q3⟩ := q
      exact ⟨q0, ps, by rw [upd_ne ne]; exact q1, q2, fun pos cv hc => by
        obtain ⟨c, e1, e2⟩ := q3 pos cv hc
        exact ⟨c, e1, by rw [upd_ne (mut_ne hD mu e2 id)]; exact e2⟩⟩
theorem ODen.monoF (m : Mine r H) (e : Ext r H r' H') (f : Foe F H F') {a : Addr} {o : O} (q : ODen G r F H a o) (ha : H' a = H a) : ODen G r' F' H' a o := by
  cases o with
  | lst ds =>
    obtain ⟨vs, q1, q2⟩ := q
    exact ⟨vs, by rw [ha]; exact q1, DenL.monoF m e f _ _ q2⟩
  | dic ks ds =>
    obtain ⟨vs, q1, ql, q2⟩ := q
    exact ⟨vs, by rw [ha]; exact q1, ql, DenL.monoF m e f _ _ q2⟩
  | ins c ks ds =>
    obtain ⟨C, dx, vs, q0, q1, ql, q3, q2⟩ := q
    exact ⟨C, dx, vs, q0, by rw [ha]; exact q1, ql, e.keep _ _ q3 (m.out q3 id), DenL.monoF m e f _ _ q2⟩
  | tbl =>
    obtain ⟨q0, ps, q1, q2, q3⟩ := q
    exact ⟨q0, ps, by rw [ha]; exact q1, q2, fun pos cv hc => by
      obtain ⟨c, e1, e2⟩ := q3 pos cv hc
      exact ⟨c, e1, e.keep _ _ e2 (m.out e2 id)⟩⟩
/-- other foreign things -/
theorem GoodH.foe {h : MH} (g : GoodH G r F h H) (s : ∀ a o, H a = some o → H' a = some o) (f : Foe F H F') (k : ∀ a ∈ F', (∃ o, H' a = some o ∧ MutF G.K a o) ∧ a ∉ r) : GoodH G r F' h H' := by
  refine ⟨g.len, g.nd, k, fun i o hi => ?_⟩
  obtain ⟨a, ea, q⟩ := g.ob i o hi
  refine ⟨a, ea, ODen.monoF g.mine (.same s) f q ?_⟩
  obtain ⟨o2, e2, _⟩ := g.mine a (List.mem_of_getElem? ea)
  rw [e2]; exact s _ _ e2
/-- a new foreign thing -/
theorem GoodH.newF {h : MH} {D0 : Addr} {o : HO} (g : GoodH G r F h H) (hD : H D0 = none) (mu : MutF G.K D0 o) : GoodH G r (D0 :: F) h (upd H D0 o) := by
  have s : ∀ a o', H a = some o' → upd H D0 o a = some o' := fun a o' e => by rw [upd_ne (ne_of_none e hD)]; exact e
  refine g.foe s (fun a ha => ?_) fun a ha => ?_
  · rcases List.mem_cons.mp ha with e | e
    · exact .inr (by rw [e]; exact hD)
    · exact .inl e
  · rcases List.mem_cons.mp ha with e | e
    · refine ⟨⟨o, by rw [e]; exact upd_same, by rw [e]; exact mu⟩, fun hm => ?_⟩
      obtain ⟨o', q, _⟩ := g.mine a hm
      rw [e, hD] at q; cases q
    · obtain ⟨⟨o', q, m⟩, n⟩ := g.fd a e
      exact ⟨⟨o', s _ _ q, m⟩, n⟩
/-- the foreign thing forgotten -/
theorem GoodH.dropF {h : MH} {D0 : Addr} (g : GoodH G r (D0 :: F) h H) : GoodH G r F h H :=
  g.foe (fun _ _ e => e) (fun a ha => .inl (List.mem_cons_of_mem _ ha)) fun a ha => g.fd a (List.mem_cons_of_mem _ ha)
theorem Den.dropF {D0 : Addr} {d : D} {v : V} (m : Mine r H) (h : Den G r (D0 :: F) H d v) : Den G r F H d v := Den.monoF m .refl (fun a ha => .inl (List.mem_cons_of_mem _ ha)) d v h
theorem DenL.dropF {D0 : Addr} {d : List D} {v : List V} (m : Mine r H) (h : DenL G r (D0 :: F) H d v) : DenL G r F H d v := DenL.monoF m .refl (fun a ha => .inl (List.mem_cons_of_mem _ ha)) d v h
/-! the same heap, other names -/
section
mutual
theorem Den.re (hp : ∀ a, a ∉ r ∧ a ∉ F → a ∉ r' ∧ a ∉ F') (hr : ∀ (i : Nat) a, r[i]? = some a → r'[i]? = some a) : ∀ (d : D) (v : V), Den G r F H d v → Den G r' F' H d v
  | .non, _, .non => .non
  | .bl _, _, .bl b => .bl b
  | .int _, _, .int b => .int b
  | .str _, _, .str b => .str b
  | .ty _, _, .ty b => .ty b
  | .tup ds, _, .tup h l => .tup h (DenL.re hp hr ds _ l)
  | .lst ds, _, .lst h n l => .lst h (hp _ n) (DenL.re hp hr ds _ l)
  | .scr _, _, .scr h => .scr h
  | .dic ks ds, _, .dic h n hl l => .dic h (hp _ n) hl (DenL.re hp hr ds _ l)
  | .ref _, _, .ref h => .ref (hr _ _ h)
  | .gl _, _, .gl h => .gl h
  | .dct ks ds, _, .dct h hl l => .dct h hl (DenL.re hp hr ds _ l)
theorem DenL.re (hp : ∀ a, a ∉ r ∧ a ∉ F → a ∉ r' ∧ a ∉ F') (hr : ∀ (i : Nat) a, r[i]? = some a → r'[i]? = some a) : ∀ (ds : List D) (vs : List V), DenL G r F H ds vs → DenL G r' F' H ds vs
  | [], _, .nil => .nil
  | d :: ds, _, .cons h t => .cons (Den.re hp hr d _ h) (DenL.re hp hr ds _ t)
end
theorem ODen.re (hp : ∀ a, a ∉ r ∧ a ∉ F → a ∉ r' ∧ a ∉ F') (hr : ∀ (i : Nat) a, r[i]? = some a → r'[i]? = some a) {a : Addr} {o : O} (q : ODen G r F H a o) : ODen G r' F' H a o := by
  cases o with
  | lst ds =>
    obtain ⟨vs, q1, q2⟩ := q
    exact ⟨vs, q1, DenL.re hp hr _ _ q2⟩
  | dic ks ds =>
    obtain ⟨vs, q1, ql, q2⟩ := q
    exact ⟨vs, q1, ql, DenL.re hp hr _ _ q2⟩
  | ins c ks ds =>
    obtain ⟨C, dx, vs, q0, q1, ql, q3, q2⟩ := q
    exact ⟨C, dx, vs, q0, q1, ql, q3, DenL.re hp hr _ _ q2⟩
  | tbl => exact q
theorem adopt_hp {D0 : Addr} : ∀ a, a ∉ r ∧ a ∉ D0 :: F → a ∉ r ++ [D0] ∧ a ∉ F := fun a ⟨h1, h2⟩ => by
  rw [List.mem_cons, not_or] at h2
  exact ⟨fun hm => by
    rcases List.mem_append.mp hm with hm | hm
    · exact h1 hm
    · exact h2.1 (by simpa using hm), h2.2⟩
theorem adopt_hr {D0 : Addr} : ∀ (i : Nat) a, r[i]? = some a → (r ++ [D0])[i]? = some a := fun i a h => by
  rw [List.getElem?_append_left (List.getElem?_eq_some_iff.mp h).1]
  exact h
/-- a foreign thing becomes one of ours -/
theorem GoodH.adopt {h : MH} {D0 : Addr} {o : O} (g : GoodH G r (D0 :: F) h H) (n : D0 ∉ F) (q : ODen G (r ++ [D0]) F H D0 o) : GoodH G (r ++ [D0]) F (h ++ [o]) H := by
  refine ⟨by simp [g.len], ?_, fun a ha => ⟨(g.fd a (List.mem_cons_of_mem _ ha)).1, fun hm => ?_⟩, fun i o' hi => ?_⟩
  · rw [List.nodup_append]
    refine ⟨g.nd, by simp, fun a ha b hb => ?_⟩
    simp at hb
    subst hb
    intro e
    subst e
    exact (g.fd a List.mem_cons_self).2 ha
  · rcases List.mem_append.mp hm with hm | hm
    · exact (g.fd a (List.mem_cons_of_mem _ ha)).2 hm
    · simp at hm
      subst hm
      exact n ha
  · by_cases hl : i < h.length
    · rw [List.getElem?_append_left hl] at hi
      obtain ⟨a, ea, qa⟩ := g.ob i o' hi
      exact ⟨a, adopt_hr i a ea, ODen.re adopt_hp adopt_hr qa⟩
    · have hl2 : i = h.length := by
        have := (List.getElem?_eq_some_iff.mp hi).1
        simp at this
        omega
      subst hl2
      rw [List.getElem?_append_right (Nat.le_refl _)] at hi
      simp at hi
      subst hi
      refine ⟨D0, ?_, q⟩
      rw [← g.len, List.getElem?_append_right (Nat.le_refl _)]
      simp
end
end
section
variable {G : Ev} {r F : List Addr} {H H1 : Hp}
-- all but the tables is kept
mutual
theorem Den.extN (e : LamX.ExtN H H1) : ∀ (d : D) (v : V), Den G r F H d v → Den G r F H1 d v
  | .non, _, .non => .non
  | .bl _, _, .bl b => .bl b
  | .int _, _, .int b => .int b
  | .str _, _, .str b => .str b
  | .ty _, _, .ty b => .ty b
  | .tup ds, _, .tup h l => .tup (by
      rcases h with h | h
      · exact .inl (e _ _ h fun ps z => by cases z)
      · exact .inr h) (DenL.extN e ds _ l)
  | .lst ds, _, .lst h n l => .lst (e _ _ h fun ps z => by cases z) n (DenL.extN e ds _ l)
  | .scr _, _, .scr h => .scr (by
      rcases h with ⟨o, h⟩ | h
      · exact .inl ⟨o, e _ _ h fun ps z => by cases z⟩
      · exact .inr h)
  | .dic ks ds, _, .dic h n hl l => .dic (e _ _ h fun ps z => by cases z) n hl (DenL.extN e ds _ l)
  | .ref _, _, .ref h => .ref h
  | .gl _, _, .gl h => .gl h
  | .dct ks ds, _, .dct h hl l => .dct (e _ _ h fun ps z => by cases z) hl (DenL.extN e ds _ l)
theorem DenL.extN (e : LamX.ExtN H H1) : ∀ (ds : List D) (vs : List V), DenL G r F H ds vs → DenL G r F H1 ds vs
  | [], _, .nil => .nil
  | d :: ds, _, .cons h t => .cons (Den.extN e d _ h) (DenL.extN e ds _ t)
end
theorem GoodH.extN {h : MH} (g : GoodH G r F h H) (e : LamX.ExtN H H1) (t : LamX.TabS H1 (lawT G.K) lamQ) : GoodH G r F h H1 := by
  refine ⟨g.len, g.nd, fun a ha => ?_, fun i o hi => ?_⟩
  · obtain ⟨⟨o, q, mu⟩, n⟩ := g.fd a ha
    cases o with
    | tbl ps =>
      have mu : a = lawT G.K := mu
      obtain ⟨ps2, t1, _⟩ := t
      rw [← mu] at t1
      exact ⟨⟨_, t1, mu⟩, n⟩
    | _ => exact ⟨⟨_, e _ _ q fun ps z => (by cases z), mu⟩, n⟩
  · obtain ⟨a, ea, q⟩ := g.ob i o hi
    refine ⟨a, ea, ?_⟩
    cases o with
    | lst ds =>
      obtain ⟨vs, q1, q2⟩ := q
      exact ⟨vs, e _ _ q1 fun ps z => (by cases z), DenL.extN e _ _ q2⟩
    | dic ks ds =>
      obtain ⟨vs, q1, ql, q2⟩ := q
      exact ⟨vs, e _ _ q1 fun ps z => (by cases z), ql, DenL.extN e _ _ q2⟩
    | ins c ks ds =>
      obtain ⟨C, dx, vs, q0, q1, ql, q3, q2⟩ := q
      exact ⟨C, dx, vs, q0, e _ _ q1 fun ps z => (by cases z), ql, e _ _ q3 fun ps z => (by cases z), DenL.extN e _ _ q2⟩
    | tbl =>
      refine ⟨q.1, ?_⟩
      rw [q.1]
      exact t
end
end CH

/-! CH1: mirror functions and their readings. -/
namespace CH
open PySem PySem.Spec PyProof.Rows L2

abbrev Mo (α : Type) := Sl → MH → Res α
def bindR {α β : Type} (m : Res α) (k : α → MH → Res β) : Res β := match m with
  | .ok a h => k a h
  | .exc c a h => .exc c a h
  | .bad => .bad
def mBind {α β : Type} (m : Mo α) (k : α → Mo β) : Mo β := fun sl h => bindR (m sl h) fun a h1 => k a sl h1
def optR {α : Type} (o : Option α) (h : MH) : Res α := match o with
  | some a => .ok a h
  | none => .bad

section
variable {G : Ev} {r r' r1 F : List Addr} {H H' H1 : Hp} {h h' h1 : MH}
theorem Ext.trans {r1 : List Addr} {H1 : Hp} {r2 : List Addr} {H2 : Hp} (a : Ext r H r1 H1) (m : Mine r1 H1) (b : Ext r1 H1 r2 H2) : Ext r H r2 H2 := by
  obtain ⟨d1, e1, f1⟩ := a.pre
  obtain ⟨d2, e2, f2⟩ := b.pre
  refine ⟨⟨d1 ++ d2, by rw [e2, e1, List.append_assoc], fun x hx => ?_⟩, fun x o e n => b.keep x o (a.keep x o e n) (a.notin e n)⟩
  rcases List.mem_append.mp hx with hx | hx
  · exact f1 x hx
  · cases q : H x with
    | none => rfl
    | some o =>
      by_cases hr : x ∈ r
      · have : x ∈ r1 := by rw [e1]; exact List.mem_append_left _ hr
        obtain ⟨o', e, _⟩ := m x this
        rw [f2 x hx] at e; cases e
      · have e3 := a.keep x o q hr
        rw [f2 x hx] at e3; cases e3
/-- all is kept -/
theorem GoodH.same (g : GoodH G r F h H) (s : Same H H') : GoodH G r F h H' := by
  have e : Ext r H r H' := .same s
  refine ⟨g.len, g.nd, fun a ha => ?_, fun i o hi => ?_⟩
  · obtain ⟨⟨o, q, mu⟩, n⟩ := g.fd a ha
    exact ⟨⟨o, s _ _ q, mu⟩, n⟩
  · obtain ⟨a, ea, q⟩ := g.ob i o hi
    refine ⟨a, ea, ?_⟩
    cases o with
    | lst ds =>
      obtain ⟨vs, q1, q2⟩ := q
      exact ⟨vs, s _ _ q1, DenL.mono g.mine e _ _ q2⟩
    | dic ks ds =>
      obtain ⟨vs, q1, ql, q2⟩ := q
      exact ⟨vs, s _ _ q1, ql, DenL.mono g.mine e _ _ q2⟩
    | ins c ks ds =>
      obtain ⟨C, dx, vs, q0, q1, ql, q3, q2⟩ := q
      exact ⟨C, dx, vs, q0, s _ _ q1, ql, s _ _ q3, DenL.mono g.mine e _ _ q2⟩
    | tbl => exact ⟨q.1, q.2.ext s⟩
theorem ODen.mono (m : Mine r H) (e : Ext r H r' H') {a : Addr} {o : O} (q : ODen G r F H a o) (ha : H' a = H a) : ODen G r' F H' a o := by
  cases o with
  | lst ds =>
    obtain ⟨vs, q1, q2⟩ := q
    exact ⟨vs, by rw [ha]; exact q1, DenL.mono m e _ _ q2⟩
  | dic ks ds =>
    obtain ⟨vs, q1, ql, q2⟩ := q
    exact ⟨vs, by rw [ha]; exact q1, ql, DenL.mono m e _ _ q2⟩
  | ins c ks ds =>
    obtain ⟨C, dx, vs, q0, q1, ql, q3, q2⟩ := q
    exact ⟨C, dx, vs, q0, by rw [ha]; exact q1, ql, e.keep _ _ q3 (m.out q3 id), DenL.mono m e _ _ q2⟩
  | tbl =>
    obtain ⟨q0, ps, q1, q2, q3⟩ := q
    exact ⟨q0, ps, by rw [ha]; exact q1, q2, fun pos cv hc => by
      obtain ⟨c, e1, e2⟩ := q3 pos cv hc
      exact ⟨c, e1, e.keep _ _ e2 (m.out e2 id)⟩⟩

def SlR (G : Ev) (r F : List Addr) (H : Hp) (sl : Sl) (σ : L2.St) : Prop := sl.length = σ.length ∧ ∀ (i : Nat) (d : D), sl[i]? = some (some d) → ∃ v, σ[i]? = some (some v) ∧ Den G r F H d v
theorem SlR.mono (m : Mine r H) (e : Ext r H r' H') {sl : Sl} {σ : L2.St} (s : SlR G r F H sl σ) : SlR G r' F H' sl σ := ⟨s.1, fun i d hd => by
  obtain ⟨v, h1, h2⟩ := s.2 i d hd
  exact ⟨v, h1, Den.mono m e _ _ h2⟩⟩
theorem SlR.set {sl : Sl} {σ : L2.St} (s : SlR G r F H sl σ) {i : Nat} {d : D} {v : V} (q : Den G r F H d v) : SlR G r F H (sl.set i (some d)) (σ.set i (some v)) := by
  refine ⟨by simp [s.1], fun j d' hd => ?_⟩
  by_cases hj : j = i
  · subst hj
    have hl : j < sl.length := by
      have := (List.getElem?_eq_some_iff.mp hd).1
      simpa using this
    rw [List.getElem?_set_self hl] at hd
    cases hd
    exact ⟨v, by rw [List.getElem?_set_self (by rw [← s.1]; exact hl)], q⟩
  · rw [List.getElem?_set_ne (Ne.symm hj)] at hd
    obtain ⟨w, h1, h2⟩ := s.2 j d' hd
    exact ⟨w, by rw [List.getElem?_set_ne (Ne.symm hj)]; exact h1, h2⟩

/-- an exception of ours: its class by name, its one field -/
def XDen (G : Ev) (r F : List Addr) (H : Hp) (c : Str) (a : Option (Str × D)) (cls : Value) (d : Option Addr) : Prop :=
  ∃ C, G.mg c = some (.ref C) ∧ cls = .ref C ∧ match a with
    | none => d = none
    | some (f, x) => ∃ dx v, d = some dx ∧ H dx = some (.xd [(f, v)]) ∧ Den G r F H x v

/-- what holds behind a mirror's answer -/
def Aft (G : Ev) (W : WX) (F : List Addr) (σ : L2.St) {α : Type} (r : List Addr) (H : Hp) (R : Res α) (Q : List Addr → Hp → α → MH → Prop) : Prop := match R with
  | .ok a h' => ∀ r' H', Ext r H r' H' → GoodH G r' F h' H' → Q r' H' a h'
  | .exc c a h' => ∀ r' H' cls x, Ext r H r' H' → GoodH G r' F h' H' → XDen G r' F H' c a cls x → W cls x σ H'
  | .bad => False
section
variable {W : WX} {σ : L2.St} {α β : Type}
theorem Aft.later {R : Res α} {Q : List Addr → Hp → α → MH → Prop} (a : Aft G W F σ r H R Q) (e : Ext r H r1 H1) (g : GoodH G r1 F h1 H1) : Aft G W F σ r1 H1 R Q := by
  cases R with
  | ok x h' => exact fun r' H' e' g' => a r' H' (e.trans g.mine e') g'
  | exc c x h' => exact fun r' H' cls y e' g' q => a r' H' cls y (e.trans g.mine e') g' q
  | bad => exact a
theorem Aft.imp {R : Res α} {Q Q' : List Addr → Hp → α → MH → Prop} (a : Aft G W F σ r H R Q) (f : ∀ r' H' x h', Ext r H r' H' → GoodH G r' F h' H' → Q r' H' x h' → Q' r' H' x h') : Aft G W F σ r H R Q' := by
  cases R with
  | ok x h' => exact fun r' H' e' g' => f r' H' x h' e' g' (a r' H' e' g')
  | exc c x h' => exact a
  | bad => exact a
theorem Aft.bind {R : Res α} {k : α → MH → Res β} {Q : List Addr → Hp → β → MH → Prop} (a : Aft G W F σ r H (bindR R k) Q) : Aft G W F σ r H R (fun r1 H1 x h1 => Aft G W F σ r1 H1 (k x h1) Q) := by
  cases R with
  | ok x h' =>
    intro r' H' e g
    exact Aft.later (h1 := h') a e g
  | exc c x h' => exact a
  | bad => exact a
theorem Aft.here {x : α} {Q : List Addr → Hp → α → MH → Prop} (a : Aft G W F σ r H (.ok x h) Q) (g : GoodH G r F h H) : Q r H x h := a r H .refl g
theorem Aft.hereS {x : α} {Q : List Addr → Hp → α → MH → Prop} (a : Aft G W F σ r H (.ok x h) Q) (g : GoodH G r F h H) (s : Same H H') : Q r H' x h := a r H' (.same s) (g.same s)
end

def tE (G : Ev) (W : WX) (f : Mo D) : TE := fun σ H Q => ∃ r F sl h, SlR G r F H sl σ ∧ GoodH G r F h H ∧ Aft G W F σ r H (f sl h) fun r' H' d _ => ∀ v, Den G r' F H' d v → Q v H'
def tT (G : Ev) (W : WX) (f : Mo Bool) : TT := fun σ H Q => ∃ r F sl h, SlR G r F H sl σ ∧ GoodH G r F h H ∧ Aft G W F σ r H (f sl h) fun r' H' b _ => Q b H'
def tA (G : Ev) (W : WX) (f : Mo (List D)) : TA := fun σ H Q => ∃ r F sl h, SlR G r F H sl σ ∧ GoodH G r F h H ∧ Aft G W F σ r H (f sl h) fun r' H' ds _ => ∀ vs, DenL G r' F H' ds vs → Q vs H'
end

/-! ### a weaker reading -/
section
variable {X : Cx} {e : Expr} {es : List Expr} {st : Stmt} {sts : List Stmt}
theorem _root_.L2.PE.imp {t t' : TE} (p : PE X e t) (f : ∀ σ H Q, t' σ H Q → t σ H Q) : PE X e t' := ⟨fun pins s σ H Q I q => p.run pins s σ H Q I (f _ _ _ q)⟩
theorem _root_.L2.PT.imp {t t' : TT} (p : PT X e t) (f : ∀ σ H Q, t' σ H Q → t σ H Q) : PT X e t' := ⟨fun pins s σ H Q I q => p.run pins s σ H Q I (f _ _ _ q)⟩
theorem _root_.L2.PW.imp {t t' : TT} (p : PW X e t) (f : ∀ σ H Q, t' σ H Q → t σ H Q) : PW X e t' := ⟨fun w pins s σ H Q I q => p.run w pins s σ H Q I (f _ _ _ q)⟩
theorem _root_.L2.PA.imp {t t' : TA} (p : PA X es t) (f : ∀ σ H Q, t' σ H Q → t σ H Q) : PA X es t' := ⟨fun pos pins s σ H Q I q => p.run pos pins s σ H Q I (f _ _ _ q)⟩
theorem _root_.L2.PS.imp {t t' : TS} (p : PS X st t) (f : ∀ D σ H, t' D σ H → t D σ H) : PS X st t' := ⟨fun pins s σ H D I q => p.run pins s σ H D I (f _ _ _ q)⟩
theorem _root_.L2.PSs.imp {t t' : TS} (p : PSs X sts t) (f : ∀ D σ H, t' D σ H → t D σ H) : PSs X sts t' := ⟨fun pins s σ H D I q => p.run pins s σ H D I (f _ _ _ q)⟩
end

abbrev evOf (X : Cx) : Ev := ⟨X.K, X.mg⟩

/-! ### expressions -/
def mVar (i : Nat) : Mo D := fun sl h => optR (sl[i]?.join) h
def mC (d : D) : Mo D := fun _ h => .ok d h
def mNil : Mo (List D) := fun _ h => .ok [] h
def mCons (a : Mo D) (b : Mo (List D)) : Mo (List D) := mBind a fun x => mBind b fun xs => fun _ h => .ok (x :: xs) h
/-- a two-place operation -/
def mOp (g : D → D → MH → Res D) (a b : Mo D) : Mo D := mBind a fun x => mBind b fun y => fun _ h => g x y h
def mUn (g : D → MH → Res D) (a : Mo D) : Mo D := mBind a fun x => fun _ h => g x h
def truthD : D → Option Bool
  | .bl b => some b
  | _ => none
def mTest (a : Mo D) : Mo Bool := mBind a fun x => fun _ h => optR (truthD x) h
def mAndT (a b : Mo Bool) : Mo Bool := mBind a fun x => if x then b else fun _ h => .ok false h
def mOrT (a b : Mo Bool) : Mo Bool := mBind a fun x => if x then fun _ h => .ok true h else b
def mNotT (a : Mo Bool) : Mo Bool := mBind a fun x => fun _ h => .ok (!x) h
def mAnd (a b : Mo D) : Mo D := mBind a fun x => match x with
  | .bl true => b
  | .bl false => fun _ h => .ok (.bl false) h
  | _ => fun _ _ => .bad
def mOr (a b : Mo D) : Mo D := mBind a fun x => match x with
  | .bl true => fun _ h => .ok (.bl true) h
  | .bl false => b
  | _ => fun _ _ => .bad
def mNot (a : Mo D) : Mo D := mBind a fun x => match x with
  | .bl b => fun _ h => .ok (.bl (!b)) h
  | _ => fun _ _ => .bad
def mIf (c : Mo Bool) (a b : Mo D) : Mo D := mBind c fun x => if x then a else b
def lim : Nat := 100000
theorem lim_ok {n : Nat} (h : n ≤ lim) : n ≤ sizeLine := Nat.le_trans h (by decide)
theorem lim_lt {n : Nat} (h : n < lim) : n < sizeLine := Nat.lt_of_lt_of_le h (by decide)
def tupR (ds : List D) (h : MH) : Res D := if ds.length ≤ lim then .ok (.tup ds) h else .bad
def lstR (ds : List D) (h : MH) : Res D := if ds.length ≤ lim then .ok (.lst ds) h else .bad
def mTup (a : Mo (List D)) : Mo D := mBind a fun ds => fun _ h => tupR ds h
def mLst (a : Mo (List D)) : Mo D := mBind a fun ds => fun _ h => lstR ds h
/-- a new list that will change -/
def newLst (ds : List D) (h : MH) : Res D := if ds.length ≤ lim then .ok (.ref h.length) (h ++ [.lst ds]) else .bad
def mNewL (a : Mo (List D)) : Mo D := mBind a fun ds => fun _ h => newLst ds h

section
variable {G : Ev} {r r' r1 F : List Addr} {H H' H1 : Hp} {h h' h1 : MH} {W : WX} {σ : L2.St}
theorem tE.of {f : Mo D} {sl : Sl} {Q : VK} (s : SlR G r F H sl σ) (g : GoodH G r F h H) (a : Aft G W F σ r H (f sl h) fun r' H' d _ => ∀ v, Den G r' F H' d v → Q v H') : tE G W f σ H Q := ⟨r, F, sl, h, s, g, a⟩
theorem tT.of {f : Mo Bool} {sl : Sl} {Q : Bool → Hp → Prop} (s : SlR G r F H sl σ) (g : GoodH G r F h H) (a : Aft G W F σ r H (f sl h) fun r' H' b _ => Q b H') : tT G W f σ H Q := ⟨r, F, sl, h, s, g, a⟩
theorem tA.of {f : Mo (List D)} {sl : Sl} {Q : List V → Hp → Prop} (s : SlR G r F H sl σ) (g : GoodH G r F h H) (a : Aft G W F σ r H (f sl h) fun r' H' ds _ => ∀ vs, DenL G r' F H' ds vs → Q vs H') : tA G W f σ H Q := ⟨r, F, sl, h, s, g, a⟩
theorem DenL.len : ∀ {ds : List D} {vs : List V}, DenL G r F H ds vs → ds.length = vs.length
  | _, _, .nil => rfl
  | _, _, .cons _ t => by simp [DenL.len t]
theorem DenL.get : ∀ {ds : List D} {vs : List V} {i : Nat} {d : D}, DenL G r F H ds vs → ds[i]? = some d → ∃ v, vs[i]? = some v ∧ Den G r F H d v
  | _, _, 0, d, .cons h _, e => by simp at e; subst e; exact ⟨_, rfl, h⟩
  | _, _, i + 1, d, .cons _ t, e => by
    obtain ⟨v, h1, h2⟩ := DenL.get (i := i) (d := d) t (by simpa using e)
    exact ⟨v, by simpa using h1, h2⟩
  | _, _, _, _, .nil, e => by simp at e
theorem DenL.app : ∀ {ds es : List D} {vs us : List V}, DenL G r F H ds vs → DenL G r F H es us → DenL G r F H (ds ++ es) (vs ++ us)
  | _, _, _, _, .nil, q => q
  | _, _, _, _, .cons a t, q => .cons a (DenL.app t q)
theorem same_new {p : Addr} {o : HO} (hp : H p = none) : Same H (upd H p o) := fun b o' e => by rw [upd_ne (ne_of_none e hp)]; exact e
theorem GoodH.fresh (g : GoodH G r F h H) {p : Addr} (hp : H p = none) : p ∉ r ∧ p ∉ F := by
  refine ⟨fun hm => ?_, fun hm => ?_⟩
  · obtain ⟨o, e, _⟩ := g.mine p hm
    rw [hp] at e; cases e
  · obtain ⟨⟨o, e, _⟩, _⟩ := g.fd p hm
    rw [hp] at e; cases e
/-- a new tuple -/
theorem new_tup {ds : List D} {vs : List V} {p : Addr} (g : GoodH G r F h H) (q : DenL G r F H ds vs) (hp : H p = none) : Den G r F (upd H p (.tup vs)) (.tup ds) (.ref p) :=
  .tup (.inl upd_same) (DenL.mono g.mine (.same (same_new hp)) _ _ q)
theorem new_lst {ds : List D} {vs : List V} {p : Addr} (g : GoodH G r F h H) (q : DenL G r F H ds vs) (hp : H p = none) : Den G r F (upd H p (.lst vs)) (.lst ds) (.ref p) :=
  .lst upd_same (g.fresh hp) (DenL.mono g.mine (.same (same_new hp)) _ _ q)
/-- a new object of ours -/
theorem grow_ext {p : Addr} (hp : H p = none) (s : Same H H') : Ext r H (r ++ [p]) H' := ⟨⟨[p], rfl, fun a ha => by simp at ha; rw [ha]; exact hp⟩, fun a o e _ => s a o e⟩
theorem GoodH.grow (g : GoodH G r F h H) {p : Addr} {o : O} (hp : H p = none) (s : Same H H') (q : ODen G (r ++ [p]) F H' p o) : GoodH G (r ++ [p]) F (h ++ [o]) H' := by
  have e : Ext r H (r ++ [p]) H' := grow_ext hp s
  refine ⟨by simp [g.len], ?_, fun a ha => ?_, fun i o' hi => ?_⟩
  · rw [List.nodup_append]
    refine ⟨g.nd, by simp, fun a ha b hb => ?_⟩
    simp at hb
    subst hb
    intro e
    subst e
    exact (g.fresh hp).1 ha
  · obtain ⟨⟨o, q2, mu⟩, n⟩ := g.fd a ha
    refine ⟨⟨o, s _ _ q2, mu⟩, ?_⟩
    intro hm
    rcases List.mem_append.mp hm with hm | hm
    · exact n hm
    · simp at hm
      subst hm
      rw [hp] at q2; cases q2
  · by_cases hl : i < h.length
    · rw [List.getElem?_append_left hl] at hi
      obtain ⟨a, ea, qa⟩ := g.ob i o' hi
      refine ⟨a, e.get ea, ODen.mono g.mine e qa ?_⟩
      obtain ⟨o2, e2, _⟩ := g.mine a (List.mem_of_getElem? ea)
      rw [e2]; exact s _ _ e2
    · have hl2 : i = h.length := by
        have := (List.getElem?_eq_some_iff.mp hi).1
        simp at this
        omega
      subst hl2
      rw [List.getElem?_append_right (Nat.le_refl _)] at hi
      simp at hi
      subst hi
      refine ⟨p, ?_, q⟩
      rw [← g.len, List.getElem?_append_right (Nat.le_refl _)]
      simp
end

section
variable {X : Cx} {W : WX} {pos : Pos} {a b c : Expr} {es : List Expr} {fa fb : Mo D} {fl : Mo (List D)} {ta tb : Mo Bool}
theorem de_var {i : Nat} {x : Str} (p : PE X (.Name x pos) (tVar i)) : PE X (.Name x pos) (tE (evOf X) W (mVar i)) := p.imp fun σ H Q ⟨r, F, sl, h, s, g, q⟩ => by
  unfold mVar at q
  cases e : sl[i]? with
  | none => rw [e] at q; exact False.elim q
  | some o =>
    rw [e] at q
    cases o with
    | none => exact False.elim q
    | some d =>
      obtain ⟨v, h1, h2⟩ := s.2 i d e
      exact ⟨v, h1, q.here g v h2⟩
theorem de_c {v : V} {d : D} (p : PE X a (tC v)) (hd : ∀ r F H, Den (evOf X) r F H d v) : PE X a (tE (evOf X) W (mC d)) := p.imp fun σ H Q ⟨r, F, sl, h, s, g, q⟩ => q.here g v (hd _ _ _)
theorem de_int {i : Int} {j : Nat} : PE X (.Constant (.int i) j pos) (tE (evOf X) W (mC (.int i))) := de_c pe_int fun _ _ _ => .int i
theorem de_bl {i : Bool} {j : Nat} : PE X (.Constant (.bool i) j pos) (tE (evOf X) W (mC (.bl i))) := de_c pe_bl fun _ _ _ => .bl i
theorem de_non {j : Nat} : PE X (.Constant .none j pos) (tE (evOf X) W (mC .non)) := de_c pe_non fun _ _ _ => .non
theorem de_str {i : Str} {j : Nat} : PE X (.Constant (.str i) j pos) (tE (evOf X) W (mC (.str i))) := de_c pe_str fun _ _ _ => .str i
theorem da_nil : PA X [] (tA (evOf X) W mNil) := pa_nil.imp fun σ H Q ⟨r, F, sl, h, s, g, q⟩ => q.here g [] .nil
theorem da_cons (ha : PE X a (tE (evOf X) W fa)) (hr : PA X es (tA (evOf X) W fl)) (hs : starEach (a :: es) X.env = (false, eval a X.env) :: starEach es X.env := by rfl) : PA X (a :: es) (tA (evOf X) W (mCons fa fl)) :=
  (pa_cons ha hr hs).imp fun σ H Q ⟨r, F, sl, h, s, g, q⟩ => by
    refine tE.of s g (q.bind.imp fun r1 H1 x h1 e1 g1 q1 v hv => ?_)
    refine tA.of (s.mono g.mine e1) g1 (q1.bind.imp fun r2 H2 xs h2 e2 g2 q2 vs hvs => ?_)
    exact q2.here g2 _ (.cons (Den.mono g1.mine e2 _ _ hv) hvs)
/-- an operation's mirror -/
def OpS (G : Ev) (rr : R2) (g : D → D → MH → Res D) : Prop := ∀ (W : WX) (σ : L2.St) (r F : List Addr) (H : Hp) (h : MH) (x y : D) (v u : V) (Q : VK), GoodH G r F h H → Den G r F H x v → Den G r F H y u →
  Aft G W F σ r H (g x y h) (fun r' H' d _ => ∀ z, Den G r' F H' d z → Q z H') → rr v u H Q
theorem de_op {op : Operator} {rr : R2} {g : D → D → MH → Res D} (ho : OpR X (binaryOp op) rr) (hs : OpS (evOf X) rr g) (ha : PE X a (tE (evOf X) W fa)) (hb : PE X b (tE (evOf X) W fb)) : PE X (.BinOp a op b pos) (tE (evOf X) W (mOp g fa fb)) :=
  (pe_op ho ha hb).imp fun σ H Q ⟨r, F, sl, h, s, g, q⟩ => by
    refine tE.of s g (q.bind.imp fun r1 H1 x h1 e1 g1 q1 v hv => ?_)
    refine tE.of (s.mono g.mine e1) g1 (q1.bind.imp fun r2 H2 y h2 e2 g2 q2 u hu => ?_)
    exact hs W σ r2 F H2 h2 x y v u Q g2 (Den.mono g1.mine e2 _ _ hv) hu q2
theorem de_cmp {op : CmpOp} {rr : R2} {g : D → D → MH → Res D} (ho : OpR X (compareOp op) rr) (hs : OpS (evOf X) rr g) (ha : PE X a (tE (evOf X) W fa)) (hb : PE X b (tE (evOf X) W fb)) (hm : behindInMarks op b = false) : PE X (.Compare a [op] [b] pos) (tE (evOf X) W (mOp g fa fb)) :=
  (pe_cmpR ho ha hb hm).imp fun σ H Q ⟨r, F, sl, h, s, g, q⟩ => by
    refine tE.of s g (q.bind.imp fun r1 H1 x h1 e1 g1 q1 v hv => ?_)
    refine tE.of (s.mono g.mine e1) g1 (q1.bind.imp fun r2 H2 y h2 e2 g2 q2 u hu => ?_)
    exact hs W σ r2 F H2 h2 x y v u Q g2 (Den.mono g1.mine e2 _ _ hv) hu q2
theorem test_of {G : Ev} {r F : List Addr} {H : Hp} {h : MH} {σ : L2.St} {x : D} {v : V} {Q : Bool → Hp → Prop} (g : GoodH G r F h H) (hv : Den G r F H x v) (q : Aft G W F σ r H (optR (truthD x) h) fun r' H' b _ => Q b H') : ∃ k, v = .bl k ∧ Q k H := by
  cases x with
  | bl b => cases hv; exact ⟨b, rfl, q.here g⟩
  | non => exact False.elim q
  | int _ => exact False.elim q
  | str _ => exact False.elim q
  | tup _ => exact False.elim q
  | lst _ => exact False.elim q
  | dic _ _ => exact False.elim q
  | ref _ => exact False.elim q
  | gl _ => exact False.elim q
  | ty _ => exact False.elim q
  | scr _ => exact False.elim q
  | dct _ _ => exact False.elim q
theorem dt_cmp {op : CmpOp} {rr : R2} {g : D → D → MH → Res D} (ho : OpR X (compareOp op) rr) (hs : OpS (evOf X) rr g) (ha : PE X a (tE (evOf X) W fa)) (hb : PE X b (tE (evOf X) W fb)) (hm : behindInMarks op b = false) : PT X (.Compare a [op] [b] pos) (tT (evOf X) W (mTest (mOp g fa fb))) :=
  (pt_cmpR ho ha hb hm).imp fun σ H Q ⟨r, F, sl, h, s, g, q⟩ => by
    have q := q.bind
    have q := q.bind
    refine tE.of s g (q.imp fun r1 H1 x h1 e1 g1 q1 v hv => ?_)
    refine tE.of (s.mono g.mine e1) g1 (q1.bind.imp fun r2 H2 y h2 e2 g2 q2 u hu => ?_)
    refine hs W σ r2 F H2 h2 x y v u _ g2 (Den.mono g1.mine e2 _ _ hv) hu (q2.imp fun r3 H3 z h3 e3 g3 q3 w hw => ?_)
    exact test_of g3 hw q3
theorem dt_val (he : PE X a (tE (evOf X) W fa)) (hh : ∀ whole, isTrue a X.env whole = (do let v ← whole; standAt a.pos; holding [v] (truthy v)) := by intro _; rfl) : PT X a (tT (evOf X) W (mTest fa)) :=
  (pt_val he hh).imp fun σ H Q ⟨r, F, sl, h, s, g, q⟩ => by
    refine tE.of s g (q.bind.imp fun r1 H1 x h1 e1 g1 q1 v hv => ?_)
    exact test_of g1 hv q1
theorem dw_and1 (ha : PT X a (tT (evOf X) W ta)) : PW X (.BoolOp .And [a] pos) (tT (evOf X) W ta) := pw_and1 ha
theorem dw_or1 (ha : PT X a (tT (evOf X) W ta)) : PW X (.BoolOp .Or [a] pos) (tT (evOf X) W ta) := pw_or1 ha
theorem dw_and (ha : PT X a (tT (evOf X) W ta)) (hb : PW X (.BoolOp .And (b :: es) pos) (tT (evOf X) W tb)) : PW X (.BoolOp .And (a :: b :: es) pos) (tT (evOf X) W (mAndT ta tb)) :=
  (pw_and ha hb).imp fun σ H Q ⟨r, F, sl, h, s, g, q⟩ => by
    refine tT.of s g (q.bind.imp fun r1 H1 x h1 e1 g1 q1 => ?_)
    cases x with
    | true => exact tT.of (s.mono g.mine e1) g1 q1
    | false => exact q1.here g1
theorem dw_or (ha : PT X a (tT (evOf X) W ta)) (hb : PW X (.BoolOp .Or (b :: es) pos) (tT (evOf X) W tb)) : PW X (.BoolOp .Or (a :: b :: es) pos) (tT (evOf X) W (mOrT ta tb)) :=
  (pw_or ha hb).imp fun σ H Q ⟨r, F, sl, h, s, g, q⟩ => by
    refine tT.of s g (q.bind.imp fun r1 H1 x h1 e1 g1 q1 => ?_)
    cases x with
    | true => exact q1.here g1
    | false => exact tT.of (s.mono g.mine e1) g1 q1
theorem dt_not (ha : PT X a (tT (evOf X) W ta)) : PT X (.UnaryOp .Not a pos) (tT (evOf X) W (mNotT ta)) :=
  (pt_not ha).imp fun σ H Q ⟨r, F, sl, h, s, g, q⟩ => by
    refine tT.of s g (q.bind.imp fun r1 H1 x h1 e1 g1 q1 => ?_)
    exact q1.here g1
theorem de_one {op : BoolOp} (ha : PE X a (tE (evOf X) W fa)) : PE X (.BoolOp op [a] pos) (tE (evOf X) W fa) := pe_one ha
theorem de_and (ha : PE X a (tE (evOf X) W fa)) (hb : PE X (.BoolOp .And (b :: es) pos) (tE (evOf X) W fb)) : PE X (.BoolOp .And (a :: b :: es) pos) (tE (evOf X) W (mAnd fa fb)) :=
  (pe_and ha hb).imp fun σ H Q ⟨r, F, sl, h, s, g, q⟩ => by
    refine tE.of s g (q.bind.imp fun r1 H1 x h1 e1 g1 q1 v hv => ?_)
    cases hv with
    | bl k => cases k with
      | true => exact ⟨true, rfl, tE.of (s.mono g.mine e1) g1 q1⟩
      | false => exact ⟨false, rfl, q1.here g1 _ (.bl false)⟩
    | _ => exact False.elim q1
theorem de_or (ha : PE X a (tE (evOf X) W fa)) (hb : PE X (.BoolOp .Or (b :: es) pos) (tE (evOf X) W fb)) : PE X (.BoolOp .Or (a :: b :: es) pos) (tE (evOf X) W (mOr fa fb)) :=
  (pe_or ha hb).imp fun σ H Q ⟨r, F, sl, h, s, g, q⟩ => by
    refine tE.of s g (q.bind.imp fun r1 H1 x h1 e1 g1 q1 v hv => ?_)
    cases hv with
    | bl k => cases k with
      | true => exact ⟨true, rfl, q1.here g1 _ (.bl true)⟩
      | false => exact ⟨false, rfl, tE.of (s.mono g.mine e1) g1 q1⟩
    | _ => exact False.elim q1
theorem de_not (ha : PE X a (tE (evOf X) W fa)) : PE X (.UnaryOp .Not a pos) (tE (evOf X) W (mNot fa)) :=
  (pe_not ha).imp fun σ H Q ⟨r, F, sl, h, s, g, q⟩ => by
    refine tE.of s g (q.bind.imp fun r1 H1 x h1 e1 g1 q1 v hv => ?_)
    cases hv with
    | bl k => exact ⟨k, rfl, q1.here g1 _ (.bl _)⟩
    | _ => exact False.elim q1
theorem de_if (hc : PT X c (tT (evOf X) W ta)) (ha : PE X a (tE (evOf X) W fa)) (hb : PE X b (tE (evOf X) W fb)) : PE X (.IfExp c a b pos) (tE (evOf X) W (mIf ta fa fb)) :=
  (pe_ifExp hc ha hb).imp fun σ H Q ⟨r, F, sl, h, s, g, q⟩ => by
    refine tT.of s g (q.bind.imp fun r1 H1 x h1 e1 g1 q1 => ?_)
    cases x with
    | true => exact tE.of (s.mono g.mine e1) g1 q1
    | false => exact tE.of (s.mono g.mine e1) g1 q1
theorem tupR_ok {ds : List D} {h : MH} (z : ds.length ≤ lim) : tupR ds h = .ok (.tup ds) h := by unfold tupR; rw [if_pos z]
theorem de_tup {k : Nat} (hl : PA X es (tA (evOf X) W fl)) : PE X (.Tuple es k pos) (tE (evOf X) W (mTup fl)) :=
  (pe_tup hl).imp fun σ H Q ⟨r, F, sl, h, s, g, q⟩ => by
    refine tA.of s g (q.bind.imp fun r1 H1 ds h1 e1 g1 q1 vs hvs => ?_)
    have q1 : Aft (evOf X) W F σ r1 H1 (tupR ds h1) _ := q1
    by_cases z : ds.length ≤ lim
    · rw [tupR_ok z] at q1
      refine ⟨by rw [← hvs.len]; exact lim_ok z, fun p hp => ?_⟩
      exact q1.hereS g1 (same_new hp) _ (new_tup g1 hvs hp)
    · unfold tupR at q1; rw [if_neg z] at q1; exact False.elim q1
theorem de_lst (hl : PA X es (tA (evOf X) W fl)) : PE X (.List es pos) (tE (evOf X) W (mLst fl)) :=
  (pe_lst hl).imp fun σ H Q ⟨r, F, sl, h, s, g, q⟩ => by
    refine tA.of s g (q.bind.imp fun r1 H1 ds h1 e1 g1 q1 vs hvs => ?_)
    have q1 : Aft (evOf X) W F σ r1 H1 (lstR ds h1) _ := q1
    unfold lstR at q1
    by_cases z : ds.length ≤ lim
    · rw [if_pos z] at q1
      refine ⟨by rw [← hvs.len]; exact lim_ok z, fun p hp => ?_⟩
      exact q1.hereS g1 (same_new hp) _ (new_lst g1 hvs hp)
    · rw [if_neg z] at q1; exact False.elim q1
theorem de_newL (hl : PA X es (tA (evOf X) W fl)) : PE X (.List es pos) (tE (evOf X) W (mNewL fl)) :=
  (pe_lst hl).imp fun σ H Q ⟨r, F, sl, h, s, g, q⟩ => by
    refine tA.of s g (q.bind.imp fun r1 H1 ds h1 e1 g1 q1 vs hvs => ?_)
    have q1 : Aft (evOf X) W F σ r1 H1 (newLst ds h1) _ := q1
    unfold newLst at q1
    by_cases z : ds.length ≤ lim
    · rw [if_pos z] at q1
      refine ⟨by rw [← hvs.len]; exact lim_ok z, fun p hp => ?_⟩
      have e2 : Ext r1 H1 (r1 ++ [p]) (upd H1 p (.lst vs)) := grow_ext hp (same_new hp)
      refine q1 (r1 ++ [p]) _ e2 (g1.grow hp (same_new hp) ⟨vs, upd_same, DenL.mono g1.mine e2 _ _ hvs⟩) _ (.ref ?_)
      rw [← g1.len, List.getElem?_append_right (Nat.le_refl _)]
      simp
    · rw [if_neg z] at q1; exact False.elim q1
end
end CH

/-! CH2: statements, targets, loops, comprehensions, calls. -/
namespace CH
open PySem PySem.Spec PyProof.Rows L2

inductive SRes where
  | nx (sl : Sl) (h : MH) | rt (d : D) (h : MH) | bk (sl : Sl) (h : MH) | ct (sl : Sl) (h : MH)
  | exc (c : Str) (a : Option (Str × D)) (sl : Sl) (h : MH) | bad
abbrev Ms := Sl → MH → SRes
/-- an expression's answer, then a statement's end -/
def bindS {α : Type} (sl : Sl) (m : Res α) (k : α → MH → SRes) : SRes := match m with
  | .ok a h => k a h
  | .exc c a h => .exc c a sl h
  | .bad => .bad
def sSkip : Ms := fun sl h => .nx sl h
def seqR (m : SRes) (k : Ms) : SRes := match m with
  | .nx sl h => k sl h
  | x => x
def sSeq (a b : Ms) : Ms := fun sl h => seqR (a sl h) b
def sExpr (f : Mo D) : Ms := fun sl h => bindS sl (f sl h) fun _ h1 => .nx sl h1
def sRet (f : Mo D) : Ms := fun sl h => bindS sl (f sl h) fun d h1 => .rt d h1
def sRetN : Ms := fun _ h => .rt .non h
def sIf (c : Mo Bool) (a b : Ms) : Ms := fun sl h => bindS sl (c sl h) fun x h1 => if x then a sl h1 else b sl h1
def sNever : Ms := fun _ _ => .bad
def sSet (i : Nat) (f : Mo D) : Ms := fun sl h => bindS sl (f sl h) fun d h1 => .nx (sl.set i (some d)) h1
def sPar (i j : Nat) (f : Mo (List D)) : Ms := fun sl h => bindS sl (f sl h) fun ds h1 => match ds with
  | [d, e] => .nx ((sl.set i (some d)).set j (some e)) h1
  | _ => .bad

section
variable (G : Ev) (W : WX) (F : List Addr)
def SAft (r : List Addr) (H : Hp) (R : SRes) (E : Ends) : Prop := match R with
  | .nx sl h' => ∀ r' H' σ', Ext r H r' H' → GoodH G r' F h' H' → SlR G r' F H' sl σ' → E.nx σ' H'
  | .ct sl h' => ∀ r' H' σ', Ext r H r' H' → GoodH G r' F h' H' → SlR G r' F H' sl σ' → E.ct σ' H'
  | .bk sl h' => ∀ r' H' σ', Ext r H r' H' → GoodH G r' F h' H' → SlR G r' F H' sl σ' → E.bk σ' H'
  | .rt d h' => ∀ r' H' v, Ext r H r' H' → GoodH G r' F h' H' → Den G r' F H' d v → E.rt v H'
  | .exc c a sl h' => ∀ r' H' σ' cls x, Ext r H r' H' → GoodH G r' F h' H' → SlR G r' F H' sl σ' → XDen G r' F H' c a cls x → W cls x σ' H'
  | .bad => False
end
def tS (G : Ev) (W : WX) (f : Ms) : TS := fun E σ H => ∃ r F sl h, SlR G r F H sl σ ∧ GoodH G r F h H ∧ SAft G W F r H (f sl h) E

section
variable {G : Ev} {r r' r1 F : List Addr} {H H' H1 : Hp} {h h' h1 : MH} {W : WX} {σ : L2.St} {α : Type} {sl : Sl} {E E' : Ends}
theorem SAft.later {R : SRes} (a : SAft G W F r H R E) (e : Ext r H r1 H1) (g : GoodH G r1 F h1 H1) : SAft G W F r1 H1 R E := by
  cases R with
  | nx s h' => exact fun r' H' σ' e' g' => a r' H' σ' (e.trans g.mine e') g'
  | ct s h' => exact fun r' H' σ' e' g' => a r' H' σ' (e.trans g.mine e') g'
  | bk s h' => exact fun r' H' σ' e' g' => a r' H' σ' (e.trans g.mine e') g'
  | rt d h' => exact fun r' H' v e' g' => a r' H' v (e.trans g.mine e') g'
  | exc c x s h' => exact fun r' H' σ' cls y e' g' => a r' H' σ' cls y (e.trans g.mine e') g'
  | bad => exact a
theorem SAft.bindS {R : Res α} {k : α → MH → SRes} (s : SlR G r F H sl σ) (g : GoodH G r F h H) (a : SAft G W F r H (bindS sl R k) E) : Aft G W F σ r H R (fun r1 H1 x h1 => SAft G W F r1 H1 (k x h1) E) := by
  cases R with
  | ok x h' =>
    intro r' H' e g'
    exact SAft.later (h1 := h') a e g'
  | exc c x h' =>
    intro r' H' cls y e g' q
    exact a r' H' σ cls y e g' (s.mono g.mine e) q
  | bad => exact a
theorem tS.of {f : Ms} (s : SlR G r F H sl σ) (g : GoodH G r F h H) (a : SAft G W F r H (f sl h) E) : tS G W f E σ H := ⟨r, F, sl, h, s, g, a⟩
theorem SAft.nxh (a : SAft G W F r H (.nx sl h) E) (s : SlR G r F H sl σ) (g : GoodH G r F h H) : E.nx σ H := a r H σ .refl g s
theorem SAft.seq {R : SRes} {k : Ms} (a : SAft G W F r H (seqR R k) E) : SAft G W F r H R { E with nx := tS G W k E } := by
  cases R with
  | nx s h' =>
    intro r' H' σ' e g' s'
    exact tS.of s' g' (SAft.later (h1 := h') a e g')
  | ct s h' => exact a
  | bk s h' => exact a
  | rt d h' => exact a
  | exc c x s h' => exact a
  | bad => exact a
end

section
variable {X : Cx} {W : WX} {pos : Pos} {e c : Expr} {es : List Expr} {st : Stmt} {rest a b : List Stmt} {f : Mo D} {fl : Mo (List D)} {fc : Mo Bool} {s t : Ms}
theorem dss_nil : PSs X [] (tS (evOf X) W sSkip) := pss_nil.imp fun E σ H ⟨r, F, sl, h, s, g, q⟩ => q.nxh s g
theorem dss_cons (h1 : PS X st (tS (evOf X) W s)) (h2 : PSs X rest (tS (evOf X) W t)) : PSs X (st :: rest) (tS (evOf X) W (sSeq s t)) :=
  (pss_cons h1 h2).imp fun E σ H ⟨r, F, sl, h, s, g, q⟩ => tS.of s g q.seq
theorem dss_one (h1 : PS X st (tS (evOf X) W s)) : PSs X [st] (tS (evOf X) W s) := pss_one h1
theorem ds_pass : PS X (.Pass pos) (tS (evOf X) W sSkip) := ps_pass.imp fun E σ H ⟨r, F, sl, h, s, g, q⟩ => q.nxh s g
theorem ds_doc {x : Str} {j : Nat} {pos' : Pos} : PS X (.Expr (.Constant (.str x) j pos) pos') (tS (evOf X) W sSkip) := ps_doc.imp fun E σ H ⟨r, F, sl, h, s, g, q⟩ => q.nxh s g
theorem ds_expr (he : PE X e (tE (evOf X) W f)) (hs : swapsWith e none pos.line X.env = pure false := by rfl) : PS X (.Expr e pos) (tS (evOf X) W (sExpr f)) :=
  (ps_expr he hs).imp fun E σ H ⟨r, F, sl, h, s, g, q⟩ => tE.of s g ((q.bindS s g).imp fun r1 H1 x h1 e1 g1 q1 v hv => q1.nxh (s.mono g.mine e1) g1)
theorem ds_ret (he : PE X e (tE (evOf X) W f)) : PS X (.Return (some e) pos) (tS (evOf X) W (sRet f)) :=
  (ps_ret he).imp fun E σ H ⟨r, F, sl, h, s, g, q⟩ => tE.of s g ((q.bindS s g).imp fun r1 H1 x h1 e1 g1 q1 v hv => q1 r1 H1 v .refl g1 hv)
theorem ds_retN : PS X (.Return none pos) (tS (evOf X) W sRetN) := ps_retN.imp fun E σ H ⟨r, F, sl, h, s, g, q⟩ => q r H .non .refl g .non
theorem ds_never : PS X st (tS (evOf X) W sNever) := ps_never.imp fun E σ H ⟨r, F, sl, h, s, g, q⟩ => q
theorem ds_if (hc : PT X c (tT (evOf X) W fc)) (ha : PSs X a (tS (evOf X) W s)) (hb : PSs X b (tS (evOf X) W t)) : PS X (.If c a b pos) (tS (evOf X) W (sIf fc s t)) :=
  (ps_if hc ha hb).imp fun E σ H ⟨r, F, sl, h, s, g, q⟩ => tT.of s g ((q.bindS s g).imp fun r1 H1 x h1 e1 g1 q1 => by
    cases x with
    | true => exact tS.of (s.mono g.mine e1) g1 q1
    | false => exact tS.of (s.mono g.mine e1) g1 q1)
theorem ds_set {i : Nat} {x : Str} {pos' : Pos} (hN : X.N.Nodup) (hi : X.N[i]? = some x) (hx : Loc X.env.scope x) (he : PE X e (tE (evOf X) W f)) (hs : swapsWith e (some (.Name x pos')) pos.line X.env = pure false := by rfl)
    (hf : X.fn x = true ∨ X.env.scope.names.lookup x = some .local := by first | exact .inl rfl | exact .inr rfl | assumption) : PS X (.Assign [.Name x pos'] e pos) (tS (evOf X) W (sSet i f)) :=
  (ps_set hN hi hx he hs hf).imp fun E σ H ⟨r, F, sl, h, s, g, q⟩ => tE.of s g ((q.bindS s g).imp fun r1 H1 x h1 e1 g1 q1 v hv => q1.nxh ((s.mono g.mine e1).set hv) g1)
theorem ds_par {i j : Nat} {x y : Str} {a b : Expr} {px py pt : Pos} {kt k2 : Nat} {pt2 : Pos} (hc : X.calm = true) (hN : X.N.Nodup) (hi : X.N[i]? = some x) (hj : X.N[j]? = some y) (hij : i ≠ j)
    (p : PS X (.Assign [.Tuple [.Name x px, .Name y py] kt pt] (.Tuple [a, b] k2 pt2) pos) (tPar i j (tA (evOf X) W fl))) : PS X (.Assign [.Tuple [.Name x px, .Name y py] kt pt] (.Tuple [a, b] k2 pt2) pos) (tS (evOf X) W (sPar i j fl)) :=
  p.imp fun E σ H ⟨r, F, sl, h, s, g, q⟩ => tA.of s g ((q.bindS s g).imp fun r1 H1 ds h1 e1 g1 q1 vs hv => by
    cases hv with
    | nil => exact False.elim q1
    | cons h1 t1 => cases t1 with
      | nil => exact False.elim q1
      | cons h2 t2 => cases t2 with
        | nil => exact ⟨_, _, rfl, q1.nxh (((s.mono g.mine e1).set h1).set h2) g1⟩
        | cons _ _ => exact False.elim q1)
end

/-! ### targets that are names -/
inductive Tg where
  | nm (i : Nat) | tp (is : List Nat)
def setAll : List Nat → List D → Sl → Option Sl
  | [], [], sl => some sl
  | i :: is, d :: ds, sl => setAll is ds (sl.set i (some d))
  | _, _, _ => none
def tgD : Tg → D → Sl → Option Sl
  | .nm i, d, sl => some (sl.set i (some d))
  | .tp is, .tup ds, sl => setAll is ds sl
  | .tp _, _, _ => none
def gNames : List Nat → TGs
  | [] => gNil
  | i :: is => gCons (gName i) (gNames is)
def tgV (K : PySem.W.Frag) : Tg → TG
  | .nm i => gName i
  | .tp is => gTup K is.length (gNames is)
def Tg.slots : Tg → List Nat
  | .nm i => [i]
  | .tp is => is
section
variable {G : Ev} {r r' r1 F : List Addr} {H H' H1 : Hp} {h h' h1 : MH} {W : WX} {σ : L2.St}
/-- the slots at vs may have changed, no other -/
def Only (vs : List Nat) (σ σ' : L2.St) : Prop := wipe σ' vs = wipe σ vs
theorem wipe_set {σ : L2.St} {i : Nat} {x : Option V} : ∀ {vs : List Nat}, i ∈ vs → wipe (σ.set i x) vs = wipe σ vs
  | [], hm => by cases hm
  | v :: vs, hm => by
    unfold wipe
    by_cases hi : i ∈ vs
    · rw [wipe_set hi]
    · rcases List.mem_cons.mp hm with e | e
      · subst e
        have comm : ∀ (ws : List Nat), i ∉ ws → wipe (σ.set i x) ws = (wipe σ ws).set i x := by
          intro ws
          induction ws with
          | nil => intro _; rfl
          | cons w ws ih =>
            intro hn
            unfold wipe
            rw [ih (fun z => hn (List.mem_cons_of_mem _ z)), List.set_comm]
            intro e
            exact hn (by rw [e]; exact List.mem_cons_self)
        rw [comm vs hi, List.set_set]
      · exact absurd e hi
theorem gNames_of : ∀ {is : List Nat} {ds : List D} {vs : List V} {sl sl' : Sl} {σ : L2.St} {Q : L2.St → Hp → Prop} {own : List Nat}, DenL G r F H ds vs → setAll is ds sl = some sl' → SlR G r F H sl σ → (∀ i ∈ is, i ∈ own) →
    (∀ σ', SlR G r F H sl' σ' → Only own σ σ' → Q σ' H) → gNames is vs σ H Q
  | [], [], _, sl, sl', σ, Q, own, .nil, e, s, _, q => by
    cases e
    exact ⟨rfl, q σ s rfl⟩
  | i :: is, d :: ds, _, sl, sl', σ, Q, own, .cons hd tl, e, s, ho, q => by
    refine ⟨_, _, rfl, ?_⟩
    exact gNames_of (is := is) tl e (s.set hd) (fun j hj => ho j (List.mem_cons_of_mem _ hj)) fun σ' s' o' => q σ' s' (Eq.trans o' (wipe_set (ho i List.mem_cons_self)))
  | [], _ :: _, _, _, _, _, _, _, .cons _ _, e, _, _, _ => by cases e
  | _ :: _, [], _, _, _, _, _, _, .nil, e, _, _, _ => by cases e
theorem setAll_len : ∀ {is : List Nat} {ds : List D} {sl sl' : Sl}, setAll is ds sl = some sl' → ds.length = is.length
  | [], [], _, _, _ => rfl
  | _ :: is, _ :: ds, _, _, e => by simp [setAll_len (is := is) (ds := ds) e]
  | [], _ :: _, _, _, e => by cases e
  | _ :: _, [], _, _, e => by cases e
theorem tgV_of {tg : Tg} {d : D} {v : V} {sl sl' : Sl} {Q : L2.St → Hp → Prop} (hd : Den G r F H d v) (e : tgD tg d sl = some sl') (s : SlR G r F H sl σ) (q : ∀ σ', SlR G r F H sl' σ' → Only tg.slots σ σ' → Q σ' H) : tgV G.K tg v σ H Q := by
  cases tg with
  | nm i =>
    cases e
    exact q _ (s.set hd) (wipe_set (by simp [Tg.slots]))
  | tp is =>
    cases d with
    | tup ds =>
      cases hd with
      | tup hq hl =>
        refine ⟨_, _, rfl, hq.sq, by rw [← hl.len]; exact setAll_len e, gNames_of hl e s (fun i hi => hi) q⟩
    | _ => cases e
end

/-! ### what is walked -/
/-- at every later state turn i gives the i-th item -/
def ItD (G : Ev) (r F : List Addr) (H : Hp) (J : It) (xs : List D) : Prop := ∀ r' F' H', ExtF r F H r' H' → Mine r' H' → Foe F H F' → ∀ i,
  (∀ d, xs[i]? = some d → J.go i H' ∧ ∀ x H'', J.yld i H' x H'' → Same H' H'' ∧ Den G r' F' H'' d x) ∧ (xs[i]? = none → J.stop i H')
def tI (G : Ev) (W : WX) (f : Mo (List D)) : TI := fun σ H R => ∃ r F sl h, SlR G r F H sl σ ∧ GoodH G r F h H ∧ Aft G W F σ r H (f sl h) fun r' H' xs _ => ∀ J, ItD G r' F H' J xs → R J H'
theorem tI.of {G : Ev} {r F : List Addr} {H : Hp} {h : MH} {W : WX} {σ : L2.St} {f : Mo (List D)} {sl : Sl} {R : It → Hp → Prop} (s : SlR G r F H sl σ) (g : GoodH G r F h H)
    (a : Aft G W F σ r H (f sl h) fun r' H' xs _ => ∀ J, ItD G r' F H' J xs → R J H') : tI G W f σ H R := ⟨r, F, sl, h, s, g, a⟩
theorem _root_.L2.PI.imp {X : Cx} {tg iter : Expr} {t t' : TI} (p : PI X tg iter t) (f : ∀ σ H R, t' σ H R → t σ H R) : PI X tg iter t' := ⟨fun pins s σ H R I q => p.run pins s σ H R I (f _ _ _ q)⟩
def itemsL : D → Option (List D)
  | .lst xs => some xs
  | _ => none
def itemsT : D → Option (List D)
  | .tup xs => some xs
  | _ => none
def mItL (f : Mo D) : Mo (List D) := mBind f fun d => fun _ h => optR (itemsL d) h
def mItT (f : Mo D) : Mo (List D) := mBind f fun d => fun _ h => optR (itemsT d) h
def zipD : List D → List D → List D
  | x :: xs, y :: ys => .tup [x, y] :: zipD xs ys
  | _, _ => []
def mItZ (f : Mo (List D)) : Mo (List D) := mBind f fun ds => fun _ h => match ds with
  | [.tup xs, .tup ys] => .ok (zipD xs ys) h
  | _ => .bad
def rangeD (lo : Int) : Nat → List D
  | 0 => []
  | n + 1 => .int lo :: rangeD (lo + 1) n
def big : Int := 1000000000
def mItR1 (f : Mo (List D)) : Mo (List D) := mBind f fun ds => fun _ h => match ds with
  | [.int j] => if -big ≤ j ∧ j ≤ big then .ok (rangeD 0 j.toNat) h else .bad
  | _ => .bad
def mItR2 (f : Mo (List D)) : Mo (List D) := mBind f fun ds => fun _ h => match ds with
  | [.int i, .int j] => if (-big ≤ i ∧ i ≤ big) ∧ -big ≤ j ∧ j ≤ big then .ok (rangeD i (j - i).toNat) h else .bad
  | _ => .bad
section
variable {G : Ev} {r r' r1 F : List Addr} {H H' H1 : Hp} {h h' h1 : MH} {W : WX} {σ : L2.St}
theorem DenL.none {ds : List D} {vs : List V} {i : Nat} (q : DenL G r F H ds vs) (e : ds[i]? = none) : vs.length ≤ i := by
  rw [← q.len]; exact List.getElem?_eq_none_iff.mp e
theorem itd_tup {a : Addr} {xs : List D} {vs : List V} (m : Mine r H) (mf : Mine F H) (hq : TuA G.K H a vs) (hl : DenL G r F H xs vs) : ItD G r F H (Itt G.K a) xs := by
  intro r' F' H' e m' fo i
  have hq' := (e.seqT m mf hq).sq
  refine ⟨fun d hd => ?_, fun hd => ⟨vs, hq', hl.none hd⟩⟩
  obtain ⟨v, h1, h2⟩ := hl.get hd
  refine ⟨⟨vs, v, hq', h1⟩, fun x H'' ⟨e1, y⟩ => ?_⟩
  subst e1
  have := y vs hq'
  rw [h1] at this; cases this
  exact ⟨Same.refl _, Den.monoX m mf e fo _ _ h2⟩
theorem itd_lst {a : Addr} {xs : List D} {vs : List V} (m : Mine r H) (mf : Mine F H) (hq : H a = some (.lst vs)) (hn : a ∉ r ∧ a ∉ F) (hl : DenL G r F H xs vs) : ItD G r F H (Itl G.K a) xs := by
  intro r' F' H' e m' fo i
  have hq' : SqL G.K H' a vs := SqL.of (e.keep _ _ hq hn.1 hn.2)
  refine ⟨fun d hd => ?_, fun hd => ⟨vs, hq', hl.none hd⟩⟩
  obtain ⟨v, h1, h2⟩ := hl.get hd
  refine ⟨⟨vs, v, hq', h1⟩, fun x H'' ⟨e1, y⟩ => ?_⟩
  subst e1
  have := y vs hq'
  rw [h1] at this; cases this
  exact ⟨Same.refl _, Den.monoX m mf e fo _ _ h2⟩
theorem rangeD_get : ∀ {n : Nat} {lo : Int} {i : Nat}, (i < n → (rangeD lo n)[i]? = some (.int (lo + i))) ∧ (n ≤ i → (rangeD lo n)[i]? = none)
  | 0, lo, i => ⟨fun h => absurd h (Nat.not_lt_zero _), fun _ => rfl⟩
  | n + 1, lo, 0 => ⟨fun _ => by simp [rangeD], fun h => by omega⟩
  | n + 1, lo, i + 1 => by
    have ih := rangeD_get (n := n) (lo := lo + 1) (i := i)
    refine ⟨fun h => ?_, fun h => ?_⟩
    · show (rangeD (lo + 1) n)[i]? = _
      rw [ih.1 (by omega)]
      congr 2
      push_cast
      omega
    · show (rangeD (lo + 1) n)[i]? = _
      exact ih.2 (by omega)
theorem itd_range {lo : Int} {n : Nat} : ItD G r F H (Itr lo n) (rangeD lo n) := by
  intro r' F' H' e m' fo i
  by_cases hi : i < n
  · have h1 := (rangeD_get (lo := lo)).1 hi
    refine ⟨fun d hd => ⟨hi, fun x H'' ⟨e1, e2⟩ => ?_⟩, fun hd => by rw [h1] at hd; cases hd⟩
    rw [h1] at hd; cases hd
    subst e1 e2
    exact ⟨Same.refl _, .int _⟩
  · have h1 := (rangeD_get (lo := lo)).2 (Nat.not_lt.mp hi)
    exact ⟨fun d hd => by (rw [h1] at hd; cases hd), fun _ => Nat.not_lt.mp hi⟩
theorem zipD_get : ∀ {xs ys : List D} {i : Nat}, (∀ d, (zipD xs ys)[i]? = some d → ∃ x y, xs[i]? = some x ∧ ys[i]? = some y ∧ d = .tup [x, y]) ∧ ((zipD xs ys)[i]? = none → xs[i]? = none ∨ ys[i]? = none)
  | [], ys, i => ⟨fun d h => by simp [zipD] at h, fun _ => .inl (by simp)⟩
  | x :: xs, [], i => ⟨fun d h => by simp [zipD] at h, fun _ => .inr (by simp)⟩
  | x :: xs, y :: ys, 0 => ⟨fun d h => by simp [zipD] at h; exact ⟨x, y, rfl, rfl, h.symm⟩, fun h => by simp [zipD] at h⟩
  | x :: xs, y :: ys, i + 1 => by
    have ih := zipD_get (xs := xs) (ys := ys) (i := i)
    exact ⟨fun d h => by simpa using ih.1 d (by simpa [zipD] using h), fun h => by simpa using ih.2 (by simpa [zipD] using h)⟩
theorem itd_zipT {a b : Addr} {xs ys : List D} {vs us : List V} (m : Mine r H) (mf : Mine F H) (hq : TuA G.K H a vs) (hl : DenL G r F H xs vs) (hq2 : TuA G.K H b us) (hl2 : DenL G r F H ys us) : ItD G r F H (RZ.ItzT G.K a b) (zipD xs ys) := by
  intro r' F' H' e m' fo i
  have p1 := (e.seqT m mf hq).sq
  have p2 := (e.seqT m mf hq2).sq
  refine ⟨fun d hd => ?_, fun hd => ?_⟩
  · obtain ⟨x, y, hx, hy, rfl⟩ := zipD_get.1 d hd
    obtain ⟨v, h1, h2⟩ := hl.get hx
    obtain ⟨u, h3, h4⟩ := hl2.get hy
    refine ⟨⟨vs, us, v, u, p1, p2, h1, h3⟩, fun z H'' ⟨T, x', y', ez, hT, eH, f1, f2⟩ => ?_⟩
    have e1 := f1 vs p1
    have e2 := f2 us p2
    rw [h1] at e1; cases e1
    rw [h3] at e2; cases e2
    subst ez eH
    have sm : Same H' (upd H' T (.tup [v, u])) := same_new hT
    have q1 := Den.monoX m mf e fo _ _ h2
    have q2 := Den.monoX m mf e fo _ _ h4
    refine ⟨sm, .tup (.inl upd_same) ?_⟩
    exact .cons (Den.mono m' (.same sm) _ _ q1) (.cons (Den.mono m' (.same sm) _ _ q2) .nil)
  · rcases zipD_get.2 hd with q | q
    · exact ⟨vs, us, p1, p2, .inl (hl.none q)⟩
    · exact ⟨vs, us, p1, p2, .inr (hl2.none q)⟩
end
end CH

/-! CH3: loops, comprehensions, calls. -/
namespace CH
open PySem PySem.Spec PyProof.Rows L2

/-! ### what is walked, as expressions -/
section
variable {X : Cx} {W : WX} {pos : Pos} {e e2 : Expr} {tg : Expr} {f : Mo D} {fl : Mo (List D)}
theorem di_tup (he : PE X e (tE (evOf X) W f)) : PI X tg e (tI (evOf X) W (mItT f)) := (pi_tup he).imp fun σ H R ⟨r, F, sl, h, s, g, q⟩ =>
  tE.of s g (q.bind.imp fun r1 H1 x h1 e1 g1 q1 v hv => by
    cases hv with
    | tup hq hl => exact ⟨_, rfl, ⟨_, hq.sq⟩, q1.here g1 _ (itd_tup g1.mine g1.mineF hq hl)⟩
    | _ => exact False.elim q1)
theorem di_lst (he : PE X e (tE (evOf X) W f)) : PI X tg e (tI (evOf X) W (mItL f)) := (pi_list he).imp fun σ H R ⟨r, F, sl, h, s, g, q⟩ =>
  tE.of s g (q.bind.imp fun r1 H1 x h1 e1 g1 q1 v hv => by
    cases hv with
    | lst hq hn hl => exact ⟨_, rfl, ⟨_, SqL.of hq⟩, q1.here g1 _ (itd_lst g1.mine g1.mineF hq hn hl)⟩
    | _ => exact False.elim q1)
theorem den_inv_int {G : Ev} {r F : List Addr} {H : Hp} {i : Int} {v : V} (h : Den G r F H (.int i) v) : v = .int i := by cases h; rfl
theorem di_range1 {p : Pos} (hg : Gl X "range") (hm : X.mg "range" = none) (ha : PA X [e] (tA (evOf X) W fl)) (hs : starEach [e] X.env = [(false, eval e X.env)] := by rfl) : PI X tg (.Call (.Name "range" p) [e] [] pos) (tI (evOf X) W (mItR1 fl)) :=
  (pi_range1 hg hm ha hs).imp fun σ H R ⟨r, F, sl, h, s, g, q⟩ => tA.of s g (q.bind.imp fun r1 H1 ds h1 e1 g1 q1 vs hv => by
    match ds, hv with
    | [], _ => exact False.elim q1
    | [d], .cons hd .nil =>
      cases hd with
      | int j =>
        have q1 : Aft (evOf X) W F σ r1 H1 (if -big ≤ j ∧ j ≤ big then Res.ok (rangeD 0 j.toNat) h1 else .bad) _ := q1
        by_cases z : -big ≤ j ∧ j ≤ big
        · rw [if_pos z] at q1
          unfold big at z
          exact ⟨j, rfl, by omega, by omega, q1.here g1 _ itd_range⟩
        · rw [if_neg z] at q1; exact False.elim q1
      | _ => exact False.elim q1
    | d :: _ :: _, hv => cases d <;> exact False.elim q1)
theorem di_range2 {p : Pos} (hg : Gl X "range") (hm : X.mg "range" = none) (ha : PA X [e, e2] (tA (evOf X) W fl)) (hs : starEach [e, e2] X.env = [(false, eval e X.env), (false, eval e2 X.env)] := by rfl) (hs2 : starEach [e2] X.env = [(false, eval e2 X.env)] := by rfl) :
    PI X tg (.Call (.Name "range" p) [e, e2] [] pos) (tI (evOf X) W (mItR2 fl)) :=
  (pi_range2 hg hm ha hs hs2).imp fun σ H R ⟨r, F, sl, h, s, g, q⟩ => tA.of s g (q.bind.imp fun r1 H1 ds h1 e1 g1 q1 vs hv => by
    match ds, hv with
    | [], _ => exact False.elim q1
    | [d], _ => cases d <;> exact False.elim q1
    | [d, d'], .cons hd (.cons hd' .nil) =>
      cases hd with
      | int i =>
        cases hd' with
        | int j =>
          have q1 : Aft (evOf X) W F σ r1 H1 (if (-big ≤ i ∧ i ≤ big) ∧ -big ≤ j ∧ j ≤ big then Res.ok (rangeD i (j - i).toNat) h1 else .bad) _ := q1
          by_cases z : (-big ≤ i ∧ i ≤ big) ∧ -big ≤ j ∧ j ≤ big
          · rw [if_pos z] at q1
            unfold big at z
            exact ⟨i, j, rfl, by omega, q1.here g1 _ itd_range⟩
          · rw [if_neg z] at q1; exact False.elim q1
        | _ => exact False.elim q1
      | _ => exact False.elim q1
    | d :: d' :: _ :: _, hv => cases d <;> cases d' <;> exact False.elim q1)
theorem di_zipT {p tpos : Pos} {elts : List Expr} {kk : Nat} (hg : Gl X "zip") (hm : X.mg "zip" = none) (ha : PA X [e, e2] (tA (evOf X) W fl))
    (hs : starEach [e, e2] X.env = (false, eval e X.env) :: starEach [e2] X.env := by rfl) (hpl : (backTo pos (starEach [e2] X.env)).any (·.1) = false := by rfl) :
    PI X (.Tuple elts kk tpos) (.Call (.Name "zip" p) [e, e2] [] pos) (tI (evOf X) W (mItZ fl)) :=
  (RZ.pi_zipA hg hm ha hs hpl).imp fun σ H R ⟨r, F, sl, h, s, g, q⟩ => tA.of s g (q.bind.imp fun r1 H1 ds h1 e1 g1 q1 vs hv => by
    match ds, hv with
    | [], _ => exact False.elim q1
    | [d], _ => cases d <;> exact False.elim q1
    | [d, d'], .cons hd (.cons hd' .nil) =>
      cases hd with
      | tup hq hl =>
        cases hd' with
        | tup hq' hl' => exact ⟨_, _, _, _, rfl, .inr ⟨hq.sq, hq'.sq, q1.here g1 _ (itd_zipT g1.mine g1.mineF hq hl hq' hl')⟩⟩
        | _ => exact False.elim q1
      | _ => cases d' <;> exact False.elim q1
    | d :: d' :: _ :: _, hv => cases d <;> cases d' <;> exact False.elim q1)
end

/-! ### for -/
/-- behind a turn -/
def turnR (k : Ms) : SRes → SRes
  | .nx sl h => k sl h
  | .ct sl h => k sl h
  | .bk sl h => .nx sl h
  | .rt d h => .rt d h
  | .exc c a sl h => .exc c a sl h
  | .bad => .bad
def forD (tg : Tg) (body : Ms) : List D → Ms
  | [], sl, h => .nx sl h
  | d :: ds, sl, h => match tgD tg d sl with
    | none => .bad
    | some sl1 => turnR (forD tg body ds) (body sl1 h)
def sFor (fi : Mo (List D)) (tg : Tg) (body : Ms) : Ms := fun sl h => bindS sl (fi sl h) fun ds h1 => forD tg body ds sl h1
theorem ds_for {X : Cx} {W : WX} {tg : Tg} {te iter : Expr} {body : List Stmt} {pos : Pos} {fi : Mo (List D)} {fb : Ms} (hp : PassesOwn (model X.prog X.w) X.A X.env X.xe) (hc : X.calm = true) (hi : PI X te iter (tI (evOf X) W fi)) (hg : PG X te (tgV X.K tg)) (hb : PSs X body (tS (evOf X) W fb))
    (hs : ∀ x, foldedSetIterable iter X.env x = pure x := by intro _; rfl) : PS X (.For te iter body [] pos) (tS (evOf X) W (sFor fi tg fb)) :=
  (ps_for hp hc hi hg hb hs).imp fun E σ H ⟨r, F, sl, h, s, g, q⟩ => by
    refine tI.of s g ((q.bindS s g).imp fun r1 H1 xs h1 e1 g1 q1 J hJ => ?_)
    refine ⟨fun i m σ' H' => ∃ r' sl' h', Ext r1 H1 r' H' ∧ GoodH (evOf X) r' F h' H' ∧ SlR (evOf X) r' F H' sl' σ' ∧ m = xs.length - i ∧ i ≤ xs.length ∧ SAft (evOf X) W F r' H' (forD tg fb (xs.drop i) sl' h') E, ⟨xs.length, r1, sl, h1, .refl, g1, s.mono g.mine e1, by simp, Nat.zero_le _, q1⟩, ?_⟩
    rintro i m σ' H' ⟨r', sl', h', e', g', s', rfl, hi', q'⟩
    have hJ' := hJ r' F H' e'.toF g'.mine .refl i
    by_cases hlt : i < xs.length
    · have hd : xs[i]? = some xs[i] := List.getElem?_eq_getElem hlt
      obtain ⟨hgo, hy⟩ := hJ'.1 _ hd
      refine .inr ⟨hgo, fun σ2 H2 => ∃ r2 sl2 h2, Ext r1 H1 r2 H2 ∧ GoodH (evOf X) r2 F h2 H2 ∧ SlR (evOf X) r2 F H2 sl2 σ2 ∧ SAft (evOf X) W F r2 H2 (forD tg fb (xs.drop (i + 1)) sl2 h2) E,
        fun σ2 H2 ⟨r2, sl2, h2, a1, a2, a3, a4⟩ => ⟨xs.length - (i + 1), by omega, r2, sl2, h2, a1, a2, a3, rfl, hlt, a4⟩, fun x H'' yld => ?_⟩
      obtain ⟨sm, hx⟩ := hy x H'' yld
      rw [List.drop_eq_getElem_cons hlt] at q'
      unfold forD at q'
      have g'' := g'.same sm
      have s'' := s'.mono g'.mine (.same sm)
      have ee := e'.trans g'.mine (Ext.same (r := r') sm)
      cases ht : tgD tg xs[i] sl' with
      | none => rw [ht] at q'; exact False.elim q'
      | some sl1 =>
        rw [ht] at q'
        have q'' : SAft (evOf X) W F r' H' (turnR (forD tg fb (xs.drop (i + 1))) (fb sl1 h')) E := q'
        refine tgV_of (G := evOf X) hx ht s'' fun σ2 s2 _ => tS.of s2 g'' ?_
        cases hbr : fb sl1 h' with
        | nx sl2 h2 =>
          rw [hbr] at q''
          exact fun r3 H3 σ3 e3 g3 s3 => ⟨r3, sl2, h2, ee.trans g''.mine e3, g3, s3, SAft.later q'' ((Ext.same (r := r') sm).trans g''.mine e3) g3⟩
        | ct sl2 h2 =>
          rw [hbr] at q''
          exact fun r3 H3 σ3 e3 g3 s3 => ⟨r3, sl2, h2, ee.trans g''.mine e3, g3, s3, SAft.later q'' ((Ext.same (r := r') sm).trans g''.mine e3) g3⟩
        | bk sl2 h2 =>
          rw [hbr] at q''
          exact fun r3 H3 σ3 e3 g3 s3 => q'' r3 H3 σ3 ((Ext.same (r := r') sm).trans g''.mine e3) g3 s3
        | rt d h2 =>
          rw [hbr] at q''
          exact fun r3 H3 v e3 g3 => q'' r3 H3 v ((Ext.same (r := r') sm).trans g''.mine e3) g3
        | exc c a sl2 h2 =>
          rw [hbr] at q''
          exact fun r3 H3 σ3 cls x e3 g3 => q'' r3 H3 σ3 cls x ((Ext.same (r := r') sm).trans g''.mine e3) g3
        | bad => rw [hbr] at q''; exact False.elim q''
    · have ei : i = xs.length := by omega
      subst ei
      rw [List.drop_length] at q'
      exact .inl ⟨hJ'.2 (by simp), q'.nxh s' g'⟩

/-! ### comprehensions -/
def wipeD (sl : Sl) : List Nat → Sl
  | [] => sl
  | v :: vs => (wipeD sl vs).set v none
theorem wipeD_len (sl : Sl) : ∀ vs : List Nat, (wipeD sl vs).length = sl.length
  | [] => rfl
  | v :: vs => by unfold wipeD; rw [List.length_set, wipeD_len sl vs]
theorem SlR.wiped {G : Ev} {r F : List Addr} {H : Hp} {sl : Sl} {σ : L2.St} (s : SlR G r F H sl σ) : ∀ vs : List Nat, SlR G r F H (wipeD sl vs) (L2.wipe σ vs)
  | [] => s
  | v :: vs => by
    have ih := SlR.wiped s vs
    unfold wipeD L2.wipe
    refine ⟨by simp [ih.1], fun i d hd => ?_⟩
    by_cases hi : v = i
    · subst hi
      by_cases hl : v < (wipeD sl vs).length
      · rw [List.getElem?_set_self hl] at hd; cases hd
      · rw [List.getElem?_eq_none (by simpa using hl)] at hd; cases hd
    · rw [List.getElem?_set_ne hi] at hd
      obtain ⟨w, h1, h2⟩ := ih.2 i d hd
      exact ⟨w, by rw [List.getElem?_set_ne hi]; exact h1, h2⟩
/-- no exception may leave from within -/
def noX {α : Type} : Res α → Res α
  | .exc _ _ _ => .bad
  | x => x
def lcD (tg : Tg) (c : Mo Bool) (f : Mo D) (sl : Sl) : List D → List D → MH → Res (List D)
  | acc, [], h => .ok acc h
  | acc, d :: ds, h => match tgD tg d sl with
    | none => .bad
    | some sl1 => bindR (noX (c sl1 h)) fun b h1 => if b then (if acc.length < lim then bindR (noX (f sl1 h1)) fun x h2 => lcD tg c f sl (acc ++ [x]) ds h2 else .bad) else lcD tg c f sl acc ds h1
def mYes : Mo Bool := fun _ h => .ok true h
/-- the slots of the comprehension's own names are vs -/
def mLc (vs : List Nat) (fi : Mo (List D)) (tg : Tg) (c : Mo Bool) (f : Mo D) : Mo D := fun sl h => bindR (fi sl h) fun ds h1 => bindR (lcD tg c f (wipeD sl vs) [] ds h1) fun xs h2 => .ok (.lst xs) h2
theorem dt_yes {X : Cx} {W : WX} : PTs X [] (tT (evOf X) W mYes) := ⟨fun pins s σ H Q I ⟨r, F, sl, h, s', g, q⟩ => pts_nil.run pins s σ H Q I (q.here g)⟩
theorem dt_cond {X : Cx} {W : WX} {c : Expr} {f : Mo Bool} (h : PT X c (tT (evOf X) W f)) : PTs X [c] (tT (evOf X) W f) := pts_one h
abbrev W0 : WX := fun _ _ _ _ => False
theorem aft0 {G : Ev} {W : WX} {r r1 F : List Addr} {H H1 : Hp} {σ σ0 : L2.St} {α β : Type} {D0 : Addr} {R : Res α} {k : α → MH → Res β} {Q : List Addr → Hp → β → MH → Prop} (q : Aft G W F σ r1 H1 (bindR (noX R) k) Q) :
    Aft G W0 (D0 :: F) σ0 r H R (fun _ _ x h1 => Aft G W F σ r1 H1 (k x h1) Q) := by
  cases R with
  | ok x h' =>
    intro r' H' e g'
    exact q
  | exc c x h' => exact False.elim q
  | bad => exact q
theorem wipe_at (σ : L2.St) : ∀ (us : List Nat) (k : Nat), (L2.wipe σ us)[k]? = if k ∈ us then (if k < σ.length then some none else none) else σ[k]? := by
  intro us
  induction us with
  | nil => intro k; simp [L2.wipe]
  | cons u us ih =>
    intro k
    unfold L2.wipe
    by_cases hk : u = k
    · subst hk
      by_cases hu : u < σ.length
      · rw [List.getElem?_set_self (by rw [wipe_length]; exact hu)]
        simp [hu]
      · rw [List.getElem?_eq_none (by rw [List.length_set, wipe_length]; exact Nat.not_lt.mp hu)]
        simp [hu]
    · rw [List.getElem?_set_ne hk, ih k]
      by_cases hm : k ∈ us
      · simp [hm]
      · have : ¬ k ∈ u :: us := by simp only [List.mem_cons, not_or]; exact ⟨fun e => hk e.symm, hm⟩
        simp [hm, this]
theorem only_in {vs ws : List Nat} {σ σ' : L2.St} (o : L2.wipe σ' vs = L2.wipe (L2.wipe σ ws) vs) (h : ∀ j ∈ vs, j ∈ ws) : L2.wipe σ' ws = L2.wipe σ ws := by
  have hl : σ'.length = σ.length := by
    have := congrArg List.length o
    rw [wipe_length, wipe_length, wipe_length] at this
    exact this
  refine List.ext_getElem? fun k => ?_
  rw [wipe_at, wipe_at]
  by_cases hk : k ∈ ws
  · simp [hk, hl]
  · have hv : k ∉ vs := fun z => hk (h k z)
    have e : (L2.wipe σ' vs)[k]? = (L2.wipe (L2.wipe σ ws) vs)[k]? := by rw [o]
    rw [wipe_at, wipe_at, wipe_at] at e
    simpa [hk, hv] using e
theorem lc_of {X : Cx} {W : WX} {vs : List Nat} {fi : Mo (List D)} {tg : Tg} {fc : Mo Bool} {f : Mo D} (ho : ∀ i ∈ tg.slots, i ∈ vs) (σ : L2.St) (H : Hp) (Q : VK) (q : tE (evOf X) W (mLc vs fi tg fc f) σ H Q) :
    tLc (tI (evOf X) W fi) (tgV X.K tg) (tT (evOf X) W0 fc) (tE (evOf X) W0 f) vs σ H Q := by
  obtain ⟨r, F, sl, h, s, g, q⟩ := q
  refine tI.of s g (q.bind.imp fun r1 H1 xs h1 e1 g1 q1 J hJ D0 hD => ?_)
  have q1 := q1.bind
  have nF : D0 ∉ F := (g1.fresh hD).2
  have fo : Foe F H1 (D0 :: F) := fun a ha => by
    rcases List.mem_cons.mp ha with e | e
    · exact .inr (by rw [e]; exact hD)
    · exact .inl e
  have sm0 : Same H1 (upd H1 D0 (.lst [])) := same_new hD
  have g1' : GoodH (evOf X) r1 (D0 :: F) h1 (upd H1 D0 (.lst [])) := g1.newF hD trivial
  refine ⟨fun i m H' => ∃ r' h' acc vacc, Ext r1 H1 r' H' ∧ GoodH (evOf X) r' (D0 :: F) h' H' ∧ H' D0 = some (.lst vacc) ∧ DenL (evOf X) r' (D0 :: F) H' acc vacc ∧ m = xs.length - i ∧ i ≤ xs.length ∧
    Aft (evOf X) W F σ r1 H1 (lcD tg fc f (wipeD sl vs) acc (xs.drop i) h') (fun r' H' x h1 => Aft (evOf X) W F σ r' H' (Res.ok (D.lst x) h1) fun r' H' d _ => ∀ v, Den (evOf X) r' F H' d v → Q v H'),
    ⟨xs.length, r1, h1, [], [], .same sm0, g1', upd_same, .nil, by simp, Nat.zero_le _, q1⟩, ?_⟩
  rintro i m H' ⟨r', h', acc, vacc, e', g', hD', hacc, rfl, hi', q'⟩
  have hJ' := hJ r' (D0 :: F) H' e'.toF g'.mine fo i
  have s' : SlR (evOf X) r' (D0 :: F) H' (wipeD sl vs) (L2.wipe σ vs) := by
    have z := (s.mono g.mine e1).wiped vs
    exact ⟨z.1, fun j d hd => let ⟨v, a1, a2⟩ := z.2 j d hd; ⟨v, a1, Den.monoF g1.mine e' fo _ _ a2⟩⟩
  by_cases hlt : i < xs.length
  · have hd : xs[i]? = some xs[i] := List.getElem?_eq_getElem hlt
    obtain ⟨hgo, hy⟩ := hJ'.1 _ hd
    refine .inr ⟨hgo, fun H2 => ∃ r2 h2 acc vacc, Ext r1 H1 r2 H2 ∧ GoodH (evOf X) r2 (D0 :: F) h2 H2 ∧ H2 D0 = some (.lst vacc) ∧ DenL (evOf X) r2 (D0 :: F) H2 acc vacc ∧
        Aft (evOf X) W F σ r1 H1 (lcD tg fc f (wipeD sl vs) acc (xs.drop (i + 1)) h2) (fun r' H' x h1 => Aft (evOf X) W F σ r' H' (Res.ok (D.lst x) h1) fun r' H' d _ => ∀ v, Den (evOf X) r' F H' d v → Q v H'),
      fun H2 ⟨r2, h2, ac, va, a1, a2, a3, a4, a5⟩ => ⟨xs.length - (i + 1), by omega, r2, h2, ac, va, a1, a2, a3, a4, rfl, hlt, a5⟩, fun x H'' yld => ?_⟩
    obtain ⟨sm, hx⟩ := hy x H'' yld
    rw [List.drop_eq_getElem_cons hlt] at q'
    have g'' := g'.same sm
    have s'' := s'.mono g'.mine (.same sm)
    have ee := e'.trans g'.mine (Ext.same (r := r') sm)
    cases htg : tgD tg xs[i] (wipeD sl vs) with
    | none => unfold lcD at q'; rw [htg] at q'; exact False.elim q'
    | some sl1 =>
      have q2 : Aft (evOf X) W F σ r1 H1 (bindR (noX (fc sl1 h')) fun b h1 => if b = true then (if acc.length < lim then bindR (noX (f sl1 h1)) fun x h2 => lcD tg fc f (wipeD sl vs) (acc ++ [x]) (xs.drop (i + 1)) h2 else .bad) else lcD tg fc f (wipeD sl vs) acc (xs.drop (i + 1)) h1)
          (fun r' H' x h1 => Aft (evOf X) W F σ r' H' (Res.ok (D.lst x) h1) fun r' H' d _ => ∀ v, Den (evOf X) r' F H' d v → Q v H') := by
        unfold lcD at q'; rw [htg] at q'; exact q'
      refine tgV_of (G := evOf X) hx htg s'' fun σ2 s2 o2 => ⟨only_in o2 ho, ?_⟩
      refine tT.of s2 g'' ((aft0 (D0 := D0) (σ0 := σ2) q2).imp fun r3 H3 b h3 e3 g3 q4 => ?_)
      have hD3 : H3 D0 = some (.lst vacc) := e3.keep _ _ (sm _ _ hD') (g''.fd D0 List.mem_cons_self).2
      have hac3 := DenL.mono g'.mine (Ext.trans (.same sm) g''.mine e3) _ _ hacc
      have ee3 := ee.trans g''.mine e3
      cases b with
      | false => exact ⟨r3, h3, acc, vacc, ee3, g3, hD3, hac3, q4⟩
      | true =>
        have q4 : Aft (evOf X) W F σ r1 H1 (if acc.length < lim then bindR (noX (f sl1 h3)) fun x h2 => lcD tg fc f (wipeD sl vs) (acc ++ [x]) (xs.drop (i + 1)) h2 else .bad) _ := q4
        by_cases hz : acc.length < lim
        · rw [if_pos hz] at q4
          refine tE.of (s2.mono g''.mine e3) g3 ((aft0 (D0 := D0) (σ0 := σ2) q4).imp fun r4 H4 y h4 e4 g4 q5 v hv => ?_)
          have hD4 : H4 D0 = some (.lst vacc) := e4.keep _ _ hD3 (g3.fd D0 List.mem_cons_self).2
          have hac4 := DenL.mono g3.mine e4 _ _ hac3
          refine ⟨vacc, hD4, by rw [← hac4.len]; exact lim_lt hz, ?_⟩
          have g5 := g4.updF (acc' := .lst (vacc ++ [v])) hD4 trivial trivial List.mem_cons_self
          have ee5 : Ext r1 H1 r4 (upd H4 D0 (.lst (vacc ++ [v]))) := by
            have ee4 := ee3.trans g3.mine e4
            refine ⟨ee4.pre, fun a o ha hr => ?_⟩
            rw [upd_ne (ne_of_none ha hD)]
            exact ee4.keep a o ha hr
          refine ⟨r4, h4, acc ++ [y], vacc ++ [v], ee5, g5, upd_same, DenL.updF hD4 trivial List.mem_cons_self _ _ (hac4.app (.cons hv .nil)), q5⟩
        · rw [if_neg hz] at q4; exact False.elim q4
  · have ei : i = xs.length := by omega
    subst ei
    rw [List.drop_length] at q'
    have q2 := Aft.here (q' r' H' e' g'.dropF) g'.dropF
    refine .inl ⟨hJ'.2 (by simp), q2 _ (.lst hD' ⟨(g'.fd D0 List.mem_cons_self).2, nF⟩ (DenL.dropF g'.mine hacc))⟩
theorem de_lc {X : Cx} {W : WX} {vs : List Nat} {elt te iter : Expr} {ifs : List Expr} {scope : Scope} {own : List (Str × Nat)} {pos : Pos} {fi : Mo (List D)} {tg : Tg} {fc : Mo Bool} {f : Mo D} (hc : X.calm = true) (hN : X.N.Nodup) (hi : PI X te iter (tI (evOf X) W fi)) (ok : BlkOk X.N X.env.scope scope own)
    (ho : ∀ i ∈ tg.slots, i ∈ own.map (·.2))
    (hg : ∀ (s : Shared) (H : Hp) (C : Addr) (cl : List (Str × Addr)) (fp : List Addr), PG (X.blk s H scope (compEnvC scope cl C X.env) fp) te (tgV X.K tg))
    (ht : ∀ (s : Shared) (H : Hp) (C : Addr) (cl : List (Str × Addr)) (fp : List Addr), PTs (X.blk s H scope (compEnvC scope cl C X.env) fp) ifs (tT (evOf X) W0 fc))
    (he : ∀ (s : Shared) (H : Hp) (C : Addr) (cl : List (Str × Addr)) (fp : List Addr), PE (X.blk s H scope (compEnvC scope cl C X.env) fp) elt (tE (evOf X) W0 f)) (hs : ∀ x, foldedSetIterable iter X.env x = pure x := by intro _; rfl) (hv : own.map (·.2) = vs := by rfl) :
    PE X (.ListComp elt [⟨te, iter, ifs, 0⟩] scope pos) (tE (evOf X) W (mLc vs fi tg fc f)) := by
  subst hv
  exact (pe_lc hc hN hi ok hg ht he hs).imp fun σ H Q q => lc_of ho σ H Q q
end CH

/-! CH4: defs, calls. -/
namespace CH
open PySem PySem.Spec PyProof.Rows L2

/-- a def by its arguments -/
abbrev Fn := List D → MH → Res D
def ckN (n : Nat) (c : Fn) : Fn := fun ds h => if ds.length = n then c ds h else .bad
def slots0 (n : Nat) (ds : List D) : Sl := ds.map some ++ List.replicate (n - ds.length) none
def endB : SRes → Res D
  | .nx _ h => .ok .non h
  | .rt d h => .ok d h
  | .exc c a _ h => .exc c a h
  | _ => .bad
/-- a def's body -/
def runB (n : Nat) (b : Ms) : Fn := fun ds h => endB (b (slots0 n ds) h)
def WX0 (E : XK) : WX := fun cls d _ H => E cls d H
/-- a def's promise -/
def spD (G : Ev) (n : Nat) (c : Fn) : Sp := fun vs H Q E => ∃ r F h ds, GoodH G r F h H ∧ DenL G r F H ds vs ∧ Aft G (WX0 E) F [] r H (ckN n c ds h) fun r' H' d _ => ∀ v, Den G r' F H' d v → Q v H'
theorem spD_len {G : Ev} {n : Nat} {c : Fn} (vs : List V) (H : Hp) (Q : VK) (E : XK) (h : spD G n c vs H Q E) : vs.length = n := by
  obtain ⟨r, F, h, ds, g, hd, q⟩ := h
  by_cases z : ds.length = n
  · rw [← hd.len]; exact z
  · unfold ckN at q
    rw [if_neg z] at q
    exact False.elim q

/-! ### values without names of objects -/
mutual
def pureD : D → Bool
  | .tup xs => pureL xs
  | .lst xs => pureL xs
  | .dic _ xs => pureL xs
  | .ref _ => false
  | .non => true
  | .bl _ => true
  | .int _ => true
  | .str _ => true
  | .gl _ => true
  | .dct _ xs => pureL xs
  | .ty _ => true
  | .scr _ => true
def pureL : List D → Bool
  | [] => true
  | d :: ds => pureD d && pureL ds
end
def pureA : Option (Str × D) → Bool
  | none => true
  | some (_, d) => pureD d
section
variable {G : Ev} {r r' F F' : List Addr} {H H' : Hp}
mutual
theorem Den.moved (hp : ∀ a, a ∉ r ∧ a ∉ F → a ∉ r' ∧ a ∉ F') : ∀ (d : D) (v : V), pureD d = true → Den G r F H d v → Den G r' F' H d v
  | .non, _, _, .non => .non
  | .bl _, _, _, .bl b => .bl b
  | .int _, _, _, .int b => .int b
  | .str _, _, _, .str b => .str b
  | .ty _, _, _, .ty b => .ty b
  | .tup ds, _, p, .tup h l => .tup h (DenL.moved hp ds _ p l)
  | .lst ds, _, p, .lst h n l => .lst h (hp _ n) (DenL.moved hp ds _ p l)
  | .scr _, _, _, .scr h => .scr h
  | .dic ks ds, _, p, .dic h n hl l => .dic h (hp _ n) hl (DenL.moved hp ds _ p l)
  | .ref _, _, p, .ref h => by cases p
  | .gl _, _, _, .gl h => .gl h
  | .dct ks ds, _, p, .dct h hl l => .dct h hl (DenL.moved hp ds _ p l)
theorem DenL.moved (hp : ∀ a, a ∉ r ∧ a ∉ F → a ∉ r' ∧ a ∉ F') : ∀ (ds : List D) (vs : List V), pureL ds = true → DenL G r F H ds vs → DenL G r' F' H ds vs
  | [], _, _, .nil => .nil
  | d :: ds, _, p, .cons h t => by
    have p' : (pureD d && pureL ds) = true := p
    rw [Bool.and_eq_true] at p'
    exact .cons (Den.moved hp d _ p'.1 h) (DenL.moved hp ds _ p'.2 t)
end
theorem XDen.moved (hp : ∀ a, a ∉ r ∧ a ∉ F → a ∉ r' ∧ a ∉ F') {c : Str} {a : Option (Str × D)} {cls : Value} {d : Option Addr} (p : pureA a = true) (x : XDen G r F H c a cls d) : XDen G r' F' H c a cls d := by
  obtain ⟨C, h1, h2, h3⟩ := x
  refine ⟨C, h1, h2, ?_⟩
  cases a with
  | none => exact h3
  | some q =>
    obtain ⟨f, y⟩ := q
    obtain ⟨dx, v, a1, a2, a3⟩ := h3
    exact ⟨dx, v, a1, a2, Den.moved hp _ _ p a3⟩
/-! names of objects that are old -/
mutual
theorem Den.cut {d0 : List Addr} (e : r' = r ++ d0) : ∀ (d : D) (v0 v : V), Den G r F H d v0 → Den G r' F' H' d v → Den G r F' H' d v
  | .non, _, _, _, .non => .non
  | .bl _, _, _, _, .bl b => .bl b
  | .int _, _, _, _, .int b => .int b
  | .str _, _, _, _, .str b => .str b
  | .ty _, _, _, _, .ty b => .ty b
  | .tup ds, _, _, .tup _ l0, .tup h l => .tup h (DenL.cut e ds _ _ l0 l)
  | .lst ds, _, _, .lst _ _ l0, .lst h n l => .lst h ⟨fun hm => n.1 (by rw [e]; exact List.mem_append_left _ hm), n.2⟩ (DenL.cut e ds _ _ l0 l)
  | .scr _, _, _, _, .scr h => .scr h
  | .dic ks ds, _, _, .dic _ _ _ l0, .dic h n hl l => .dic h ⟨fun hm => n.1 (by rw [e]; exact List.mem_append_left _ hm), n.2⟩ hl (DenL.cut e ds _ _ l0 l)
  | .ref i, _, _, .ref h0, .ref h => by
    have hl : i < r.length := (List.getElem?_eq_some_iff.mp h0).1
    rw [e, List.getElem?_append_left hl] at h
    exact .ref h
  | .gl _, _, _, _, .gl h => .gl h
  | .dct ks ds, _, _, .dct _ _ l0, .dct h hl l => .dct h hl (DenL.cut e ds _ _ l0 l)
theorem DenL.cut {d0 : List Addr} (e : r' = r ++ d0) : ∀ (ds : List D) (vs0 vs : List V), DenL G r F H ds vs0 → DenL G r' F' H' ds vs → DenL G r F' H' ds vs
  | [], _, _, _, .nil => .nil
  | d :: ds, _, _, .cons h0 t0, .cons h t => .cons (Den.cut e d _ _ h0 h) (DenL.cut e ds _ _ t0 t)
end
theorem ODen.cut {d0 : List Addr} (e : r' = r ++ d0) {a0 a : Addr} {o : O} (q0 : ODen G r F H a0 o) (q : ODen G r' F' H' a o) : ODen G r F' H' a o := by
  cases o with
  | lst ds =>
    obtain ⟨_, _, l0⟩ := q0
    obtain ⟨vs, h, l⟩ := q
    exact ⟨vs, h, DenL.cut e _ _ _ l0 l⟩
  | dic ks ds =>
    obtain ⟨_, _, _, l0⟩ := q0
    obtain ⟨vs, h, hl, l⟩ := q
    exact ⟨vs, h, hl, DenL.cut e _ _ _ l0 l⟩
  | ins c ks ds =>
    obtain ⟨_, _, _, _, _, _, _, l0⟩ := q0
    obtain ⟨C, dx, vs, h1, h2, hl, h3, l⟩ := q
    exact ⟨C, dx, vs, h1, h2, hl, h3, DenL.cut e _ _ _ l0 l⟩
  | tbl => exact q
end

/-- run on a heap of its own: nothing of ours goes in or out -/
def isoR (c : Fn) : Fn := fun ds h => if pureL ds = true then (match c ds [] with
  | .ok d _ => if pureD d = true then .ok d h else .bad
  | .exc x a _ => if pureA a = true then .exc x a h else .bad
  | .bad => .bad) else .bad
theorem iso_sp {G : Ev} {n : Nat} {c : Fn} (vs : List V) (H : Hp) (Q : VK) (E : XK) (q : spD G n (isoR c) vs H Q E) : spD G n c vs H Q E := by
  obtain ⟨r, F, h, ds, g, hd, q⟩ := q
  unfold ckN at q
  by_cases z : ds.length = n
  · rw [if_pos z] at q
    unfold isoR at q
    by_cases p : pureL ds = true
    · rw [if_pos p] at q
      have mv : ∀ a, a ∉ r ∧ a ∉ F → a ∉ ([] : List Addr) ∧ a ∉ r ++ F := fun a ⟨h1, h2⟩ => ⟨by simp, by simp [h1, h2]⟩
      have vm : ∀ {r' : List Addr}, ∀ a, a ∉ r' ∧ a ∉ r ++ F → a ∉ r ∧ a ∉ F := fun a ⟨_, h2⟩ => by
        rw [List.mem_append, not_or] at h2
        exact h2
      refine ⟨[], r ++ F, [], ds, ⟨rfl, List.nodup_nil, fun a ha => ⟨?_, by simp⟩, fun i o hi => by simp at hi⟩, DenL.moved mv _ _ p hd, ?_⟩
      · rcases List.mem_append.mp ha with ha | ha
        · exact g.mineA a ha
        · exact (g.fd a ha).1
      · unfold ckN
        rw [if_pos z]
        cases hc : c ds [] with
        | ok d h1 =>
          rw [hc] at q
          by_cases pd : pureD d = true
          · have q : Aft G (WX0 E) F [] r H (if pureD d = true then .ok d h else .bad) fun r' H' d _ => ∀ v, Den G r' F H' d v → Q v H' := q
            rw [if_pos pd] at q
            intro r' H' e g' v hv
            have sm : Same H H' := fun a o ha => e.keep a o ha (by simp)
            exact q r H' (.same sm) (g.same sm) v (Den.moved vm _ _ pd hv)
          · have q : Aft G (WX0 E) F [] r H (if pureD d = true then .ok d h else .bad) fun r' H' d _ => ∀ v, Den G r' F H' d v → Q v H' := q
            rw [if_neg pd] at q
            exact False.elim q
        | exc x a h1 =>
          rw [hc] at q
          by_cases pd : pureA a = true
          · have q : Aft G (WX0 E) F [] r H (if pureA a = true then .exc x a h else .bad) fun r' H' d _ => ∀ v, Den G r' F H' d v → Q v H' := q
            rw [if_pos pd] at q
            intro r' H' cls y e g' hx
            have sm : Same H H' := fun a o ha => e.keep a o ha (by simp)
            exact q r H' cls y (.same sm) (g.same sm) (hx.moved vm pd)
          · have q : Aft G (WX0 E) F [] r H (if pureA a = true then .exc x a h else .bad) fun r' H' d _ => ∀ v, Den G r' F H' d v → Q v H' := q
            rw [if_neg pd] at q
            exact False.elim q
        | bad => rw [hc] at q; exact False.elim q
    · rw [if_neg p] at q; exact False.elim q
  · rw [if_neg z] at q; exact False.elim q

/-! ### a def of the text -/
/-- what a caller knows of a def at f -/
structure FT (P : Program) (w : World) (K : PySem.W.Frag) (mg : Str → Option Value) (base : Heap) (k : Nat) (ps : List Str) (c : Fn) (f : Addr) : Prop where
  ex : ∃ fd, FnOk P w K mg base (L2.CX P w) k f fd ps (spD ⟨K, mg⟩ ps.length c) ∧ Binds K fd ps [] ∧ ∀ (s : Shared) (us : List Value), us.length = ps.length → BindsTo s fd ⟨us, []⟩ (ps.zip us)
  kp : PySem.W.keepIn K (.ref f) = true
section
variable {P : Program} {w : World} {K : PySem.W.Frag} {mg : Str → Option Value} {base : Heap} {k : Nat} {ps : List Str} {c : Fn} {f : Addr}
theorem FT.iso (t : FT P w K mg base k ps c f) : FT P w K mg base k ps (isoR c) f := by
  obtain ⟨fd, h1, h2⟩ := t.ex
  exact ⟨⟨fd, h1.imp iso_sp, h2⟩, t.kp⟩
theorem FT.up (t : FT P w K mg base k ps c f) {j : Nat} (h : k ≤ j) : FT P w K mg base j ps c f := by
  obtain ⟨fd, h1, h2⟩ := t.ex
  exact ⟨⟨fd, h1.mono h, h2⟩, t.kp⟩
theorem slots0_rel {G : Ev} {r F : List Addr} {H : Hp} {ds : List D} {vs : List V} (hd : DenL G r F H ds vs) (N : List Str) : SlR G r F H (slots0 N.length ds) (L2.start N vs) := by
  have hl := hd.len
  unfold slots0 L2.start
  refine ⟨by simp [hl], fun i d hi => ?_⟩
  by_cases hlt : i < ds.length
  · rw [List.getElem?_append_left (by simpa using hlt), List.getElem?_map] at hi
    cases e : ds[i]? with
    | none => rw [e] at hi; cases hi
    | some d' =>
      rw [e] at hi; cases hi
      obtain ⟨v, h1, h2⟩ := hd.get e
      refine ⟨v, ?_, h2⟩
      rw [List.getElem?_append_left (by rw [List.length_map, ← hl]; exact hlt), List.getElem?_map, h1]
      rfl
  · rw [List.getElem?_append_right (by simpa using Nat.not_lt.mp hlt), List.getElem?_replicate] at hi
    split at hi <;> cases hi
/-- from a body -/
theorem FT.of_ok {x qual : Str} {params : Arguments} {body : List Stmt} {scope : Scope} {fd : FuncData} {N : List Str} {b : Ms} (F : FunD K x qual params body scope [] [] f fd) (S : FnScope N ps scope)
    (hb : ∀ (cdv : Value) (A : Around) (outer : List Env) (s : Shared) (H : Hp) (E : XK), Room k (A.deeper (envOfC qual scope s.heap.objs.size f cdv)) →
      PSs (cxOf (L2.CX P w) P w K mg base N qual scope f cdv A outer s H E) body (tS ⟨K, mg⟩ (WX0 E) b)) : FnOk P w K mg base (L2.CX P w) (k + 1) f fd ps (spD ⟨K, mg⟩ ps.length (runB N.length b)) := by
  refine F.ok S spD_len fun cdv A outer s H vs Q E hr h => ⟨_, hb cdv A outer s H E hr, ?_⟩
  obtain ⟨r, F', h, ds, g, hd, q⟩ := h
  unfold ckN at q
  by_cases z : ds.length = ps.length
  · rw [if_pos z] at q
    refine tS.of (slots0_rel hd N) g ?_
    unfold runB at q
    cases hr : b (slots0 N.length ds) h with
    | nx sl h' => rw [hr] at q; exact fun r' H' σ' e g' _ => q r' H' e g' _ .non
    | rt d h' => rw [hr] at q; exact fun r' H' v e g' hv => q r' H' e g' v hv
    | exc x a sl h' => rw [hr] at q; exact fun r' H' σ' cls y e g' _ hx => q r' H' cls y e g' hx
    | bk sl h' => rw [hr] at q; exact False.elim q
    | ct sl h' => rw [hr] at q; exact False.elim q
    | bad => rw [hr] at q; exact False.elim q
  · rw [if_neg z] at q; exact False.elim q
theorem FT.of {x qual : Str} {params : Arguments} {body : List Stmt} {scope : Scope} {fd : FuncData} {N : List Str} {b : Ms} (F : FunD K x qual params body scope [] [] f fd) (S : FnScope N ps scope) (bd : Binds K fd ps [] ∧ ∀ (s : Shared) (us : List Value), us.length = ps.length → BindsTo s fd ⟨us, []⟩ (ps.zip us))
    (hb : ∀ (cdv : Value) (A : Around) (outer : List Env) (s : Shared) (H : Hp) (E : XK), Room k (A.deeper (envOfC qual scope s.heap.objs.size f cdv)) →
      PSs (cxOf (L2.CX P w) P w K mg base N qual scope f cdv A outer s H E) body (tS ⟨K, mg⟩ (WX0 E) b)) : FT P w K mg base (k + 1) ps (runB N.length b) f := ⟨⟨fd, FT.of_ok F S hb, bd⟩, F.kp⟩
end

/-! ### calls -/
def mCall (n : Nat) (c : Fn) (fl : Mo (List D)) : Mo D := mBind fl fun ds => fun _ h => ckN n c ds h
section
variable {X : Cx} {W : WX} {k n : Nat} {ps : List Str} {c : Fn} {f C : Addr} {x m cn : Str} {p pos apos : Pos} {e o fe : Expr} {es : List Expr} {fl : Mo (List D)} {fo : Mo D}
theorem de_call (T : FT X.prog X.w X.K X.mg X.base k ps c f) (hr : Room k X.A) (hg : Gl X x) (hm : X.mg x = some (.ref f)) (tk : Takes X W) (ha : PA X (e :: es) (tA (evOf X) W fl))
    (hdb : (x == ("__debug__" : Str)) = false := by decide) (he : starEach (e :: es) X.env = (false, eval e X.env) :: starEach es X.env := by rfl) (hpl : (backTo pos (starEach es X.env)).any (·.1) = false := by rfl) (hn : ps.length = n := by rfl) :
    PE X (.Call (.Name x p) (e :: es) [] pos) (tE (evOf X) W (mCall n c fl)) := by
  subst hn
  obtain ⟨fd, h1, h2⟩ := T.ex
  refine (pe_callS h1 hr hg hm T.kp h2.1 (fun σ => passAt tk σ) ha hdb he hpl).imp fun σ H Q ⟨r, F, sl, h, s, g, q⟩ => ?_
  exact tA.of s g (q.bind.imp fun r1 H1 ds h1 e1 g1 q1 vs hvs => ⟨r1, F, h1, ds, g1, hvs, q1⟩)
theorem de_call0 (T : FT X.prog X.w X.K X.mg X.base k ps c f) (hr : Room k X.A) (hg : Gl X x) (hm : X.mg x = some (.ref f)) (tk : Takes X W) (hdb : (x == ("__debug__" : Str)) = false := by decide) (hn : ps.length = n := by rfl) :
    PE X (.Call (.Name x p) [] [] pos) (tE (evOf X) W (mCall n c mNil)) := by
  subst hn
  obtain ⟨fd, h1, h2⟩ := T.ex
  refine ⟨fun pins s σ H Q I ⟨r, F, sl, h, s', g, q⟩ => ?_⟩
  refine wpAny_Call_Name_kw (ld_glob I hg hm ?_ hdb)
  exact PySem.W.callWith_K0 I.kIn T.kp (run_fnS (us := []) h1 hr h2.1 (passAt tk σ) I .nil ⟨r, F, h, [], g, .nil, q⟩)
end
end CH

/-! CH5: operations on deep values. -/
namespace CH
open PySem PySem.Spec PyProof.Rows L2

/-! ### equality -/
mutual
/-- plain data of depth at most n -/
def pyOk : Nat → D → Bool
  | _, .non => true
  | _, .bl _ => true
  | _, .int _ => true
  | _, .str x => SeqAt.shaped (.str x)
  | n + 1, .tup xs => pyOkL n xs
  | n + 1, .lst xs => pyOkL n xs
  | _, _ => false
def pyOkL : Nat → List D → Bool
  | _, [] => true
  | n, d :: ds => pyOk n d && pyOkL n ds
end
mutual
def toPy : D → PyData
  | .non => .none
  | .bl b => .bool b
  | .int i => .int i
  | .str x => .str x
  | .tup xs => .tuple (toPyL xs)
  | .lst xs => .list (toPyL xs)
  | _ => .none
def toPyL : List D → List PyData
  | [] => []
  | d :: ds => toPy d :: toPyL ds
end
mutual
theorem dp_of {G : Ev} {r F : List Addr} {H : Hp} : ∀ (d : D) (n : Nat) (v : V), pyOk n d = true → Den G r F H d v → Dp G.K H v (toPy d)
  | .non, _, _, _, .non => .non
  | .bl _, _, _, _, .bl b => .bl b
  | .int _, _, _, _, .int b => .int b
  | .str _, _, _, _, .str b => .str b
  | .tup ds, n + 1, _, p, .tup h l => .tup h.sq (dpL_of ds n _ p l)
  | .lst ds, n + 1, _, p, .lst h _ l => .lst (SqL.of h) (dpL_of ds n _ p l)
  | .tup _, 0, _, p, _ => by cases p
  | .lst _, 0, _, p, _ => by cases p
  | .dic _ _, n, _, p, _ => by cases n <;> cases p
  | .ref _, n, _, p, _ => by cases n <;> cases p
  | .gl _, n, _, p, _ => by cases n <;> cases p
  | .dct _ _, n, _, p, _ => by cases n <;> cases p
  | .ty _, n, _, p, _ => by cases n <;> cases p
  | .scr _, n, _, p, _ => by cases n <;> cases p
theorem dpL_of {G : Ev} {r F : List Addr} {H : Hp} : ∀ (ds : List D) (n : Nat) (vs : List V), pyOkL n ds = true → DenL G r F H ds vs → DpAll G.K H vs (toPyL ds)
  | [], _, _, _, .nil => .nil
  | d :: ds, n, _, p, .cons h t => by
    have p' : (pyOk n d && pyOkL n ds) = true := by cases n <;> exact p
    rw [Bool.and_eq_true] at p'
    exact .cons (dp_of d n _ p'.1 h) (dpL_of ds n _ p'.2 t)
end
mutual
theorem lay_of : ∀ (d : D) (n : Nat), pyOk n d = true → (toPy d).canLay0 = true ∧ (toPy d).depth ≤ n
  | .non, _, _ => ⟨rfl, Nat.zero_le _⟩
  | .bl _, _, _ => ⟨rfl, Nat.zero_le _⟩
  | .int _, _, _ => ⟨rfl, Nat.zero_le _⟩
  | .str x, n, p => ⟨SeqAt.canLay_of_shaped (d := .str x) (by cases n <;> exact p), Nat.zero_le _⟩
  | .tup ds, n + 1, p => by
    have h := layL_of ds n p
    exact ⟨h.1, by show PyData.depthAll (toPyL ds) + 1 ≤ n + 1; have := h.2; omega⟩
  | .lst ds, n + 1, p => by
    have h := layL_of ds n p
    exact ⟨h.1, by show PyData.depthAll (toPyL ds) + 1 ≤ n + 1; have := h.2; omega⟩
  | .tup _, 0, p => by cases p
  | .lst _, 0, p => by cases p
  | .dic _ _, n, p => by cases n <;> cases p
  | .ref _, n, p => by cases n <;> cases p
  | .gl _, n, p => by cases n <;> cases p
  | .dct _ _, n, p => by cases n <;> cases p
  | .ty _, n, p => by cases n <;> cases p
  | .scr _, n, p => by cases n <;> cases p
theorem layL_of : ∀ (ds : List D) (n : Nat), pyOkL n ds = true → PyData.canLayAll0 (toPyL ds) = true ∧ PyData.depthAll (toPyL ds) ≤ n
  | [], _, _ => ⟨rfl, Nat.zero_le _⟩
  | d :: ds, n, p => by
    have p' : (pyOk n d && pyOkL n ds) = true := by cases n <;> exact p
    rw [Bool.and_eq_true] at p'
    have h1 := lay_of d n p'.1
    have h2 := layL_of ds n p'.2
    refine ⟨by show (PyData.canLay0 (toPy d) && PyData.canLayAll0 (toPyL ds)) = true; rw [h1.1, h2.1]; rfl, ?_⟩
    show max (PyData.depth (toPy d)) (PyData.depthAll (toPyL ds)) ≤ n
    exact Nat.max_le.mpr ⟨h1.2, h2.2⟩
end
theorem shaped_of {d : D} (p : pyOk 40 d = true) : SeqAt.shaped (toPy d) = true := by
  obtain ⟨h1, h2⟩ := lay_of d 40 p
  unfold SeqAt.shaped
  rw [h1]
  exact decide_eq_true (by omega)
/-- == of scalars -/
def sclD : D → D → Option Bool
  | .str a, .str b => some (decide (a = b))
  | .int a, .int b => some (decide (a = b))
  | .bl a, .bl b => some (decide (a = b))
  | .non, .non => some true
  | .non, .int _ => some false
  | .int _, .non => some false
  | .non, .bl _ => some false
  | .bl _, .non => some false
  | .non, .str _ => some false
  | .str _, .non => some false
  | .int _, .str _ => some false
  | .str _, .int _ => some false
  | .bl _, .str _ => some false
  | .str _, .bl _ => some false
  | _, _ => none
def eqD (x y : D) : Option Bool := match sclD x y with
  | some b => some b
  | none => if (pyOk 40 x && pyOk 40 y) = true then some (PyData.eqv (toPy x) (toPy y)) else none
def blR (o : Option Bool) (h : MH) : Res D := match o with
  | some b => .ok (.bl b) h
  | none => .bad
def oEq : D → D → MH → Res D := fun x y h => blR (eqD x y) h
def oNe : D → D → MH → Res D := fun x y h => blR ((eqD x y).map not) h
def rEqA (K : PySem.W.Frag) : R2 := fun x y H Q => rEq x y H Q ∨ rEqD K x y H Q
def rNeA (K : PySem.W.Frag) : R2 := fun x y H Q => rNe x y H Q ∨ rNeD K x y H Q
theorem scl_ok {G : Ev} {r F : List Addr} {H : Hp} {x y : D} {v u : V} {b : Bool} (e : sclD x y = some b) (hx : Den G r F H x v) (hy : Den G r F H y u) : scal v u = true ∧ decide (v = u) = b := by
  cases hx <;> cases hy <;> first | (simp [sclD] at e; done) | (simp only [sclD, Option.some.injEq] at e; subst e; exact ⟨rfl, by simp⟩)
theorem ops_eq {G : Ev} : OpS G (rEqA G.K) oEq := fun W σ r F H h x y v u Q g hx hy q => by
  unfold oEq eqD at q
  cases e : sclD x y with
  | some b =>
    rw [e] at q
    obtain ⟨h1, h2⟩ := scl_ok e hx hy
    exact .inl ⟨h1, by rw [h2]; exact q.here g _ (.bl b)⟩
  | none =>
    rw [e] at q
    by_cases z : (pyOk 40 x && pyOk 40 y) = true
    · have q : Aft G W F σ r H (blR (if (pyOk 40 x && pyOk 40 y) = true then some (PyData.eqv (toPy x) (toPy y)) else none) h) _ := q
      rw [if_pos z] at q
      rw [Bool.and_eq_true] at z
      exact .inr ⟨toPy x, toPy y, dp_of _ _ _ z.1 hx, dp_of _ _ _ z.2 hy, shaped_of z.1, shaped_of z.2, q.here g _ (.bl _)⟩
    · have q : Aft G W F σ r H (blR (if (pyOk 40 x && pyOk 40 y) = true then some (PyData.eqv (toPy x) (toPy y)) else none) h) _ := q
      rw [if_neg z] at q
      exact False.elim q
theorem ops_ne {G : Ev} : OpS G (rNeA G.K) oNe := fun W σ r F H h x y v u Q g hx hy q => by
  unfold oNe eqD at q
  cases e : sclD x y with
  | some b =>
    rw [e] at q
    obtain ⟨h1, h2⟩ := scl_ok e hx hy
    exact .inl ⟨h1, by rw [h2]; exact q.here g _ (.bl _)⟩
  | none =>
    rw [e] at q
    by_cases z : (pyOk 40 x && pyOk 40 y) = true
    · have q : Aft G W F σ r H (blR ((if (pyOk 40 x && pyOk 40 y) = true then some (PyData.eqv (toPy x) (toPy y)) else none).map not) h) _ := q
      rw [if_pos z] at q
      rw [Bool.and_eq_true] at z
      exact .inr ⟨toPy x, toPy y, dp_of _ _ _ z.1 hx, dp_of _ _ _ z.2 hy, shaped_of z.1, shaped_of z.2, q.here g _ (.bl _)⟩
    · have q : Aft G W F σ r H (blR ((if (pyOk 40 x && pyOk 40 y) = true then some (PyData.eqv (toPy x) (toPy y)) else none).map not) h) _ := q
      rw [if_neg z] at q
      exact False.elim q
theorem opr_eq {X : Cx} {k : Nat} (hr : Room k X.A) : OpR X (compareOp .Eq) (rEqA X.K) := OpR.or op_eq (op_eqD hr.units)
theorem opr_ne {X : Cx} {k : Nat} (hr : Room k X.A) : OpR X (compareOp .NotEq) (rNeA X.K) := OpR.or op_ne (op_neD hr.units)

/-! ### in -/
def inD (x : D) : D → Option Bool
  | .lst ys => if (pyOk 40 x && pyOk 40 (.lst ys)) = true then some ((toPyL ys).any fun z => PyData.eqv z (toPy x)) else none
  | .tup ys => if (pyOk 40 x && pyOk 40 (.tup ys)) = true then some ((toPyL ys).any fun z => PyData.eqv z (toPy x)) else none
  | _ => none
def oIn : D → D → MH → Res D := fun x y h => blR (inD x y) h
def oNi : D → D → MH → Res D := fun x y h => blR ((inD x y).map not) h
def rInTD (K : PySem.W.Frag) : R2 := fun x y H Q => ∃ d ds, Dp K H x d ∧ Dp K H y (.tuple ds) ∧ SeqAt.shaped d = true ∧ SeqAt.shaped (.tuple ds) = true ∧ Q (.bl (ds.any fun z => PyData.eqv z d)) H
def rNiTD (K : PySem.W.Frag) : R2 := fun x y H Q => ∃ d ds, Dp K H x d ∧ Dp K H y (.tuple ds) ∧ SeqAt.shaped d = true ∧ SeqAt.shaped (.tuple ds) = true ∧ Q (.bl (!ds.any fun z => PyData.eqv z d)) H
theorem room_in2 {A : Around} {d : PyData} {n : Nat} (h : SeqAt.shaped d = true) (hu : A.units + 65 < cLine) : A.units + 1 + min n d.depth < cLine := by
  have h1 := SeqAt.depth_of_shaped h
  have h2 : min n d.depth ≤ d.depth := Nat.min_le_right _ _
  omega
section
variable {X : Cx}
theorem op_inTD (hu : X.A.units + 65 < cLine) : OpR X (compareOp .In) (rInTD X.K) := by
  intro pins s σ H x y v u Q I rx ry h
  obtain ⟨d, ds, hd, he, sd, se, q⟩ := h
  obtain ⟨as, r1⟩ := Dp.reads I d x v hd rx
  obtain ⟨bs, r2⟩ := Dp.reads I (.tuple ds) y u he ry
  exact SeqAt.in_tuple_reads r2 r1 (SeqAt.canLay_of_shaped se) (SeqAt.canLay_of_shaped sd) (room_in2 sd hu) ⟨.bl _, H, I, rfl, q⟩
theorem op_niTD (hu : X.A.units + 65 < cLine) : OpR X (compareOp .NotIn) (rNiTD X.K) := by
  intro pins s σ H x y v u Q I rx ry h
  obtain ⟨d, ds, hd, he, sd, se, q⟩ := h
  obtain ⟨as, r1⟩ := Dp.reads I d x v hd rx
  obtain ⟨bs, r2⟩ := Dp.reads I (.tuple ds) y u he ry
  exact SeqAt.notIn_tuple_reads r2 r1 (SeqAt.canLay_of_shaped se) (SeqAt.canLay_of_shaped sd) (room_in2 sd hu) ⟨.bl _, H, I, rfl, q⟩
end
def rInA (K : PySem.W.Frag) : R2 := fun x y H Q => rInD K x y H Q ∨ rInTD K x y H Q
def rNiA (K : PySem.W.Frag) : R2 := fun x y H Q => rNotInD K x y H Q ∨ rNiTD K x y H Q
theorem ops_in {G : Ev} : OpS G (rInA G.K) oIn := fun W σ r F H h x y v u Q g hx hy q => by
  unfold oIn inD at q
  cases y with
  | lst ys =>
    by_cases z : (pyOk 40 x && pyOk 40 (.lst ys)) = true
    · simp only [if_pos z] at q
      rw [Bool.and_eq_true] at z
      exact .inl ⟨toPy x, toPyL ys, dp_of _ _ _ z.1 hx, dp_of _ _ _ z.2 hy, shaped_of z.1, shaped_of z.2, q.here g _ (.bl _)⟩
    · simp only [if_neg z] at q
      exact False.elim q
  | tup ys =>
    by_cases z : (pyOk 40 x && pyOk 40 (.tup ys)) = true
    · simp only [if_pos z] at q
      rw [Bool.and_eq_true] at z
      exact .inr ⟨toPy x, toPyL ys, dp_of _ _ _ z.1 hx, dp_of _ _ _ z.2 hy, shaped_of z.1, shaped_of z.2, q.here g _ (.bl _)⟩
    · simp only [if_neg z] at q
      exact False.elim q
  | _ => exact False.elim q
theorem ops_ni {G : Ev} : OpS G (rNiA G.K) oNi := fun W σ r F H h x y v u Q g hx hy q => by
  unfold oNi inD at q
  cases y with
  | lst ys =>
    by_cases z : (pyOk 40 x && pyOk 40 (.lst ys)) = true
    · simp only [if_pos z] at q
      rw [Bool.and_eq_true] at z
      exact .inl ⟨toPy x, toPyL ys, dp_of _ _ _ z.1 hx, dp_of _ _ _ z.2 hy, shaped_of z.1, shaped_of z.2, q.here g _ (.bl _)⟩
    · simp only [if_neg z] at q
      exact False.elim q
  | tup ys =>
    by_cases z : (pyOk 40 x && pyOk 40 (.tup ys)) = true
    · simp only [if_pos z] at q
      rw [Bool.and_eq_true] at z
      exact .inr ⟨toPy x, toPyL ys, dp_of _ _ _ z.1 hx, dp_of _ _ _ z.2 hy, shaped_of z.1, shaped_of z.2, q.here g _ (.bl _)⟩
    · simp only [if_neg z] at q
      exact False.elim q
  | _ => exact False.elim q
theorem opr_in {X : Cx} {k : Nat} (hr : Room k X.A) : OpR X (compareOp .In) (rInA X.K) := OpR.or (op_inD (by have := hr.un; omega)) (op_inTD (by have := hr.un; omega))
theorem opr_ni {X : Cx} {k : Nat} (hr : Room k X.A) : OpR X (compareOp .NotIn) (rNiA X.K) := OpR.or (op_notInD (by have := hr.un; omega)) (op_niTD (by have := hr.un; omega))

/-! ### is -/
def oIsN : D → D → MH → Res D := fun x y h => match y with
  | .non => match x with
    | .non => .ok (.bl true) h
    | _ => .ok (.bl false) h
  | _ => .bad
def oNotN : D → D → MH → Res D := fun x y h => match y with
  | .non => match x with
    | .non => .ok (.bl false) h
    | _ => .ok (.bl true) h
  | _ => .bad
def oIsB : D → D → MH → Res D := fun x y h => match x, y with
  | .bl a, .bl b => .ok (.bl (decide (a = b))) h
  | _, _ => .bad
def oNotB : D → D → MH → Res D := fun x y h => match x, y with
  | .bl a, .bl b => .ok (.bl (!decide (a = b))) h
  | _, _ => .bad
theorem ops_isN {G : Ev} : OpS G (fun x y H Q => y = .non ∧ Q (.bl (decide (x = .non))) H) oIsN := fun W σ r F H h x y v u Q g hx hy q => by
  cases hy with
  | non =>
    refine ⟨rfl, ?_⟩
    cases hx <;> exact q.here g _ (.bl _)
  | _ => exact False.elim q
theorem ops_notN {G : Ev} : OpS G (fun x y H Q => y = .non ∧ Q (.bl (!decide (x = .non))) H) oNotN := fun W σ r F H h x y v u Q g hx hy q => by
  cases hy with
  | non =>
    refine ⟨rfl, ?_⟩
    cases hx <;> exact q.here g _ (.bl _)
  | _ => exact False.elim q
theorem ops_isB {G : Ev} : OpS G rIsB oIsB := fun W σ r F H h x y v u Q g hx hy q => by
  cases hx <;> cases hy <;> first | exact False.elim q | exact ⟨_, _, rfl, rfl, q.here g _ (.bl _)⟩
theorem ops_notB {G : Ev} : OpS G rNotB oNotB := fun W σ r F H h x y v u Q g hx hy q => by
  cases hx <;> cases hy <;> first | exact False.elim q | exact ⟨_, _, rfl, rfl, q.here g _ (.bl _)⟩

/-! ### ints -/
def oI (f : Int → Int → D) : D → D → MH → Res D := fun x y h => match x, y with
  | .int i, .int j => .ok (f i j) h
  | _, _ => .bad
theorem ops_I {G : Ev} {f : Int → Int → D} {g : Int → Int → V} (hf : ∀ i j r F H, Den G r F H (f i j) (g i j)) : OpS G (rI0 g) (oI f) := fun W σ r F H h x y v u Q gd hx hy q => by
  cases hx <;> cases hy <;> first | exact False.elim q | exact ⟨_, _, rfl, rfl, q.here gd _ (hf _ _ _ _ _)⟩
def oIc (c : Int → Int → Bool) (f : Int → Int → D) : D → D → MH → Res D := fun x y h => match x, y with
  | .int i, .int j => if c i j = true then .ok (f i j) h else .bad
  | _, _ => .bad
theorem ops_Ic {G : Ev} {c : Int → Int → Bool} {C : Int → Int → Prop} {f : Int → Int → D} {g : Int → Int → V} (hc : ∀ i j, c i j = true → C i j) (hf : ∀ i j r F H, Den G r F H (f i j) (g i j)) : OpS G (rI C g) (oIc c f) := fun W σ r F H h x y v u Q gd hx hy q => by
  cases hx <;> cases hy <;> first
    | exact False.elim q
    | (rename_i i j
       have q : Aft G W F σ r H (if c i j = true then .ok (f i j) h else .bad) _ := q
       by_cases z : c i j = true
       · rw [if_pos z] at q
         exact ⟨_, _, rfl, rfl, hc _ _ z, q.here gd _ (hf _ _ _ _ _)⟩
       · rw [if_neg z] at q
         exact False.elim q)
def oSub := oI fun i j => .int (i - j)
def oLt := oI fun i j => .bl (decide (i < j))
def oLe := oI fun i j => .bl (decide (i ≤ j))
def oGt := oI fun i j => .bl (decide (j < i))
def oGe := oI fun i j => .bl (decide (j ≤ i))
def cDiv (i j : Int) : Bool := decide (0 < j) && decide (j < 1073741824)
def oDiv := oIc cDiv fun i j => .int (i / j)
def oMod := oIc (fun _ j => decide (0 < j)) fun i j => .int (i % j)
def cPow (i j : Int) : Bool := decide (0 ≤ j) && decide (j ≤ 1000) && decide (i.natAbs ≤ 1000)
def oPow := oIc cPow fun i j => .int (i ^ j.toNat)
theorem ops_sub {G : Ev} : OpS G (rI0 fun i j => .int (i - j)) oSub := ops_I fun _ _ _ _ _ => .int _
theorem ops_lt {G : Ev} : OpS G (rI0 fun i j => .bl (decide (i < j))) oLt := ops_I fun _ _ _ _ _ => .bl _
theorem ops_le {G : Ev} : OpS G (rI0 fun i j => .bl (decide (i ≤ j))) oLe := ops_I fun _ _ _ _ _ => .bl _
theorem ops_gt {G : Ev} : OpS G (rI0 fun i j => .bl (decide (j < i))) oGt := ops_I fun _ _ _ _ _ => .bl _
theorem ops_ge {G : Ev} : OpS G (rI0 fun i j => .bl (decide (j ≤ i))) oGe := ops_I fun _ _ _ _ _ => .bl _
theorem ops_div {G : Ev} : OpS G (rI CDiv fun i j => .int (i / j)) oDiv := ops_Ic (fun i j h => by
  unfold cDiv at h
  rw [Bool.and_eq_true] at h
  exact ⟨of_decide_eq_true h.1, of_decide_eq_true h.2⟩) fun _ _ _ _ _ => .int _
theorem ops_mod {G : Ev} : OpS G (rI (fun _ j => 0 < j) fun i j => .int (i % j)) oMod := ops_Ic (fun i j h => of_decide_eq_true h) fun _ _ _ _ _ => .int _
theorem ops_pow {G : Ev} : OpS G (rI CPow fun i j => .int (i ^ j.toNat)) oPow := ops_Ic (fun i j h => by
  unfold cPow at h
  rw [Bool.and_eq_true, Bool.and_eq_true] at h
  have h1 := of_decide_eq_true h.1.1
  have h2 := of_decide_eq_true h.1.2
  have h3 := of_decide_eq_true h.2
  exact ⟨h1, by omega, by omega⟩) fun _ _ _ _ _ => .int _
def cMul (i j : Int) : Bool := (decide (-1000000000 < i) && decide (i < 1000000000)) || (decide (-1000000000 < j) && decide (j < 1000000000))

/-! ### + and * -/
def oAdd : D → D → MH → Res D := fun x y h => match x, y with
  | .int i, .int j => .ok (.int (i + j)) h
  | .str a, .str b => if a.length + b.length ≤ lim then .ok (.str (a ++ b)) h else .bad
  | .tup xs, .tup ys => if xs.length + ys.length ≤ lim then .ok (.tup (xs ++ ys)) h else .bad
  | .lst xs, .lst ys => if xs.length + ys.length ≤ lim then .ok (.lst (xs ++ ys)) h else .bad
  | _, _ => .bad
def rAddS : R2 := fun x y H Q => ∃ i j, x = .str i ∧ y = .str j ∧ i.length + j.length ≤ sizeLine ∧ Q (.str (i ++ j)) H
def rAddA (K : PySem.W.Frag) : R2 := fun x y H Q => rI0 (fun i j => .int (i + j)) x y H Q ∨ (rAddS x y H Q ∨ (rCatA K x y H Q ∨ rCat x y H Q))
end CH

/-! CH6: +, *, subscripts, calls of built-ins, dicts. -/
namespace CH
open PySem PySem.Spec PyProof.Rows L2

theorem ops_add {G : Ev} : OpS G (rAddA G.K) oAdd := fun W σ r F H h x y v u Q g hx hy q => by
  cases hx <;> cases hy <;> try exact False.elim q
  · exact .inl ⟨_, _, rfl, rfl, q.here g _ (.int _)⟩
  · rename_i a b
    have q : Aft G W F σ r H (if a.length + b.length ≤ lim then Res.ok (D.str (a ++ b)) h else .bad) _ := q
    by_cases z : a.length + b.length ≤ lim
    · rw [if_pos z] at q
      exact .inr (.inl ⟨_, _, rfl, rfl, lim_ok z, q.here g _ (.str _)⟩)
    · rw [if_neg z] at q; exact False.elim q
  · rename_i xs _ h1 l1 _ ys _ h2 l2
    have q : Aft G W F σ r H (if xs.length + ys.length ≤ lim then Res.ok (D.tup (xs ++ ys)) h else .bad) _ := q
    by_cases z : xs.length + ys.length ≤ lim
    · rw [if_pos z] at q
      refine .inr (.inr (.inl ⟨_, _, _, _, rfl, rfl, h1.sq, h2.sq, by rw [← l1.len, ← l2.len]; exact lim_ok z, fun e => ?_, fun _ e => ?_, fun _ _ p hp => ?_⟩))
      · subst e
        cases l1
        exact q.here g _ (.tup h2 l2)
      · subst e
        cases l2
        exact q.here g _ (.tup h1 (by simpa using l1))
      · exact q.hereS g (same_new hp) _ (new_tup g (l1.app l2) hp)
    · rw [if_neg z] at q; exact False.elim q
  · rename_i xs _ h1 n1 l1 _ ys _ h2 n2 l2
    have q : Aft G W F σ r H (if xs.length + ys.length ≤ lim then Res.ok (D.lst (xs ++ ys)) h else .bad) _ := q
    by_cases z : xs.length + ys.length ≤ lim
    · rw [if_pos z] at q
      exact .inr (.inr (.inr ⟨_, _, _, _, rfl, rfl, h1, h2, by rw [← l1.len, ← l2.len]; exact lim_ok z, fun p hp => q.hereS g (same_new hp) _ (new_lst g (l1.app l2) hp)⟩))
    · rw [if_neg z] at q; exact False.elim q
theorem opr_add {X : Cx} : OpR X (binaryOp .Add) (rAddA X.K) := OpR.or op_add (OpR.or op_add_str (OpR.or op_catA op_cat))
def oMul := oIc cMul fun i j => .int (i * j)
theorem ops_mul {G : Ev} : OpS G (rI CMul fun i j => .int (i * j)) oMul := ops_Ic (fun i j h => by
  unfold cMul at h
  rw [Bool.or_eq_true, Bool.and_eq_true, Bool.and_eq_true] at h
  rcases h with ⟨h1, h2⟩ | ⟨h1, h2⟩
  · have h1 := of_decide_eq_true h1
    have h2 := of_decide_eq_true h2
    exact .inl ⟨by omega, by omega⟩
  · have h1 := of_decide_eq_true h1
    have h2 := of_decide_eq_true h2
    exact .inr ⟨by omega, by omega⟩) fun _ _ _ _ _ => .int _

/-! ### a chain of two comparisons -/
def mChain (g g' : D → D → MH → Res D) (a b c : Mo D) : Mo D := mBind a fun x => mBind b fun y => fun sl h => bindR (g x y h) fun z h1 => match z with
  | .bl true => bindR (c sl h1) fun w h2 => g' y w h2
  | .bl false => .ok (.bl false) h1
  | _ => .bad
section
variable {X : Cx} {W : WX} {pos : Pos} {a b c : Expr} {es : List Expr} {fa fb fc : Mo D} {fl : Mo (List D)}
theorem chain_of {op op' : CmpOp} {rr rr' : R2} {g g' : D → D → MH → Res D} (hs : OpS (evOf X) rr g) (hs' : OpS (evOf X) rr' g') (σ : L2.St) (H : Hp) (Q : VK) (q : tE (evOf X) W (mChain g g' fa fb fc) σ H Q) : tChain rr rr' (tE (evOf X) W fa) (tE (evOf X) W fb) (tE (evOf X) W fc) σ H Q := by
  obtain ⟨r, F, sl, h, s, gd, q⟩ := q
  refine tE.of s gd (q.bind.imp fun r1 H1 x h1 e1 g1 q1 v hv => ?_)
  refine tE.of (s.mono gd.mine e1) g1 (q1.bind.imp fun r2 H2 y h2 e2 g2 q2 u hu => ?_)
  have hv2 := Den.mono g1.mine e2 _ _ hv
  refine hs W σ r2 F H2 h2 x y v u _ g2 hv2 hu (q2.bind.imp fun r3 H3 z h3 e3 g3 q3 w hw => ?_)
  cases hw with
  | bl k =>
    refine ⟨k, rfl, ?_⟩
    cases k with
    | false => exact q3.here g3 _ (.bl false)
    | true =>
      refine tE.of ((((s.mono gd.mine e1).mono g1.mine e2)).mono g2.mine e3) g3 (q3.bind.imp fun r4 H4 z' h4 e4 g4 q4 w' hw' => ?_)
      exact hs' W σ r4 F H4 h4 y z' u w' Q g4 (Den.mono g3.mine e4 _ _ (Den.mono g2.mine e3 _ _ hu)) hw' q4
  | _ => exact False.elim q3
theorem de_chain {op op' : CmpOp} {rr rr' : R2} {g g' : D → D → MH → Res D} (ho : OpR X (compareOp op) rr) (hs : OpS (evOf X) rr g) (ho' : OpR X (compareOp op') rr') (hs' : OpS (evOf X) rr' g') (ha : PE X a (tE (evOf X) W fa)) (hb : PE X b (tE (evOf X) W fb)) (hc : PE X c (tE (evOf X) W fc))
    (hm : lastMarks [op, op'] [b, c] = false := by with_unfolding_all rfl) : PE X (.Compare a [op, op'] [b, c] pos) (tE (evOf X) W (mChain g g' fa fb fc)) := (pe_chain ho ho' ha hb hc hm).imp (chain_of (op := op) (op' := op') hs hs')
theorem dt_chain {op op' : CmpOp} {rr rr' : R2} {g g' : D → D → MH → Res D} (ho : OpR X (compareOp op) rr) (hs : OpS (evOf X) rr g) (ho' : OpR X (compareOp op') rr') (hs' : OpS (evOf X) rr' g') (ha : PE X a (tE (evOf X) W fa)) (hb : PE X b (tE (evOf X) W fb)) (hc : PE X c (tE (evOf X) W fc))
    (hm : lastMarks [op, op'] [b, c] = false := by with_unfolding_all rfl) : PT X (.Compare a [op, op'] [b, c] pos) (tT (evOf X) W (mTest (mChain g g' fa fb fc))) := (pt_chain ho ho' ha hb hc hm).imp fun σ H Q ⟨r, F, sl, h, s, gd, q⟩ =>
  chain_of (W := W) (op := op) (op' := op') hs hs' σ H _ (tE.of s gd (q.bind.imp fun r1 H1 x h1 e1 g1 q1 v hv => test_of g1 hv q1))

/-! ### subscripts of sequences -/
def oLst : Option O → Option (List D)
  | some (.lst xs) => some xs
  | _ => none
theorem oLst_some {o : Option O} {xs : List D} (e : oLst o = some xs) : o = some (.lst xs) := by
  cases o with
  | none => cases e
  | some o => cases o with
    | lst ys => cases e; rfl
    | _ => cases e
def ixD (h : MH) (i : Int) : D → Option D
  | .tup xs => atI xs i
  | .lst xs => atI xs i
  | .scr ns => (atI ns i).map D.int
  | .ref k => (oLst h[k]?).bind fun xs => atI xs i
  | _ => none
def oIx : D → D → MH → Res D := fun x y h => match y with
  | .int i => optR (ixD h i x) h
  | _ => .bad
def rIxA (K : PySem.W.Frag) : R2 := fun x y H Q => rIxL K x y H Q ∨ rIxT K x y H Q
theorem ixr {X : Cx} : IxR X (rIxA X.K) := ix_list.or ix_tup
theorem atI_den {G : Ev} {r F : List Addr} {H : Hp} {ds : List D} {vs : List V} {i : Int} {d : D} (l : DenL G r F H ds vs) (e : atI ds i = some d) : ∃ v, atI vs i = some v ∧ Den G r F H d v := by
  unfold atI at e ⊢
  rw [← l.len]
  cases hx : ixN ds.length i with
  | none => rw [hx] at e; cases e
  | some j =>
    rw [hx] at e
    obtain ⟨v, h1, h2⟩ := l.get (i := j) e
    exact ⟨v, h1, h2⟩
theorem atI_map {α β : Type} (f : α → β) (xs : List α) (i : Int) : atI (xs.map f) i = (atI xs i).map f := by
  unfold atI
  rw [List.length_map]
  cases ixN xs.length i with
  | none => rfl
  | some j => simp
theorem optR_ok {α : Type} {G : Ev} {W : WX} {r F : List Addr} {H : Hp} {σ : L2.St} {h : MH} {o : Option α} {Q : List Addr → Hp → α → MH → Prop} (q : Aft G W F σ r H (optR o h) Q) : ∃ a, o = some a ∧ Aft G W F σ r H (.ok a h) Q := by
  cases o with
  | none => exact False.elim q
  | some a => exact ⟨a, rfl, q⟩
theorem scr_sq {K : PySem.W.Frag} {H : Hp} {a : Addr} {vs : List V} (hq : (∃ o, H a = some (.frz o (.lst vs))) ∨ SqL K (fun _ => none) a vs) : SqL K H a vs := by
  rcases hq with ⟨o, hq⟩ | hq
  · exact .inl (.inr ⟨o, hq⟩)
  · rcases hq with (hq | ⟨o, hq⟩) | hq
    · cases hq
    · cases hq
    · exact .inr hq
theorem ops_ix {G : Ev} : OpS G (rIxA G.K) oIx := fun W σ r F H h x y v u Q g hx hy q => by
  cases hy with
  | int i =>
    obtain ⟨d, e, qq⟩ := optR_ok (show Aft G W F σ r H (optR (ixD h i x) h) _ from q)
    cases hx with
    | tup hq hl =>
      obtain ⟨v, h1, h2⟩ := atI_den hl e
      exact .inr ⟨_, _, i, v, rfl, rfl, hq.sq, h1, qq.here g _ h2⟩
    | lst hq hn hl =>
      obtain ⟨v, h1, h2⟩ := atI_den hl e
      exact .inl ⟨_, _, i, v, rfl, rfl, SqL.of hq, h1, qq.here g _ h2⟩
    | scr hq =>
      rename_i a ns
      have e : (atI ns i).map D.int = some d := e
      cases hn : atI ns i with
      | none => rw [hn] at e; cases e
      | some n =>
        rw [hn] at e; cases e
        exact .inl ⟨a, ns.map V.int, i, .int n, rfl, rfl, scr_sq hq, by rw [atI_map, hn]; rfl, qq.here g _ (.int n)⟩
    | ref hk =>
      rename_i k a
      have e : ((oLst h[k]?).bind fun xs => atI xs i) = some d := e
      cases ho : oLst h[k]? with
      | none => rw [ho] at e; cases e
      | some xs =>
        rw [ho] at e
        obtain ⟨a', ea, vs, h1, h2⟩ := g.ob k _ (oLst_some ho)
        rw [hk] at ea; cases ea
        obtain ⟨v, h3, h4⟩ := atI_den h2 e
        exact .inl ⟨_, _, i, v, rfl, rfl, SqL.of h1, h3, qq.here g _ h4⟩
    | _ => cases e
  | _ => exact False.elim q
theorem de_ix {g : D → D → MH → Res D} {rr : R2} (ho : IxR X rr) (hs' : OpS (evOf X) rr g) (ha : PE X a (tE (evOf X) W fa)) (hb : PE X b (tE (evOf X) W fb)) (hs : PlainIx b) : PE X (.Subscript a b pos) (tE (evOf X) W (mOp g fa fb)) :=
  (pe_ix ho ha hb hs).imp fun σ H Q ⟨r, F, sl, h, s, g, q⟩ => by
    refine tE.of s g (q.bind.imp fun r1 H1 x h1 e1 g1 q1 v hv => ?_)
    refine tE.of (s.mono g.mine e1) g1 (q1.bind.imp fun r2 H2 y h2 e2 g2 q2 u hu => ?_)
    exact hs' W σ r2 F H2 h2 x y v u Q g2 (Den.mono g1.mine e2 _ _ hv) hu q2

/-! ### built-in functions, by values -/
def CallS (G : Ev) (rr : List V → Hp → VK → Prop) (g : List D → MH → Res D) : Prop := ∀ (W : WX) (σ : L2.St) (r F : List Addr) (H : Hp) (h : MH) (ds : List D) (vs : List V) (Q : VK), GoodH G r F h H → DenL G r F H ds vs →
  Aft G W F σ r H (g ds h) (fun r' H' d _ => ∀ z, Den G r' F H' d z → Q z H') → rr vs H Q
def mFn (g : List D → MH → Res D) (fl : Mo (List D)) : Mo D := mBind fl fun ds => fun _ h => g ds h
theorem de_callB {id : String} {x : Str} {p : Pos} {rr : List V → Hp → VK → Prop} {g : List D → MH → Res D} (hc : CallR X (.builtin id) rr) (hs : CallS (evOf X) rr g) (hg : Gl X x) (hm : X.mg x = none) (hv : bootBuiltins x = some (.builtin id)) (ha : PA X (a :: es) (tA (evOf X) W fl)) (hn : x ≠ "__name__" := by decide) (hdb : (x == ("__debug__" : Str)) = false := by decide)
    (he : starEach (a :: es) X.env = (false, eval a X.env) :: starEach es X.env := by rfl) (hpl : (backTo pos (starEach es X.env)).any (·.1) = false := by rfl) : PE X (.Call (.Name x p) (a :: es) [] pos) (tE (evOf X) W (mFn g fl)) :=
  (pe_callB hc hg hm hv ha hn hdb he hpl).imp fun σ H Q ⟨r, F, sl, h, s, g, q⟩ => tA.of s g (q.bind.imp fun r1 H1 ds h1 e1 g1 q1 vs hvs => hs W σ r1 F H1 h1 ds vs Q g1 hvs q1)
theorem de_callTy {T : String} {x : Str} {p : Pos} {rr : List V → Hp → VK → Prop} {g : List D → MH → Res D} (hc : CallR X (.type T) rr) (hs : CallS (evOf X) rr g) (hg : Gl X x) (hm : X.mg x = none) (hv : bootBuiltins x = some (.type T)) (ha : PA X (a :: es) (tA (evOf X) W fl)) (hn : x ≠ "__name__" := by decide) (hdb : (x == ("__debug__" : Str)) = false := by decide)
    (he : starEach (a :: es) X.env = (false, eval a X.env) :: starEach es X.env := by rfl) (hpl : (backTo pos (starEach es X.env)).any (·.1) = false := by rfl) : PE X (.Call (.Name x p) (a :: es) [] pos) (tE (evOf X) W (mFn g fl)) :=
  (pe_callTy hc hg hm hv ha hn hdb he hpl).imp fun σ H Q ⟨r, F, sl, h, s, g, q⟩ => tA.of s g (q.bind.imp fun r1 H1 ds h1 e1 g1 q1 vs hvs => hs W σ r1 F H1 h1 ds vs Q g1 hvs q1)
/-- a name that stands for a type, a def | a class -/
theorem de_ty {x : Str} {n : String} (hg : Gl X x) (hm : X.mg x = none) (hv : bootBuiltins x = some (.type n)) (hn : x ≠ "__name__" := by decide) (hd : (x == ("__debug__" : Str)) = false := by decide) : PE X (.Name x pos) (tE (evOf X) W (mC (.ty n))) :=
  de_c (pe_bltn (v := .ty n) hg hm hv rfl hn hd) fun _ _ _ => .ty n
theorem de_gl {x : Str} {f : Addr} (hg : Gl X x) (hm : X.mg x = some (.ref f)) (hd : (x == ("__debug__" : Str)) = false := by decide) : PE X (.Name x pos) (tE (evOf X) W (mC (.gl x))) :=
  de_c (pe_glob (v := .ref f) hg hm rfl hd) fun _ _ _ => .gl hm
/-- a written constant of the module -/
def CoD (G : Ev) (x : Str) (d : D) : Prop := ∃ (u : Value) (v : V), G.mg x = some u ∧ RelV v u ∧ ∀ r F H, Den G r F H d v
theorem de_con {x : Str} {d : D} (hg : Gl X x) (hm : CoD (evOf X) x d) (hd : (x == ("__debug__" : Str)) = false := by decide) : PE X (.Name x pos) (tE (evOf X) W (mC d)) := by
  obtain ⟨u, v, h1, h2, h3⟩ := hm
  exact de_c (pe_glob (v := v) hg h1 h2 hd) h3
end

def lenD (h : MH) : D → Option Nat
  | .tup xs => some xs.length
  | .lst xs => some xs.length
  | .scr xs => some xs.length
  | .str x => if x.length ≤ lim then some x.length else none
  | .ref k => (oLst h[k]?).map List.length
  | _ => none
def fLen : List D → MH → Res D := fun ds h => match ds with
  | [x] => optR ((lenD h x).map fun n => .int (n : Nat)) h
  | _ => .bad
def rLenA (K : PySem.W.Frag) : List V → Hp → VK → Prop := fun xs H Q => (∃ p ys, xs = [.ref p] ∧ (SqL K H p ys ∨ SqT K H p ys) ∧ Q (.int ys.length) H) ∨ (∃ z, xs = [.str z] ∧ z.length ≤ sizeLine ∧ Q (.int z.length) H)
theorem calls_len {G : Ev} : CallS G (rLenA G.K) fLen := fun W σ r F H h ds vs Q g hd q => by
  match ds, hd with
  | [], _ => exact False.elim q
  | _ :: _ :: _, _ => exact False.elim q
  | [x], .cons hx .nil =>
    obtain ⟨d, e, qq⟩ := optR_ok (show Aft G W F σ r H (optR ((lenD h x).map fun n => D.int (n : Nat)) h) _ from q)
    cases hx with
    | tup hq hl =>
      cases e
      exact .inl ⟨_, _, rfl, .inr hq.sq, by rw [← hl.len]; exact qq.here g _ (.int _)⟩
    | lst hq hn hl =>
      cases e
      exact .inl ⟨_, _, rfl, .inl (SqL.of hq), by rw [← hl.len]; exact qq.here g _ (.int _)⟩
    | scr hq =>
      rename_i a ns
      cases e
      exact .inl ⟨a, ns.map V.int, rfl, .inl (scr_sq hq), by rw [List.length_map]; exact qq.here g _ (.int _)⟩
    | str z =>
      have e : ((if z.length ≤ lim then some z.length else none).map fun n => D.int (n : Nat)) = some d := e
      by_cases hz : z.length ≤ lim
      · rw [if_pos hz] at e
        cases e
        exact .inr ⟨z, rfl, lim_ok hz, qq.here g _ (.int _)⟩
      · rw [if_neg hz] at e
        cases e
    | ref hk =>
      rename_i k a
      have e : (((oLst h[k]?).map List.length).map fun n => D.int (n : Nat)) = some d := e
      cases ho : oLst h[k]? with
      | none => rw [ho] at e; cases e
      | some xs =>
        rw [ho] at e
        cases e
        obtain ⟨a', ea, vs, h1, h2⟩ := g.ob k _ (oLst_some ho)
        rw [hk] at ea; cases ea
        exact .inl ⟨_, _, rfl, .inl (SqL.of h1), by rw [← h2.len]; exact qq.here g _ (.int _)⟩
    | _ => cases e
theorem callr_len {X : Cx} : CallR X (.builtin "len") (rLenA X.K) := call_len_seq.or call_len_str
end CH

/-! CH7: built-ins, writes to objects, dicts, methods of built-in types. -/
namespace CH
open PySem PySem.Spec PyProof.Rows L2

/-! ### an object of ours is written -/
section
variable {G : Ev} {r F : List Addr} {H : Hp} {h : MH}
theorem Ext.upd {a : Addr} {o : HO} (ha : a ∈ r) : Ext r H r (upd H a o) := ⟨⟨[], by simp, fun _ z => by cases z⟩, fun b u e n => by rw [upd_ne (fun q => n (by rw [q]; exact ha))]; exact e⟩
theorem GoodH.set {k : Nat} {a : Addr} {o : O} {ho : HO} (g : GoodH G r F h H) (hk : r[k]? = some a) (mu : MutT (some ho)) (q : ODen G r F (upd H a ho) a o) : GoodH G r F (h.set k o) (upd H a ho) := by
  have ha : a ∈ r := List.mem_of_getElem? hk
  have e : Ext r H r (L2.upd H a ho) := Ext.upd ha
  refine ⟨by rw [List.length_set]; exact g.len, g.nd, fun b hb => ⟨?_, (g.fd b hb).2⟩, fun i o' hi => ?_⟩
  · rw [upd_ne (fun z => (g.fd b hb).2 (by rw [z]; exact ha))]
    exact (g.fd b hb).1
  · by_cases hik : k = i
    · subst hik
      have hl : k < h.length := by rw [← g.len]; exact (List.getElem?_eq_some_iff.mp hk).1
      rw [List.getElem?_set_self hl] at hi
      cases hi
      exact ⟨a, hk, q⟩
    · rw [List.getElem?_set_ne hik] at hi
      obtain ⟨b, eb, qb⟩ := g.ob i o' hi
      have ne : b ≠ a := fun z => by
        subst z
        have h1 := (List.getElem?_eq_some_iff.mp hk)
        have h2 := (List.getElem?_eq_some_iff.mp eb)
        obtain ⟨l1, e1⟩ := h1
        obtain ⟨l2, e2⟩ := h2
        exact hik ((List.getElem_inj g.nd).mp (e1.trans e2.symm))
      exact ⟨b, eb, ODen.mono g.mine e qb (upd_ne ne)⟩
end

/-! ### types -/
def tyD (h : MH) : D → Option String
  | .non => some "NoneType"
  | .bl _ => some "bool"
  | .int _ => some "int"
  | .str _ => some "str"
  | .tup _ => some "tuple"
  | .lst _ => some "list"
  | .scr _ => some "list"
  | .dic _ _ => some "dict"
  | .ref k => match h[k]? with
    | some (.lst _) => some "list"
    | some (.dic _ _) => some "dict"
    | _ => none
  | _ => none
/-- is a value of type t an n -/
def isiT (t n : String) : Option Bool :=
  if n = "int" then (if t = "int" ∨ t = "bool" then some true else if t = "NoneType" ∨ t = "str" ∨ t = "tuple" ∨ t = "list" ∨ t = "dict" then some false else none)
  else if n = "bool" ∨ n = "str" ∨ n = "tuple" ∨ n = "list" then (if t = n then some true else if t = "int" ∨ t = "bool" ∨ t = "NoneType" ∨ t = "str" ∨ t = "tuple" ∨ t = "list" ∨ t = "dict" then some false else none)
  else none
theorem isiT_ok {t n : String} {b : Bool} (e : isiT t n = some b) : kitB t n = some b := by
  have key : ∀ t ∈ ["int", "bool", "NoneType", "str", "tuple", "list", "dict"], ∀ n ∈ ["int", "bool", "str", "tuple", "list"], kitB t n = isiT t n := by decide +kernel
  have hn : n ∈ ["int", "bool", "str", "tuple", "list"] := by
    unfold isiT at e
    by_cases h1 : n = "int"
    · simp [h1]
    · rw [if_neg h1] at e
      by_cases h2 : n = "bool" ∨ n = "str" ∨ n = "tuple" ∨ n = "list"
      · rcases h2 with h2 | h2 | h2 | h2 <;> simp [h2]
      · rw [if_neg h2] at e; cases e
  have ht : t ∈ ["int", "bool", "NoneType", "str", "tuple", "list", "dict"] := by
    unfold isiT at e
    by_cases h1 : n = "int"
    · rw [if_pos h1] at e
      by_cases h3 : t = "int" ∨ t = "bool"
      · rcases h3 with h3 | h3 <;> simp [h3]
      · rw [if_neg h3] at e
        by_cases h4 : t = "NoneType" ∨ t = "str" ∨ t = "tuple" ∨ t = "list" ∨ t = "dict"
        · rcases h4 with h4 | h4 | h4 | h4 | h4 <;> simp [h4]
        · rw [if_neg h4] at e; cases e
    · rw [if_neg h1] at e
      by_cases h2 : n = "bool" ∨ n = "str" ∨ n = "tuple" ∨ n = "list"
      · rw [if_pos h2] at e
        by_cases h3 : t = n
        · rcases h2 with h2 | h2 | h2 | h2 <;> simp [h3, h2]
        · rw [if_neg h3] at e
          by_cases h4 : t = "int" ∨ t = "bool" ∨ t = "NoneType" ∨ t = "str" ∨ t = "tuple" ∨ t = "list" ∨ t = "dict"
          · rcases h4 with h4 | h4 | h4 | h4 | h4 | h4 | h4 <;> simp [h4]
          · rw [if_neg h4] at e; cases e
      · rw [if_neg h2] at e; cases e
  rw [key t ht n hn]; exact e
theorem ty_den {G : Ev} {r F : List Addr} {H : Hp} {h : MH} {x : D} {v : V} {t : String} (g : GoodH G r F h H) (hx : Den G r F H x v) (e : tyD h x = some t) : TyX G.K H v (.type t) := by
  cases hx with
  | non => cases e; exact .base .non
  | bl b => cases e; exact .base (.bl b)
  | int i => cases e; exact .base (.int i)
  | str x => cases e; exact .base (.str x)
  | tup hq hl =>
    cases e
    rcases hq with hq | hq
    · exact .base (.tup hq)
    · rcases hq with (hq | ⟨o, hq⟩) | ⟨o, its, n, h1, h2, _⟩
      · cases hq
      · cases hq
      · exact .kTuple h1 h2
  | lst hq hn hl => cases e; exact .base (.lst hq)
  | scr hq =>
    cases e
    rcases hq with ⟨o, hq⟩ | hq
    · exact .base (.frz hq)
    · rcases hq with (hq | ⟨o, hq⟩) | ⟨o, its, n, h1, h2, _⟩
      · cases hq
      · cases hq
      · exact .kList h1 h2
  | dic hq hn hl hd => cases e; exact .base (.dK hq)
  | ref hk =>
    rename_i k a
    cases ho : h[k]? with
    | none => unfold tyD at e; simp only [ho] at e; cases e
    | some o =>
      obtain ⟨a', ea, q⟩ := g.ob k _ ho
      rw [hk] at ea; cases ea
      cases o with
      | lst xs =>
        unfold tyD at e; simp only [ho] at e; cases e
        obtain ⟨vs, h1, _⟩ := q
        exact .base (.lst h1)
      | dic ks xs =>
        unfold tyD at e; simp only [ho] at e; cases e
        obtain ⟨vs, h1, _⟩ := q
        exact .base (.dK h1)
      | ins c ks xs => unfold tyD at e; simp only [ho] at e; cases e
      | tbl => unfold tyD at e; simp only [ho] at e; cases e
  | ty n => cases e
  | dct hq hl hd => cases e
  | gl hm => cases e
def isiL (t : String) : List D → Option Bool
  | [] => some false
  | .ty n :: cs => match isiT t n, isiL t cs with
    | some a, some b => some (a || b)
    | _, _ => none
  | _ :: _ => none
def isiV (t : String) : D → Option Bool
  | .ty n => isiT t n
  | .tup cs => isiL t cs
  | _ => none
def fIsi : List D → MH → Res D := fun ds h => match ds with
  | [x, c] => match tyD h x with
    | some t => blR (isiV t c) h
    | none => .bad
  | _ => .bad
def rIsiA (K : PySem.W.Frag) : List V → Hp → VK → Prop := fun xs H Q => rIsi K xs H Q ∨ (rIsiT K xs H Q ∨ rIsiK K xs H Q)
theorem isiL_ok {G : Ev} {r F : List Addr} {H : Hp} {t : String} : ∀ {cs : List D} {vs : List V} {b : Bool}, isiL t cs = some b → DenL G r F H cs vs → ∃ us : List Value, Paired ClsV vs us ∧ PySem.W.kitAny G.K (.type t) us = some b
  | [], _, b, e, .nil => by cases e; exact ⟨[], .nil, kitAny_nil⟩
  | .ty n :: cs, _, b, e, .cons h l => by
    cases h
    unfold isiL at e
    cases hn : isiT t n with
    | none => rw [hn] at e; cases e
    | some c =>
      cases hc : isiL t cs with
      | none => rw [hn, hc] at e; cases e
      | some c' =>
        rw [hn, hc] at e
        cases e
        obtain ⟨us, p, q⟩ := isiL_ok (cs := cs) hc l
        exact ⟨.type n :: us, .cons (.ty n) p, kitAny_cons (kit_ty (isiT_ok hn)) (fun z => by rw [z]; exact q) fun z => by rw [z]; rfl⟩
  | .non :: _, _, _, e, _ => by cases e
  | .bl _ :: _, _, _, e, _ => by cases e
  | .int _ :: _, _, _, e, _ => by cases e
  | .str _ :: _, _, _, e, _ => by cases e
  | .tup _ :: _, _, _, e, _ => by cases e
  | .lst _ :: _, _, _, e, _ => by cases e
  | .dic _ _ :: _, _, _, e, _ => by cases e
  | .ref _ :: _, _, _, e, _ => by cases e
  | .gl _ :: _, _, _, e, _ => by cases e
  | .dct _ _ :: _, _, _, e, _ => by cases e
  | .scr _ :: _, _, _, e, _ => by cases e
theorem vals_of_cls {K : PySem.W.Frag} : ∀ {vs : List V} {us : List Value}, Paired ClsV vs us → Vals vs us
  | _, _, .nil => .nil
  | _, _, .cons (.ty n) t => .cons rfl (vals_of_cls (K := K) t)
  | _, _, .cons (.own C) t => .cons rfl (vals_of_cls (K := K) t)
theorem calls_isi {G : Ev} : CallS G (rIsiA G.K) fIsi := fun W σ r F H h ds vs Q g hd q => by
  match ds, hd with
  | [], _ => exact False.elim q
  | [_], _ => exact False.elim q
  | _ :: _ :: _ :: _, _ => exact False.elim q
  | [x, c], .cons hx (.cons hc .nil) =>
    have q0 : Aft G W F σ r H (match tyD h x with
      | some t => blR (isiV t c) h
      | none => .bad) (fun r' H' d _ => ∀ z, Den G r' F H' d z → Q z H') := q
    clear q
    cases ht : tyD h x with
    | none => rw [ht] at q0; exact False.elim q0
    | some t =>
      rw [ht] at q0
      have ty := ty_den g hx ht
      cases hb : isiV t c with
      | none =>
        have q0 : Aft G W F σ r H (blR (isiV t c) h) (fun r' H' d _ => ∀ z, Den G r' F H' d z → Q z H') := q0
        rw [hb] at q0; exact False.elim q0
      | some b =>
        have q0 : Aft G W F σ r H (blR (isiV t c) h) (fun r' H' d _ => ∀ z, Den G r' F H' d z → Q z H') := q0
        rw [hb] at q0
        have q1 := q0.here g _ (.bl b)
        cases hc with
        | ty n => exact .inl ⟨_, _, _, _, b, rfl, .ty n, ty, kit_ty (isiT_ok hb), q1⟩
        | tup hq hl =>
          obtain ⟨us, p1, p2⟩ := isiL_ok hb hl
          rcases hq with hq | hq
          · exact .inr (.inl ⟨_, _, _, _, us, b, rfl, hq, p1, ty, p2, q1⟩)
          · rcases hq with (hq | ⟨o, hq⟩) | ⟨o, its, n, h1, h2, h3, h4, h5⟩
            · cases hq
            · cases hq
            · have eu : its.toList = us := (ClsV.all p1 h5)
              obtain ⟨oc, od, dt, sl⟩ := o
              have h2 : oc = .type "tuple" := h2
              have h3 : dt = .seq its n := h3
              subst h2 h3
              exact .inr (.inr ⟨_, _, od, us, n, sl, _, b, rfl, by rw [← eu]; exact h1, ty, p2, q1⟩)
        | _ => cases hb
theorem callr_isi {X : Cx} : CallR X (.builtin "isinstance") (rIsiA X.K) := call_isi.or (call_isiT.or call_isiK)

/-! ### tuple, list, int, str, max, all, any -/
/-- the items of a list or tuple -/
def seqD (h : MH) : D → Option (List D)
  | .tup xs => some xs
  | .lst xs => some xs
  | .ref k => oLst h[k]?
  | _ => none
def fTuple : List D → MH → Res D := fun ds h => match ds with
  | [x] => optR ((seqD h x).map D.tup) h
  | _ => .bad
def fList : List D → MH → Res D := fun ds h => match ds with
  | [x] => optR ((seqD h x).map D.lst) h
  | _ => .bad
def rTupleA (K : PySem.W.Frag) : List V → Hp → VK → Prop := fun xs H Q => ∃ p ys, xs = [.ref p] ∧ ((SqL K H p ys ∧ ∀ l, H l = none → Q (.ref l) (upd H l (.tup ys))) ∨ (SqT K H p ys ∧ Q (.ref p) H))
def rListA (K : PySem.W.Frag) : List V → Hp → VK → Prop := fun xs H Q => ∃ p ys, xs = [.ref p] ∧ (SqL K H p ys ∨ SqT K H p ys) ∧ ∀ l, H l = none → Q (.ref l) (upd H l (.lst ys))
theorem calls_tuple {G : Ev} : CallS G (rTupleA G.K) fTuple := fun W σ r F H h ds vs Q g hd q => by
  match ds, hd with
  | [], _ => exact False.elim q
  | _ :: _ :: _, _ => exact False.elim q
  | [x], .cons hx .nil =>
    obtain ⟨d, e, qq⟩ := optR_ok (show Aft G W F σ r H (optR ((seqD h x).map D.tup) h) _ from q)
    clear q
    cases hx with
    | tup hq hl => cases e; exact ⟨_, _, rfl, .inr ⟨hq.sq, qq.here g _ (.tup hq hl)⟩⟩
    | lst hq hn hl => cases e; exact ⟨_, _, rfl, .inl ⟨SqL.of hq, fun p hp => qq.hereS g (same_new hp) _ (new_tup g hl hp)⟩⟩
    | ref hk =>
      rename_i k a
      have e : (oLst h[k]?).map D.tup = some d := e
      cases ho : oLst h[k]? with
      | none => rw [ho] at e; cases e
      | some xs =>
        rw [ho] at e
        cases e
        obtain ⟨a', ea, vs, h1, h2⟩ := g.ob k _ (oLst_some ho)
        rw [hk] at ea; cases ea
        exact ⟨_, _, rfl, .inl ⟨SqL.of h1, fun p hp => qq.hereS g (same_new hp) _ (new_tup g h2 hp)⟩⟩
    | _ => cases e
theorem calls_list {G : Ev} : CallS G (rListA G.K) fList := fun W σ r F H h ds vs Q g hd q => by
  match ds, hd with
  | [], _ => exact False.elim q
  | _ :: _ :: _, _ => exact False.elim q
  | [x], .cons hx .nil =>
    obtain ⟨d, e, qq⟩ := optR_ok (show Aft G W F σ r H (optR ((seqD h x).map D.lst) h) _ from q)
    clear q
    cases hx with
    | tup hq hl => cases e; exact ⟨_, _, rfl, .inr hq.sq, fun p hp => qq.hereS g (same_new hp) _ (new_lst g hl hp)⟩
    | lst hq hn hl => cases e; exact ⟨_, _, rfl, .inl (SqL.of hq), fun p hp => qq.hereS g (same_new hp) _ (new_lst g hl hp)⟩
    | ref hk =>
      rename_i k a
      have e : (oLst h[k]?).map D.lst = some d := e
      cases ho : oLst h[k]? with
      | none => rw [ho] at e; cases e
      | some xs =>
        rw [ho] at e
        cases e
        obtain ⟨a', ea, vs, h1, h2⟩ := g.ob k _ (oLst_some ho)
        rw [hk] at ea; cases ea
        exact ⟨_, _, rfl, .inl (SqL.of h1), fun p hp => qq.hereS g (same_new hp) _ (new_lst g h2 hp)⟩
    | _ => cases e
def fInt : List D → MH → Res D := fun ds h => match ds with
  | [.int i] => .ok (.int i) h
  | [.bl b] => .ok (.int (if b then 1 else 0)) h
  | _ => .bad
theorem calls_int {G : Ev} : CallS G (fun xs H Q => (∃ i, xs = [.int i] ∧ Q (.int i) H) ∨ ∃ k, xs = [.bl k] ∧ Q (.int (if k then 1 else 0)) H) fInt := fun W σ r F H h ds vs Q g hd q => by
  match ds, hd with
  | [], _ => exact False.elim q
  | d :: _ :: _, _ => cases d <;> exact False.elim q
  | [x], .cons hx .nil =>
    cases hx with
    | int i => exact .inl ⟨i, rfl, q.here g _ (.int i)⟩
    | bl b => exact .inr ⟨b, rfl, q.here g _ (.int _)⟩
    | _ => exact False.elim q
def fMax2 : List D → MH → Res D := fun ds h => match ds with
  | [.int i, .int j] => .ok (.int (if j > i then j else i)) h
  | _ => .bad
theorem calls_max2 {G : Ev} : CallS G (fun xs H Q => ∃ i j, xs = [.int i, .int j] ∧ Q (.int (if j > i then j else i)) H) fMax2 := fun W σ r F H h ds vs Q g hd q => by
  match ds, hd with
  | [], _ => exact False.elim q
  | [x], _ => cases x <;> exact False.elim q
  | d :: e :: _ :: _, _ => cases d <;> cases e <;> exact False.elim q
  | [x, y], .cons hx (.cons hy .nil) =>
    cases hx <;> cases hy <;> first | exact False.elim q | exact ⟨_, _, rfl, q.here g _ (.int _)⟩
def blsD : List D → Option (List Bool)
  | [] => some []
  | .bl b :: ds => (blsD ds).map fun bs => b :: bs
  | _ :: _ => none
theorem blsD_ok {G : Ev} {r F : List Addr} {H : Hp} : ∀ {ds : List D} {vs : List V} {bs : List Bool}, blsD ds = some bs → DenL G r F H ds vs → vs = bs.map V.bl
  | [], _, bs, e, .nil => by cases e; rfl
  | d :: ds, _, bs, e, .cons h l => by
    cases h with
    | bl b =>
      have e : (blsD ds).map (fun bs => b :: bs) = some bs := e
      cases hb : blsD ds with
      | none => rw [hb] at e; cases e
      | some bs' =>
        rw [hb] at e
        cases e
        rw [blsD_ok hb l]
        rfl
    | _ => cases e
def fAll : List D → MH → Res D := fun ds h => match ds with
  | [.lst xs] => optR ((blsD xs).map fun bs => .bl (bs.all id)) h
  | _ => .bad
def fAny : List D → MH → Res D := fun ds h => match ds with
  | [.lst xs] => optR ((blsD xs).map fun bs => .bl (bs.any id)) h
  | _ => .bad
theorem calls_all {G : Ev} : CallS G (rAll G.K) fAll := fun W σ r F H h ds vs Q g hd q => by
  match ds, hd with
  | [], _ => exact False.elim q
  | d :: _ :: _, _ => cases d <;> exact False.elim q
  | [x], .cons hx .nil =>
    cases hx with
    | lst hq hn hl =>
      rename_i xs vs
      obtain ⟨d, e, qq⟩ := optR_ok (show Aft G W F σ r H (optR ((blsD xs).map fun bs => D.bl (bs.all id)) h) _ from q)
      clear q
      cases hb : blsD xs with
      | none => rw [hb] at e; cases e
      | some bs =>
        rw [hb] at e
        cases e
        exact ⟨_, bs, rfl, by rw [← blsD_ok hb hl]; exact SqL.of hq, qq.here g _ (.bl _)⟩
    | _ => exact False.elim q
theorem calls_any {G : Ev} : CallS G (rAny G.K) fAny := fun W σ r F H h ds vs Q g hd q => by
  match ds, hd with
  | [], _ => exact False.elim q
  | d :: _ :: _, _ => cases d <;> exact False.elim q
  | [x], .cons hx .nil =>
    cases hx with
    | lst hq hn hl =>
      rename_i xs vs
      obtain ⟨d, e, qq⟩ := optR_ok (show Aft G W F σ r H (optR ((blsD xs).map fun bs => D.bl (bs.any id)) h) _ from q)
      clear q
      cases hb : blsD xs with
      | none => rw [hb] at e; cases e
      | some bs =>
        rw [hb] at e
        cases e
        exact ⟨_, bs, rfl, by rw [← blsD_ok hb hl]; exact SqL.of hq, qq.here g _ (.bl _)⟩
    | _ => exact False.elim q
def fStr : List D → MH → Res D := fun ds h => match ds with
  | [.int i] => if i.natAbs ≤ 1000000000 then .ok (.str (toString i)) h else .bad
  | _ => .bad
theorem calls_str {G : Ev} : CallS G (fun xs H Q => ∃ i, xs = [.int i] ∧ i.natAbs.log2 < 1920 ∧ Q (.str (toString i)) H) fStr := fun W σ r F H h ds vs Q g hd q => by
  match ds, hd with
  | [], _ => exact False.elim q
  | d :: _ :: _, _ => cases d <;> exact False.elim q
  | [x], .cons hx .nil =>
    cases hx with
    | int i =>
      have q : Aft G W F σ r H (if i.natAbs ≤ 1000000000 then Res.ok (D.str (toString i)) h else .bad) _ := q
      by_cases z : i.natAbs ≤ 1000000000
      · rw [if_pos z] at q
        refine ⟨i, rfl, ?_, q.here g _ (.str _)⟩
        by_cases z0 : i.natAbs = 0
        · rw [z0]; decide
        · exact (Nat.log2_lt z0).mpr (Nat.lt_of_le_of_lt z (by decide))
      · rw [if_neg z] at q; exact False.elim q
    | _ => exact False.elim q
end CH

/-! CH8: dicts, lists written, methods of built-in types, calls of values. -/
namespace CH
open PySem PySem.Spec PyProof.Rows L2

/-! ### a dict by its keys and values -/
def dget {α : Type} (k : Key) : List Key → List α → Option α
  | k' :: ks, v :: vs => if k' = k then some v else dget k ks vs
  | _, _ => none
def dhas (k : Key) : List Key → Bool
  | [] => false
  | k' :: ks => if k' = k then true else dhas k ks
def drep {α : Type} (k : Key) (x : α) : List Key → List α → List α
  | k' :: ks, v :: vs => (if k' = k then x else v) :: drep k x ks vs
  | _, vs => vs
def dputK (k : Key) (ks : List Key) : List Key := if dhas k ks = true then ks else ks ++ [k]
def dputV {α : Type} (k : Key) (x : α) (ks : List Key) (vs : List α) : List α := if dhas k ks = true then drep k x ks vs else vs ++ [x]
def keyD : D → Option Key
  | .int i => some (.inl i)
  | .str x => some (.inr x)
  | _ => none
theorem key_den {G : Ev} {r F : List Addr} {H : Hp} {d : D} {k : Key} {v : V} (e : keyD d = some k) (h : Den G r F H d v) : v = kV k := by
  cases h <;> cases e <;> rfl
theorem valV_dget (k : Key) : ∀ {ks : List Key} {vs : List V}, ks.length = vs.length → valV (ks.zip vs) k = dget k ks vs
  | [], [], _ => rfl
  | k' :: ks, v :: vs, e => by
    show valV ((k', v) :: ks.zip vs) k = _
    unfold dget
    by_cases h : k' = k
    · rw [valV_pos h, if_pos h]
    · rw [valV_neg h, if_neg h]
      exact valV_dget k (by simpa using e)
  | [], _ :: _, e => by cases e
  | _ :: _, [], e => by cases e
theorem any_dhas (k : Key) : ∀ {ks : List Key} {vs : List V}, ks.length = vs.length → ((ks.zip vs).any fun kv => decide (kv.1 = k)) = dhas k ks
  | [], [], _ => rfl
  | k' :: ks, v :: vs, e => by
    show ((decide (k' = k)) || ((ks.zip vs).any fun kv => decide (kv.1 = k))) = _
    unfold dhas
    rw [any_dhas k (by simpa using e)]
    by_cases h : k' = k <;> simp [h]
  | [], _ :: _, e => by cases e
  | _ :: _, [], e => by cases e
theorem map_drep (k : Key) (x : V) : ∀ {ks : List Key} {vs : List V}, ks.length = vs.length → ((ks.zip vs).map fun kv => if kv.1 = k then (kv.1, x) else kv) = ks.zip (drep k x ks vs)
  | [], [], _ => rfl
  | k' :: ks, v :: vs, e => by
    show (if k' = k then (k', x) else (k', v)) :: ((ks.zip vs).map fun kv => if kv.1 = k then (kv.1, x) else kv) = _
    rw [map_drep k x (by simpa using e)]
    show _ = (k', if k' = k then x else v) :: ks.zip (drep k x ks vs)
    by_cases h : k' = k <;> simp [h]
  | [], _ :: _, e => by cases e
  | _ :: _, [], e => by cases e
theorem drep_len {α : Type} (k : Key) (x : α) : ∀ (ks : List Key) (vs : List α), (drep k x ks vs).length = vs.length
  | [], vs => by cases vs <;> rfl
  | _ :: _, [] => rfl
  | k' :: ks, v :: vs => by simp [drep, drep_len k x ks vs]
theorem put_zip (k : Key) (x : V) {ks : List Key} {vs : List V} (e : ks.length = vs.length) : putK (ks.zip vs) k x = (dputK k ks).zip (dputV k x ks vs) := by
  unfold putK dputK dputV
  rw [any_dhas k e]
  by_cases h : dhas k ks = true
  · rw [if_pos h, if_pos h, if_pos h]
    exact map_drep k x e
  · rw [if_neg h, if_neg h, if_neg h, List.zip_append (by simpa using e)]
    rfl
theorem dput_len {α : Type} (k : Key) (x : α) {ks : List Key} {vs : List α} (e : ks.length = vs.length) : (dputK k ks).length = (dputV k x ks vs).length := by
  unfold dputK dputV
  by_cases h : dhas k ks = true
  · rw [if_pos h, if_pos h, drep_len]; exact e
  · rw [if_neg h, if_neg h]; simp [e]
section
variable {G : Ev} {r F : List Addr} {H : Hp}
theorem dget_den {k : Key} : ∀ {ks : List Key} {ds : List D} {vs : List V} {d : D}, ks.length = vs.length → DenL G r F H ds vs → dget k ks ds = some d → ∃ v, dget k ks vs = some v ∧ Den G r F H d v
  | [], _, _, _, _, _, e => by cases e
  | k' :: ks, d' :: ds, _, d, hl, .cons h l, e => by
    unfold dget at e ⊢
    by_cases hk : k' = k
    · rw [if_pos hk] at e ⊢
      cases e
      exact ⟨_, rfl, h⟩
    · rw [if_neg hk] at e ⊢
      exact dget_den (by simpa using hl) l e
  | _ :: _, [], _, _, _, .nil, e => by cases e
theorem drep_den {k : Key} {x : D} {u : V} (hx : Den G r F H x u) : ∀ {ks : List Key} {ds : List D} {vs : List V}, DenL G r F H ds vs → DenL G r F H (drep k x ks ds) (drep k u ks vs)
  | [], _, _, .nil => .nil
  | [], _, _, .cons h l => .cons h l
  | _ :: _, _, _, .nil => .nil
  | k' :: ks, _, _, .cons h l => by
    unfold drep
    by_cases hk : k' = k
    · rw [if_pos hk, if_pos hk]; exact .cons hx (drep_den hx l)
    · rw [if_neg hk, if_neg hk]; exact .cons h (drep_den hx l)
theorem dput_den {k : Key} {x : D} {u : V} (hx : Den G r F H x u) {ks : List Key} {ds : List D} {vs : List V} (l : DenL G r F H ds vs) : DenL G r F H (dputV k x ks ds) (dputV k u ks vs) := by
  unfold dputV
  by_cases h : dhas k ks = true
  · rw [if_pos h, if_pos h]; exact drep_den hx l
  · rw [if_neg h, if_neg h]; exact l.app (.cons hx .nil)
end
/-- what a dict holds at a key -/
def oDic : Option O → Option (List Key × List D)
  | some (.dic ks vs) => some (ks, vs)
  | _ => none
theorem oDic_some {o : Option O} {p : List Key × List D} (e : oDic o = some p) : o = some (.dic p.1 p.2) := by
  cases o with
  | none => cases e
  | some o => cases o with
    | dic ks vs => cases e; rfl
    | _ => cases e
def dicD (h : MH) : D → Option (List Key × List D)
  | .dic ks vs => some (ks, vs)
  | .ref k => oDic h[k]?
  | _ => none
def atKeyD (h : MH) (x y : D) : Option D := (dicD h x).bind fun p => (keyD y).bind fun k => dget k p.1 p.2
def oDGet : D → D → MH → Res D := fun x y h => optR (atKeyD h x y) h
theorem dic_den {G : Ev} {r F : List Addr} {H : Hp} {h : MH} {x : D} {v : V} {p : List Key × List D} (g : GoodH G r F h H) (hx : Den G r F H x v) (e : dicD h x = some p) : ∃ a vs, v = .ref a ∧ H a = some (.dK (p.1.zip vs)) ∧ p.1.length = vs.length ∧ DenL G r F H p.2 vs := by
  cases hx with
  | dic hq hn hl hd => cases e; exact ⟨_, _, rfl, hq, hl, hd⟩
  | ref hk =>
    have e := oDic_some e
    obtain ⟨a', ea, vs, h1, h2, h3⟩ := g.ob _ _ e
    rw [hk] at ea; cases ea
    exact ⟨_, _, rfl, h1, h2, h3⟩
  | _ => cases e
section
variable {X : Cx} {W : WX} {pos : Pos} {o i e : Expr} {es : List Expr} {fo fi fv : Mo D} {fl : Mo (List D)}
theorem de_dget {k : Nat} (hr : Room k X.A) (ho : PE X o (tE (evOf X) W fo)) (hi : PE X i (tE (evOf X) W fi)) (hs : NoSl i) : PE X (.Subscript o i pos) (tE (evOf X) W (mOp oDGet fo fi)) :=
  (pe_dget (by have := hr.un; omega) ho hi hs).imp fun σ H Q ⟨r, F, sl, h, s, g, q⟩ => by
    refine tE.of s g (q.bind.imp fun r1 H1 x h1 e1 g1 q1 v hv => ?_)
    refine tE.of (s.mono g.mine e1) g1 (q1.bind.imp fun r2 H2 y h2 e2 g2 q2 u hu => ?_)
    obtain ⟨d, e, qq⟩ := optR_ok (show Aft (evOf X) W F σ r2 H2 (optR (atKeyD h2 x y) h2) _ from q2)
    unfold atKeyD at e
    cases hd : dicD h2 x with
    | none => rw [hd] at e; cases e
    | some p =>
      rw [hd] at e
      have e : ((keyD y).bind fun k => dget k p.1 p.2) = some d := e
      cases hk : keyD y with
      | none => rw [hk] at e; cases e
      | some k =>
        rw [hk] at e
        have e : dget k p.1 p.2 = some d := e
        obtain ⟨a, vs, rfl, h3, h4, h5⟩ := dic_den g2 (Den.mono g1.mine e2 _ _ hv) hd
        have ek := key_den hk hu
        subst ek
        obtain ⟨w', h6, h7⟩ := dget_den h4 h5 e
        exact ⟨a, w', rfl, by rw [← h6, ← valV_dget k h4]; exact DGet.k h3, qq.here g2 _ h7⟩

/-- d[y] = v of a dict of ours -/
def dSet (h : MH) (x y v : D) : Option MH := match x with
  | .ref k => (oDic h[k]?).bind fun p => (keyD y).bind fun key => if p.1.length < lim then some (h.set k (.dic (dputK key p.1) (dputV key v p.1 p.2))) else none
  | _ => none
def sDSet (fo fi fv : Mo D) : Ms := fun sl h => bindS sl (fv sl h) fun v h1 => bindS sl (fo sl h1) fun x h2 => bindS sl (fi sl h2) fun y h3 => match dSet h3 x y v with
  | some h4 => .nx sl h4
  | none => .bad
theorem dSet_ok {G : Ev} {r F : List Addr} {H : Hp} {h h' : MH} {x y v : D} {vx vy vv : V} (g : GoodH G r F h H) (hx : Den G r F H x vx) (hy : Den G r F H y vy) (hv : Den G r F H v vv) (e : dSet h x y v = some h') :
    ∃ a H', vx = .ref a ∧ DPut H a vy vv H' ∧ Ext r H r H' ∧ GoodH G r F h' H' := by
  cases hx with
  | ref hk =>
    rename_i k a
    have e : ((oDic h[k]?).bind fun p => (keyD y).bind fun key => if p.1.length < lim then some (h.set k (.dic (dputK key p.1) (dputV key v p.1 p.2))) else none) = some h' := e
    cases hp : oDic h[k]? with
    | none => rw [hp] at e; cases e
    | some p =>
      rw [hp] at e
      have e : ((keyD y).bind fun key => if p.1.length < lim then some (h.set k (.dic (dputK key p.1) (dputV key v p.1 p.2))) else none) = some h' := e
      cases hkey : keyD y with
      | none => rw [hkey] at e; cases e
      | some key =>
        rw [hkey] at e
        have e : (if p.1.length < lim then some (h.set k (.dic (dputK key p.1) (dputV key v p.1 p.2))) else none) = some h' := e
        by_cases z : p.1.length < lim
        · rw [if_pos z] at e
          cases e
          obtain ⟨a', ea, vs, h1, h2, h3⟩ := g.ob k _ (oDic_some hp)
          rw [hk] at ea; cases ea
          have ek := key_den hkey hy
          subst ek
          have ha : a ∈ r := List.mem_of_getElem? hk
          refine ⟨a, upd H a (.dK (putK (p.1.zip vs) key vv)), rfl, DPut.k h1 (by rw [List.length_zip, ← h2, Nat.min_self]; exact lim_lt z), Ext.upd ha, g.set hk trivial ?_⟩
          exact ⟨dputV key vv p.1 vs, by rw [upd_same, put_zip key vv h2], dput_len key vv h2, DenL.mono g.mine (Ext.upd ha) _ _ (dput_den hv h3)⟩
        · rw [if_neg z] at e; cases e
  | _ => cases e
theorem ds_dset {k : Nat} {pos' : Pos} (hr : Room k X.A) (ho : PE X o (tE (evOf X) W fo)) (hi : PE X i (tE (evOf X) W fi)) (hv : PE X e (tE (evOf X) W fv)) (hs : swapsWith e (some (.Subscript o i pos')) pos.line X.env = pure false := by rfl) :
    PS X (.Assign [.Subscript o i pos'] e pos) (tS (evOf X) W (sDSet fo fi fv)) :=
  (ps_dput (by have := hr.un; omega) ho hi hv hs).imp fun E σ H ⟨r, F, sl, h, s, g, q⟩ => by
    refine tE.of s g ((q.bindS s g).imp fun r1 H1 v h1 e1 g1 q1 vv hvv => ?_)
    have s1 := s.mono g.mine e1
    refine tE.of s1 g1 ((q1.bindS s1 g1).imp fun r2 H2 x h2 e2 g2 q2 vx hvx => ?_)
    have s2 := s1.mono g1.mine e2
    refine tE.of s2 g2 ((q2.bindS s2 g2).imp fun r3 H3 y h3 e3 g3 q3 vy hvy => ?_)
    have q3 : SAft (evOf X) W F r3 H3 (match dSet h3 x y v with
      | some h4 => .nx sl h4
      | none => .bad) E := q3
    cases hd : dSet h3 x y v with
    | none => rw [hd] at q3; exact False.elim q3
    | some h4 =>
      rw [hd] at q3
      obtain ⟨a, H', ea, hput, ee, g4⟩ := dSet_ok g3 (Den.mono g2.mine e3 _ _ hvx) hvy (Den.mono g2.mine e3 _ _ (Den.mono g1.mine e2 _ _ hvv)) hd
      exact ⟨a, H', ea, hput, q3 r3 H' σ ee g4 ((s2.mono g2.mine e3).mono g3.mine ee)⟩

/-! ### xs[i] = v of a list of ours -/
def lSet (h : MH) (x y v : D) : Option MH := match x, y with
  | .ref k, .int i => (oLst h[k]?).bind fun xs => (ixN xs.length i).map fun j => h.set k (.lst (xs.set j v))
  | _, _ => none
def sLSet (fo fi fv : Mo D) : Ms := fun sl h => bindS sl (fv sl h) fun v h1 => bindS sl (fo sl h1) fun x h2 => bindS sl (fi sl h2) fun y h3 => match lSet h3 x y v with
  | some h4 => .nx sl h4
  | none => .bad
theorem DenL.set {G : Ev} {r F : List Addr} {H : Hp} {d : D} {v : V} (hd : Den G r F H d v) : ∀ {ds : List D} {vs : List V} (j : Nat), DenL G r F H ds vs → DenL G r F H (ds.set j d) (vs.set j v)
  | _, _, _, .nil => .nil
  | _, _, 0, .cons _ l => .cons hd l
  | _, _, j + 1, .cons h l => .cons h (DenL.set hd j l)
theorem lSet_ok {G : Ev} {r F : List Addr} {H : Hp} {h h' : MH} {x y v : D} {vx vy vv : V} (g : GoodH G r F h H) (hx : Den G r F H x vx) (hy : Den G r F H y vy) (hv : Den G r F H v vv) (e : lSet h x y v = some h') :
    ∃ p xs k j, vx = .ref p ∧ vy = .int k ∧ H p = some (.lst xs) ∧ ixN xs.length k = some j ∧ Ext r H r (upd H p (.lst (xs.set j vv))) ∧ GoodH G r F h' (upd H p (.lst (xs.set j vv))) := by
  cases hx with
  | ref hk =>
    rename_i k a
    cases hy with
    | int i =>
      have e : ((oLst h[k]?).bind fun xs => (ixN xs.length i).map fun j => h.set k (.lst (xs.set j v))) = some h' := e
      cases hp : oLst h[k]? with
      | none => rw [hp] at e; cases e
      | some xs =>
        rw [hp] at e
        have e : ((ixN xs.length i).map fun j => h.set k (.lst (xs.set j v))) = some h' := e
        cases hj : ixN xs.length i with
        | none => rw [hj] at e; cases e
        | some j =>
          rw [hj] at e
          cases e
          obtain ⟨a', ea, vs, h1, h2⟩ := g.ob k _ (oLst_some hp)
          rw [hk] at ea; cases ea
          have ha : a ∈ r := List.mem_of_getElem? hk
          refine ⟨a, vs, i, j, rfl, rfl, h1, by rw [← h2.len]; exact hj, Ext.upd ha, g.set hk trivial ⟨_, upd_same, DenL.mono g.mine (Ext.upd ha) _ _ (DenL.set hv j h2)⟩⟩
    | _ => cases e
  | _ => cases e
theorem ds_lset {pos' : Pos} (hs0 : ∀ v, assign (.Subscript o i pos') X.env v = (do
      let ov ← holding [v] (eval o X.env)
      let iv ← holding [v, ov] (eval i X.env)
      standAt pos'
      holding [v, ov, iv] (setItem ov iv v)
      release [v, ov, iv] []) := by intro _; rfl) (ho : PE X o (tE (evOf X) W fo)) (hi : PE X i (tE (evOf X) W fi)) (hv : PE X e (tE (evOf X) W fv)) (hs : swapsWithSole [.Subscript o i pos'] e pos.line X.env = pure false := by rfl) (hw : swappedStores [.Subscript o i pos'] e X.env = pure none := by rfl)
    (h1 : (assignEach [.Subscript o i pos'] X.env).map (·.2) = [assign (.Subscript o i pos') X.env] := by rfl) :
    PS X (.Assign [.Subscript o i pos'] e pos) (tS (evOf X) W (sLSet fo fi fv)) :=
  (ps_asg hv (pg_sub ho hi set_list hs0) hs hw h1).imp fun E σ H ⟨r, F, sl, h, s, g, q⟩ => by
    refine tE.of s g ((q.bindS s g).imp fun r1 H1 v h1 e1 g1 q1 vv hvv => ?_)
    have s1 := s.mono g.mine e1
    refine tE.of s1 g1 ((q1.bindS s1 g1).imp fun r2 H2 x h2 e2 g2 q2 vx hvx => ?_)
    have s2 := s1.mono g1.mine e2
    refine tE.of s2 g2 ((q2.bindS s2 g2).imp fun r3 H3 y h3 e3 g3 q3 vy hvy => ?_)
    have q3 : SAft (evOf X) W F r3 H3 (match lSet h3 x y v with
      | some h4 => .nx sl h4
      | none => .bad) E := q3
    cases hd : lSet h3 x y v with
    | none => rw [hd] at q3; exact False.elim q3
    | some h4 =>
      rw [hd] at q3
      obtain ⟨p, xs, k, j, e1', e2', hp, hj, ee, g4⟩ := lSet_ok g3 (Den.mono g2.mine e3 _ _ hvx) hvy (Den.mono g2.mine e3 _ _ (Den.mono g1.mine e2 _ _ hvv)) hd
      exact ⟨p, xs, k, j, e1', e2', hp, hj, q3 r3 _ σ ee g4 ((s2.mono g2.mine e3).mono g3.mine ee)⟩

/-! ### a dict display -/
def mPairs : List (Mo D × Mo D) → Mo (List (Key × D))
  | [], _, h => .ok [] h
  | (fk, fv) :: ps, sl, h => bindR (fk sl h) fun x h1 => bindR (fv sl h1) fun y h2 => match keyD x with
    | some k => bindR (mPairs ps sl h2) fun rest h3 => .ok ((k, y) :: rest) h3
    | none => .bad
def mergeD : List (Key × D) → List Key → List D → List Key × List D
  | [], ks, vs => (ks, vs)
  | (k, d) :: ps, ks, vs => mergeD ps (dputK k ks) (dputV k d ks vs)
/-- a dict that is never changed -/
def mDic (ps : List (Mo D × Mo D)) : Mo D := mBind (mPairs ps) fun kds => fun _ h => if kds.length ≤ 15 then .ok (.dic (mergeD kds [] []).1 (mergeD kds [] []).2) h else .bad
/-- a dict that will change -/
def mNewD (ps : List (Mo D × Mo D)) : Mo D := mBind (mPairs ps) fun kds => fun _ h => if kds.length ≤ 15 then .ok (.ref h.length) (h ++ [.dic (mergeD kds [] []).1 (mergeD kds [] []).2]) else .bad
end
/-- the pairs by values -/
inductive DenP (G : Ev) (r F : List Addr) (H : Hp) : List (Key × D) → List (Key × V) → Prop where
  | nil : DenP G r F H [] []
  | cons {k : Key} {d : D} {v : V} {ps : List (Key × D)} {qs : List (Key × V)} : Den G r F H d v → DenP G r F H ps qs → DenP G r F H ((k, d) :: ps) ((k, v) :: qs)
section
variable {G : Ev} {r r' F : List Addr} {H H' : Hp}
theorem DenP.mono (m : Mine r H) (e : Ext r H r' H') : ∀ {ps : List (Key × D)} {qs : List (Key × V)}, DenP G r F H ps qs → DenP G r' F H' ps qs
  | _, _, .nil => .nil
  | _, _, .cons h t => .cons (Den.mono m e _ _ h) (DenP.mono m e t)
theorem DenP.len : ∀ {ps : List (Key × D)} {qs : List (Key × V)}, DenP G r F H ps qs → ps.length = qs.length
  | _, _, .nil => rfl
  | _, _, .cons _ t => by simp [DenP.len t]
theorem merge_den : ∀ {ps : List (Key × D)} {qs : List (Key × V)} {ks : List Key} {ds : List D} {vs : List V}, DenP G r F H ps qs → ks.length = vs.length → DenL G r F H ds vs →
    ∃ us, mergeK (ks.zip vs) qs = (mergeD ps ks ds).1.zip us ∧ (mergeD ps ks ds).1.length = us.length ∧ DenL G r F H (mergeD ps ks ds).2 us
  | [], _, ks, ds, vs, .nil, e, l => ⟨vs, rfl, e, l⟩
  | (k, d) :: ps, _, ks, ds, vs, .cons (v := v) (qs := qs) h t, e, l => by
    show ∃ us, mergeK (putK (ks.zip vs) k v) qs = _ ∧ _
    rw [put_zip k v e]
    exact merge_den t (dput_len k v e) (dput_den h l)
end
section
variable {X : Cx} {W : WX} {pos : Pos}
abbrev trsOf (X : Cx) (W : WX) (ps : List (Mo D × Mo D)) : List (TE × TE) := ps.map fun p => (tE (evOf X) W p.1, tE (evOf X) W p.2)
/-- base r0, H0, where D0 was not yet there -/
theorem pairs_run {G : Ev} {W : WX} {F r0 : List Addr} {H0 : Hp} {σ : L2.St} {D0 : Addr} {sl : Sl} (hD : H0 D0 = none) {β : Type} {QB : List Addr → Hp → β → MH → Prop} : ∀ (ps : List (Mo D × Mo D)) (r1 : List Addr) (H1 : Hp) (h1 : MH) (Q : List (V × V) → Hp → Prop),
    Ext r0 H0 r1 H1 → GoodH G r1 (D0 :: F) h1 H1 → SlR G r1 (D0 :: F) H1 sl σ → ∀ (k : List (Key × D) → MH → Res β), Aft G W F σ r0 H0 (bindR (mPairs ps sl h1) k) QB →
    (∀ r2 H2 kds h2 qs, Ext r0 H0 r2 H2 → Ext r1 H1 r2 H2 → GoodH G r2 (D0 :: F) h2 H2 → DenP G r2 (D0 :: F) H2 kds qs → Aft G W F σ r0 H0 (k kds h2) QB → Q (qs.map fun kv => (kV kv.1, kv.2)) H2) →
    tPairs (ps.map fun p => (tE G W p.1, tE G W p.2)) σ H1 Q
  | [], r1, H1, h1, Q, e, g, s, k, q, f => f r1 H1 [] h1 [] e .refl g .nil q
  | (fk, fv) :: ps, r1, H1, h1, Q, e, g, s, k, q, f => by
    have cast : ∀ {α : Type} (R : Res α) (kk : α → MH → Res β) (r : List Addr) (H : Hp), Ext r0 H0 r H → Mine r H → Aft G W F σ r0 H0 (bindR R kk) QB → Aft G W (D0 :: F) σ r H R (fun _ _ x h' => Aft G W F σ r0 H0 (kk x h') QB) := by
      intro α R kk r H er mr a
      cases R with
      | ok x h' => exact fun _ _ _ _ => a
      | exc c x h' => exact fun r' H' cls y e' g' hx => a r' H' cls y (er.trans mr e') g'.dropF (by
          obtain ⟨C, c1, c2, c3⟩ := hx
          refine ⟨C, c1, c2, ?_⟩
          cases x with
          | none => exact c3
          | some p =>
            obtain ⟨dx, v, b1, b2, b3⟩ := c3
            exact ⟨dx, v, b1, b2, Den.dropF g'.mine b3⟩)
      | bad => exact a
    have q0 : Aft G W F σ r0 H0 (bindR (fk sl h1) fun x h1 => bindR (fv sl h1) fun y h2 => match keyD x with
      | some k' => bindR (mPairs ps sl h2) fun rest h3 => k ((k', y) :: rest) h3
      | none => .bad) QB := by
      have e1 : bindR (mPairs ((fk, fv) :: ps) sl h1) k = bindR (fk sl h1) fun x h1 => bindR (fv sl h1) fun y h2 => match keyD x with
        | some k' => bindR (mPairs ps sl h2) fun rest h3 => k ((k', y) :: rest) h3
        | none => .bad := by
        have eM : mPairs ((fk, fv) :: ps) sl h1 = bindR (fk sl h1) fun x h1 => bindR (fv sl h1) fun y h2 => match keyD x with
          | some k => bindR (mPairs ps sl h2) fun rest h3 => .ok ((k, y) :: rest) h3
          | none => .bad := rfl
        rw [eM]
        generalize mPairs ps = M
        cases fk sl h1 with
        | ok x h2 =>
          show bindR (bindR (fv sl h2) _) k = bindR (fv sl h2) _
          cases fv sl h2 with
          | ok y h3 =>
            show bindR (match keyD x with | some k' => _ | none => _) k = (match keyD x with | some k' => _ | none => _)
            cases keyD x with
            | none => rfl
            | some k' =>
              show bindR (bindR (M sl h3) _) k = bindR (M sl h3) _
              cases M sl h3 <;> rfl
          | exc c a h' => rfl
          | bad => rfl
        | exc c a h' => rfl
        | bad => rfl
      rw [← e1]; exact q
    show tE G W fk σ H1 fun x H1 => tE G W fv σ H1 fun y H2 => tPairs (ps.map fun p => (tE G W p.1, tE G W p.2)) σ H2 fun qs H3 => Q ((x, y) :: qs) H3
    refine tE.of s g ((cast _ _ r1 H1 e g.mine q0).imp fun r2 H2 x h2 e2 g2 q2 vx hvx => ?_)
    have ee2 := e.trans g.mine e2
    have s2 := s.mono g.mine e2
    refine tE.of s2 g2 ((cast _ _ r2 H2 ee2 g2.mine q2).imp fun r3 H3 y h3 e3 g3 q3 vy hvy => ?_)
    have ee3 := ee2.trans g2.mine e3
    have q3 : Aft G W F σ r0 H0 (match keyD x with
      | some k' => bindR (mPairs ps sl h3) fun rest h3 => k ((k', y) :: rest) h3
      | none => .bad) QB := q3
    cases hk : keyD x with
    | none => rw [hk] at q3; exact False.elim q3
    | some k' =>
      rw [hk] at q3
      have ek := key_den hk hvx
      subst ek
      refine pairs_run hD ps r3 H3 h3 _ ee3 g3 (s2.mono g2.mine e3) _ q3 fun r4 H4 kds h4 qs e4 e5 g4 p4 q4 => ?_
      exact f r4 H4 ((k', y) :: kds) h4 ((k', vy) :: qs) e4 ((e2.trans g2.mine e3).trans g3.mine e5) g4 (.cons (Den.mono g3.mine e5 _ _ hvy) p4) q4
theorem disp_run {G : Ev} {r F : List Addr} {H : Hp} {h : MH} {σ : L2.St} {sl : Sl} {Q : VK} {ps : List (Mo D × Mo D)} {k : List (Key × D) → MH → Res D} (s : SlR G r F H sl σ) (g : GoodH G r F h H)
    (q : Aft G W F σ r H (bindR (mPairs ps sl h) fun kds h1 => if kds.length ≤ 15 then k kds h1 else .bad) fun r' H' d _ => ∀ v, Den G r' F H' d v → Q v H')
    (hk : ∀ p r2 H2 kds h2 us, H p = none → p ∉ F → Ext r H r2 H2 → GoodH G r2 (p :: F) h2 H2 → H2 p = some (.dK ((mergeD kds [] []).1.zip us)) → (mergeD kds [] []).1.length = us.length → DenL G r2 (p :: F) H2 (mergeD kds [] []).2 us →
      Aft G W F σ r H (k kds h2) (fun r' H' d _ => ∀ v, Den G r' F H' d v → Q v H') → Q (.ref p) H2) : tDisp (ps.map fun p => (tE G W p.1, tE G W p.2)) σ H Q := by
  intro p hp
  have fo : Foe F H (p :: F) := fun a ha => by
    rcases List.mem_cons.mp ha with e | e
    · exact .inr (by rw [e]; exact hp)
    · exact .inl e
  have sm : Same H (upd H p (.dK [])) := same_new hp
  have s' : SlR G r (p :: F) (upd H p (.dK [])) sl σ := ⟨s.1, fun j d hd => let ⟨v, a1, a2⟩ := s.2 j d hd; ⟨v, a1, Den.monoF g.mine (.same sm) fo _ _ a2⟩⟩
  refine pairs_run (F := F) (D0 := p) hp ps r _ h _ (.same sm) (g.newF hp trivial) s' _ q fun r2 H2 kds h2 qs e1 e2 g2 dp q2 => ?_
  have hp2 : H2 p = some (.dK []) := e2.keep _ _ upd_same (fun hm => (g.fresh hp).1 hm)
  by_cases z : kds.length ≤ 15
  · rw [if_pos z] at q2
    refine ⟨hp2, qs, rfl, by rw [← dp.len]; exact z, ?_⟩
    obtain ⟨us, m1, m2, m3⟩ := merge_den (ks := []) (ds := []) (vs := []) dp rfl .nil
    have m1 : mergeK [] qs = _ := m1
    rw [m1]
    have hm : p ∈ p :: F := List.mem_cons_self
    refine hk p r2 _ kds h2 us hp (g.fresh hp).2 ⟨e1.pre, fun a o ha hr => ?_⟩ (g2.updF hp2 trivial trivial hm) upd_same m2 (DenL.updF hp2 trivial hm _ _ m3) q2
    rw [upd_ne (ne_of_none ha hp)]
    exact e1.keep a o ha hr
  · rw [if_neg z] at q2; exact False.elim q2
theorem de_dic {keys : List (Option Expr)} {values : List Expr} {ps : List (Mo D × Mo D)} (h : PPs X pos keys values (trsOf X W ps)) (hall : keys.all (·.isSome) = true := by rfl) (hl : keys.length = values.length := by rfl) (h0 : keys ≠ [] := by intro z; cases z)
    (h15 : keys.length ≤ 15 := by decide) : PE X (.Dict keys values pos) (tE (evOf X) W (mDic ps)) :=
  (pe_disp h hall hl h0 h15).imp fun σ H Q ⟨r, F, sl, h, s, g, q⟩ => disp_run s g q fun p r2 H2 kds h2 us hp hF e g2 hp2 m2 m3 q2 =>
    q2 r2 H2 e g2.dropF _ (.dic hp2 ⟨(g2.fd p List.mem_cons_self).2, hF⟩ m2 (DenL.dropF g2.mine m3))
theorem de_newD {keys : List (Option Expr)} {values : List Expr} {ps : List (Mo D × Mo D)} (h : PPs X pos keys values (trsOf X W ps)) (hall : keys.all (·.isSome) = true := by rfl) (hl : keys.length = values.length := by rfl) (h0 : keys ≠ [] := by intro z; cases z)
    (h15 : keys.length ≤ 15 := by decide) : PE X (.Dict keys values pos) (tE (evOf X) W (mNewD ps)) :=
  (pe_disp h hall hl h0 h15).imp fun σ H Q ⟨r, F, sl, h, s, g, q⟩ => disp_run s g q fun p r2 H2 kds h2 us hp hF e g2 hp2 m2 m3 q2 => by
    have g3 := g2.adopt (o := .dic (mergeD kds [] []).1 (mergeD kds [] []).2) hF ⟨us, hp2, m2, DenL.re adopt_hp adopt_hr _ _ m3⟩
    refine q2 (r2 ++ [p]) H2 ?_ g3 _ (.ref ?_)
    · obtain ⟨d, e1, f1⟩ := e.pre
      refine ⟨⟨d ++ [p], by rw [e1, List.append_assoc], fun a ha => ?_⟩, e.keep⟩
      rcases List.mem_append.mp ha with ha | ha
      · exact f1 a ha
      · simp at ha
        rw [ha]; exact hp
    · rw [← g2.len, List.getElem?_append_right (Nat.le_refl _)]
      simp
theorem dp_nil : PPs X pos [] [] (trsOf X W []) := pps_nil
theorem dp_cons {k v : Expr} {ks : List (Option Expr)} {vs : List Expr} {fk fv : Mo D} {ps : List (Mo D × Mo D)} (hk : PE X k (tE (evOf X) W fk)) (hv : PE X v (tE (evOf X) W fv)) (hr : PPs X pos ks vs (trsOf X W ps)) :
    PPs X pos (some k :: ks) (v :: vs) (trsOf X W ((fk, fv) :: ps)) := pps_cons hk hv hr
/-- {} that will change -/
def mNewD0 : Mo D := fun _ h => .ok (.ref h.length) (h ++ [.dic [] []])
theorem de_newD0 : PE X (.Dict [] [] pos) (tE (evOf X) W mNewD0) := pe_dnewK.imp fun σ H Q ⟨r, F, sl, h, s, g, q⟩ => fun p hp => by
  refine q (r ++ [p]) _ (grow_ext hp (same_new hp)) (g.grow hp (same_new hp) ⟨[], upd_same, rfl, .nil⟩) _ (.ref ?_)
  rw [← g.len, List.getElem?_append_right (Nat.le_refl _)]
  simp
end
end CH

/-! CH9: methods of built-in types, calls of values. -/
namespace CH
open PySem PySem.Spec PyProof.Rows L2

/-! ### methods of built-in types -/
def isStr : D → Bool
  | .str _ => true
  | _ => false
def isLst (h : MH) : D → Bool
  | .lst _ => true
  | .ref k => (oLst h[k]?).isSome
  | _ => false
def RcS (G : Ev) (T : String) (rc : MH → D → Bool) : Prop := ∀ (r F : List Addr) (H : Hp) (h : MH) (x : D) (v : V), GoodH G r F h H → Den G r F H x v → rc h x = true → tyV G.K T v H
def MtS (G : Ev) (rr : V → List V → Hp → VK → Prop) (g : D → List D → MH → Res D) : Prop := ∀ (W : WX) (σ : L2.St) (r F : List Addr) (H : Hp) (h : MH) (x : D) (v : V) (ds : List D) (vs : List V) (Q : VK), GoodH G r F h H → Den G r F H x v → DenL G r F H ds vs →
  Aft G W F σ r H (g x ds h) (fun r' H' d _ => ∀ z, Den G r' F H' d z → Q z H') → rr v vs H Q
def mMt (rc : MH → D → Bool) (g : D → List D → MH → Res D) (fo : Mo D) (fl : Mo (List D)) : Mo D := mBind fo fun x => fun sl h => if rc h x = true then bindR (fl sl h) fun ds h1 => g x ds h1 else .bad
theorem rc_str {G : Ev} : RcS G "str" (fun _ => isStr) := fun r F H h x v g hx e => by
  cases hx <;> first | rfl | cases e
theorem rc_lst {G : Ev} : RcS G "list" isLst := fun r F H h x v g hx e => by
  cases hx with
  | lst hq hn hl => exact .inl ⟨rfl, _, SqL.of hq⟩
  | ref hk =>
    have e : (oLst h[_]?).isSome = true := e
    obtain ⟨xs, ex⟩ := Option.isSome_iff_exists.mp e
    obtain ⟨a', ea, vs, h1, h2⟩ := g.ob _ _ (oLst_some ex)
    rw [hk] at ea; cases ea
    exact .inl ⟨rfl, _, SqL.of h1⟩
  | _ => cases e
section
variable {X : Cx} {W : WX} {o e : Expr} {es : List Expr} {fo : Mo D} {fl : Mo (List D)} {name : Str} {apos cpos : Pos} {T id : String} {rr : V → List V → Hp → VK → Prop} {g : D → List D → MH → Res D} {rc : MH → D → Bool}
theorem de_bm (pa : PlainAttrs T) (slot : Slot T name id) (hty : typeOf (.builtin id) = pure (.type "method_descriptor")) (hm : MtR X id rr) (hs : MtS (evOf X) rr g) (hrc : RcS (evOf X) T rc) (ho : PE X o (tE (evOf X) W fo)) (ha : PA X (e :: es) (tA (evOf X) W fl))
    (hbase : attributeBase o name X.env (eval o X.env) = eval o X.env := by rfl)
    (hfew : ((backTo cpos (starEach (e :: es) X.env)).all (fun x => !x.1) && (backToKw cpos (keywordEach [] X.env)).all (fun x => x.1.isSome)
      && decide ((e :: es).length + ([] : List Keyword).length + (if ([] : List Keyword).isEmpty then 0 else 1) < 30)) = true := by rfl)
    (hline : (apos.endLine == cpos.line) = true := by rfl) (hst : starEach (e :: es) X.env = (false, eval e X.env) :: starEach es X.env := by rfl) (hplain : (backTo cpos (starEach es X.env)).any (·.1) = false := by rfl) :
    PE X (.Call (.Attribute o name apos) (e :: es) [] cpos) (tE (evOf X) W (mMt rc g fo fl)) :=
  (pe_bm pa slot hty hm ho ha hbase hfew hline hst hplain).imp fun σ H Q ⟨r, F, sl, h, s, gd, q⟩ => by
    refine tE.of s gd (q.bind.imp fun r1 H1 x h1 e1 g1 q1 v hv => ?_)
    have q1 : Aft (evOf X) W F σ r1 H1 (if rc h1 x = true then bindR (fl sl h1) fun ds h2 => g x ds h2 else .bad) _ := q1
    by_cases z : rc h1 x = true
    · rw [if_pos z] at q1
      refine ⟨hrc _ _ _ _ _ _ g1 hv z, tA.of (s.mono gd.mine e1) g1 (q1.bind.imp fun r2 H2 ds h2 e2 g2 q2 vs hvs => ?_)⟩
      exact hs W σ r2 F H2 h2 x v ds vs Q g2 (Den.mono g1.mine e2 _ _ hv) hvs q2
    · rw [if_neg z] at q1; exact False.elim q1
end
def gEnds : D → List D → MH → Res D := fun x ds h => match x, ds with
  | .str a, [.str b] => .ok (.bl (Txt.endswith a b)) h
  | _, _ => .bad
theorem mts_ends {G : Ev} : MtS G (fun x xs H Q => ∃ a b, x = .str a ∧ xs = [.str b] ∧ Q (.bl (Txt.endswith a b)) H) gEnds := fun W σ r F H h x v ds vs Q g hx hd q => by
  cases hx with
  | str a =>
    match ds, hd with
    | [], _ => exact False.elim q
    | d :: _ :: _, _ => cases d <;> exact False.elim q
    | [d], .cons hy .nil =>
      cases hy with
      | str b => exact ⟨a, b, rfl, rfl, q.here g _ (.bl _)⟩
      | _ => exact False.elim q
  | _ => exact False.elim q

/-! ### a call of a value -/
/-- the defs that may be called so -/
abbrev VTab := List (Str × Nat × Fn)
def vFn (tab : VTab) : D → Option (Nat × Fn)
  | .gl x => tab.lookup x
  | _ => none
def mCallV (tab : VTab) (fe : Mo D) (fl : Mo (List D)) : Mo D := mBind fe fun d => match vFn tab d with
  | some p => mBind fl fun ds => fun _ h => ckN p.1 p.2 ds h
  | none => fun _ _ => .bad
section
variable {X : Cx} {W : WX} {e fe : Expr} {es : List Expr} {ff : Mo D} {fl : Mo (List D)} {pos : Pos} {tab : VTab} {k : Nat}
def VTabOk (X : Cx) (k : Nat) (tab : VTab) : Prop := ∀ x p, tab.lookup x = some p → ∃ (f : Addr) (ps : List Str), X.mg x = some (.ref f) ∧ ps.length = p.1 ∧ FT X.prog X.w X.K X.mg X.base k ps p.2 f
/-- fe(e, ..) where fe is itself a call -/
theorem de_callV (T : VTabOk X k tab) (hr : Room k X.A) (tk : Takes X W) (hf : PE X fe (tE (evOf X) W ff)) (ha : PA X (e :: es) (tA (evOf X) W fl))
    (ht : eval (.Call fe (e :: es) [] pos) X.env = (do
      let v ← eval fe X.env
      callWith pos v [] (backTo pos (starEach (e :: es) X.env)) (backToKw pos (keywordEach [] X.env))) := by rfl)
    (he : starEach (e :: es) X.env = (false, eval e X.env) :: starEach es X.env := by rfl) (hpl : (backTo pos (starEach es X.env)).any (·.1) = false := by rfl) :
    PE X (.Call fe (e :: es) [] pos) (tE (evOf X) W (mCallV tab ff fl)) := by
  refine ⟨fun pins s σ H Q I ⟨r, F, sl, h, s', g, q⟩ => ?_⟩
  rw [ht]
  refine wpAny_bind (thn (hf.run pins s σ H (fun v H1 => ∃ r1 d h1, Ext r H r1 H1 ∧ GoodH (evOf X) r1 F h1 H1 ∧ Den (evOf X) r1 F H1 d v ∧ Aft (evOf X) W F σ r1 H1 ((match vFn tab d with
    | some p => mBind fl fun ds => fun _ h => ckN p.1 p.2 ds h
    | none => fun _ _ => .bad) sl h1) fun r' H' d _ => ∀ v, Den (evOf X) r' F H' d v → Q v H') I (tE.of s' g (q.bind.imp fun r1 H1 d h1 e1 g1 q1 v hv => ⟨r1, d, h1, e1, g1, hv, q1⟩))) fun u s1 ⟨v, H1, I1, rv, r1, d, h1, e1, g1, hd, q1⟩ => ?_)
  cases hv : vFn tab d with
  | none => rw [hv] at q1; exact False.elim q1
  | some p =>
    rw [hv] at q1
    cases hd with
    | gl hm =>
      rename_i x f
      obtain ⟨f', ps, hm', hl, t⟩ := T x p hv
      have hm : X.mg x = some (.ref f) := hm
      rw [hm] at hm'
      cases hm'
      obtain ⟨fd, b1, b2⟩ := t.ex
      obtain rfl : u = Value.ref f := rv
      refine PySem.W.callWith_K (h₀ := X.base) I1.ok.mod.kin t.kp (thn (ha.run pos pins s1 σ H1 _ I1 (tA.of (s'.mono g.mine e1) g1 (q1.bind.imp (Q' := fun r2 H2 ds h2 => ∀ vs, DenL (evOf X) r2 F H2 ds vs → spD (evOf X) ps.length p.2 vs H2 Q (WE W σ)) fun r2 H2 ds h2 e2 g2 q2 vs hvs => ?_))) fun us s2 ⟨vs, H2, I2, rr, q2⟩ => ⟨I2.kIn, ?_⟩) he hpl
      · exact ⟨r2, F, h2, ds, g2, hvs, by rw [hl]; exact q2⟩
      · exact run_fnS b1 hr b2.1 (passAt tk σ) I2 rr q2
    | _ => cases hv
end
end CH

/-! CHA: targets of any form, assignments of comprehensions. -/
namespace CH
open PySem PySem.Spec PyProof.Rows L2

/-- what takes a value -/
abbrev Tgt := D → Ms
def GAft (G : Ev) (F r : List Addr) (H : Hp) (R : SRes) (Q : L2.St → Hp → Prop) : Prop := match R with
  | .nx sl h' => ∀ r' H' σ', Ext r H r' H' → GoodH G r' F h' H' → SlR G r' F H' sl σ' → Q σ' H'
  | _ => False
def tG (G : Ev) (f : Tgt) : TG := fun v σ H Q => ∃ r F sl h d, SlR G r F H sl σ ∧ GoodH G r F h H ∧ Den G r F H d v ∧ GAft G F r H (f d sl h) Q
def runT : List Tgt → List D → Ms
  | [], [] => sSkip
  | f :: fs, d :: ds => fun sl h => seqR (f d sl h) (runT fs ds)
  | _, _ => sNever
def tGs (G : Ev) (fs : List Tgt) : TGs := fun vs σ H Q => ∃ r F sl h ds, SlR G r F H sl σ ∧ GoodH G r F h H ∧ DenL G r F H ds vs ∧ GAft G F r H (runT fs ds sl h) Q
def kName (i : Nat) : Tgt := fun d sl h => .nx (sl.set i (some d)) h
def kTup (fs : List Tgt) : Tgt := fun d sl h => match d with
  | .tup ds => if ds.length = fs.length then runT fs ds sl h else .bad
  | _ => .bad
def kDSub (fo fi : Mo D) : Tgt := fun v sl h => bindS sl (fo sl h) fun x h2 => bindS sl (fi sl h2) fun y h3 => match dSet h3 x y v with
  | some h4 => .nx sl h4
  | none => .bad
def kLSub (fo fi : Mo D) : Tgt := fun v sl h => bindS sl (fo sl h) fun x h2 => bindS sl (fi sl h2) fun y h3 => match lSet h3 x y v with
  | some h4 => .nx sl h4
  | none => .bad
def sAsg (f : Mo D) (k : Tgt) : Ms := fun sl h => bindS sl (f sl h) fun d h1 => k d sl h1
section
variable {G : Ev} {r r1 F : List Addr} {H H1 : Hp} {h h1 : MH} {W : WX} {σ : L2.St} {sl : Sl} {Q : L2.St → Hp → Prop}
theorem GAft.later {R : SRes} (a : GAft G F r H R Q) (e : Ext r H r1 H1) (g : GoodH G r1 F h1 H1) : GAft G F r1 H1 R Q := by
  cases R with
  | nx s h' => exact fun r' H' σ' e' g' => a r' H' σ' (e.trans g.mine e') g'
  | _ => exact a
theorem GAft.here (a : GAft G F r H (.nx sl h) Q) (s : SlR G r F H sl σ) (g : GoodH G r F h H) : Q σ H := a r H σ .refl g s
theorem GAft.seq {R : SRes} {k : Ms} (a : GAft G F r H (seqR R k) Q) : GAft G F r H R (fun σ' H' => ∃ r' sl' h', Ext r H r' H' ∧ GoodH G r' F h' H' ∧ SlR G r' F H' sl' σ' ∧ GAft G F r' H' (k sl' h') Q) := by
  cases R with
  | nx s h' => exact fun r' H' σ' e' g' s' => ⟨r', s, h', e', g', s', GAft.later (h1 := h') a e' g'⟩
  | _ => exact a
theorem GAft.bindS {α : Type} {R : Res α} {k : α → MH → SRes} (a : GAft G F r H (bindS sl R k) Q) : Aft G W F σ r H R (fun r1 H1 x h1 => GAft G F r1 H1 (k x h1) Q) := by
  cases R with
  | ok x h' =>
    intro r' H' e g'
    exact GAft.later (h1 := h') a e g'
  | exc c x h' => exact False.elim a
  | bad => exact False.elim a
theorem GAft.bind1 {α : Type} {R : Res α} {k : α → MH → SRes} (a : GAft G F r H (CH.bindS sl R k) Q) : Aft G W F σ r H R (fun r1 H1 x h1 => GAft G F r1 H1 (k x h1) Q) := GAft.bindS a
end
section
variable {X : Cx} {W : WX} {pos : Pos} {e o i : Expr} {es : List Expr} {f fo fi : Mo D} {k : Tgt} {ks : List Tgt}
theorem dg_name {j : Nat} {x : Str} (p : PG X (.Name x pos) (gName j)) : PG X (.Name x pos) (tG (evOf X) (kName j)) := ⟨fun pins s σ H v u Q I rv ⟨r, F, sl, h, d, hs, g, hd, q⟩ => p.run pins s σ H v u Q I rv (GAft.here q (hs.set hd) g)⟩
theorem dgs_nil : PGs X [] (tGs (evOf X) []) := ⟨fun pins s σ H vs us Q I rv ⟨r, F, sl, h, ds, hs, g, hd, q⟩ => by
  cases hd with
  | nil => exact pgs_nil.run pins s σ H _ us Q I rv ⟨rfl, GAft.here q hs g⟩
  | cons _ _ => exact False.elim q⟩
theorem dgs_cons (h1 : PG X e (tG (evOf X) k)) (h2 : PGs X es (tGs (evOf X) ks)) (hs : (assignEach (e :: es) X.env).map (·.2) = assign e X.env :: (assignEach es X.env).map (·.2) := by rfl) : PGs X (e :: es) (tGs (evOf X) (k :: ks)) :=
  ⟨fun pins s σ H vs us Q I rv ⟨r, F, sl, h, ds, hsl, g, hd, q⟩ => by
    cases hd with
    | nil => exact False.elim q
    | cons h3 h4 =>
      refine (pgs_cons h1 h2 hs).run pins s σ H _ us Q I rv ⟨_, _, rfl, r, F, sl, h, _, hsl, g, h3, ?_⟩
      have q' := GAft.seq q
      cases hR : k _ sl h with
      | nx s' h' =>
        rw [hR] at q'
        intro r' H' σ' e' g' s2
        obtain ⟨r2, sl2, h2', a1, a2, a3, a4⟩ := q' r' H' σ' e' g' s2
        have q2 : GAft (evOf X) F r H (seqR (k _ sl h) (runT ks _)) Q := q
        rw [hR] at q2
        exact ⟨r', F, s', h', _, s2, g', DenL.mono g.mine e' _ _ h4, GAft.later (h1 := h') q2 e' g'⟩
      | ct s' h' => rw [hR] at q'; exact q'
      | bk s' h' => rw [hR] at q'; exact q'
      | rt d h' => rw [hR] at q'; exact q'
      | exc c a s' h' => rw [hR] at q'; exact q'
      | bad => rw [hR] at q'; exact q'⟩
theorem dg_tup {n : Nat} {kk : Nat} (hc : X.calm = true) (h : PGs X es (tGs (evOf X) ks)) (hk : ks.length = n) (hn : (assignEach es X.env).length = n := by rfl) (hst : (assignEach es X.env).findIdx? (·.1) = none := by rfl) : PG X (.Tuple es kk pos) (tG (evOf X) (kTup ks)) :=
  ⟨fun pins s σ H v u Q I rv ⟨r, F, sl, h', d, hs, g, hd, q⟩ => by
    cases hd with
    | @tup a ds vs hq hl =>
      have q : GAft (evOf X) F r H (if ds.length = ks.length then runT ks ds sl h' else .bad) Q := q
      by_cases z : ds.length = ks.length
      · rw [if_pos z] at q
        exact (pg_tup hc h hn hst).run pins s σ H _ u Q I rv ⟨_, _, rfl, hq.sq, by rw [← hl.len, z]; exact hk, r, F, sl, h', ds, hs, g, hl, q⟩
      · rw [if_neg z] at q; exact False.elim q
    | _ => exact False.elim q⟩
theorem set_dict {n : Nat} (hr : Room n X.A) : PSet X (fun o i v H Q => ∃ a H', o = .ref a ∧ DPut H a i v H' ∧ Q H') := fun pins s σ H o i v ov iv u Q I ro ri rv ⟨a, H', eo, hp, q⟩ => by
  subst eo
  obtain rfl : ov = Value.ref a := ro
  exact d_setItem (by have := hr.un; omega) I hp ri rv fun s' I' => ⟨H', I', q⟩
theorem dg_dsub {n : Nat} (hr : Room n X.A) (ho : PE X o (tE (evOf X) W fo)) (hi : PE X i (tE (evOf X) W fi)) (ha : ∀ v, assign (.Subscript o i pos) X.env v = (do
      let ov ← holding [v] (eval o X.env)
      let iv ← holding [v, ov] (eval i X.env)
      standAt pos
      holding [v, ov, iv] (setItem ov iv v)
      release [v, ov, iv] []) := by intro _; rfl) : PG X (.Subscript o i pos) (tG (evOf X) (kDSub fo fi)) :=
  ⟨fun pins s σ H v u Q I rv ⟨r, F, sl, h, d, hs, g, hd, q⟩ => (pg_sub ho hi (set_dict hr) ha).run pins s σ H v u Q I rv (by
    refine tE.of hs g ((GAft.bindS (W := W) (σ := σ) q).imp fun r2 H2 x h2 e2 g2 q2 vx hvx => ?_)
    have s2 := hs.mono g.mine e2
    refine tE.of s2 g2 ((GAft.bindS (W := W) (σ := σ) q2).imp fun r3 H3 y h3 e3 g3 q3 vy hvy => ?_)
    have q3 : GAft (evOf X) F r3 H3 (match dSet h3 x y d with
      | some h4 => .nx sl h4
      | none => .bad) Q := q3
    cases hs' : dSet h3 x y d with
    | none => rw [hs'] at q3; exact False.elim q3
    | some h4 =>
      rw [hs'] at q3
      obtain ⟨a, H', ea, hput, ee, g4⟩ := dSet_ok g3 (Den.mono g2.mine e3 _ _ hvx) hvy (Den.mono g2.mine e3 _ _ (Den.mono g.mine e2 _ _ hd)) hs'
      exact ⟨a, H', ea, hput, q3 r3 H' σ ee g4 ((s2.mono g2.mine e3).mono g3.mine ee)⟩)⟩
theorem dg_lsub (ho : PE X o (tE (evOf X) W fo)) (hi : PE X i (tE (evOf X) W fi)) (ha : ∀ v, assign (.Subscript o i pos) X.env v = (do
      let ov ← holding [v] (eval o X.env)
      let iv ← holding [v, ov] (eval i X.env)
      standAt pos
      holding [v, ov, iv] (setItem ov iv v)
      release [v, ov, iv] []) := by intro _; rfl) : PG X (.Subscript o i pos) (tG (evOf X) (kLSub fo fi)) :=
  ⟨fun pins s σ H v u Q I rv ⟨r, F, sl, h, d, hs, g, hd, q⟩ => (pg_sub ho hi set_list ha).run pins s σ H v u Q I rv (by
    refine tE.of hs g ((GAft.bindS (W := W) (σ := σ) q).imp fun r2 H2 x h2 e2 g2 q2 vx hvx => ?_)
    have s2 := hs.mono g.mine e2
    refine tE.of s2 g2 ((GAft.bindS (W := W) (σ := σ) q2).imp fun r3 H3 y h3 e3 g3 q3 vy hvy => ?_)
    have q3 : GAft (evOf X) F r3 H3 (match lSet h3 x y d with
      | some h4 => .nx sl h4
      | none => .bad) Q := q3
    cases hs' : lSet h3 x y d with
    | none => rw [hs'] at q3; exact False.elim q3
    | some h4 =>
      rw [hs'] at q3
      obtain ⟨p, xs, k, j, e1', e2', hp, hj, ee, g4⟩ := lSet_ok g3 (Den.mono g2.mine e3 _ _ hvx) hvy (Den.mono g2.mine e3 _ _ (Den.mono g.mine e2 _ _ hd)) hs'
      exact ⟨p, xs, k, j, e1', e2', hp, hj, q3 r3 _ σ ee g4 ((s2.mono g2.mine e3).mono g3.mine ee)⟩)⟩
/-- only going on, never another way out -/
def onlyNx : SRes → SRes
  | .nx sl h => .nx sl h
  | _ => .bad
def sAsgT (f : Mo D) (k : Tgt) : Ms := fun sl h => bindS sl (f sl h) fun d h1 => onlyNx (k d sl h1)
theorem ds_asg {tg : Expr} (he : PE X e (tE (evOf X) W f)) (hg : PG X tg (tG (evOf X) k)) (hs : swapsWithSole [tg] e pos.line X.env = pure false := by rfl) (hw : swappedStores [tg] e X.env = pure none := by rfl)
    (h1 : (assignEach [tg] X.env).map (·.2) = [assign tg X.env] := by rfl) : PS X (.Assign [tg] e pos) (tS (evOf X) W (sAsgT f k)) :=
  (ps_asg he hg hs hw h1).imp fun E σ H ⟨r, F, sl, h, s, g, q⟩ => by
    refine tE.of s g ((q.bindS s g).imp fun r1 H1 d h1 e1 g1 q1 v hv => ⟨r1, F, sl, h1, d, s.mono g.mine e1, g1, hv, ?_⟩)
    cases hR : k d sl h1 with
    | nx s' h' => rw [hR] at q1; exact q1
    | ct s' h' => rw [hR] at q1; exact q1
    | bk s' h' => rw [hR] at q1; exact q1
    | rt d h' => rw [hR] at q1; exact q1
    | exc c a s' h' => rw [hR] at q1; exact q1
    | bad => rw [hR] at q1; exact q1

/-- name = [..] on one line -/
theorem ds_setLc {i : Nat} {vs : List Nat} {y : Str} {py spos : Pos} {elt te iter : Expr} {ifs : List Expr} {scope : Scope} {own : List (Str × Nat)} {fi : Mo (List D)} {tg : Tg} {fc : Mo Bool} {f : Mo D} (hc : X.calm = true) (hN : X.N.Nodup) (hy : X.N[i]? = some y) (hyl : X.env.scope.names.lookup y = some .local)
    (hsw : swapsWith (.ListComp elt [⟨te, iter, ifs, 0⟩] scope pos) (some (.Name y py)) spos.line X.env = pure true) (hi : PI X te iter (tI (evOf X) W fi)) (ok : BlkOk X.N X.env.scope scope own)
    (ho : ∀ i ∈ tg.slots, i ∈ own.map (·.2))
    (hg : ∀ (s : Shared) (H : Hp) (C : Addr) (cl : List (Str × Addr)) (fp : List Addr), PG (X.blk s H scope (compEnvC scope cl C X.env) fp) te (tgV X.K tg))
    (ht : ∀ (s : Shared) (H : Hp) (C : Addr) (cl : List (Str × Addr)) (fp : List Addr), PTs (X.blk s H scope (compEnvC scope cl C X.env) fp) ifs (tT (evOf X) W0 fc))
    (he : ∀ (s : Shared) (H : Hp) (C : Addr) (cl : List (Str × Addr)) (fp : List Addr), PE (X.blk s H scope (compEnvC scope cl C X.env) fp) elt (tE (evOf X) W0 f)) (hs : ∀ x, foldedSetIterable iter X.env x = pure x := by intro _; rfl) (hv : own.map (·.2) = vs := by rfl) :
    PS X (.Assign [.Name y py] (.ListComp elt [⟨te, iter, ifs, 0⟩] scope pos) spos) (tS (evOf X) W (sSet i (mLc vs fi tg fc f))) := by
  subst hv
  exact (ps_setLc hc hN hy hyl hsw hi ok hg ht he hs).imp fun E σ H ⟨r, F, sl, h, s, g, q⟩ => lc_of ho σ H _ (tE.of s g ((q.bindS s g).imp fun r1 H1 x h1 e1 g1 q1 v hv => q1.nxh ((s.mono g.mine e1).set hv) g1))
/-! ### d.get(k, x) -/
def getOr (h : MH) (x y z : D) : Option D := (dicD h x).bind fun p => (keyD y).map fun k => (dget k p.1 p.2).getD z
def mDGet2 (fo fk fx : Mo D) : Mo D := mBind fo fun x => fun sl h => if (dicD h x).isSome = true then bindR (fk sl h) fun y h1 => bindR (fx sl h1) fun z h2 => optR (getOr h2 x y z) h2 else .bad
theorem dget_none {α β : Type} {k : Key} : ∀ {ks : List Key} {vs : List α} {us : List β}, ks.length = vs.length → ks.length = us.length → dget k ks vs = none → dget k ks us = none
  | [], _, _, _, _, _ => rfl
  | k' :: ks, v :: vs, u :: us, e1, e2, e => by
    unfold dget at e ⊢
    by_cases h : k' = k
    · rw [if_pos h] at e; cases e
    · rw [if_neg h] at e ⊢
      exact dget_none (by simpa using e1) (by simpa using e2) e
  | _ :: _, [], _, e1, _, _ => by cases e1
  | _ :: _, _, [], _, e2, _ => by cases e2
theorem de_dget2 {n : Nat} {apos cpos : Pos} {ee ff : Expr} {fk fx : Mo D} (hr : Room n X.A) (ho : PE X o (tE (evOf X) W fo)) (he : PE X ee (tE (evOf X) W fk)) (hf : PE X ff (tE (evOf X) W fx)) (m : M2 X o "get" apos ee ff cpos := by exact ⟨rfl, rfl, rfl, rfl⟩) :
    PE X (.Call (.Attribute o "get" apos) [ee, ff] [] cpos) (tE (evOf X) W (mDGet2 fo fk fx)) :=
  (pe_dget2 (by have := hr.un; omega) ho he hf m).imp fun σ H Q ⟨r, F, sl, h, s, g, q⟩ => by
    refine tE.of s g (q.bind.imp fun r1 H1 x h1 e1 g1 q1 v hv => ?_)
    have q1 : Aft (evOf X) W F σ r1 H1 (if (dicD h1 x).isSome = true then bindR (fk sl h1) fun y h2 => bindR (fx sl h2) fun z h3 => optR (getOr h3 x y z) h3 else .bad) _ := q1
    by_cases z : (dicD h1 x).isSome = true
    · rw [if_pos z] at q1
      obtain ⟨p, hp⟩ := Option.isSome_iff_exists.mp z
      obtain ⟨a, vs, rfl, h3, h4, h5⟩ := dic_den g1 hv hp
      have s1 := s.mono g.mine e1
      refine ⟨a, rfl, .inl ⟨_, .inl h3⟩, tE.of s1 g1 (q1.bind.imp fun r2 H2 y h2 e2 g2 q2 u hu => ?_)⟩
      refine tE.of (s1.mono g1.mine e2) g2 (q2.bind.imp fun r3 H3 w h3' e3 g3 q3 t ht => ?_)
      obtain ⟨d, e, qq⟩ := optR_ok (show Aft (evOf X) W F σ r3 H3 (optR (getOr h3' x y w) h3') _ from q3)
      unfold getOr at e
      cases hd : dicD h3' x with
      | none => rw [hd] at e; cases e
      | some p' =>
        rw [hd] at e
        have e : ((keyD y).map fun k => (dget k p'.1 p'.2).getD w) = some d := e
        cases hk : keyD y with
        | none => rw [hk] at e; cases e
        | some k =>
          rw [hk] at e
          have e : (dget k p'.1 p'.2).getD w = d := Option.some.inj e
          obtain ⟨a', vs', ea, b3, b4, b5⟩ := dic_den g3 (Den.mono g2.mine e3 _ _ (Den.mono g1.mine e2 _ _ hv)) hd
          cases ea
          have ek := key_den hk hu
          subst ek
          refine ⟨_, DGet.k b3, ?_⟩
          rw [valV_dget k b4]
          cases hg : dget k p'.1 p'.2 with
          | none =>
            rw [hg] at e
            subst e
            rw [dget_none (by rw [b4, b5.len]) b4 hg]
            exact qq.here g3 _ ht
          | some d' =>
            rw [hg] at e
            subst e
            obtain ⟨w', c6, c7⟩ := dget_den b4 b5 hg
            rw [c6]
            exact qq.here g3 _ c7
    · rw [if_neg z] at q1; exact False.elim q1
end
end CH

/-! CHB: written constants; the end of a law. -/
namespace CH
open PySem PySem.Spec PyProof.Rows L2

mutual
/-- does the written value u stand for d -/
def chkV (K : PySem.W.Frag) : D → Value → Bool
  | .non, .none => true
  | .bl a, .bool b => a == b
  | .int i, .int j _ => decide (i = j)
  | .str x, .str y _ => decide (x = y)
  | .tup ds, .ref a => match K.lookup a with
    | some ⟨.type c, _, .seq its _, _⟩ => decide (c = "tuple") && (decide (its.size ≤ sizeLine) && chkL K ds its.toList)
    | _ => false
  | _, _ => false
def chkL (K : PySem.W.Frag) : List D → List Value → Bool
  | [], [] => true
  | d :: ds, u :: us => chkV K d u && chkL K ds us
  | _, _ => false
end
section
variable {K : PySem.W.Frag} {mg : Str → Option Value}
mutual
theorem chkV_ok : ∀ (d : D) (u : Value), chkV K d u = true → ∃ v, RelV v u ∧ ∀ r F H, Den ⟨K, mg⟩ r F H d v
  | .non, u, h => by cases u <;> first | exact ⟨.non, rfl, fun _ _ _ => .non⟩ | cases h
  | .bl a, u, h => by
    cases u with
    | bool b =>
      have e : a = b := eq_of_beq (show (a == b) = true from h)
      exact ⟨.bl a, by rw [e]; rfl, fun _ _ _ => .bl a⟩
    | _ => cases h
  | .int i, u, h => by
    cases u with
    | int j t =>
      have e : i = j := of_decide_eq_true h
      exact ⟨.int i, ⟨t, by rw [e]⟩, fun _ _ _ => .int i⟩
    | _ => cases h
  | .str x, u, h => by
    cases u with
    | str y t =>
      have e : x = y := of_decide_eq_true h
      exact ⟨.str x, ⟨t, by rw [e]⟩, fun _ _ _ => .str x⟩
    | _ => cases h
  | .tup ds, u, h => by
    cases u with
    | ref a =>
      have h1 : (match K.lookup a with
        | some ⟨.type c, _, .seq its _, _⟩ => decide (c = "tuple") && (decide (its.size ≤ sizeLine) && chkL K ds its.toList)
        | _ => false) = true := h
      cases q : K.lookup a with
      | none => rw [q] at h1; cases h1
      | some o =>
        obtain ⟨oc, od, dt, osl⟩ := o
        rw [q] at h1
        cases oc with
        | type c =>
          cases dt with
          | seq its n =>
            have h2 : (decide (c = "tuple") && (decide (its.size ≤ sizeLine) && chkL K ds its.toList)) = true := h1
            rw [Bool.and_eq_true, Bool.and_eq_true] at h2
            obtain ⟨h3, h4, h5⟩ := h2
            have h3 : c = "tuple" := of_decide_eq_true h3
            have h4 : its.size ≤ sizeLine := of_decide_eq_true h4
            subst h3
            obtain ⟨vs, rv, f⟩ := chkL_ok ds its.toList h5
            exact ⟨.ref a, rfl, fun r F H => .tup (.inr (.inr ⟨_, its, n, q, rfl, rfl, h4, rv⟩)) (f r F H)⟩
          | _ => cases h1
        | _ => cases dt <;> cases h1
    | _ => cases h
  | .lst _, u, h => by cases u <;> cases h
  | .dic _ _, u, h => by cases u <;> cases h
  | .ref _, u, h => by cases u <;> cases h
  | .gl _, u, h => by cases u <;> cases h
  | .dct _ _, u, h => by cases u <;> cases h
  | .ty _, u, h => by cases u <;> cases h
  | .scr _, u, h => by cases u <;> cases h
theorem chkL_ok : ∀ (ds : List D) (us : List Value), chkL K ds us = true → ∃ vs, Vals vs us ∧ ∀ r F H, DenL ⟨K, mg⟩ r F H ds vs
  | [], [], _ => ⟨[], .nil, fun _ _ _ => .nil⟩
  | [], _ :: _, h => by cases h
  | _ :: _, [], h => by cases h
  | d :: ds, u :: us, h => by
    have h1 : (chkV K d u && chkL K ds us) = true := h
    rw [Bool.and_eq_true] at h1
    obtain ⟨v, a1, a2⟩ := chkV_ok d u h1.1
    obtain ⟨vs, b1, b2⟩ := chkL_ok ds us h1.2
    exact ⟨v :: vs, .cons a1 b1, fun r F H => .cons (a2 r F H) (b2 r F H)⟩
end
/-- the module's name x stands for d -/
def chkC (K : PySem.W.Frag) (p : Str × D) : Bool := match PySem.W.nsIn K mainGlobals p.1 with
  | some (some u) => chkV K p.2 u
  | _ => false
theorem chkC_ok {h : Heap} (X : K.In h) (G : h.Ns mainGlobals mg) {x : Str} {d : D} (c : chkC K (x, d) = true) : CoD ⟨K, mg⟩ x d := by
  unfold chkC at c
  cases e : PySem.W.nsIn K mainGlobals x with
  | none => simp only [e] at c; cases c
  | some o =>
    cases o with
    | none => simp only [e] at c; cases c
    | some u =>
      simp only [e] at c
      obtain ⟨v, a1, a2⟩ := chkV_ok (mg := mg) d u c
      exact ⟨u, v, PySem.W.mg_of X G e, a1, a2⟩
end

/-- what leaves a def's body leaves the def -/
theorem takes_cx {P : Program} {w : World} {K : PySem.W.Frag} {mg : Str → Option Value} {base : Heap} {N : List Str} {qual : Str} {scope : Scope} {f : Addr} {cd : Value} {A : Around} {outer : List Env} {s : Shared} {H : Hp} {E : XK} :
    Takes (cxOf (L2.CX P w) P w K mg base N qual scope f cd A outer s H E) (WX0 E) := takes_of rfl rfl rfl rfl
/-- a def that never ends well -/
theorem FT.bad {P : Program} {w : World} {K : PySem.W.Frag} {mg : Str → Option Value} {base : Heap} {k : Nat} {ps : List Str} {f : Addr} {fd : FuncData} (bd : Binds K fd ps [] ∧ ∀ (s : Shared) (us : List Value), us.length = ps.length → BindsTo s fd ⟨us, []⟩ (ps.zip us)) (kp : PySem.W.keepIn K (.ref f) = true) : FT P w K mg base k ps (fun _ _ => .bad) f := by
  have no : ∀ vs H Q E, spD ⟨K, mg⟩ ps.length (fun _ _ => .bad) vs H Q E → False := fun vs H Q E h => by
    obtain ⟨r, F, h, ds, g, hd, q⟩ := h
    unfold ckN at q
    by_cases z : ds.length = ps.length
    · rw [if_pos z] at q; exact q
    · rw [if_neg z] at q; exact q
  exact ⟨⟨fd, ⟨fun vs H Q E h => (no vs H Q E h).elim, fun A outer s H args us vs Q E _ _ _ _ h => (no vs H Q E h).elim⟩, bd⟩, kp⟩
/-- the law's promise from its mirror -/
theorem sp_law {K : PySem.W.Frag} {mg : Str → Option Value} {c : Fn} {H : Hp} {a : Addr} {ns : List Int} (hO : L2.Only H) (hS : SqL K H a (ns.map V.int)) (hc : ∃ h', c [.scr ns] [] = .ok (.bl true) h') : spD ⟨K, mg⟩ 1 c [.ref a] H (fun v _ => v = .bl true) fun _ _ _ => False := by
  obtain ⟨h', hc⟩ := hc
  refine ⟨[], [], [], [.scr ns], ⟨rfl, List.nodup_nil, (fun _ z => by cases z), (fun i o hi => by simp at hi)⟩, .cons (.scr ?_) .nil, ?_⟩
  · rcases hS with (hS | ⟨o, hS⟩) | hS
    · rcases hO a with z | ⟨o, xs, z⟩
      · rw [z] at hS; cases hS
      · rw [z] at hS; cases hS
    · exact .inl ⟨o, hS⟩
    · exact .inr (.inr hS)
  · show Aft _ _ _ _ _ _ (c [.scr ns] []) _
    rw [hc]
    intro r' H' e g v hv
    cases hv
    rfl
/-- what is known of the law's def in each world: its text in the written part, and that it answers True of every script -/
def LawDef (P : Program) (CX : World → CXT) (YP : World → Heap → Prop) (name x : Str) (n k : Nat) : Prop :=
  ∀ (w : World) (mg : Str → Option Value) (fa : Addr) (h : Heap), YP w h → h.Ns mainGlobals mg → mg name = some (.ref fa) → ∃ (K : PySem.W.Frag) (fd : FuncData) (sp : Sp), K.In h ∧ (∀ (s : Shared) (u : Value), BindsTo s fd ⟨[u], []⟩ [(x, u)]) ∧
    (∀ (H : Hp) (a : Addr) (ns : List Int), ns.length ≤ n → L2.Only H → SqL K H a (ns.map V.int) → sp [.ref a] H (fun v _ => v = .bl true) fun _ _ _ => False) ∧ ∀ base : Heap, K.In base → base.Ns mainGlobals mg → FnOk P w K mg base (CX w) k fa fd [x] sp
/-- no error leaves the law -/
def NoErr (CX : World → CXT) : Prop := ∀ (w : World) (H : Hp) (s : Shared) (e : Value) (s' : Shared), CX w [] H s (fun _ _ _ => False) e s' → False
theorem walk_ofW {l : PySem.W.OpenLaw} {n k : Nat} {q : Program} {loose : List Str} {XP : (Str → Option Value) → Heap → Prop} {YP : World → Heap → Prop} {d : DefRec} {CX : World → CXT} {x : Str} (hn : l.most = some n) (hn2 : n ≤ sizeLine) (hdf : d.params.defaults = []) (hr : Room k callerA)
    (F : LawDef l.prog CX YP d.name x n k) (hCX : NoErr CX) : PySem.W.WalkO q loose XP YP l.row.toRowW d [] (fun f vs => PySem.call f vs) := by
  refine Att.attach_call hn hdf fun w s₀ s₁ mg mb fa o pm cd doc a vs ns G Y ho hd hcd hmg hobj hints hlen hg => ?_
  have ⟨K, fd, sp, KX, hb, hsp, hF⟩ := F w mg fa _ Y G.T.g hmg
  exact law_call KX G.T.g G.T.b G.T.builtins G.T.nolimit hg hobj hints (Nat.le_trans hlen hn2) hr hF hb (fun H hO hS => hsp H a ns hlen hO hS) fun H e s' => hCX w H s₁ e s'
theorem cx_no {P : Program} {w : World} (H : Hp) (s : Shared) (e : Value) (s' : Shared) (h : L2.CX P w [] H s (fun _ _ _ => False) e s') : False := by
  obtain ⟨_, _, _, _, _, _, _, _, _, _, _, _, z⟩ := h
  exact z
end CH

/-! CHC: two fors in a comprehension; slices; texts in order. -/
namespace CH
open PySem PySem.Spec PyProof.Rows L2
def lcD2 (tg : Tg) (c : Mo Bool) (fi1 : Mo (List D)) (tg1 : Tg) (c1 : Mo Bool) (f : Mo D) (vs1 : List Nat) (sl : Sl) : List D → List D → MH → Res (List D)
  | acc, [], h => .ok acc h
  | acc, d :: ds, h => match tgD tg d sl with
    | none => .bad
    | some sl1 => bindR (noX (c sl1 h)) fun b h1 => if b then bindR (noX (fi1 sl1 h1)) fun xs h2 => bindR (lcD tg1 c1 f (wipeD sl1 vs1) acc xs h2) fun acc1 h3 => lcD2 tg c fi1 tg1 c1 f vs1 sl acc1 ds h3 else lcD2 tg c fi1 tg1 c1 f vs1 sl acc ds h1
def mLc2 (vs : List Nat) (fi : Mo (List D)) (tg : Tg) (c : Mo Bool) (fi1 : Mo (List D)) (tg1 : Tg) (c1 : Mo Bool) (f : Mo D) (vs1 : List Nat) : Mo D := fun sl h => bindR (fi sl h) fun ds h1 => bindR (lcD2 tg c fi1 tg1 c1 f vs1 (wipeD sl vs) [] ds h1) fun xs h2 => .ok (.lst xs) h2
theorem bindR_assoc {α β γ : Type} {m : Res α} {k : α → MH → Res β} {k' : β → MH → Res γ} : bindR (bindR m k) k' = bindR m fun a h => bindR (k a h) k' := by cases m <;> rfl
theorem lc2_of {X : Cx} {W : WX} {vs vs1 : List Nat} {fi fi1 : Mo (List D)} {tg tg1 : Tg} {fc fc1 : Mo Bool} {f : Mo D} (ho : ∀ i ∈ tg.slots, i ∈ vs) (ho1 : ∀ i ∈ tg1.slots, i ∈ vs1) (σ : L2.St) (H : Hp) (Q : VK) (q : tE (evOf X) W (mLc2 vs fi tg fc fi1 tg1 fc1 f vs1) σ H Q) :
    tLc2 (tI (evOf X) W fi) (tgV X.K tg) (tT (evOf X) W0 fc) (tI (evOf X) W0 fi1) (tgV X.K tg1) (tT (evOf X) W0 fc1) (tE (evOf X) W0 f) vs vs1 σ H Q := by
  obtain ⟨r, F, sl, h, s, g, q⟩ := q
  refine tI.of s g (q.bind.imp fun r1 H1 xs h1 e1 g1 q1 J hJ D0 hD => ?_)
  have q1 := q1.bind
  have nF : D0 ∉ F := (g1.fresh hD).2
  have fo : Foe F H1 (D0 :: F) := fun a ha => by
    rcases List.mem_cons.mp ha with e | e
    · exact .inr (by rw [e]; exact hD)
    · exact .inl e
  have sm0 : Same H1 (upd H1 D0 (.lst [])) := same_new hD
  have g1' : GoodH (evOf X) r1 (D0 :: F) h1 (upd H1 D0 (.lst [])) := g1.newF hD trivial
  -- what stands behind the loop
  let Kx : List Addr → Hp → List D → MH → Prop := fun r' H' x h1 => Aft (evOf X) W F σ r' H' (Res.ok (D.lst x) h1) fun r' H' d _ => ∀ v, Den (evOf X) r' F H' d v → Q v H'
  let Lp : List D → List D → MH → Res (List D) := lcD2 tg fc fi1 tg1 fc1 f vs1 (wipeD sl vs)
  refine ⟨fun i m H' => ∃ r' h' acc vacc, Ext r1 H1 r' H' ∧ GoodH (evOf X) r' (D0 :: F) h' H' ∧ H' D0 = some (.lst vacc) ∧ DenL (evOf X) r' (D0 :: F) H' acc vacc ∧ m = xs.length - i ∧ i ≤ xs.length ∧
    Aft (evOf X) W F σ r1 H1 (Lp acc (xs.drop i) h') Kx,
    ⟨xs.length, r1, h1, [], [], .same sm0, g1', upd_same, .nil, by simp, Nat.zero_le _, q1⟩, ?_⟩
  rintro i m H' ⟨r', h', acc, vacc, e', g', hD', hacc, rfl, hi', q'⟩
  have hJ' := hJ r' (D0 :: F) H' e'.toF g'.mine fo i
  have s' : SlR (evOf X) r' (D0 :: F) H' (wipeD sl vs) (L2.wipe σ vs) := by
    have z := (s.mono g.mine e1).wiped vs
    exact ⟨z.1, fun j d hd => let ⟨v, a1, a2⟩ := z.2 j d hd; ⟨v, a1, Den.monoF g1.mine e' fo _ _ a2⟩⟩
  by_cases hlt : i < xs.length
  · have hd : xs[i]? = some xs[i] := List.getElem?_eq_getElem hlt
    obtain ⟨hgo, hy⟩ := hJ'.1 _ hd
    refine .inr ⟨hgo, fun H2 => ∃ r2 h2 acc vacc, Ext r1 H1 r2 H2 ∧ GoodH (evOf X) r2 (D0 :: F) h2 H2 ∧ H2 D0 = some (.lst vacc) ∧ DenL (evOf X) r2 (D0 :: F) H2 acc vacc ∧
        Aft (evOf X) W F σ r1 H1 (Lp acc (xs.drop (i + 1)) h2) Kx,
      fun H2 ⟨r2, h2, ac, va, a1, a2, a3, a4, a5⟩ => ⟨xs.length - (i + 1), by omega, r2, h2, ac, va, a1, a2, a3, a4, rfl, hlt, a5⟩, fun x H'' yld => ?_⟩
    obtain ⟨sm, hx⟩ := hy x H'' yld
    rw [List.drop_eq_getElem_cons hlt] at q'
    have g'' := g'.same sm
    have s'' := s'.mono g'.mine (.same sm)
    have ee := e'.trans g'.mine (Ext.same (r := r') sm)
    cases htg : tgD tg xs[i] (wipeD sl vs) with
    | none =>
      have q' : Aft (evOf X) W F σ r1 H1 (lcD2 tg fc fi1 tg1 fc1 f vs1 (wipeD sl vs) acc (xs[i] :: xs.drop (i + 1)) h') Kx := q'
      unfold lcD2 at q'; rw [htg] at q'; exact False.elim q'
    | some sl1 =>
      have q2 : Aft (evOf X) W F σ r1 H1 (bindR (noX (fc sl1 h')) fun b h1 => if b = true then bindR (noX (fi1 sl1 h1)) fun xs1 h2 => bindR (lcD tg1 fc1 f (wipeD sl1 vs1) acc xs1 h2) fun acc1 h3 => Lp acc1 (xs.drop (i + 1)) h3 else Lp acc (xs.drop (i + 1)) h1) Kx := by
        have q' : Aft (evOf X) W F σ r1 H1 (lcD2 tg fc fi1 tg1 fc1 f vs1 (wipeD sl vs) acc (xs[i] :: xs.drop (i + 1)) h') Kx := q'
        unfold lcD2 at q'; rw [htg] at q'; exact q'
      refine tgV_of (G := evOf X) hx htg s'' fun σ2 s2 o2 => ⟨only_in o2 ho, ?_⟩
      refine tT.of s2 g'' ((aft0 (D0 := D0) (σ0 := σ2) q2).imp fun r3 H3 b h3 e3 g3 q4 => ?_)
      have hD3 : H3 D0 = some (.lst vacc) := e3.keep _ _ (sm _ _ hD') (g''.fd D0 List.mem_cons_self).2
      have hac3 := DenL.mono g'.mine (Ext.trans (.same sm) g''.mine e3) _ _ hacc
      have ee3 := ee.trans g''.mine e3
      cases b with
      | false => exact ⟨r3, h3, acc, vacc, ee3, g3, hD3, hac3, q4⟩
      | true =>
        have q4 : Aft (evOf X) W F σ r1 H1 (bindR (noX (fi1 sl1 h3)) fun xs1 h2 => bindR (lcD tg1 fc1 f (wipeD sl1 vs1) acc xs1 h2) fun acc1 h3 => Lp acc1 (xs.drop (i + 1)) h3) Kx := q4
        have s3 := s2.mono g''.mine e3
        refine tI.of s3 g3 ((aft0 (D0 := D0) (σ0 := σ2) q4).imp fun r4 H4 xs1 h4 e4 g4 q5 J1 hJ1 => ?_)
        have hD4 : H4 D0 = some (.lst vacc) := e4.keep _ _ hD3 (g3.fd D0 List.mem_cons_self).2
        have hac4 := DenL.mono g3.mine e4 _ _ hac3
        have ee4 := ee3.trans g3.mine e4
        refine ⟨fun j k H' => ∃ r' h' acc vacc, Ext r1 H1 r' H' ∧ ExtF r4 (D0 :: F) H4 r' H' ∧ GoodH (evOf X) r' (D0 :: F) h' H' ∧ SlR (evOf X) r' (D0 :: F) H' (wipeD sl1 vs1) (L2.wipe σ2 vs1) ∧ H' D0 = some (.lst vacc) ∧ DenL (evOf X) r' (D0 :: F) H' acc vacc ∧ k = xs1.length - j ∧ j ≤ xs1.length ∧
          Aft (evOf X) W F σ r1 H1 (bindR (lcD tg1 fc1 f (wipeD sl1 vs1) acc (xs1.drop j) h') fun acc1 h3 => Lp acc1 (xs.drop (i + 1)) h3) Kx,
          ⟨xs1.length, r4, h4, acc, vacc, ee4, Ext.toF .refl, g4, (s3.mono g3.mine e4).wiped vs1, hD4, hac4, by simp, Nat.zero_le _, q5⟩, ?_⟩
        rintro j k H5 ⟨r5, h5, acc, vacc, e5, f5, g5, s5, hD5, hac5, rfl, hj, q6⟩
        have hJ1' := hJ1 r5 (D0 :: F) H5 f5 g5.mine .refl j
        by_cases hlj : j < xs1.length
        · have hdj : xs1[j]? = some xs1[j] := List.getElem?_eq_getElem hlj
          obtain ⟨hgo1, hy1⟩ := hJ1'.1 _ hdj
          refine .inr ⟨hgo1, fun H2 => ∃ r2 h2 acc vacc, Ext r1 H1 r2 H2 ∧ ExtF r4 (D0 :: F) H4 r2 H2 ∧ GoodH (evOf X) r2 (D0 :: F) h2 H2 ∧ SlR (evOf X) r2 (D0 :: F) H2 (wipeD sl1 vs1) (L2.wipe σ2 vs1) ∧ H2 D0 = some (.lst vacc) ∧ DenL (evOf X) r2 (D0 :: F) H2 acc vacc ∧
              Aft (evOf X) W F σ r1 H1 (bindR (lcD tg1 fc1 f (wipeD sl1 vs1) acc (xs1.drop (j + 1)) h2) fun acc1 h3 => Lp acc1 (xs.drop (i + 1)) h3) Kx,
            fun H2 ⟨r2, h2, ac, va, a1, a2, a3, a4, a5, a6, a7⟩ => ⟨xs1.length - (j + 1), by omega, r2, h2, ac, va, a1, a2, a3, a4, a5, a6, rfl, hlj, a7⟩, fun y H6 yld1 => ?_⟩
          obtain ⟨sm1, hy2⟩ := hy1 y H6 yld1
          rw [List.drop_eq_getElem_cons hlj] at q6
          have g6 := g5.same sm1
          have s6 := s5.mono g5.mine (.same sm1)
          have e6 := e5.trans g5.mine (Ext.same (r := r5) sm1)
          have f6 : ExtF r4 (D0 :: F) H4 r5 H6 := ⟨f5.pre, fun a o ha n1 n2 => sm1 _ _ (f5.keep a o ha n1 n2)⟩
          cases htg1 : tgD tg1 xs1[j] (wipeD sl1 vs1) with
          | none => unfold lcD at q6; rw [htg1] at q6; exact False.elim q6
          | some sl2 =>
            have q7 : Aft (evOf X) W F σ r1 H1 (bindR (noX (fc1 sl2 h5)) fun b h1 => bindR (if b = true then (if acc.length < lim then bindR (noX (f sl2 h1)) fun x h2 => lcD tg1 fc1 f (wipeD sl1 vs1) (acc ++ [x]) (xs1.drop (j + 1)) h2 else .bad) else lcD tg1 fc1 f (wipeD sl1 vs1) acc (xs1.drop (j + 1)) h1) fun acc1 h3 => Lp acc1 (xs.drop (i + 1)) h3) Kx := by
              unfold lcD at q6; rw [htg1] at q6
              rw [← bindR_assoc]
              exact q6
            refine tgV_of (G := evOf X) hy2 htg1 s6 fun σ3 s7 o3 => ⟨only_in o3 ho1, ?_⟩
            refine tT.of s7 g6 ((aft0 (D0 := D0) (σ0 := σ3) q7).imp fun r7 H7 b h7 e7 g7 q8 => ?_)
            have hD7 : H7 D0 = some (.lst vacc) := e7.keep _ _ (sm1 _ _ hD5) (g6.fd D0 List.mem_cons_self).2
            have hac7 := DenL.mono g5.mine (Ext.trans (.same sm1) g6.mine e7) _ _ hac5
            have e7' := e6.trans g6.mine e7
            have extF : ∀ {r' H'}, ExtF r4 (D0 :: F) H4 r5 H6 → Ext r5 H6 r' H' → ExtF r4 (D0 :: F) H4 r' H' := fun {r' H'} a b => by
              obtain ⟨d, ed, hd⟩ := a.pre
              obtain ⟨d2, ed2, hd2⟩ := b.pre
              refine ⟨⟨d ++ d2, by rw [ed2, ed, List.append_assoc], fun a' ha' => ?_⟩, fun a' o ha n1 n2 => b.keep a' o (a.keep a' o ha n1 n2) (a.notin ha n1)⟩
              rcases List.mem_append.mp ha' with z | z
              · exact hd a' z
              · cases hH : H4 a' with
                | none => rfl
                | some o =>
                  exfalso
                  by_cases n1 : a' ∈ r4
                  · obtain ⟨o', eo, _⟩ := g6.mine a' (by rw [ed]; exact List.mem_append_left _ n1)
                    rw [hd2 a' z] at eo; cases eo
                  · by_cases n2 : a' ∈ D0 :: F
                    · obtain ⟨o', eo, _⟩ := g6.mineF a' n2
                      rw [hd2 a' z] at eo; cases eo
                    · have := a.keep a' o hH n1 n2
                      rw [hd2 a' z] at this; cases this
            have f7 := extF f6 e7
            have sw7 := s6.mono g6.mine e7
            cases b with
            | false => exact ⟨r7, h7, acc, vacc, e7', f7, g7, sw7, hD7, hac7, q8⟩
            | true =>
              have q8 : Aft (evOf X) W F σ r1 H1 (bindR (if acc.length < lim then bindR (noX (f sl2 h7)) fun x h2 => lcD tg1 fc1 f (wipeD sl1 vs1) (acc ++ [x]) (xs1.drop (j + 1)) h2 else .bad) fun acc1 h3 => Lp acc1 (xs.drop (i + 1)) h3) Kx := q8
              by_cases hz : acc.length < lim
              · rw [if_pos hz, bindR_assoc] at q8
                refine tE.of (s7.mono g6.mine e7) g7 ((aft0 (D0 := D0) (σ0 := σ3) q8).imp fun r8 H8 y h8 e8 g8 q9 v hv => ?_)
                have hD8 : H8 D0 = some (.lst vacc) := e8.keep _ _ hD7 (g7.fd D0 List.mem_cons_self).2
                have hac8 := DenL.mono g7.mine e8 _ _ hac7
                refine ⟨vacc, hD8, by rw [← hac8.len]; exact lim_lt hz, ?_⟩
                have g9 := g8.updF (acc' := .lst (vacc ++ [v])) hD8 trivial trivial List.mem_cons_self
                have e8' := e7'.trans g7.mine e8
                have e9 : Ext r1 H1 r8 (upd H8 D0 (.lst (vacc ++ [v]))) := by
                  refine ⟨e8'.pre, fun a o ha hr => ?_⟩
                  rw [upd_ne (ne_of_none ha hD)]
                  exact e8'.keep a o ha hr
                have f8 := extF f6 (e7.trans g7.mine e8)
                have f9 : ExtF r4 (D0 :: F) H4 r8 (upd H8 D0 (.lst (vacc ++ [v]))) := by
                  refine ⟨f8.pre, fun a o ha n1 n2 => ?_⟩
                  rw [upd_ne (fun ea => n2 (by rw [ea]; exact List.mem_cons_self))]
                  exact f8.keep a o ha n1 n2
                have s8 := sw7.mono g7.mine e8
                have s9 : SlR (evOf X) r8 (D0 :: F) (upd H8 D0 (.lst (vacc ++ [v]))) (wipeD sl1 vs1) (L2.wipe σ2 vs1) := ⟨s8.1, fun j d hd => let ⟨w, a1, a2⟩ := s8.2 j d hd; ⟨w, a1, Den.updF hD8 trivial List.mem_cons_self _ _ a2⟩⟩
                refine ⟨r8, h8, acc ++ [y], vacc ++ [v], e9, f9, g9, s9, upd_same, DenL.updF hD8 trivial List.mem_cons_self _ _ (hac8.app (.cons hv .nil)), q9⟩
              · rw [if_neg hz] at q8; exact False.elim q8
        · have ej : j = xs1.length := by omega
          subst ej
          rw [List.drop_length] at q6
          have q6 : Aft (evOf X) W F σ r1 H1 (bindR (lcD tg1 fc1 f (wipeD sl1 vs1) acc [] h5) fun acc1 h3 => Lp acc1 (xs.drop (i + 1)) h3) Kx := q6
          unfold lcD at q6
          exact .inl ⟨hJ1'.2 (by simp), r5, h5, acc, vacc, e5, g5, hD5, hac5, q6⟩
  · have ei : i = xs.length := by omega
    subst ei
    rw [List.drop_length] at q'
    have q' : Aft (evOf X) W F σ r1 H1 (lcD2 tg fc fi1 tg1 fc1 f vs1 (wipeD sl vs) acc [] h') Kx := q'
    unfold lcD2 at q'
    have q2 := Aft.here (q' r' H' e' g'.dropF) g'.dropF
    refine .inl ⟨hJ'.2 (by simp), q2 _ (.lst hD' ⟨(g'.fd D0 List.mem_cons_self).2, nF⟩ (DenL.dropF g'.mine hacc))⟩
theorem de_lc2 {X : Cx} {W : WX} {vs vs1 : List Nat} {elt te iter te1 iter1 : Expr} {ifs ifs1 : List Expr} {scope : Scope} {own : List (Str × Nat)} {pos : Pos} {fi fi1 : Mo (List D)} {tg tg1 : Tg} {fc fc1 : Mo Bool} {f : Mo D} (hc : X.calm = true) (hN : X.N.Nodup) (hi : PI X te iter (tI (evOf X) W fi)) (ok : BlkOk X.N X.env.scope scope own)
    (ho : ∀ i ∈ tg.slots, i ∈ own.map (·.2)) (ho1 : ∀ i ∈ tg1.slots, i ∈ vs1) (hv1 : ∀ i ∈ vs1, i ∈ own.map (·.2))
    (hg : ∀ (s : Shared) (H : Hp) (C : Addr) (cl : List (Str × Addr)) (fp : List Addr), PG (X.blk s H scope (compEnvC scope cl C X.env) fp) te (tgV X.K tg))
    (ht : ∀ (s : Shared) (H : Hp) (C : Addr) (cl : List (Str × Addr)) (fp : List Addr), PTs (X.blk s H scope (compEnvC scope cl C X.env) fp) ifs (tT (evOf X) W0 fc))
    (hi1 : ∀ (s : Shared) (H : Hp) (C : Addr) (cl : List (Str × Addr)) (fp : List Addr), PI (X.blk s H scope (compEnvC scope cl C X.env) fp) te1 iter1 (tI (evOf X) W0 fi1))
    (hg1 : ∀ (s : Shared) (H : Hp) (C : Addr) (cl : List (Str × Addr)) (fp : List Addr), PG (X.blk s H scope (compEnvC scope cl C X.env) fp) te1 (tgV X.K tg1))
    (ht1 : ∀ (s : Shared) (H : Hp) (C : Addr) (cl : List (Str × Addr)) (fp : List Addr), PTs (X.blk s H scope (compEnvC scope cl C X.env) fp) ifs1 (tT (evOf X) W0 fc1))
    (he : ∀ (s : Shared) (H : Hp) (C : Addr) (cl : List (Str × Addr)) (fp : List Addr), PE (X.blk s H scope (compEnvC scope cl C X.env) fp) elt (tE (evOf X) W0 f)) (hs : ∀ x, foldedSetIterable iter X.env x = pure x := by intro _; rfl) (hs1 : ∀ env x, foldedSetIterable iter1 env x = pure x := by intro _ _; rfl) (hv : own.map (·.2) = vs := by rfl) :
    PE X (.ListComp elt [⟨te, iter, ifs, 0⟩, ⟨te1, iter1, ifs1, 0⟩] scope pos) (tE (evOf X) W (mLc2 vs fi tg fc fi1 tg1 fc1 f vs1)) := by
  subst hv
  exact (pe_lc2 hc hN hi ok hv1 hg ht hi1 hg1 ht1 he hs hs1).imp fun σ H Q q => lc2_of ho ho1 σ H Q q
end CH

/-! CHD: slices, texts in order, a name set to a comprehension of two fors. -/
namespace CH
open PySem PySem.Spec PyProof.Rows L2
theorem ds_setLc2 {X : Cx} {W : WX} {i : Nat} {vs vs1 : List Nat} {y : Str} {py spos pos : Pos} {elt te iter te1 iter1 : Expr} {ifs ifs1 : List Expr} {scope : Scope} {own : List (Str × Nat)} {fi fi1 : Mo (List D)} {tg tg1 : Tg} {fc fc1 : Mo Bool} {f : Mo D} (hc : X.calm = true) (hN : X.N.Nodup) (hy : X.N[i]? = some y) (hyl : X.env.scope.names.lookup y = some .local)
    (hsw : swapsWith (.ListComp elt [⟨te, iter, ifs, 0⟩, ⟨te1, iter1, ifs1, 0⟩] scope pos) (some (.Name y py)) spos.line X.env = pure true) (hi : PI X te iter (tI (evOf X) W fi)) (ok : BlkOk X.N X.env.scope scope own)
    (ho : ∀ i ∈ tg.slots, i ∈ own.map (·.2)) (ho1 : ∀ i ∈ tg1.slots, i ∈ vs1) (hv1 : ∀ i ∈ vs1, i ∈ own.map (·.2))
    (hg : ∀ (s : Shared) (H : Hp) (C : Addr) (cl : List (Str × Addr)) (fp : List Addr), PG (X.blk s H scope (compEnvC scope cl C X.env) fp) te (tgV X.K tg))
    (ht : ∀ (s : Shared) (H : Hp) (C : Addr) (cl : List (Str × Addr)) (fp : List Addr), PTs (X.blk s H scope (compEnvC scope cl C X.env) fp) ifs (tT (evOf X) W0 fc))
    (hi1 : ∀ (s : Shared) (H : Hp) (C : Addr) (cl : List (Str × Addr)) (fp : List Addr), PI (X.blk s H scope (compEnvC scope cl C X.env) fp) te1 iter1 (tI (evOf X) W0 fi1))
    (hg1 : ∀ (s : Shared) (H : Hp) (C : Addr) (cl : List (Str × Addr)) (fp : List Addr), PG (X.blk s H scope (compEnvC scope cl C X.env) fp) te1 (tgV X.K tg1))
    (ht1 : ∀ (s : Shared) (H : Hp) (C : Addr) (cl : List (Str × Addr)) (fp : List Addr), PTs (X.blk s H scope (compEnvC scope cl C X.env) fp) ifs1 (tT (evOf X) W0 fc1))
    (he : ∀ (s : Shared) (H : Hp) (C : Addr) (cl : List (Str × Addr)) (fp : List Addr), PE (X.blk s H scope (compEnvC scope cl C X.env) fp) elt (tE (evOf X) W0 f)) (hs : ∀ x, foldedSetIterable iter X.env x = pure x := by intro _; rfl) (hs1 : ∀ env x, foldedSetIterable iter1 env x = pure x := by intro _ _; rfl) (hv : own.map (·.2) = vs := by rfl) :
    PS X (.Assign [.Name y py] (.ListComp elt [⟨te, iter, ifs, 0⟩, ⟨te1, iter1, ifs1, 0⟩] scope pos) spos) (tS (evOf X) W (sSet i (mLc2 vs fi tg fc fi1 tg1 fc1 f vs1))) := by
  subst hv
  exact (ps_setLc2 hc hN hy hyl hsw hi ok hv1 hg ht hi1 hg1 ht1 he hs hs1).imp fun E σ H ⟨r, F, sl, h, s, g, q⟩ => lc2_of ho ho1 σ H _ (tE.of s g ((q.bindS s g).imp fun r1 H1 x h1 e1 g1 q1 v hv => q1.nxh ((s.mono g.mine e1).set hv) g1))
/-! ### slices -/
def tO (G : Ev) (W : WX) (f : Mo (Option Int)) : TO := fun σ H Q => ∃ r F sl h, CH.SlR G r F H sl σ ∧ GoodH G r F h H ∧ Aft G W F σ r H (f sl h) fun r' H' o _ => Q o H'
def mNoPart : Mo (Option Int) := fun _ h => .ok none h
def mPart (f : Mo D) : Mo (Option Int) := mBind f fun d => fun _ h => match d with
  | .int i => .ok (some i) h
  | _ => .bad
theorem do_none {X : Cx} {W : WX} : PO X none (tO (evOf X) W mNoPart) := ⟨fun pins s σ H Q I ⟨r, F, sl, h, s', g, q⟩ => po_none.run pins s σ H Q I (q.here g)⟩
theorem do_some {X : Cx} {W : WX} {e : Expr} {f : Mo D} (he : PE X e (tE (evOf X) W f)) : PO X (some e) (tO (evOf X) W (mPart f)) := ⟨fun pins s σ H Q I ⟨r, F, sl, h, s', g, q⟩ => (po_some he).run pins s σ H Q I
  (tE.of s' g (q.bind.imp fun r1 H1 x h1 e1 g1 q1 v hv => by
    cases hv with
    | int i => exact ⟨i, rfl, Aft.here q1 g1⟩
    | _ => exact False.elim q1))⟩
def cutD (xs : List D) (lo hi : Option Int) : List D := (xs.drop (HT.sIx xs.length 0 lo)).take (HT.sIx xs.length xs.length hi - HT.sIx xs.length 0 lo)
def gSl (x : D) (lo hi : Option Int) (h : MH) : Res D := match x with
  | .tup xs => .ok (.tup (cutD xs lo hi)) h
  | .lst xs => .ok (.lst (cutD xs lo hi)) h
  | _ => .bad
def mSl (f : Mo D) (lo hi : Mo (Option Int)) : Mo D := mBind f fun x => mBind lo fun a => mBind hi fun b => fun _ h => gSl x a b h
theorem DenL.take {G : Ev} {r F : List Addr} {H : Hp} : ∀ {n : Nat} {ds : List D} {vs : List V}, DenL G r F H ds vs → DenL G r F H (ds.take n) (vs.take n)
  | 0, _, _, _ => by simpa using DenL.nil
  | _ + 1, _, _, .nil => .nil
  | _ + 1, _, _, .cons h t => .cons h t.take
theorem DenL.drop {G : Ev} {r F : List Addr} {H : Hp} : ∀ {n : Nat} {ds : List D} {vs : List V}, DenL G r F H ds vs → DenL G r F H (ds.drop n) (vs.drop n)
  | 0, _, _, h => h
  | _ + 1, _, _, .nil => .nil
  | _ + 1, _, _, .cons h t => t.drop
theorem DenL.slc {G : Ev} {r F : List Addr} {H : Hp} {ds : List D} {vs : List V} {lo hi : Option Int} (h : DenL G r F H ds vs) : DenL G r F H (cutD ds lo hi) (cutV vs lo hi) := by
  unfold cutD cutV
  rw [h.len]
  exact h.drop.take
theorem de_sl {X : Cx} {W : WX} {e : Expr} {lo hi : Option Expr} {p2 pos : Pos} {f : Mo D} {fl fh : Mo (Option Int)} (he : PE X e (tE (evOf X) W f)) (hl : PO X lo (tO (evOf X) W fl)) (hh : PO X hi (tO (evOf X) W fh)) : PE X (.Subscript e (.Slice lo hi none p2) pos) (tE (evOf X) W (mSl f fl fh)) :=
  (pe_slice (sl_tupA.or sl_list) he hl hh).imp fun σ H Q ⟨r, F, sl, h, s, g, q⟩ =>
    tE.of s g (q.bind.imp fun r1 H1 x h1 e1 g1 q1 v hv => ⟨r1, F, sl, h1, s.mono g.mine e1, g1, q1.bind.imp fun r2 H2 a h2 e2 g2 q2 => ⟨r2, F, sl, h2, (s.mono g.mine e1).mono g1.mine e2, g2, q2.bind.imp fun r3 H3 b h3 e3 g3 q3 => by
      have hv := Den.mono g2.mine e3 _ _ (Den.mono g1.mine e2 _ _ hv)
      cases hv with
      | tup hq hl =>
        rename_i ad ds vs
        have q3 : Aft (evOf X) W F σ r3 H3 (Res.ok (D.tup (cutD ds a b)) h3) _ := q3
        refine .inl ⟨_, _, rfl, hq.sq, fun hw => ?_, fun _ p hp => q3.hereS g3 (same_new hp) _ (new_tup g3 hl.slc hp)⟩
        have ec : cutD ds a b = ds := by
          unfold cutD
          rw [hl.len, hw.1, hw.2, ← hl.len]
          simp
        rw [ec] at q3
        exact q3.here g3 _ (.tup hq hl)
      | lst hq hn hl =>
        rename_i ad ds vs
        have q3 : Aft (evOf X) W F σ r3 H3 (Res.ok (D.lst (cutD ds a b)) h3) _ := q3
        exact .inr ⟨_, _, rfl, SqL.of hq, fun p hp => q3.hereS g3 (same_new hp) _ (new_lst g3 hl.slc hp)⟩
      | _ => exact False.elim q3⟩⟩)
/-! ### texts in order -/
def ltS (a b : Str) : Bool := decide (a.cps.toList < b.cps.toList)
def oLtS : D → D → MH → Res D := fun x y h => match x, y with
  | .str a, .str b => .ok (.bl (ltS a b)) h
  | _, _ => .bad
theorem ops_lt_str {G : Ev} : OpS G (fun x y H Q => ∃ i j, x = .str i ∧ y = .str j ∧ Q (.bl (decide (i.cps.toList < j.cps.toList))) H) oLtS := fun W σ r F H h x y v u Q g hx hy q => by
  cases hx with
  | str a =>
    cases hy with
    | str b => exact ⟨a, b, rfl, rfl, Aft.here q g _ (.bl _)⟩
    | _ => exact False.elim q
  | _ => cases hy <;> exact False.elim q
end CH

/-! CHE: instances: fields, methods, making. -/
namespace CH
open PySem PySem.Spec PyProof.Rows L2
/-! ### fields -/
def fget {α : Type} (f : Str) : List Str → List α → Option α
  | k :: ks, v :: vs => if k = f then some v else fget f ks vs
  | _, _ => none
def fhas (f : Str) : List Str → Bool
  | [] => false
  | k :: ks => if k = f then true else fhas f ks
def frep {α : Type} (f : Str) (x : α) : List Str → List α → List α
  | k :: ks, v :: vs => if k = f then x :: vs else v :: frep f x ks vs
  | _, vs => vs
def fputK (f : Str) (ks : List Str) : List Str := if fhas f ks = true then ks else ks ++ [f]
def fputV {α : Type} (f : Str) (x : α) (ks : List Str) (vs : List α) : List α := if fhas f ks = true then frep f x ks vs else vs ++ [x]
theorem fput_zip {f : Str} {x : V} : ∀ {ks : List Str} {vs : List V}, ks.length = vs.length → (fputK f ks).zip (fputV f x ks vs) = putF f x (ks.zip vs) ∧ (fputK f ks).length = (fputV f x ks vs).length
  | [], [], _ => ⟨rfl, rfl⟩
  | k :: ks, v :: vs, hl => by
    have hl' : ks.length = vs.length := by simpa using hl
    have ih := fput_zip (f := f) (x := x) hl'
    by_cases e : k = f
    · have h1 : fhas f (k :: ks) = true := by unfold fhas; rw [if_pos e]
      unfold fputK fputV
      rw [if_pos h1, if_pos h1]
      unfold frep
      rw [if_pos e]
      refine ⟨?_, by simp [hl']⟩
      show _ = (if k = f then (k, x) :: ks.zip vs else (k, v) :: putF f x (ks.zip vs))
      rw [if_pos e]
      rfl
    · have h1 : fhas f (k :: ks) = fhas f ks := by show (if k = f then true else fhas f ks) = _; rw [if_neg e]
      unfold fputK fputV at ih ⊢
      rw [h1]
      have e2 : frep f x (k :: ks) (v :: vs) = v :: frep f x ks vs := by show (if k = f then x :: vs else v :: frep f x ks vs) = _; rw [if_neg e]
      have e3 : putF f x ((k :: ks).zip (v :: vs)) = (k, v) :: putF f x (ks.zip vs) := by show (if k = f then (k, x) :: ks.zip vs else (k, v) :: putF f x (ks.zip vs)) = _; rw [if_neg e]
      by_cases hf : fhas f ks = true
      · rw [if_pos hf, if_pos hf] at ih ⊢
        rw [e2, e3, ← ih.1]
        exact ⟨rfl, by simpa using ih.2⟩
      · rw [if_neg hf, if_neg hf] at ih ⊢
        rw [e3, ← ih.1]
        exact ⟨rfl, by simp [hl']⟩
  | [], _ :: _, hl => by simp at hl
  | _ :: _, [], hl => by simp at hl
section
variable {G : Ev} {r F : List Addr} {H : Hp}
theorem DenL.fget {f : Str} : ∀ {ks : List Str} {ds : List D} {vs : List V} {d : D}, DenL G r F H ds vs → CH.fget f ks ds = some d → ∃ v, (ks.zip vs).lookup f = some v ∧ Den G r F H d v
  | [], _, _, _, _, e => by cases e
  | _ :: _, _, _, _, .nil, e => by cases e
  | k :: ks, _, _, d, .cons (d := d0) (v := v) h t, e => by
    have e : (if k = f then some d0 else CH.fget f ks _) = some d := e
    by_cases ek : k = f
    · rw [if_pos ek] at e
      cases e
      refine ⟨v, ?_, h⟩
      subst ek
      simp [List.lookup]
    · rw [if_neg ek] at e
      obtain ⟨v', h1, h2⟩ := t.fget e
      refine ⟨v', ?_, h2⟩
      have hb : (f == k) = false := beq_eq_false_iff_ne.mpr fun z => ek z.symm
      simp [List.lookup, hb]
      exact h1
theorem DenL.frep {f : Str} {x : D} {w : V} (hx : Den G r F H x w) : ∀ {ks : List Str} {ds : List D} {vs : List V}, DenL G r F H ds vs → DenL G r F H (CH.frep f x ks ds) (CH.frep f w ks vs)
  | [], _, _, h => by cases h <;> first | exact .nil | (rename_i a b; exact .cons a b)
  | _ :: _, _, _, .nil => .nil
  | k :: ks, _, _, .cons (d := d) (v := v) (ds := ds) (vs := vs) h t => by
    show DenL G r F H (if k = f then x :: ds else d :: CH.frep f x ks ds) (if k = f then w :: vs else v :: CH.frep f w ks vs)
    by_cases ek : k = f
    · rw [if_pos ek, if_pos ek]; exact .cons hx t
    · rw [if_neg ek, if_neg ek]; exact .cons h (DenL.frep hx t)
theorem DenL.fput {f : Str} {x : D} {w : V} {ks : List Str} {ds : List D} {vs : List V} (hx : Den G r F H x w) (h : DenL G r F H ds vs) : DenL G r F H (fputV f x ks ds) (fputV f w ks vs) := by
  unfold fputV
  by_cases e : fhas f ks = true
  · rw [if_pos e, if_pos e]; exact h.frep hx
  · rw [if_neg e, if_neg e]; exact h.app (.cons hx .nil)
end
def oIns (cs : List Str) : Option O → Option (Str × List Str × List D)
  | some (.ins c ks vs) => if cs.contains c = true then some (c, ks, vs) else none
  | _ => none
/-- the instance, of one of the classes cs -/
def insD (h : MH) (cs : List Str) : D → Option (Str × List Str × List D)
  | .ref k => oIns cs h[k]?
  | _ => none
def fldD (h : MH) (cs : List Str) (f : Str) (x : D) : Option D := (insD h cs x).bind fun p => fget f p.2.1 p.2.2
def mFld (cs : List Str) (f : Str) (fo : Mo D) : Mo D := mBind fo fun x => fun _ h => optR (fldD h cs f x) h
/-- what is known of the classes cs and the name f -/
def FldT (X : Cx) (cs : List Str) (f : Str) : Prop := ∀ c ∈ cs, ∃ C, X.mg c = some (.ref C) ∧ Cls X.K C ∧ NoAttr X.K C f
theorem oIns_some {cs : List Str} {o : Option O} {p : Str × List Str × List D} (h : oIns cs o = some p) : o = some (.ins p.1 p.2.1 p.2.2) ∧ p.1 ∈ cs := by
  unfold oIns at h
  split at h
  · split at h
    · cases h
      rename_i hc
      exact ⟨rfl, by simpa using hc⟩
    · cases h
  · cases h
section
variable {X : Cx} {W : WX} {e o : Expr} {f : Str} {cs : List Str} {fo fv : Mo D} {pos pos' tpos : Pos} {value : Expr}
/-- the instance behind a value -/
theorem ins_at {r F : List Addr} {H : Hp} {h : MH} {x : D} {v : V} {p : Str × List Str × List D} (T : FldT X cs f) (g : GoodH (evOf X) r F h H) (hv : Den (evOf X) r F H x v) (e : insD h cs x = some p) :
    ∃ k a C dx vs, x = .ref k ∧ v = .ref a ∧ r[k]? = some a ∧ h[k]? = some (.ins p.1 p.2.1 p.2.2) ∧ X.mg p.1 = some (.ref C) ∧ H a = some (.ins C dx (p.2.1.zip vs)) ∧ Cls X.K C ∧ NoAttr X.K C f ∧ p.2.1.length = vs.length ∧ H dx = some (.own a) ∧ DenL (evOf X) r F H p.2.2 vs := by
  cases hv with
  | ref hk =>
    rename_i k a
    have e : oIns cs h[k]? = some p := e
    obtain ⟨e1, hc⟩ := oIns_some e
    obtain ⟨a', ea, q⟩ := g.ob k _ e1
    rw [hk] at ea; cases ea
    obtain ⟨C, dx, vs, m1, m2, m3, m4, m5⟩ := q
    obtain ⟨C', m1', c1, c2⟩ := T _ hc
    have m1 : X.mg p.1 = some (.ref C) := m1
    rw [m1] at m1'; cases m1'
    exact ⟨k, a, C, dx, vs, rfl, rfl, hk, e1, m1, m2, c1, c2, m3, m4, m5⟩
  | _ => cases e
theorem de_fld (T : FldT X cs f) (he : PE X e (tE (evOf X) W fo)) (hb : attributeBase e f X.env (eval e X.env) = eval e X.env := by rfl) : PE X (.Attribute e f pos) (tE (evOf X) W (mFld cs f fo)) :=
  (pe_fld he hb).imp fun σ H Q ⟨r, F, sl, h, s, g, q⟩ => tE.of s g (q.bind.imp fun r1 H1 x h1 e1 g1 q1 v hv => by
    have q3 : Aft (evOf X) W F σ r1 H1 (optR (fldD h1 cs f x) h1) _ := q1
    clear q1
    unfold fldD at q3
    cases ei : insD h1 cs x with
    | none => rw [ei] at q3; exact False.elim q3
    | some p =>
      rw [ei] at q3
      have q4 : Aft (evOf X) W F σ r1 H1 (optR (fget f p.2.1 p.2.2) h1) _ := q3
      clear q3
      obtain ⟨k, a, C, dx, vs, rfl, rfl, hk, hh, hm, ha, c1, c2, hl, ho, hd⟩ := ins_at T g1 hv ei
      cases ef : fget f p.2.1 p.2.2 with
      | none => rw [ef] at q4; exact False.elim q4
      | some d =>
        rw [ef] at q4
        obtain ⟨w, l, hw⟩ := hd.fget ef
        exact ⟨a, C, dx, _, w, rfl, ha, c1, c2, l, q4.here g1 _ hw⟩)
/-- the store -/
def fldS (h : MH) (cs : List Str) (f : Str) (x v : D) : Option MH := match x with
  | .ref k => (oIns cs h[k]?).bind fun p => if p.2.1.length < 1000 then some (h.set k (.ins p.1 (fputK f p.2.1) (fputV f v p.2.1 p.2.2))) else none
  | _ => none
theorem fldS_ok {r F : List Addr} {H : Hp} {h h' : MH} {x d : D} {v y : V} (T : FldT X cs f) (g : GoodH (evOf X) r F h H) (hx : Den (evOf X) r F H x v) (hd : Den (evOf X) r F H d y) (e : fldS h cs f x d = some h') :
    ∃ a C dx fs, v = .ref a ∧ H a = some (.ins C dx fs) ∧ Cls X.K C ∧ NoAttr X.K C f ∧ fs.length < 1000 ∧ Ext r H r (upd H a (.ins C dx (putF f y fs))) ∧ GoodH (evOf X) r F h' (upd H a (.ins C dx (putF f y fs))) := by
  cases x with
  | ref k =>
    have e : ((oIns cs h[k]?).bind fun p => if p.2.1.length < 1000 then some (h.set k (.ins p.1 (fputK f p.2.1) (fputV f d p.2.1 p.2.2))) else none) = some h' := e
    cases ei : oIns cs h[k]? with
    | none => rw [ei] at e; cases e
    | some p =>
      rw [ei] at e
      have e : (if p.2.1.length < 1000 then some (h.set k (.ins p.1 (fputK f p.2.1) (fputV f d p.2.1 p.2.2))) else none) = some h' := e
      by_cases hl : p.2.1.length < 1000
      · rw [if_pos hl] at e
        cases e
        obtain ⟨k', a, C, dx, vs, ek, rfl, hk, hh, hm, ha, c1, c2, hlen, ho, hds⟩ := ins_at (x := .ref k) T g hx ei
        cases ek
        have har : a ∈ r := List.mem_of_getElem? hk
        have ee : Ext r H r (upd H a (.ins C dx (putF f y (p.2.1.zip vs)))) := Ext.upd har
        refine ⟨a, C, dx, _, rfl, ha, c1, c2, by rw [List.length_zip, ← hlen]; simpa using hl, ee, ?_⟩
        obtain ⟨z1, z2⟩ := fput_zip (f := f) (x := y) hlen
        refine g.set hk trivial ⟨C, dx, fputV f y p.2.1 vs, hm, ?_, z2, ?_, ?_⟩
        · rw [z1]; exact upd_same
        · rw [upd_ne (fun z => by subst z; rw [ha] at ho; cases ho)]; exact ho
        · exact DenL.fput (Den.mono g.mine ee _ _ hd) (DenL.mono g.mine ee _ _ hds)
      · rw [if_neg hl] at e; cases e
  | _ => cases e
/-- o.f = value -/
def sFldSet (cs : List Str) (f : Str) (fo fv : Mo D) : Ms := fun sl h => bindS sl (fv sl h) fun v h1 => bindS sl (fo sl h1) fun x h2 => match fldS h2 cs f x v with
  | some h3 => .nx sl h3
  | none => .bad
theorem ds_fld (T : FldT X cs f) (ho : PE X o (tE (evOf X) W fo)) (hv : PE X value (tE (evOf X) W fv)) (hs : swapsWith value (some (.Attribute o f pos')) pos.line X.env = pure false := by rfl) : PS X (.Assign [.Attribute o f pos'] value pos) (tS (evOf X) W (sFldSet cs f fo fv)) :=
  (ps_fld ho hv hs).imp fun E σ H ⟨r, F, sl, h, s, g, q⟩ => tE.of s g ((q.bindS s g).imp fun r1 H1 d h1 e1 g1 q1 y hy => by
    have s1 := s.mono g.mine e1
    refine tE.of s1 g1 ((q1.bindS s1 g1).imp fun r2 H2 x h2 e2 g2 q2 v hv => ?_)
    have q2 : SAft (evOf X) W F r2 H2 (match fldS h2 cs f x d with
      | some h3 => .nx sl h3
      | none => .bad) E := q2
    cases es : fldS h2 cs f x d with
    | none => rw [es] at q2; exact False.elim q2
    | some h3 =>
      rw [es] at q2
      obtain ⟨a, C, dx, fs, ev, ha, c1, c2, hl, ee, g3⟩ := fldS_ok T g2 hv (Den.mono g1.mine e2 _ _ hy) es
      exact ⟨a, C, dx, fs, ev, ha, c1, c2, hl, q2 r2 _ σ ee g3 ((s1.mono g1.mine e2).mono g2.mine ee)⟩)
/-- o.f += value, numbers -/
def addI : D → D → Option D
  | .int i, .int j => some (.int (i + j))
  | _, _ => none
def sFldAdd (c : Str) (f : Str) (fo fv : Mo D) : Ms := fun sl h => bindS sl (fo sl h) fun x h1 => match fldD h1 [c] f x with
  | none => .bad
  | some v => bindS sl (fv sl h1) fun y h2 => match addI v y with
    | none => .bad
    | some z => match fldS h2 [c] f x z with
      | some h3 => .nx sl h3
      | none => .bad
theorem ds_fldadd {c : Str} (T : FldT X [c] f) (ho : PE X o (tE (evOf X) W fo)) (hv : PE X value (tE (evOf X) W fv)) : PS X (.AugAssign (.Attribute o f tpos) .Add value pos) (tS (evOf X) W (sFldAdd c f fo fv)) :=
  (ps_fldaug ho hv in_add).imp fun E σ H ⟨r, F, sl, h, s, g, q⟩ => tE.of s g ((q.bindS s g).imp fun r1 H1 x h1 e1 g1 q1 v hv => by
    have s1 := s.mono g.mine e1
    have q5 : SAft (evOf X) W F r1 H1 (match fldD h1 [c] f x with
      | none => .bad
      | some v => bindS sl (fv sl h1) fun y h2 => match addI v y with
        | none => .bad
        | some z => match fldS h2 [c] f x z with
          | some h3 => .nx sl h3
          | none => .bad) E := q1
    clear q1
    unfold fldD at q5
    cases ei : insD h1 [c] x with
    | none => rw [ei] at q5; exact False.elim q5
    | some p =>
      rw [ei] at q5
      have q6 : SAft (evOf X) W F r1 H1 (match fget f p.2.1 p.2.2 with
        | none => .bad
        | some v => bindS sl (fv sl h1) fun y h2 => match addI v y with
          | none => .bad
          | some z => match fldS h2 [c] f x z with
            | some h3 => .nx sl h3
            | none => .bad) E := q5
      clear q5
      obtain ⟨k, a, C, dx, vs, rfl, rfl, hk, hh, hm, ha, c1, c2, hl, ho, hd⟩ := ins_at T g1 hv ei
      cases ef : fget f p.2.1 p.2.2 with
      | none => rw [ef] at q6; exact False.elim q6
      | some d =>
        rw [ef] at q6
        have q7 : SAft (evOf X) W F r1 H1 (bindS sl (fv sl h1) fun y h2 => match addI d y with
          | none => .bad
          | some z => match fldS h2 [c] f (.ref k) z with
            | some h3 => .nx sl h3
            | none => .bad) E := q6
        obtain ⟨w, l, hw⟩ := hd.fget ef
        refine ⟨a, C, dx, _, w, rfl, ha, c1, c2, l, tE.of s1 g1 ((q7.bindS s1 g1).imp fun r2 H2 y h2 e2 g2 q2 vy hy => ?_)⟩
        have q2 : SAft (evOf X) W F r2 H2 (match addI d y with
          | none => .bad
          | some z => match fldS h2 [c] f (.ref k) z with
            | some h3 => .nx sl h3
            | none => .bad) E := q2
        have hw2 := Den.mono g1.mine e2 _ _ hw
        have hv2 := Den.mono g1.mine e2 _ _ hv
        cases hw2 with
        | int i =>
          cases hy with
          | int j =>
            have q2 : SAft (evOf X) W F r2 H2 (match fldS h2 [c] f (.ref k) (.int (i + j)) with
              | some h3 => .nx sl h3
              | none => .bad) E := q2
            refine ⟨i, j, rfl, rfl, ?_⟩
            cases es : fldS h2 [c] f (.ref k) (.int (i + j)) with
            | none => rw [es] at q2; exact False.elim q2
            | some h3 =>
              rw [es] at q2
              obtain ⟨a', C', dx', fs', ev, ha', c1', c2', hl', ee, g3⟩ := fldS_ok T g2 hv2 (.int (i + j)) es
              cases ev
              have s2 := (s1.mono g1.mine e2).mono g2.mine ee
              obtain ⟨Ck, m1, _, _⟩ := T c List.mem_cons_self
              have ec1 : C = Ck := by
                have := (oIns_some (show oIns [c] h1[k]? = some p from ei)).2
                rw [List.mem_singleton.mp this, m1] at hm
                cases hm; rfl
              have hcc : C' = C := by
                have es' : ((oIns [c] h2[k]?).bind fun p => if p.2.1.length < 1000 then some (h2.set k (.ins p.1 (fputK f p.2.1) (fputV f (.int (i + j)) p.2.1 p.2.2))) else none) = some h3 := es
                cases e2i : oIns [c] h2[k]? with
                | none => rw [e2i] at es'; cases es'
                | some p2 =>
                  obtain ⟨k3, a3, C3, dx3, vs3, q', qv, hk3, hh3, hm3, ha3, _⟩ := ins_at (x := .ref k) (f := f) T g2 hv2 e2i
                  cases q'; cases qv
                  have := (oIns_some e2i).2
                  rw [List.mem_singleton.mp this, m1] at hm3
                  cases hm3
                  rw [ha'] at ha3
                  cases ha3
                  exact ec1.symm
              exact ⟨dx', fs', by rw [← hcc]; exact ha', hl', by rw [← hcc]; exact q2 r2 _ σ ee g3 s2⟩
          | _ => exact False.elim q2
        | _ => cases hy <;> exact False.elim q2)
end
end CH

/-! CHF: methods, making of instances, fields as targets, append, loops over lists that may change, split. -/
namespace CH
open PySem PySem.Spec PyProof.Rows L2
section
variable {X : Cx} {CX : CXT} {k : Nat} {f C : Addr} {fd : FuncData} {ps : List Str} {sp : Sp} {E : L2.St → XK} {x m : Str} {p pos apos : Pos} {e o : Expr} {es : List Expr} {ta : TE} {t : TA}
def tMethT (C : Addr) (m : Str) (sp : Sp) (E : L2.St → XK) (ta : TE) (t : TA) : TE := fun σ H Q => ta σ H fun x H1 => ∃ a dx fs, x = .ref a ∧ H1 a = some (.ins C dx fs) ∧ fs.lookup m = none ∧ t σ H1 fun vs H2 => sp (x :: vs) H2 Q (E σ)
theorem pe_methT {pl : Sem Bool} (he : PE X o ta) (c : Cls X.K C) (hm : Meth X.K C m f) (F : FnOk X.prog X.w X.K X.mg X.base CX k f fd ps sp) (hr : Room k X.A) (hb : Binds X.K fd ps []) (hx : ∀ σ, PassesAt CX X σ (E σ)) (ha : PA X (e :: es) t)
    (hst : starEach (e :: es) X.env = (false, eval e X.env) :: starEach es X.env := by rfl) (hpl : (backTo pos (starEach es X.env)).any (·.1) = false := by rfl)
    (ht : eval (.Call (.Attribute o m apos) (e :: es) [] pos) X.env = (do
      let ov ← eval o X.env
      standAt apos.atName
      let (f, first) ← holding [ov] (getMethod ov m pl)
      callWith pos f first (backTo pos (starEach (e :: es) X.env)) (backToKw pos (keywordEach [] X.env))) := by rfl) :
    PE X (.Call (.Attribute o m apos) (e :: es) [] pos) (tMethT C m sp E ta t) := by
  refine ⟨fun pins s σ H Q I h => ?_⟩
  refine PySem.W.methodCall_KW (pl := pl) (thn (he.run pins s σ H _ I h) fun u s1 ⟨x, H1, I1, rx, a, dx, fs, ex, ea, l, q⟩ => ?_) ht
  subst ex
  obtain rfl : u = Value.ref a := rx
  refine getmeth_ok I1 ea c hm l ?_
  refine PySem.W.callWith_K (first := [.ref a]) (h₀ := X.base) I.ok.mod.kin hm.kp (thn (ha.run pos pins s1 σ H1 _ I1 q) fun us s2 ⟨vs, H2, I2, r, q2⟩ => ⟨I2.kIn, ?_⟩) hst hpl
  exact run_fnS (us := .ref a :: us) (vs := .ref a :: vs) F hr hb (hx σ) I2 (.cons rfl r) q2
theorem pe_methT0 {pl : Sem Bool} (he : PE X o ta) (c : Cls X.K C) (hm : Meth X.K C m f) (F : FnOk X.prog X.w X.K X.mg X.base CX k f fd ps sp) (hr : Room k X.A) (hb : Binds X.K fd ps []) (hx : ∀ σ, PassesAt CX X σ (E σ))
    (ht : eval (.Call (.Attribute o m apos) [] [] pos) X.env = (do
      let ov ← eval o X.env
      standAt apos.atName
      let (f, first) ← holding [ov] (getMethod ov m pl)
      callWith pos f first (backTo pos (starEach [] X.env)) (backToKw pos (keywordEach [] X.env))) := by rfl) :
    PE X (.Call (.Attribute o m apos) [] [] pos) (tMethT C m sp E ta tNil) := by
  refine ⟨fun pins s σ H Q I h => ?_⟩
  refine PySem.W.methodCall_KW (pl := pl) (thn (he.run pins s σ H _ I h) fun u s1 ⟨x, H1, I1, rx, a, dx, fs, ex, ea, l, q⟩ => ?_) ht
  subst ex
  obtain rfl : u = Value.ref a := rx
  refine getmeth_ok I1 ea c hm l ?_
  exact PySem.W.callWith_K0 (first := [.ref a]) I1.kIn hm.kp (run_fnS (us := [.ref a]) (vs := [.ref a]) F hr hb (hx σ) I1 (.cons rfl .nil) q)
def tMakeT (C : Addr) (sp : Sp) (E : L2.St → XK) (t : TA) : TE := fun σ H Q => t σ H fun vs H1 => ∀ x dx, H1 x = none → H1 dx = none → dx ≠ x →
  sp (.ref x :: vs) (upd (upd H1 dx (.own x)) x (.ins C dx [])) (fun v H2 => v = .non ∧ Q (.ref x) H2) (E σ)
theorem run_makeT {pins : List (Addr × Obj)} {σ : L2.St} {H : Hp} {s : Shared} {Q : VK} {us : List Value} {vs : List V} (M : Mk X.K C f) (F : FnOk X.prog X.w X.K X.mg X.base CX k f fd ps sp) (hr : Room (k + 1) X.A) (hb : Binds X.K fd ps [])
    (hx : PassesAt CX X σ (E σ)) (I : Inv X pins σ H s) (r : Vals vs us)
    (h : ∀ x dx, H x = none → H dx = none → dx ≠ x → sp (.ref x :: vs) (upd (upd H dx (.own x)) x (.ins C dx [])) (fun v H2 => v = .non ∧ Q (.ref x) H2) (E σ)) : wpAny (model X.prog X.w) X.A (call (.ref C) us) (EP X pins σ Q) X.xe s := by
  have told := h _ _ (I.hok.fresh (Nat.le_succ s.heap.objs.size)) (I.hok.fresh (Nat.le_refl _)) (Nat.ne_of_lt (Nat.lt_succ_self _))
  have J := Inv.made (C := C) I
  have args : Vals (V.ref s.heap.objs.size.succ :: vs) (Value.ref s.heap.objs.size.succ :: us) := .cons rfl r
  have bound := hb _ (Value.ref s.heap.objs.size.succ :: us) J.kIn (by rw [List.append_nil]; exact args.length.symm.trans (F.len _ _ _ _ told))
  rw [List.append_nil] at bound
  have body := F.run _ X.stack _ _ ⟨Value.ref s.heap.objs.size.succ :: us, []⟩ (Value.ref s.heap.objs.size.succ :: us) _ _ (E σ) (hr.make C us []) (J.env0.make C us []) bound args told
  refine wpAny_call (make_map (f := f) I.kIn M.makes M.init (beq_iff_eq.mp M.fn) (codeAny_mono body fun out t q => ?_))
  match out, q with
  | .error e, q => exact hx pins _ _ e t J q
  | .ok (.ret u), q => match J.after q with
    | ⟨v, H', I', rv, ev, z⟩ =>
      cases ev
      exact ⟨rv, V.ref s.heap.objs.size.succ, H', I', rfl, z⟩
  | .ok .next, q => exact q.elim
  | .ok .brk, q => exact q.elim
  | .ok .cont, q => exact q.elim
theorem pe_makeT (M : Mk X.K C f) (F : FnOk X.prog X.w X.K X.mg X.base CX k f fd ps sp) (hr : Room (k + 1) X.A) (hg : Gl X x) (hm : X.mg x = some (.ref C)) (hb : Binds X.K fd ps []) (hx : ∀ σ, PassesAt CX X σ (E σ)) (ha : PA X (e :: es) t)
    (hdb : (x == ("__debug__" : Str)) = false := by decide) (he : starEach (e :: es) X.env = (false, eval e X.env) :: starEach es X.env := by rfl)
    (hpl : (backTo pos (starEach es X.env)).any (·.1) = false := by rfl) : PE X (.Call (.Name x p) (e :: es) [] pos) (tMakeT C sp E t) where
  run pins s σ H Q I h := wpAny_Call_Name_kw (ld_glob I hg hm (PySem.W.callWith_K (h₀ := X.base) I.ok.mod.kin M.kp (thn (ha.run pos pins s σ H _ I h) fun us s1 ⟨vs, H1, I1, r, q⟩ => ⟨I1.kIn, run_makeT M F hr hb (hx σ) I1 r q⟩) he hpl) hdb)
theorem pe_makeT0 (M : Mk X.K C f) (F : FnOk X.prog X.w X.K X.mg X.base CX k f fd ps sp) (hr : Room (k + 1) X.A) (hg : Gl X x) (hm : X.mg x = some (.ref C)) (hb : Binds X.K fd ps []) (hx : ∀ σ, PassesAt CX X σ (E σ)) (hdb : (x == ("__debug__" : Str)) = false := by decide) :
    PE X (.Call (.Name x p) [] [] pos) (tMakeT C sp E tNil) where
  run pins s σ H Q I h := wpAny_Call_Name_kw (ld_glob I hg hm (PySem.W.callWith_K0 I.kIn M.kp (run_makeT (us := []) M F hr hb (hx σ) I .nil h)) hdb)
end
/-! ### mirrors -/
theorem fhas_lookup {m : Str} : ∀ {ks : List Str} {vs : List V}, fhas m ks = false → (ks.zip vs).lookup m = none
  | [], _, _ => rfl
  | _ :: _, [], _ => rfl
  | k :: ks, v :: vs, e => by
    have e : (if k = m then true else fhas m ks) = false := e
    by_cases ek : k = m
    · rw [if_pos ek] at e; cases e
    · rw [if_neg ek] at e
      have hb : (m == k) = false := beq_eq_false_iff_ne.mpr fun z => ek z.symm
      show List.lookup m ((k, v) :: ks.zip vs) = none
      simp only [List.lookup, hb]
      exact fhas_lookup e
def mMeth (c m : Str) (n : Nat) (g : Fn) (fo : Mo D) (fl : Mo (List D)) : Mo D := mBind fo fun x => fun sl h => match insD h [c] x with
  | some p => if fhas m p.2.1 = false then bindR (fl sl h) fun ds h1 => ckN n g (x :: ds) h1 else .bad
  | none => .bad
def makK (i : Nat) : Res D → Res D
  | .ok .non h1 => .ok (.ref i) h1
  | .exc x a h1 => .exc x a h1
  | _ => .bad
def mMake (c : Str) (n : Nat) (g : Fn) (fl : Mo (List D)) : Mo D := mBind fl fun ds => fun _ h => makK h.length (ckN n g (.ref h.length :: ds) (h ++ [.ins c [] []]))
section
variable {X : Cx} {W : WX} {k n : Nat} {ps : List Str} {g : Fn} {f C : Addr} {c m : Str} {p pos apos : Pos} {e o : Expr} {es : List Expr} {fl : Mo (List D)} {fo : Mo D}
theorem meth_of {G : Ev} {W : WX} {K : PySem.W.Frag} {mg : Str → Option Value} (T1 : (evOf X).mg c = some (.ref C)) (cc : Cls X.K C) {pn : Nat} (σ : L2.St) (H : Hp) (Q : VK) (ds' : Nat) (q : tE (evOf X) W (mMeth c m pn g fo fl) σ H Q) :
    tMethT C m (spD (evOf X) pn g) (WE W) (tE (evOf X) W fo) (tA (evOf X) W fl) σ H Q := by
  obtain ⟨r, F, sl, h, s, gd, q⟩ := q
  refine tE.of s gd (q.bind.imp fun r1 H1 x h1 e1 g1 q1 v hv => ?_)
  have q3 : Aft (evOf X) W F σ r1 H1 (match insD h1 [c] x with
    | some p => if fhas m p.2.1 = false then bindR (fl sl h1) fun ds h2 => ckN pn g (x :: ds) h2 else .bad
    | none => .bad) _ := q1
  clear q1
  cases ei : insD h1 [c] x with
  | none => rw [ei] at q3; exact False.elim q3
  | some p =>
    rw [ei] at q3
    have q4 : Aft (evOf X) W F σ r1 H1 (if fhas m p.2.1 = false then bindR (fl sl h1) fun ds h2 => ckN pn g (x :: ds) h2 else .bad) _ := q3
    clear q3
    by_cases hf : fhas m p.2.1 = false
    · rw [if_pos hf] at q4
      cases hv with
      | ref hk =>
        rename_i kx a
        have ei : oIns [c] h1[kx]? = some p := ei
        obtain ⟨z1, z2⟩ := oIns_some ei
        obtain ⟨a', ea, qo⟩ := g1.ob kx _ z1
        rw [hk] at ea; cases ea
        obtain ⟨C', dx, vs, m1, m2, m3, m4, m5⟩ := qo
        rw [List.mem_singleton.mp z2, T1] at m1
        cases m1
        refine ⟨a, dx, _, rfl, m2, fhas_lookup hf, tA.of (s.mono gd.mine e1) g1 (q4.bind.imp fun r2 H2 ds h2 e2 g2 q5 vs2 hvs => ?_)⟩
        exact ⟨r2, F, h2, .ref kx :: ds, g2, .cons (.ref (e2.get hk)) hvs, q5⟩
      | _ => cases ei
    · rw [if_neg hf] at q4; exact False.elim q4
theorem de_meth {pl : Sem Bool} (T : FT X.prog X.w X.K X.mg X.base k ps g f) (hr : Room k X.A) (T1 : X.mg c = some (.ref C)) (cc : Cls X.K C) (hm : Meth X.K C m f) (tk : Takes X W) (ho : PE X o (tE (evOf X) W fo)) (ha : PA X (e :: es) (tA (evOf X) W fl))
    (hst : starEach (e :: es) X.env = (false, eval e X.env) :: starEach es X.env := by rfl) (hpl : (backTo pos (starEach es X.env)).any (·.1) = false := by rfl)
    (ht : eval (.Call (.Attribute o m apos) (e :: es) [] pos) X.env = (do
      let ov ← eval o X.env
      standAt apos.atName
      let (f, first) ← holding [ov] (getMethod ov m pl)
      callWith pos f first (backTo pos (starEach (e :: es) X.env)) (backToKw pos (keywordEach [] X.env))) := by rfl) (hn : ps.length = n := by rfl) :
    PE X (.Call (.Attribute o m apos) (e :: es) [] pos) (tE (evOf X) W (mMeth c m n g fo fl)) := by
  subst hn
  obtain ⟨fd, h1, h2⟩ := T.ex
  exact (pe_methT (pl := pl) ho cc hm h1 hr h2.1 (fun σ => passAt tk σ) ha hst hpl ht).imp fun σ H Q q => meth_of (G := evOf X) (K := X.K) (mg := X.mg) T1 cc σ H Q 0 q
theorem de_meth0 {pl : Sem Bool} (T : FT X.prog X.w X.K X.mg X.base k ps g f) (hr : Room k X.A) (T1 : X.mg c = some (.ref C)) (cc : Cls X.K C) (hm : Meth X.K C m f) (tk : Takes X W) (ho : PE X o (tE (evOf X) W fo))
    (ht : eval (.Call (.Attribute o m apos) [] [] pos) X.env = (do
      let ov ← eval o X.env
      standAt apos.atName
      let (f, first) ← holding [ov] (getMethod ov m pl)
      callWith pos f first (backTo pos (starEach [] X.env)) (backToKw pos (keywordEach [] X.env))) := by rfl) (hn : ps.length = n := by rfl) :
    PE X (.Call (.Attribute o m apos) [] [] pos) (tE (evOf X) W (mMeth c m n g fo mNil)) := by
  subst hn
  obtain ⟨fd, h1, h2⟩ := T.ex
  refine (pe_methT0 (pl := pl) ho cc hm h1 hr h2.1 (fun σ => passAt tk σ) ht).imp fun σ H Q q => ?_
  have z := meth_of (G := evOf X) (K := X.K) (mg := X.mg) T1 cc σ H Q 0 q
  refine (fun (ta : TE) (h : ta σ H _) => h) (tE (evOf X) W fo) ?_
  obtain ⟨r, F, sl, h, s, gd, q⟩ := z
  refine ⟨r, F, sl, h, s, gd, q.imp fun r1 H1 x h1 e1 g1 q1 v hv => ?_⟩
  obtain ⟨a, dx, fs, e1, e2, e3, e4⟩ := q1 v hv
  obtain ⟨r2, F2, sl2, h2, s2, g2, q2⟩ := e4
  exact ⟨a, dx, fs, e1, e2, e3, Aft.here q2 g2 [] .nil⟩
theorem make_of (T1 : X.mg c = some (.ref C)) {pn : Nat} (σ : L2.St) (H : Hp) (Q : VK) (q : tE (evOf X) W (mMake c pn g fl) σ H Q) : tMakeT C (spD (evOf X) pn g) (WE W) (tA (evOf X) W fl) σ H Q := by
  obtain ⟨r, F, sl, h, s, gd, q⟩ := q
  refine tA.of s gd (q.bind.imp fun r1 H1 ds h1 e1 g1 q1 vs hvs x dx hx hdx hne => ?_)
  have sm1 : Same H1 (upd H1 dx (.own x)) := same_new hdx
  have hx2 : (upd H1 dx (.own x)) x = none := by rw [upd_ne (fun z => hne z.symm)]; exact hx
  have sm : Same H1 (upd (upd H1 dx (.own x)) x (.ins C dx [])) := sm1.trans (same_new hx2)
  have ee := grow_ext (r := r1) hx sm
  have g2 : GoodH (evOf X) (r1 ++ [x]) F (h1 ++ [.ins c [] []]) (upd (upd H1 dx (.own x)) x (.ins C dx [])) := by
    refine g1.grow hx sm ⟨C, dx, [], T1, upd_same, rfl, ?_, .nil⟩
    rw [upd_ne hne]
    exact upd_same
  have hl : (r1 ++ [x])[h1.length]? = some x := by
    rw [← g1.len, List.getElem?_append_right (Nat.le_refl _)]
    simp
  refine ⟨r1 ++ [x], F, h1 ++ [.ins c [] []], .ref h1.length :: ds, g2, .cons (.ref hl) (DenL.mono g1.mine ee _ _ hvs), ?_⟩
  have q3 : Aft (evOf X) W F σ r1 H1 (makK h1.length (ckN pn g (.ref h1.length :: ds) (h1 ++ [.ins c [] []]))) _ := q1
  clear q1
  cases er : ckN pn g (.ref h1.length :: ds) (h1 ++ [.ins c [] []]) with
  | ok d h2 =>
    rw [er] at q3
    cases d with
    | non =>
      intro r2 H2 e2 g3 v hv
      cases hv
      refine ⟨rfl, ?_⟩
      exact q3 r2 H2 (ee.trans g2.mine e2) g3 _ (.ref (e2.get hl))
    | _ => exact False.elim q3
  | exc x' a h2 =>
    rw [er] at q3
    intro r2 H2 cls xx e2 g3 xd
    exact q3 r2 H2 cls xx (ee.trans g2.mine e2) g3 xd
  | bad => rw [er] at q3; exact q3
theorem de_make {x : Str} (M : Mk X.K C f) (T : FT X.prog X.w X.K X.mg X.base k ps g f) (hr : Room (k + 1) X.A) (hg : Gl X c) (T1 : X.mg c = some (.ref C)) (tk : Takes X W) (ha : PA X (e :: es) (tA (evOf X) W fl)) (hdb : (c == ("__debug__" : Str)) = false := by decide) (he : starEach (e :: es) X.env = (false, eval e X.env) :: starEach es X.env := by rfl) (hpl : (backTo pos (starEach es X.env)).any (·.1) = false := by rfl) (hn : ps.length = n := by rfl) :
    PE X (.Call (.Name c p) (e :: es) [] pos) (tE (evOf X) W (mMake c n g fl)) := by
  subst hn
  obtain ⟨fd, h1, h2⟩ := T.ex
  exact (pe_makeT M h1 hr hg T1 h2.1 (fun σ => passAt tk σ) ha hdb he hpl).imp fun σ H Q q => make_of T1 σ H Q q
/-! ### a field as a target -/
def kFld (cs : List Str) (f : Str) (fo : Mo D) : Tgt := fun v sl h => bindS sl (fo sl h) fun x h2 => match fldS h2 cs f x v with
  | some h3 => .nx sl h3
  | none => .bad
theorem dg_fld {cs : List Str} {fn : Str} (T : FldT X cs fn) (ho : PE X o (tE (evOf X) W fo)) : PG X (.Attribute o fn pos) (tG (evOf X) (kFld cs fn fo)) :=
  ⟨fun pins s σ H v u Q I rv ⟨r, F, sl, h, d, hs, g, hd, q⟩ => by
    rw [assign_Attribute]
    have ht : tE (evOf X) W fo σ H (fun x H2 => ∃ a C dx fs, x = .ref a ∧ H2 a = some (.ins C dx fs) ∧ Cls X.K C ∧ NoAttr X.K C fn ∧ fs.length < 1000 ∧ Q σ (upd H2 a (.ins C dx (putF fn v fs)))) := by
      refine tE.of hs g ((GAft.bindS (W := W) (σ := σ) q).imp fun r2 H2 x h2 e2 g2 q2 vx hvx => ?_)
      have q2 : GAft (evOf X) F r2 H2 (match fldS h2 cs fn x d with
        | some h3 => .nx sl h3
        | none => .bad) Q := q2
      cases es : fldS h2 cs fn x d with
      | none => rw [es] at q2; exact False.elim q2
      | some h3 =>
        rw [es] at q2
        obtain ⟨a, C, dx, fs, ev, ha, c1, c2, hl, ee, g3⟩ := fldS_ok T g2 hvx (Den.mono g.mine e2 _ _ hd) es
        exact ⟨a, C, dx, fs, ev, ha, c1, c2, hl, q2 r2 _ σ ee g3 ((hs.mono g.mine e2).mono g2.mine ee)⟩
    refine wpAny_bind (wpAny_holding (thn (ho.run pins s σ H _ I ht) fun ov s1 ⟨x, H1, I1, r1, a, C, dx, fs, ex, ea, c, n, l, q1⟩ => ?_))
    subst ex
    obtain rfl : ov = Value.ref a := r1
    refine wpAny_bind (wpAny_standAt (wpAny_bind (wpAny_holding (setattr_ok I1 ea c n l rv fun s2 I2 => ?_))))
    exact wpAny_release ⟨σ, _, I2, q1⟩⟩
end
end CH

/-! CHG: append, loops over lists that may change, split. -/
namespace CH
open PySem PySem.Spec PyProof.Rows L2
def appD (h : MH) (k : Nat) (d : D) : Option (List D) → Res D
  | some xs => if xs.length < lim then .ok .non (h.set k (.lst (xs ++ [d]))) else .bad
  | none => .bad
def gApp : D → List D → MH → Res D := fun x ds h => match x, ds with
  | .ref k, [d] => appD h k d (oLst h[k]?)
  | _, _ => .bad
theorem mts_app {G : Ev} : MtS G rAppend gApp := fun W σ r F H h x v ds vs Q g hx hd q => by
  cases hx with
  | ref hk =>
    rename_i k a
    cases hd with
    | nil => exact False.elim q
    | cons h1 t1 =>
      rename_i d y ds vs
      cases t1 with
      | cons _ _ => exact False.elim q
      | nil =>
        have q : Aft G W F σ r H (appD h k d (oLst h[k]?)) _ := q
        cases ho : oLst h[k]? with
        | none => rw [ho] at q; exact False.elim q
        | some xs =>
          rw [ho] at q
          have q : Aft G W F σ r H (if xs.length < lim then Res.ok D.non (h.set k (.lst (xs ++ [d]))) else .bad) _ := q
          by_cases hl : xs.length < lim
          · rw [if_pos hl] at q
            obtain ⟨a', ea, vs, h2, h3⟩ := g.ob k _ (oLst_some ho)
            rw [hk] at ea; cases ea
            have ha : a ∈ r := List.mem_of_getElem? hk
            have ee : Ext r H r (upd H a (.lst (vs ++ [y]))) := Ext.upd ha
            refine ⟨a, vs, y, rfl, rfl, h2, by rw [← h3.len]; exact lim_lt hl, ?_⟩
            exact q r _ ee (g.set hk trivial ⟨_, upd_same, (DenL.mono g.mine ee _ _ h3).app (.cons (Den.mono g.mine ee _ _ h1) .nil)⟩) _ .non
          · rw [if_neg hl] at q; exact False.elim q
  | _ => cases hd <;> first | exact False.elim q | (rename_i t; cases t <;> exact False.elim q)
/-! ### loops over a list that may change -/
def forH (k : Nat) (tg : Tg) (body : Ms) : Nat → Nat → Ms
  | 0, i => fun sl h => match oLst h[k]? with
    | some xs => if xs.length ≤ i then .nx sl h else .bad
    | none => .bad
  | n + 1, i => fun sl h => match oLst h[k]? with
    | some xs => (match xs[i]? with
      | none => .nx sl h
      | some d => match tgD tg d sl with
        | none => .bad
        | some sl1 => turnR (forH k tg body n (i + 1)) (body sl1 h))
    | none => .bad
def refD : D → Option Nat
  | .ref k => some k
  | _ => none
def lenH (h : MH) (k : Nat) : Nat := ((oLst h[k]?).map List.length).getD 0
def sForH (fo : Mo D) (tg : Tg) (body : Ms) : Ms := fun sl h => bindS sl (fo sl h) fun x h1 => match refD x with
  | some k => if (oLst h1[k]?).isSome = true then forH k tg body (lenH h1 k) 0 sl h1 else .bad
  | none => .bad
theorem refD_some {x : D} {k : Nat} (h : refD x = some k) : x = .ref k := by cases x <;> first | (cases h; rfl) | cases h
theorem lst_at {G : Ev} {r F : List Addr} {H : Hp} {h : MH} {k : Nat} {a : Addr} {xs : List D} (g : GoodH G r F h H) (hk : r[k]? = some a) (ho : oLst h[k]? = some xs) : ∃ vs, H a = some (.lst vs) ∧ DenL G r F H xs vs := by
  obtain ⟨a', ea, vs, h2, h3⟩ := g.ob k _ (oLst_some ho)
  rw [hk] at ea; cases ea
  exact ⟨vs, h2, h3⟩
theorem ds_forH {X : Cx} {W : WX} {tg : Tg} {te iter : Expr} {body : List Stmt} {pos : Pos} {fo : Mo D} {fb : Ms} (hp : PassesOwn (model X.prog X.w) X.A X.env X.xe) (hc : X.calm = true) (hi : PE X iter (tE (evOf X) W fo)) (hg : PG X te (tgV X.K tg)) (hb : PSs X body (tS (evOf X) W fb))
    (hs : ∀ x, foldedSetIterable iter X.env x = pure x := by intro _; rfl) : PS X (.For te iter body [] pos) (tS (evOf X) W (sForH fo tg fb)) :=
  (ps_for hp hc (pi_list hi) hg hb hs).imp fun E σ H ⟨r, F, sl, h, s, g, q⟩ => by
    refine tE.of s g ((q.bindS s g).imp fun r1 H1 x h1 e1 g1 q1 v hv => ?_)
    have q3 : SAft (evOf X) W F r1 H1 (match refD x with
      | some k => if (oLst h1[k]?).isSome = true then forH k tg fb (lenH h1 k) 0 sl h1 else .bad
      | none => .bad) E := q1
    clear q1
    cases ex : refD x with
    | none => rw [ex] at q3; exact False.elim q3
    | some k =>
      rw [ex] at q3
      have q4 : SAft (evOf X) W F r1 H1 (if (oLst h1[k]?).isSome = true then forH k tg fb (lenH h1 k) 0 sl h1 else .bad) E := q3
      clear q3
      cases refD_some ex
      by_cases hsm : (oLst h1[k]?).isSome = true
      · rw [if_pos hsm] at q4
        cases hv with
        | ref hk =>
          rename_i a
          obtain ⟨xs0, hxs0⟩ := Option.isSome_iff_exists.mp hsm
          obtain ⟨vs0, ha0, _⟩ := lst_at g1 hk hxs0
          refine ⟨a, rfl, ⟨vs0, SqL.of ha0⟩, fun i m σ' H' => ∃ r' sl' h', Ext r1 H1 r' H' ∧ GoodH (evOf X) r' F h' H' ∧ CH.SlR (evOf X) r' F H' sl' σ' ∧ SAft (evOf X) W F r' H' (forH k tg fb m i sl' h') E, ⟨lenH h1 k, r1, sl, h1, .refl, g1, s.mono g.mine e1, q4⟩, ?_⟩
          rintro i m σ' H' ⟨r', sl', h', e', g', s', q'⟩
          have hk' := e'.get hk
          cases m with
          | zero =>
            have q5 : SAft (evOf X) W F r' H' (match oLst h'[k]? with
              | some xs => if xs.length ≤ i then .nx sl' h' else .bad
              | none => .bad) E := q'
            cases ho : oLst h'[k]? with
            | none => rw [ho] at q5; exact False.elim q5
            | some xs =>
              rw [ho] at q5
              have q6 : SAft (evOf X) W F r' H' (if xs.length ≤ i then .nx sl' h' else .bad) E := q5
              by_cases hl : xs.length ≤ i
              · rw [if_pos hl] at q6
                obtain ⟨vs, ha, hd⟩ := lst_at g' hk' ho
                exact .inl ⟨⟨vs, SqL.of ha, by rw [← hd.len]; exact hl⟩, q6.nxh s' g'⟩
              · rw [if_neg hl] at q6; exact False.elim q6
          | succ m =>
            have q5 : SAft (evOf X) W F r' H' (match oLst h'[k]? with
              | some xs => (match xs[i]? with
                | none => .nx sl' h'
                | some d => match tgD tg d sl' with
                  | none => .bad
                  | some sl1 => turnR (forH k tg fb m (i + 1)) (fb sl1 h'))
              | none => .bad) E := q'
            cases ho : oLst h'[k]? with
            | none => rw [ho] at q5; exact False.elim q5
            | some xs =>
              rw [ho] at q5
              obtain ⟨vs, ha, hd⟩ := lst_at g' hk' ho
              have q6 : SAft (evOf X) W F r' H' (match xs[i]? with
                | none => .nx sl' h'
                | some d => match tgD tg d sl' with
                  | none => .bad
                  | some sl1 => turnR (forH k tg fb m (i + 1)) (fb sl1 h')) E := q5
              clear q5
              cases hx : xs[i]? with
              | none =>
                rw [hx] at q6
                exact .inl ⟨⟨vs, SqL.of ha, hd.none hx⟩, q6.nxh s' g'⟩
              | some d =>
                rw [hx] at q6
                have q7 : SAft (evOf X) W F r' H' (match tgD tg d sl' with
                  | none => .bad
                  | some sl1 => turnR (forH k tg fb m (i + 1)) (fb sl1 h')) E := q6
                obtain ⟨vd, hv1, hv2⟩ := hd.get hx
                refine .inr ⟨⟨vs, vd, SqL.of ha, hv1⟩, fun σ2 H2 => ∃ r2 sl2 h2, Ext r1 H1 r2 H2 ∧ GoodH (evOf X) r2 F h2 H2 ∧ CH.SlR (evOf X) r2 F H2 sl2 σ2 ∧ SAft (evOf X) W F r2 H2 (forH k tg fb m (i + 1) sl2 h2) E,
                  fun σ2 H2 ⟨r2, sl2, h2, a1, a2, a3, a4⟩ => ⟨m, Nat.lt_succ_self m, r2, sl2, h2, a1, a2, a3, a4⟩, fun y H'' ⟨eH, ey⟩ => ?_⟩
                subst eH
                have := ey vs (SqL.of ha)
                rw [hv1] at this; cases this
                cases ht : tgD tg d sl' with
                | none => rw [ht] at q7; exact False.elim q7
                | some sl1 =>
                  rw [ht] at q7
                  have q8 : SAft (evOf X) W F r' H'' (turnR (forH k tg fb m (i + 1)) (fb sl1 h')) E := q7
                  refine tgV_of (G := evOf X) hv2 ht s' fun σ2 s2 _ => tS.of s2 g' ?_
                  cases hbr : fb sl1 h' with
                  | nx sl2 h2 =>
                    rw [hbr] at q8
                    exact fun r3 H3 σ3 e3 g3 s3 => ⟨r3, sl2, h2, e'.trans g'.mine e3, g3, s3, SAft.later q8 e3 g3⟩
                  | ct sl2 h2 =>
                    rw [hbr] at q8
                    exact fun r3 H3 σ3 e3 g3 s3 => ⟨r3, sl2, h2, e'.trans g'.mine e3, g3, s3, SAft.later q8 e3 g3⟩
                  | bk sl2 h2 => rw [hbr] at q8; exact q8
                  | rt d h2 => rw [hbr] at q8; exact q8
                  | exc c a sl2 h2 => rw [hbr] at q8; exact q8
                  | bad => rw [hbr] at q8; exact False.elim q8
      · rw [if_neg hsm] at q4; exact False.elim q4
/-! ### a comprehension over such a list -/
def lcH (k : Nat) (tg : Tg) (c : Mo Bool) (f : Mo D) (sl : Sl) : Nat → Nat → List D → MH → Res (List D)
  | 0, i, acc, h => match oLst h[k]? with
    | some xs => if xs.length ≤ i then .ok acc h else .bad
    | none => .bad
  | n + 1, i, acc, h => match oLst h[k]? with
    | some xs => (match xs[i]? with
      | none => .ok acc h
      | some d => match tgD tg d sl with
        | none => .bad
        | some sl1 => bindR (noX (c sl1 h)) fun b h1 => if b then (if acc.length < lim then bindR (noX (f sl1 h1)) fun x h2 => lcH k tg c f sl n (i + 1) (acc ++ [x]) h2 else .bad) else lcH k tg c f sl n (i + 1) acc h1)
    | none => .bad
def mLcH (vs : List Nat) (fo : Mo D) (tg : Tg) (c : Mo Bool) (f : Mo D) : Mo D := fun sl h => bindR (fo sl h) fun x h1 => match refD x with
  | some k => if (oLst h1[k]?).isSome = true then bindR (lcH k tg c f (wipeD sl vs) (lenH h1 k) 0 [] h1) fun xs h2 => Res.ok (D.lst xs) h2 else .bad
  | none => .bad
theorem lcH_of {X : Cx} {W : WX} {vs : List Nat} {fo : Mo D} {tg : Tg} {fc : Mo Bool} {f : Mo D} (ho : ∀ i ∈ tg.slots, i ∈ vs) (σ : L2.St) (H : Hp) (Q : VK) (q : tE (evOf X) W (mLcH vs fo tg fc f) σ H Q) :
    tLc (iList X.K (tE (evOf X) W fo)) (tgV X.K tg) (tT (evOf X) W0 fc) (tE (evOf X) W0 f) vs σ H Q := by
  obtain ⟨r, F, sl, h, s, g, q⟩ := q
  refine tE.of s g (q.bind.imp fun r1 H1 x h1 e1 g1 q1 v hv => ?_)
  have q3 : Aft (evOf X) W F σ r1 H1 (match refD x with
    | some k => if (oLst h1[k]?).isSome = true then bindR (lcH k tg fc f (wipeD sl vs) (lenH h1 k) 0 [] h1) fun xs h2 => Res.ok (D.lst xs) h2 else .bad
    | none => .bad) _ := q1
  clear q1
  cases ex : refD x with
  | none => rw [ex] at q3; exact False.elim q3
  | some k =>
    rw [ex] at q3
    have q4 : Aft (evOf X) W F σ r1 H1 (if (oLst h1[k]?).isSome = true then bindR (lcH k tg fc f (wipeD sl vs) (lenH h1 k) 0 [] h1) fun xs h2 => Res.ok (D.lst xs) h2 else .bad) _ := q3
    clear q3
    cases refD_some ex
    by_cases hsm : (oLst h1[k]?).isSome = true
    · rw [if_pos hsm] at q4
      have q4 := q4.bind
      cases hv with
      | ref hk =>
        rename_i a
        obtain ⟨xs0, hxs0⟩ := Option.isSome_iff_exists.mp hsm
        obtain ⟨vs0, ha0, _⟩ := lst_at g1 hk hxs0
        refine ⟨a, rfl, ⟨vs0, SqL.of ha0⟩, fun D0 hD => ?_⟩
        have nF : D0 ∉ F := (g1.fresh hD).2
        have fo' : Foe F H1 (D0 :: F) := fun a ha => by
          rcases List.mem_cons.mp ha with e | e
          · exact .inr (by rw [e]; exact hD)
          · exact .inl e
        have sm0 : Same H1 (upd H1 D0 (.lst [])) := same_new hD
        have g1' : GoodH (evOf X) r1 (D0 :: F) h1 (upd H1 D0 (.lst [])) := g1.newF hD trivial
        let Kx : List Addr → Hp → List D → MH → Prop := fun r' H' x h1 => Aft (evOf X) W F σ r' H' (Res.ok (D.lst x) h1) fun r' H' d _ => ∀ v, Den (evOf X) r' F H' d v → Q v H'
        let Lp : Nat → Nat → List D → MH → Res (List D) := lcH k tg fc f (wipeD sl vs)
        refine ⟨fun i m H' => ∃ r' h' acc vacc, Ext r1 H1 r' H' ∧ GoodH (evOf X) r' (D0 :: F) h' H' ∧ H' D0 = some (.lst vacc) ∧ DenL (evOf X) r' (D0 :: F) H' acc vacc ∧
          Aft (evOf X) W F σ r1 H1 (Lp m i acc h') Kx, ⟨lenH h1 k, r1, h1, [], [], .same sm0, g1', upd_same, .nil, q4⟩, ?_⟩
        rintro i m H' ⟨r', h', acc, vacc, e', g', hD', hacc, q'⟩
        have hk' := e'.get hk
        have s' : CH.SlR (evOf X) r' (D0 :: F) H' (wipeD sl vs) (L2.wipe σ vs) := by
          have z := (s.mono g.mine e1).wiped vs
          exact ⟨z.1, fun j d hd => let ⟨v, a1, a2⟩ := z.2 j d hd; ⟨v, a1, Den.monoF g1.mine e' fo' _ _ a2⟩⟩
        have fin : Aft (evOf X) W F σ r1 H1 (.ok acc h') Kx → Q (.ref D0) H' := fun q2 => by
          have q3 := Aft.here (q2 r' H' e' g'.dropF) g'.dropF
          exact q3 _ (.lst hD' ⟨(g'.fd D0 List.mem_cons_self).2, nF⟩ (DenL.dropF g'.mine hacc))
        cases m with
        | zero =>
          have q5 : Aft (evOf X) W F σ r1 H1 (match oLst h'[k]? with
            | some xs => if xs.length ≤ i then .ok acc h' else .bad
            | none => .bad) Kx := q'
          cases ho : oLst h'[k]? with
          | none => rw [ho] at q5; exact False.elim q5
          | some xs =>
            rw [ho] at q5
            have q6 : Aft (evOf X) W F σ r1 H1 (if xs.length ≤ i then .ok acc h' else .bad) Kx := q5
            by_cases hl : xs.length ≤ i
            · rw [if_pos hl] at q6
              obtain ⟨vs', ha, hd⟩ := lst_at g' hk' ho
              exact .inl ⟨⟨vs', SqL.of ha, by rw [← hd.len]; exact hl⟩, fin q6⟩
            · rw [if_neg hl] at q6; exact False.elim q6
        | succ m =>
          have q5 : Aft (evOf X) W F σ r1 H1 (match oLst h'[k]? with
            | some xs => (match xs[i]? with
              | none => .ok acc h'
              | some d => match tgD tg d (wipeD sl vs) with
                | none => .bad
                | some sl1 => bindR (noX (fc sl1 h')) fun b h1 => if b then (if acc.length < lim then bindR (noX (f sl1 h1)) fun x h2 => Lp m (i + 1) (acc ++ [x]) h2 else .bad) else Lp m (i + 1) acc h1)
            | none => .bad) Kx := q'
          cases ho2 : oLst h'[k]? with
          | none => rw [ho2] at q5; exact False.elim q5
          | some xs =>
            rw [ho2] at q5
            obtain ⟨vs', ha, hd⟩ := lst_at g' hk' ho2
            have q6 : Aft (evOf X) W F σ r1 H1 (match xs[i]? with
              | none => .ok acc h'
              | some d => match tgD tg d (wipeD sl vs) with
                | none => .bad
                | some sl1 => bindR (noX (fc sl1 h')) fun b h1 => if b then (if acc.length < lim then bindR (noX (f sl1 h1)) fun x h2 => Lp m (i + 1) (acc ++ [x]) h2 else .bad) else Lp m (i + 1) acc h1) Kx := q5
            clear q5
            cases hx : xs[i]? with
            | none =>
              rw [hx] at q6
              exact .inl ⟨⟨vs', SqL.of ha, hd.none hx⟩, fin q6⟩
            | some d =>
              rw [hx] at q6
              have q7 : Aft (evOf X) W F σ r1 H1 (match tgD tg d (wipeD sl vs) with
                | none => .bad
                | some sl1 => bindR (noX (fc sl1 h')) fun b h1 => if b then (if acc.length < lim then bindR (noX (f sl1 h1)) fun x h2 => Lp m (i + 1) (acc ++ [x]) h2 else .bad) else Lp m (i + 1) acc h1) Kx := q6
              obtain ⟨vd, hv1, hv2⟩ := hd.get hx
              refine .inr ⟨⟨vs', vd, SqL.of ha, hv1⟩, fun H2 => ∃ r2 h2 acc vacc, Ext r1 H1 r2 H2 ∧ GoodH (evOf X) r2 (D0 :: F) h2 H2 ∧ H2 D0 = some (.lst vacc) ∧ DenL (evOf X) r2 (D0 :: F) H2 acc vacc ∧
                  Aft (evOf X) W F σ r1 H1 (Lp m (i + 1) acc h2) Kx,
                fun H2 ⟨r2, h2, ac, va, a1, a2, a3, a4, a5⟩ => ⟨m, Nat.lt_succ_self m, r2, h2, ac, va, a1, a2, a3, a4, a5⟩, fun y H'' ⟨eH, ey⟩ => ?_⟩
              subst eH
              have := ey vs' (SqL.of ha)
              rw [hv1] at this; cases this
              cases htg : tgD tg d (wipeD sl vs) with
              | none => rw [htg] at q7; exact False.elim q7
              | some sl1 =>
                rw [htg] at q7
                have q2 : Aft (evOf X) W F σ r1 H1 (bindR (noX (fc sl1 h')) fun b h1 => if b = true then (if acc.length < lim then bindR (noX (f sl1 h1)) fun x h2 => Lp m (i + 1) (acc ++ [x]) h2 else .bad) else Lp m (i + 1) acc h1) Kx := q7
                refine tgV_of (G := evOf X) hv2 htg s' fun σ2 s2 o2 => ⟨only_in o2 ho, ?_⟩
                refine tT.of s2 g' ((aft0 (D0 := D0) (σ0 := σ2) q2).imp fun r3 H3 b h3 e3 g3 q4 => ?_)
                have hD3 : H3 D0 = some (.lst vacc) := e3.keep _ _ hD' (g'.fd D0 List.mem_cons_self).2
                have hac3 := DenL.mono g'.mine e3 _ _ hacc
                have ee3 := e'.trans g'.mine e3
                cases b with
                | false => exact ⟨r3, h3, acc, vacc, ee3, g3, hD3, hac3, q4⟩
                | true =>
                  have q4 : Aft (evOf X) W F σ r1 H1 (if acc.length < lim then bindR (noX (f sl1 h3)) fun x h2 => Lp m (i + 1) (acc ++ [x]) h2 else .bad) Kx := q4
                  by_cases hz : acc.length < lim
                  · rw [if_pos hz] at q4
                    refine tE.of (s2.mono g'.mine e3) g3 ((aft0 (D0 := D0) (σ0 := σ2) q4).imp fun r4 H4 y h4 e4 g4 q5 v hv => ?_)
                    have hD4 : H4 D0 = some (.lst vacc) := e4.keep _ _ hD3 (g3.fd D0 List.mem_cons_self).2
                    have hac4 := DenL.mono g3.mine e4 _ _ hac3
                    refine ⟨vacc, hD4, by rw [← hac4.len]; exact lim_lt hz, ?_⟩
                    have g5 := g4.updF (acc' := .lst (vacc ++ [v])) hD4 trivial trivial List.mem_cons_self
                    have ee5 : Ext r1 H1 r4 (upd H4 D0 (.lst (vacc ++ [v]))) := by
                      have ee4 := ee3.trans g3.mine e4
                      refine ⟨ee4.pre, fun a o ha hr => ?_⟩
                      rw [upd_ne (ne_of_none ha hD)]
                      exact ee4.keep a o ha hr
                    exact ⟨r4, h4, acc ++ [y], vacc ++ [v], ee5, g5, upd_same, DenL.updF hD4 trivial List.mem_cons_self _ _ (hac4.app (.cons hv .nil)), q5⟩
                  · rw [if_neg hz] at q4; exact False.elim q4
    · rw [if_neg hsm] at q4; exact False.elim q4
theorem de_lcH {X : Cx} {W : WX} {vs : List Nat} {elt te iter : Expr} {ifs : List Expr} {scope : Scope} {own : List (Str × Nat)} {pos : Pos} {fo : Mo D} {tg : Tg} {fc : Mo Bool} {f : Mo D} (hc : X.calm = true) (hN : X.N.Nodup) (hi : PE X iter (tE (evOf X) W fo)) (ok : BlkOk X.N X.env.scope scope own)
    (ho : ∀ i ∈ tg.slots, i ∈ own.map (·.2))
    (hg : ∀ (s : Shared) (H : Hp) (C : Addr) (cl : List (Str × Addr)) (fp : List Addr), PG (X.blk s H scope (compEnvC scope cl C X.env) fp) te (tgV X.K tg))
    (ht : ∀ (s : Shared) (H : Hp) (C : Addr) (cl : List (Str × Addr)) (fp : List Addr), PTs (X.blk s H scope (compEnvC scope cl C X.env) fp) ifs (tT (evOf X) W0 fc))
    (he : ∀ (s : Shared) (H : Hp) (C : Addr) (cl : List (Str × Addr)) (fp : List Addr), PE (X.blk s H scope (compEnvC scope cl C X.env) fp) elt (tE (evOf X) W0 f)) (hs : ∀ x, foldedSetIterable iter X.env x = pure x := by intro _; rfl) (hv : own.map (·.2) = vs := by rfl) :
    PE X (.ListComp elt [⟨te, iter, ifs, 0⟩] scope pos) (tE (evOf X) W (mLcH vs fo tg fc f)) := by
  subst hv
  exact (pe_lc hc hN (pi_list hi) ok hg ht he hs).imp fun σ H Q q => lcH_of ho σ H Q q
theorem ds_setLcH {X : Cx} {W : WX} {i : Nat} {vs : List Nat} {y : Str} {py spos pos : Pos} {elt te iter : Expr} {ifs : List Expr} {scope : Scope} {own : List (Str × Nat)} {fo : Mo D} {tg : Tg} {fc : Mo Bool} {f : Mo D} (hc : X.calm = true) (hN : X.N.Nodup) (hy : X.N[i]? = some y) (hyl : X.env.scope.names.lookup y = some .local)
    (hsw : swapsWith (.ListComp elt [⟨te, iter, ifs, 0⟩] scope pos) (some (.Name y py)) spos.line X.env = pure true) (hi : PE X iter (tE (evOf X) W fo)) (ok : BlkOk X.N X.env.scope scope own)
    (ho : ∀ i ∈ tg.slots, i ∈ own.map (·.2))
    (hg : ∀ (s : Shared) (H : Hp) (C : Addr) (cl : List (Str × Addr)) (fp : List Addr), PG (X.blk s H scope (compEnvC scope cl C X.env) fp) te (tgV X.K tg))
    (ht : ∀ (s : Shared) (H : Hp) (C : Addr) (cl : List (Str × Addr)) (fp : List Addr), PTs (X.blk s H scope (compEnvC scope cl C X.env) fp) ifs (tT (evOf X) W0 fc))
    (he : ∀ (s : Shared) (H : Hp) (C : Addr) (cl : List (Str × Addr)) (fp : List Addr), PE (X.blk s H scope (compEnvC scope cl C X.env) fp) elt (tE (evOf X) W0 f)) (hs : ∀ x, foldedSetIterable iter X.env x = pure x := by intro _; rfl) (hv : own.map (·.2) = vs := by rfl) :
    PS X (.Assign [.Name y py] (.ListComp elt [⟨te, iter, ifs, 0⟩] scope pos) spos) (tS (evOf X) W (sSet i (mLcH vs fo tg fc f))) := by
  subst hv
  exact (ps_setLc hc hN hy hyl hsw (pi_list hi) ok hg ht he hs).imp fun E σ H ⟨r, F, sl, h, s, g, q⟩ => lcH_of ho σ H _ (tE.of s g ((q.bindS s g).imp fun r1 H1 x h1 e1 g1 q1 v hv => q1.nxh ((s.mono g.mine e1).set hv) g1))
/-! ### split -/
def splitR (a b : Str) (h : MH) : Res D := if (b.length == 0) = false ∧ a.length + 2 ≤ lim then .ok (.lst ((Txt.split a b).map D.str)) h else .bad
def oSplit : D → D → MH → Res D := fun x y h => match x, y with
  | .str a, .str b => splitR a b h
  | _, _ => .bad
/-- x.split(y): the text first -/
def mSplit (fo fa : Mo D) : Mo D := mBind fo fun x => fun sl h => if isStr x = true then bindR (fa sl h) fun y h1 => oSplit x y h1 else .bad
theorem denL_strs {G : Ev} {r F : List Addr} {H : Hp} : ∀ xs : List Str, DenL G r F H (xs.map D.str) (xs.map V.str)
  | [] => .nil
  | x :: xs => .cons (.str x) (denL_strs xs)
theorem de_split {X : Cx} {W : WX} {o e : Expr} {fo fa : Mo D} {apos pos : Pos} (ho : PE X o (tE (evOf X) W fo)) (he : PE X e (tE (evOf X) W fa)) (hs : starEach [e] X.env = [(false, eval e X.env)] := by rfl) (hbase : attributeBase o "split" X.env (eval o X.env) = eval o X.env := by rfl) (hline : (apos.endLine == pos.line) = true := by rfl) :
    PE X (.Call (.Attribute o "split" apos) [e] [] pos) (tE (evOf X) W (mSplit fo fa)) :=
  (pe_split ho he hs hbase hline).imp fun σ H Q ⟨r, F, sl, h, s, g, q⟩ => tE.of s g (q.bind.imp fun r1 H1 x h1 e1 g1 q1 v hv => by
    have q3 : Aft (evOf X) W F σ r1 H1 (if isStr x = true then bindR (fa sl h1) fun y h2 => oSplit x y h2 else .bad) _ := q1
    clear q1
    by_cases hx : isStr x = true
    · rw [if_pos hx] at q3
      cases hv with
      | str a =>
        refine ⟨⟨a, rfl⟩, tE.of (s.mono g.mine e1) g1 (q3.bind.imp fun r2 H2 y h2 e2 g2 q4 w hw => ?_)⟩
        cases hw with
        | str b =>
          have q5 : Aft (evOf X) W F σ r2 H2 (if (b.length == 0) = false ∧ a.length + 2 ≤ lim then Res.ok (D.lst ((Txt.split a b).map D.str)) h2 else .bad) _ := q4
          by_cases z : (b.length == 0) = false ∧ a.length + 2 ≤ lim
          · rw [if_pos z] at q5
            exact ⟨a, b, rfl, rfl, z.1, lim_ok z.2, fun p hp => q5.hereS g2 (same_new hp) _ (new_lst g2 (denL_strs _) hp)⟩
          · rw [if_neg z] at q5; exact False.elim q5
        | _ => exact False.elim q4
      | _ => cases hx
    · rw [if_neg hx] at q3; exact False.elim q3)
end CH

/-! CHH: sorted, min of plain data. -/
namespace CH
open PySem PySem.Spec PyProof.Rows L2
open PySem.W (EachIs AllAlike Sortable alike dataLe dataLt)
def isTupNE : D → Bool
  | .tup (_ :: _) => true
  | _ => false
def isPl : D → Bool
  | .int _ => true
  | .str _ => true
  | _ => false
def okSort (xs : List D) : Bool := pyOkL 40 xs && (decide (xs.length ≤ 10000) && ((xs.all fun a => xs.all fun b => alike (toPy a) (toPy b)) && (xs.all isTupNE || xs.all isPl)))
def sortD (xs : List D) : List D := xs.mergeSort (dataLe false toPy)
def rSortD (K : PySem.W.Frag) : List V → Hp → VK → Prop := fun vs H Q => ∃ (a : Addr) (xs : List V) (bs : List D) (R : V → D → Prop), vs = [.ref a] ∧ SqL K H a xs ∧ EachIs R xs bs ∧ (∀ x b, R x b → Dp K H x (toPy b)) ∧ AllAlike (bs.map toPy) ∧ Sortable (bs.map toPy) ∧ bs.length ≤ 10000 ∧ (∀ b ∈ bs, (toPy b).depth ≤ 40) ∧
  ∀ ys p, EachIs R ys (sortD bs) → H p = none → Q (.ref p) (upd H p (.lst ys))
theorem vals_of_each {R : V → D → Prop} : ∀ {us : List Value} {bs : List D}, EachIs (fun (u : Value) b => ∃ w, RelV w u ∧ R w b) us bs → ∃ ys, Vals ys us ∧ EachIs R ys bs
  | _, _, .nil => ⟨[], .nil, .nil⟩
  | _, _, .cons h t => by
    obtain ⟨w, h1, h2⟩ := h
    obtain ⟨ys, t1, t2⟩ := vals_of_each t
    exact ⟨w :: ys, .cons h1 t1, .cons h2 t2⟩
theorem each_of_vals {R : V → D → Prop} : ∀ {xs : List V} {us : List Value} {bs : List D}, Vals xs us → EachIs R xs bs → EachIs (fun (u : Value) b => ∃ w, RelV w u ∧ R w b) us bs
  | _, _, _, .nil, .nil => .nil
  | _, _, _, .cons h t, .cons h2 t2 => .cons ⟨_, h, h2⟩ (each_of_vals t t2)
theorem cr_sortD {X : Cx} {k : Nat} (hr : Room k X.A) : CallR X (.builtin "sorted") (rSortD X.K) := by
  intro pins s σ H vs us Q I r h
  obtain ⟨a, xs, bs, R, rfl, hs, he, hd, hal, hso, hlen, hdep, q⟩ := h
  obtain ⟨its, rv, hl, hz⟩ := I.list hs
  rw [Vals.ref1 r]
  have e1 := each_of_vals rv he
  refine PySem.W.sorted_data (R := fun (u : Value) b => ∃ w, RelV w u ∧ R w b) (enc := toPy) hl.isList e1 (e1.mono fun u b ⟨w, h1, h2⟩ => Dp.reads I (toPy b) w u (hd w b h2) h1) hal hso (Nat.le_trans hlen (by decide)) (fun b hb => by have := hr.un; have := hdep b hb; omega) fun out ho hout => ?_
  obtain ⟨ys, y1, y2⟩ := vals_of_each hout
  obtain ⟨ep, he'⟩ := PyProof.Rows.sortedAll_at s.heap its out.toArray
  have hl2 : ys.length ≤ sizeLine := by
    rw [y1.length, ho]
    exact Nat.le_trans hlen (by decide)
  exact ⟨.ref _, upd H (s.heap.objs.size + 1) (.lst ys), I.laid (t' := s.toks) (fun _ _ => PyProof.Rows.sortedAll_old) (Nat.le_succ _) ⟨hl2, out, ep, y1, he'⟩, rfl, q _ _ y2 (I.hok.fresh (Nat.le_succ _))⟩
def lstD (h : MH) : D → Option (List D)
  | .lst xs => some xs
  | .ref k => oLst h[k]?
  | _ => none
def sortR (h : MH) : Option (List D) → Res D
  | some xs => if okSort xs = true then .ok (.lst (sortD xs)) h else .bad
  | none => .bad
def fSorted : List D → MH → Res D := fun ds h => match ds with
  | [x] => sortR h (lstD h x)
  | _ => .bad
theorem lstD_den {G : Ev} {r F : List Addr} {H : Hp} {h : MH} {x : D} {v : V} {xs : List D} (g : GoodH G r F h H) (hx : Den G r F H x v) (e : lstD h x = some xs) : ∃ a vs, v = .ref a ∧ SqL G.K H a vs ∧ DenL G r F H xs vs := by
  cases hx with
  | lst hq hn hl => cases e; exact ⟨_, _, rfl, SqL.of hq, hl⟩
  | ref hk =>
    obtain ⟨a', ea, vs, h1, h2⟩ := g.ob _ _ (oLst_some (show oLst h[_]? = some xs from e))
    rw [hk] at ea; cases ea
    exact ⟨_, _, rfl, SqL.of h1, h2⟩
  | _ => cases e
theorem each_denL {G : Ev} {r F : List Addr} {H : Hp} : ∀ {ds : List D} {vs : List V}, DenL G r F H ds vs → EachIs (fun v d => Den G r F H d v ∧ d ∈ ds) vs ds := by
  intro ds vs h
  have key : ∀ {ds' : List D} {vs : List V}, DenL G r F H ds' vs → (∀ d ∈ ds', d ∈ ds) → EachIs (fun v d => Den G r F H d v ∧ d ∈ ds) vs ds' := by
    intro ds' vs h
    induction ds' generalizing vs with
    | nil => intro _; cases h; exact .nil
    | cons d ds' ih =>
      intro hm
      cases h with
      | cons h1 h2 => exact .cons ⟨h1, hm d (by simp)⟩ (ih h2 fun d hd => hm d (by simp [hd]))
  exact key h fun d hd => hd
theorem denL_each {G : Ev} {r F : List Addr} {H : Hp} {P : D → Prop} : ∀ {ds : List D} {vs : List V}, EachIs (fun v d => Den G r F H d v ∧ P d) vs ds → DenL G r F H ds vs
  | _, _, .nil => .nil
  | _, _, .cons h t => .cons h.1 (denL_each t)
theorem pyOkL_mem {n : Nat} : ∀ {ds : List D}, pyOkL n ds = true → ∀ d ∈ ds, pyOk n d = true
  | [], _, _, hd => by simp at hd
  | d :: ds, h, x, hx => by
    have h : (pyOk n d && pyOkL n ds) = true := by cases n <;> exact h
    simp only [Bool.and_eq_true] at h
    rcases List.mem_cons.mp hx with rfl | hx
    · exact h.1
    · exact pyOkL_mem h.2 x hx
theorem okSort_facts {xs : List D} (h : okSort xs = true) : (∀ d ∈ xs, pyOk 40 d = true) ∧ xs.length ≤ 10000 ∧ AllAlike (xs.map toPy) ∧ Sortable (xs.map toPy) := by
  unfold okSort at h
  simp only [Bool.and_eq_true, decide_eq_true_eq, List.all_eq_true, Bool.or_eq_true] at h
  obtain ⟨h1, h2, h3, h4⟩ := h
  refine ⟨pyOkL_mem h1, h2, ?_, ?_⟩
  · intro d hd d' hd'
    obtain ⟨a, ha, rfl⟩ := List.mem_map.mp hd
    obtain ⟨b, hb, rfl⟩ := List.mem_map.mp hd'
    exact h3 a ha b hb
  · rcases h4 with h4 | h4
    · refine .inl fun d hd => ?_
      obtain ⟨a, ha, rfl⟩ := List.mem_map.mp hd
      have := h4 a ha
      cases a with
      | tup ys => cases ys with
        | nil => cases this
        | cons y ys => exact ⟨toPy y, toPyL ys, rfl⟩
      | _ => cases this
    · refine .inr fun d hd => ?_
      obtain ⟨a, ha, rfl⟩ := List.mem_map.mp hd
      have := h4 a ha
      cases a with
      | int i => exact ⟨(by intro z; cases z), (by intro ys z; cases z)⟩
      | str i => exact ⟨(by intro z; cases z), (by intro ys z; cases z)⟩
      | _ => cases this
theorem calls_sorted {G : Ev} : CallS G (rSortD G.K) fSorted := fun W σ r F H h ds vs Q g hd q => by
  match ds, hd with
  | [], _ => exact False.elim q
  | _ :: _ :: _, _ => exact False.elim q
  | [x], .cons hx .nil =>
    have q : Aft G W F σ r H (sortR h (lstD h x)) _ := q
    cases el : lstD h x with
    | none => rw [el] at q; exact False.elim q
    | some xs =>
      rw [el] at q
      have q : Aft G W F σ r H (if okSort xs = true then Res.ok (D.lst (sortD xs)) h else .bad) _ := q
      by_cases ok : okSort xs = true
      · rw [if_pos ok] at q
        obtain ⟨a, ws, rfl, hs, hd⟩ := lstD_den g hx el
        obtain ⟨f1, f2, f3, f4⟩ := okSort_facts ok
        refine ⟨a, ws, xs, _, rfl, hs, each_denL hd, fun x b ⟨hb, hm⟩ => dp_of b 40 x (f1 b hm) hb, f3, f4, f2, fun b hb => (lay_of b 40 (f1 b hb)).2, fun ys p hy hp => ?_⟩
        exact q.hereS g (same_new hp) _ (new_lst g (denL_each hy) hp)
      · rw [if_neg ok] at q; exact False.elim q
end CH

/-! CHI: tables of classes, a try that runs through, dicts of pairs. -/
namespace CH
open PySem PySem.Spec PyProof.Rows L2
theorem fldT1 {X : Cx} {c f : Str} {C : Addr} (h1 : X.mg c = some (.ref C)) (h2 : Cls X.K C) (h3 : NoAttr X.K C f) : FldT X [c] f := fun c' hc => by
  rw [List.mem_singleton.mp hc]
  exact ⟨C, h1, h2, h3⟩
theorem fldT2 {X : Cx} {c d f : Str} {C D : Addr} (h1 : X.mg c = some (.ref C)) (h2 : Cls X.K C) (h3 : NoAttr X.K C f) (k1 : X.mg d = some (.ref D)) (k2 : Cls X.K D) (k3 : NoAttr X.K D f) : FldT X [c, d] f := fun c' hc => by
  rcases List.mem_cons.mp hc with rfl | hc
  · exact ⟨C, h1, h2, h3⟩
  · rw [List.mem_singleton.mp hc]
    exact ⟨D, k1, k2, k3⟩
def noXS : SRes → SRes
  | .exc _ _ _ _ => .bad
  | x => x
def sTry0 (f : Ms) : Ms := fun sl h => noXS (f sl h)
theorem ds_try0 {X : Cx} {W : WX} {body : List Stmt} {h0 : ExceptHandler} {hs : List ExceptHandler} {pos : Pos} {f : Ms} (hb : PSs X.nox body (tS (evOf X) W0 f)) : PS X (.Try body (h0 :: hs) [] [] pos) (tS (evOf X) W (sTry0 f)) :=
  (ps_try_thru0 hb).imp fun E σ H ⟨r, F, sl, h, s, g, q⟩ => ⟨r, F, sl, h, s, g, by
    have q : SAft (evOf X) W F r H (noXS (f sl h)) E := q
    cases e : f sl h with
    | exc c a sl' h' => rw [e] at q; exact False.elim q
    | nx sl' h' => rw [e] at q; exact q
    | ct sl' h' => rw [e] at q; exact q
    | bk sl' h' => rw [e] at q; exact q
    | rt d h' => rw [e] at q; exact q
    | bad => rw [e] at q; exact q⟩
/-! ### list(d.items()) and dict(pairs) -/
def itemsD : List Key → List D → List D
  | .inl i :: ks, v :: vs => .tup [.int i, v] :: itemsD ks vs
  | .inr x :: ks, v :: vs => .tup [.str x, v] :: itemsD ks vs
  | _, _ => []
def mListItems (fo : Mo D) : Mo D := mBind fo fun x => fun _ h => optR ((dicD h x).map fun p => .lst (itemsD p.1 p.2)) h
theorem items_den {G : Ev} {r F : List Addr} {H H' : Hp} (m : Mine r H) (s : Same H H') : ∀ {ks : List Key} {ds : List D} {vs : List V} {ts : List Addr}, ks.length = vs.length → DenL G r F H ds vs → Paired (fun (t : Addr) (q : Key × V) => H' t = some (.tup [kV q.1, q.2])) ts (ks.zip vs) → DenL G r F H' (itemsD ks ds) (ts.map V.ref) := by
  intro ks
  induction ks with
  | nil =>
    intro ds vs ts hl hd p
    have hv : vs = [] := by cases vs with
      | nil => rfl
      | cons _ _ => simp at hl
    subst hv
    cases p
    cases hd
    exact .nil
  | cons k ks ih =>
    intro ds vs ts hl hd p
    cases hd with
    | nil => simp at hl
    | cons h t =>
      cases p with
      | cons p1 p2 =>
        have i := ih (by simpa using hl) t p2
        have hd := Den.mono m (.same s) _ _ h
        cases k with
        | inl i' => exact .cons (.tup (.inl p1) (.cons (.int i') (.cons hd .nil))) i
        | inr x => exact .cons (.tup (.inl p1) (.cons (.str x) (.cons hd .nil))) i
theorem de_listItems {X : Cx} {W : WX} {e : Expr} {fo : Mo D} {p apos cpos pos : Pos} (hc : X.calm = true) (he : PE X e (tE (evOf X) W fo)) (hg : Gl X "list") (hm : X.mg "list" = none) (hv : bootBuiltins "list" = some (.type "list")) (hbase : attributeBase e "items" X.env (eval e X.env) = eval e X.env := by rfl) (hline : (apos.endLine == cpos.line) = true := by rfl)
    (hs : starEach [.Call (.Attribute e "items" apos) [] [] cpos] X.env = (false, eval (.Call (.Attribute e "items" apos) [] [] cpos) X.env) :: starEach [] X.env := by rfl) :
    PE X (.Call (.Name "list" p) [.Call (.Attribute e "items" apos) [] [] cpos] [] pos) (tE (evOf X) W (mListItems fo)) :=
  (LiI.pe_listItems hc he hg hm hv hbase hline hs).imp fun σ H Q ⟨r, F, sl, h, s, g, q⟩ => tE.of s g (q.bind.imp fun r1 H1 x h1 e1 g1 q1 v hv => by
    have q3 : Aft (evOf X) W F σ r1 H1 (optR ((dicD h1 x).map fun p => D.lst (itemsD p.1 p.2)) h1) _ := q1
    clear q1
    cases ed : dicD h1 x with
    | none => rw [ed] at q3; exact False.elim q3
    | some p =>
      rw [ed] at q3
      obtain ⟨a, vs, rfl, ha, hl, hd⟩ := dic_den g1 hv ed
      refine ⟨a, _, rfl, ha, fun H' pp ts sm hp ht hn hpp pr => ?_⟩
      have sm' : Same H1 H' := sm
      have q4 : Aft (evOf X) W F σ r1 H1 (Res.ok (D.lst (itemsD p.1 p.2)) h1) _ := q3
      exact q4.hereS g1 sm' _ (.lst hpp (g1.fresh hp) (items_den g1.mine sm' hl hd pr)))
def pairD : D → Option (Key × D)
  | .tup [.int i, d] => some (.inl i, d)
  | .tup [.str x, d] => some (.inr x, d)
  | _ => none
def pairsD : List D → Option (List (Key × D))
  | [] => some []
  | d :: ds => match pairD d, pairsD ds with
    | some p, some ps => some (p :: ps)
    | _, _ => none
/-- dict(pairs), a dict that will change -/
def rDictP (K : PySem.W.Frag) : List V → Hp → VK → Prop := fun xs H Q => ∃ (a : Addr) (ps : List Addr) (kvs : List (Key × V)), xs = [.ref a] ∧ SqL K H a (ps.map V.ref) ∧ Paired (fun p kv => SqT K H p [kV kv.1, kv.2]) ps kvs ∧ ∀ p, H p = none → Q (.ref p) (upd H p (.dK (mergeK [] kvs)))
def dictOf (h : MH) : Option (List (Key × D)) → Res D
  | some kds => .ok (.ref h.length) (h ++ [.dic (mergeD kds [] []).1 (mergeD kds [] []).2])
  | none => .bad
def fDict : List D → MH → Res D := fun ds h => match ds with
  | [.lst xs] => if xs.length ≤ 1000 then dictOf h (pairsD xs) else .bad
  | _ => .bad
theorem pairD_den {G : Ev} {r F : List Addr} {H : Hp} {d : D} {v : V} {p : Key × D} (hd : Den G r F H d v) (e : pairD d = some p) : ∃ a w, v = .ref a ∧ SqT G.K H a [kV p.1, w] ∧ Den G r F H p.2 w := by
  unfold pairD at e
  split at e
  · cases e
    cases hd with
    | tup hq hl =>
      cases hl with
      | cons h1 t1 =>
        cases h1
        cases t1 with
        | cons h2 t2 =>
          cases t2
          exact ⟨_, _, rfl, hq.sq, h2⟩
  · cases e
    cases hd with
    | tup hq hl =>
      cases hl with
      | cons h1 t1 =>
        cases h1
        cases t1 with
        | cons h2 t2 =>
          cases t2
          exact ⟨_, _, rfl, hq.sq, h2⟩
  · cases e
theorem pairsD_den {G : Ev} {r F : List Addr} {H : Hp} : ∀ {ds : List D} {vs : List V} {ps : List (Key × D)}, DenL G r F H ds vs → pairsD ds = some ps → ∃ (as : List Addr) (qs : List (Key × V)), vs = as.map V.ref ∧ Paired (fun p kv => SqT G.K H p [kV kv.1, kv.2]) as qs ∧ DenP G r F H ps qs := by
  intro ds
  induction ds with
  | nil =>
    intro vs ps hd e
    cases e
    cases hd
    exact ⟨[], [], rfl, .nil, .nil⟩
  | cons d ds ih =>
    intro vs ps hd e
    cases hd with
    | cons h t =>
      have e : (match pairD d, pairsD ds with
        | some p, some ps => some (p :: ps)
        | _, _ => none) = some ps := e
      cases e1 : pairD d with
      | none => rw [e1] at e; cases e
      | some p =>
        cases e2 : pairsD ds with
        | none => rw [e1, e2] at e; cases e
        | some ps' =>
          rw [e1, e2] at e
          cases e
          obtain ⟨a, w, rfl, q1, q2⟩ := pairD_den h e1
          obtain ⟨as, qs, rfl, q3, q4⟩ := ih t e2
          exact ⟨a :: as, (p.1, w) :: qs, rfl, .cons q1 q3, .cons q2 q4⟩
theorem calls_dict {G : Ev} : CallS G (rDictP G.K) fDict := fun W σ r F H h ds vs Q g hd q => by
  match ds, hd with
  | [], _ => exact False.elim q
  | d :: _ :: _, _ => cases d <;> exact False.elim q
  | [d], .cons hx .nil =>
    cases hx with
    | lst hq hn hl =>
      rename_i a xs us
      have q3 : Aft G W F σ r H (if xs.length ≤ 1000 then dictOf h (pairsD xs) else .bad) _ := q
      clear q
      by_cases hz : xs.length ≤ 1000
      · rw [if_pos hz] at q3
        cases ep : pairsD xs with
        | none => rw [ep] at q3; exact False.elim q3
        | some kds =>
          rw [ep] at q3
          obtain ⟨as, qs, e1, pr, dp⟩ := pairsD_den hl ep
          obtain ⟨ws, m1, m2, m3⟩ := merge_den (ks := []) (ds := []) (vs := []) dp rfl .nil
          have m1 : mergeK [] qs = _ := m1
          refine ⟨a, as, qs, rfl, by rw [← e1]; exact SqL.of hq, pr, fun p hp => ?_⟩
          have sm : Same H (upd H p (.dK (mergeK [] qs))) := same_new hp
          have ee := grow_ext (r := r) hp sm
          have g2 : GoodH G (r ++ [p]) F (h ++ [.dic (mergeD kds [] []).1 (mergeD kds [] []).2]) (upd H p (.dK (mergeK [] qs))) := by
            refine g.grow hp sm ⟨ws, ?_, m2, DenL.mono g.mine ee _ _ m3⟩
            rw [upd_same, m1]
          refine q3 (r ++ [p]) _ ee g2 _ (.ref ?_)
          rw [← g.len, List.getElem?_append_right (Nat.le_refl _)]
          simp
      · rw [if_neg hz] at q3; exact False.elim q3
    | _ => exact False.elim q
end CH

/-! CHJ: what a def leaves behind and nobody names is forgotten. -/
namespace CH
open PySem PySem.Spec PyProof.Rows L2
open Classical in
noncomputable def gcK (h : MH) : Res D → Res D
  | .ok d h' => if pureD d = true ∧ h'.take h.length = h then .ok d h else .bad
  | .exc c none h' => if h'.take h.length = h then .exc c none h else .bad
  | _ => .bad
noncomputable def gcR (c : Fn) : Fn := fun ds h => gcK h (c ds h)
theorem gcK_pos {h h1 : MH} {d : D} (p : pureD d = true) (q : h1.take h.length = h) : gcK h (.ok d h1) = .ok d h := if_pos ⟨p, q⟩
theorem gcK_exc {h h1 : MH} {c : Str} (q : h1.take h.length = h) : gcK h (.exc c none h1) = .exc c none h := if_pos q
theorem gcK_excn {h h1 : MH} {c : Str} (q : ¬ h1.take h.length = h) : gcK h (.exc c none h1) = .bad := if_neg q
theorem gcK_neg {h h1 : MH} {d : D} (p : ¬ (pureD d = true ∧ h1.take h.length = h)) : gcK h (.ok d h1) = .bad := if_neg p
theorem gc_good {G : Ev} {r r' F : List Addr} {H H' : Hp} {h h' : MH} (g : GoodH G r F h H) (e : Ext r H r' H') (g' : GoodH G r' F h' H') (ht : h'.take h.length = h) : GoodH G r F h H' := by
  obtain ⟨d0, ed, hd0⟩ := e.pre
  refine ⟨g.len, g.nd, fun a ha => ⟨(g'.fd a ha).1, (g.fd a ha).2⟩, fun i o hi => ?_⟩
  obtain ⟨a0, ea0, q0⟩ := g.ob i o hi
  have hl : i < h.length := (List.getElem?_eq_some_iff.mp hi).1
  have hi' : h'[i]? = some o := by
    have : (h'.take h.length)[i]? = some o := by rw [ht]; exact hi
    rw [List.getElem?_take_of_lt hl] at this
    exact this
  obtain ⟨a, ea, q⟩ := g'.ob i o hi'
  rw [e.get ea0] at ea
  cases ea
  exact ⟨a0, ea0, ODen.cut ed q0 q⟩
theorem gc_sp {G : Ev} {n : Nat} {c : Fn} (vs : List V) (H : Hp) (Q : VK) (E : XK) (q : spD G n (gcR c) vs H Q E) : spD G n c vs H Q E := by
  obtain ⟨r, F, h, ds, g, hd, q⟩ := q
  refine ⟨r, F, h, ds, g, hd, ?_⟩
  unfold ckN at q ⊢
  by_cases z : ds.length = n
  · rw [if_pos z] at q ⊢
    have q : Aft G (WX0 E) F [] r H (gcK h (c ds h)) fun r' H' d _ => ∀ v, Den G r' F H' d v → Q v H' := q
    cases hc : c ds h with
    | ok d h1 =>
      rw [hc] at q
      by_cases p : pureD d = true ∧ h1.take h.length = h
      · rw [gcK_pos p.1 p.2] at q
        intro r' H' e g' v hv
        have g2 := gc_good g e g' p.2
        have ee : Ext r H r H' := ⟨⟨[], by simp, fun _ h => by cases h⟩, e.keep⟩
        obtain ⟨d0, ed, _⟩ := e.pre
        refine q r H' ee g2 v (Den.moved (fun a ⟨h1, h2⟩ => ⟨fun hm => h1 (by rw [ed]; exact List.mem_append_left _ hm), h2⟩) _ _ p.1 hv)
      · rw [gcK_neg p] at q; exact False.elim q
    | exc x a h1 =>
      rw [hc] at q
      cases a with
      | some a => exact False.elim q
      | none =>
        by_cases p : h1.take h.length = h
        · rw [gcK_exc p] at q
          intro r' H' cls y e g' xd
          have g2 := gc_good g e g' p
          have ee : Ext r H r H' := ⟨⟨[], by simp, fun _ h => by cases h⟩, e.keep⟩
          exact q r H' cls y ee g2 xd
        · rw [gcK_excn p] at q; exact False.elim q
    | bad => rw [hc] at q; exact False.elim q
  · rw [if_neg z] at q; exact False.elim q
section
variable {P : Program} {w : World} {K : PySem.W.Frag} {mg : Str → Option Value} {base : Heap} {k : Nat} {ps : List Str} {c : Fn} {f : Addr}
theorem FT.gc (t : FT P w K mg base k ps c f) : FT P w K mg base k ps (gcR c) f := by
  obtain ⟨fd, h1, h2⟩ := t.ex
  exact ⟨⟨fd, h1.imp gc_sp, h2⟩, t.kp⟩
end
end CH

/-! CHK: while; defs that are never reached. -/
namespace CH
open PySem PySem.Spec PyProof.Rows L2
def whD (c : Mo Bool) (b : Ms) : Nat → Ms
  | 0 => fun _ _ => .bad
  | n + 1 => fun sl h => bindS sl (c sl h) fun x h1 => if x = true then turnR (whD c b n) (b sl h1) else .nx sl h1
/-- a while of at most n turns -/
def sWhile (n : Nat) (c : Mo Bool) (b : Ms) : Ms := whD c b n
theorem ds_while {X : Cx} {W : WX} {n : Nat} {c : Expr} {body : List Stmt} {pos : Pos} {fc : Mo Bool} {fb : Ms} (hp : PassesOwn (model X.prog X.w) X.A X.env X.xe) (hc : PT X c (tT (evOf X) W fc)) (hb : PSs X body (tS (evOf X) W fb)) : PS X (.While c body [] pos) (tS (evOf X) W (sWhile n fc fb)) :=
  (ps_while hp hc hb).imp fun E σ H ⟨r, F, sl, h, s, g, q⟩ => by
    refine ⟨fun m σ' H' => ∃ r' sl' h', CH.SlR (evOf X) r' F H' sl' σ' ∧ GoodH (evOf X) r' F h' H' ∧ SAft (evOf X) W F r' H' (whD fc fb m sl' h') E, ⟨n, r, sl, h, s, g, q⟩, ?_⟩
    rintro m σ' H' ⟨r', sl', h', s', g', q'⟩
    cases m with
    | zero => exact False.elim q'
    | succ m =>
      have q2 : SAft (evOf X) W F r' H' (bindS sl' (fc sl' h') fun x h1 => if x = true then turnR (whD fc fb m) (fb sl' h1) else .nx sl' h1) E := q'
      refine tT.of s' g' ((q2.bindS s' g').imp fun r2 H2 b h2 e2 g2 q3 => ?_)
      have s2 := s'.mono g'.mine e2
      cases b with
      | false =>
        have q4 : SAft (evOf X) W F r2 H2 (.nx sl' h2) E := q3
        exact q4.nxh s2 g2
      | true =>
        have q4 : SAft (evOf X) W F r2 H2 (turnR (whD fc fb m) (fb sl' h2)) E := q3
        refine ⟨fun σ3 H3 => ∃ r3 sl3 h3, CH.SlR (evOf X) r3 F H3 sl3 σ3 ∧ GoodH (evOf X) r3 F h3 H3 ∧ SAft (evOf X) W F r3 H3 (whD fc fb m sl3 h3) E, fun σ3 H3 ⟨r3, sl3, h3, a1, a2, a3⟩ => ⟨m, Nat.lt_succ_self m, r3, sl3, h3, a1, a2, a3⟩, tS.of s2 g2 ?_⟩
        cases hbr : fb sl' h2 with
        | nx sl3 h3 =>
          rw [hbr] at q4
          exact fun r3 H3 σ3 e3 g3 s3 => ⟨r3, sl3, h3, s3, g3, SAft.later q4 e3 g3⟩
        | ct sl3 h3 =>
          rw [hbr] at q4
          exact fun r3 H3 σ3 e3 g3 s3 => ⟨r3, sl3, h3, s3, g3, SAft.later q4 e3 g3⟩
        | bk sl3 h3 => rw [hbr] at q4; exact q4
        | rt d h3 => rw [hbr] at q4; exact q4
        | exc c a sl3 h3 => rw [hbr] at q4; exact q4
        | bad => rw [hbr] at q4; exact False.elim q4
theorem dss_never {X : Cx} {W : WX} {sts : List Stmt} : PSs X sts (tS (evOf X) W sNever) := pss_never.imp fun E σ H ⟨r, F, sl, h, s, g, q⟩ => q
def oNeg : D → MH → Res D := fun x h => match x with
  | .int i => .ok (.int (-i)) h
  | _ => .bad
theorem de_neg {X : Cx} {W : WX} {a : Expr} {fa : Mo D} {pos : Pos} (ha : PE X a (tE (evOf X) W fa)) : PE X (.UnaryOp .USub a pos) (tE (evOf X) W (mUn oNeg fa)) :=
  (pe_un un_neg ha).imp fun σ H Q ⟨r, F, sl, h, s, g, q⟩ => tE.of s g (q.bind.imp fun r1 H1 x h1 e1 g1 q1 v hv => by
    cases hv with
    | int i => exact ⟨i, rfl, Aft.here q1 g1 _ (.int _)⟩
    | _ => exact False.elim q1)
end CH

/-! CHL: a list + a list, as a list that will change; a list of what is told as one that will change. -/
namespace CH
open PySem PySem.Spec PyProof.Rows L2
theorem lstD_at {G : Ev} {r F : List Addr} {H : Hp} {h : MH} {x : D} {v : V} {xs : List D} (g : GoodH G r F h H) (hx : Den G r F H x v) (e : lstD h x = some xs) : ∃ a vs, v = .ref a ∧ H a = some (.lst vs) ∧ DenL G r F H xs vs := by
  cases hx with
  | lst hq hn hl => cases e; exact ⟨_, _, rfl, hq, hl⟩
  | ref hk =>
    obtain ⟨a', ea, vs, h1, h2⟩ := g.ob _ _ (oLst_some (show oLst h[_]? = some xs from e))
    rw [hk] at ea; cases ea
    exact ⟨_, _, rfl, h1, h2⟩
  | _ => cases e
def addLR (h : MH) : Option (List D) → Option (List D) → Res D
  | some xs, some ys => newLst (xs ++ ys) h
  | _, _ => .bad
/-- two lists as a new one that will change -/
def oAddL : D → D → MH → Res D := fun x y h => addLR h (lstD h x) (lstD h y)
theorem ops_addL {G : Ev} : OpS G (rAddA G.K) oAddL := fun W σ r F H h x y v u Q g hx hy q => by
  have q3 : Aft G W F σ r H (addLR h (lstD h x) (lstD h y)) _ := q
  clear q
  cases ex : lstD h x with
  | none => rw [ex] at q3; exact False.elim q3
  | some xs =>
    cases ey : lstD h y with
    | none => rw [ex, ey] at q3; exact False.elim q3
    | some ys =>
      rw [ex, ey] at q3
      have q4 : Aft G W F σ r H (if (xs ++ ys).length ≤ lim then Res.ok (D.ref h.length) (h ++ [.lst (xs ++ ys)]) else .bad) _ := q3
      obtain ⟨a, vs, rfl, ha, hd⟩ := lstD_at g hx ex
      obtain ⟨b, us, rfl, hb, he⟩ := lstD_at g hy ey
      by_cases z : (xs ++ ys).length ≤ lim
      · rw [if_pos z] at q4
        refine .inr (.inr (.inr ⟨_, _, _, _, rfl, rfl, ha, hb, by rw [← hd.len, ← he.len, ← List.length_append]; exact lim_ok z, fun p hp => ?_⟩))
        have sm : Same H (upd H p (.lst (vs ++ us))) := same_new hp
        have ee := grow_ext (r := r) hp sm
        refine q4 (r ++ [p]) _ ee (g.grow hp sm ⟨_, upd_same, DenL.mono g.mine ee _ _ (hd.app he)⟩) _ (.ref ?_)
        rw [← g.len, List.getElem?_append_right (Nat.le_refl _)]
        simp
      · rw [if_neg z] at q4; exact False.elim q4
end CH

/-! CHM: a for over a tuple or over a heap list, as the value is. -/
namespace CH
open PySem PySem.Spec PyProof.Rows L2
/-- either of the two iterables -/
def iEither (K : PySem.W.Frag) (tl : TE) : TI := fun σ H R => tl σ H fun x H1 => ∃ a, x = .ref a ∧ (((∃ xs, SqL K H1 a xs) ∧ R (Itl K a) H1) ∨ ((∃ xs, SqT K H1 a xs) ∧ R (Itt K a) H1))
theorem pi_either {X : Cx} {tg l : Expr} {tl : TE} (hl : PE X l tl) : PI X tg l (iEither X.K tl) where
  run pins s σ H R I h := by
    refine thn (hl.run pins s σ H _ I h) fun v s1 q0 => ?_
    match q0 with
    | ⟨x, H1, I1, r1, a, ex, q⟩ =>
      cases ex
      cases r1
      refine q.elim (fun z => ?_) fun z => ?_
      · match I1.list z.1.choose_spec with
        | ⟨_, _, p, _⟩ => exact wpAny_pyIter_list p.isList (pi_one (tk := s1.toks) I1 _ (turn_list a _) ⟨_, Heap.get?_push_size _ rfl, rfl, rfl⟩ z.2)
      · match I1.tuple z.1.choose_spec with
        | ⟨its, _, p, _⟩ => exact wpAny_pyIter_tuple (items := its.toArray) p (pi_one (tk := s1.toks) I1 _ (turn_tuple a _) ⟨_, Heap.get?_push_size _ rfl, rfl, rfl⟩ z.2)
def tupD : D → Option (List D)
  | .tup xs => some xs
  | _ => none
/-- a for over a tuple or a heap list -/
def sForB (fo : Mo D) (tg : Tg) (body : Ms) : Ms := fun sl h => bindS sl (fo sl h) fun x h1 => match tupD x with
  | some xs => forD tg body xs sl h1
  | none => match refD x with
    | some k => if (oLst h1[k]?).isSome = true then forH k tg body (lenH h1 k) 0 sl h1 else .bad
    | none => .bad
theorem tupD_some {x : D} {xs : List D} (h : tupD x = some xs) : x = .tup xs := by cases x <;> first | (cases h; rfl) | cases h
theorem ds_forB {X : Cx} {W : WX} {tg : Tg} {te iter : Expr} {body : List Stmt} {pos : Pos} {fo : Mo D} {fb : Ms} (hp : PassesOwn (model X.prog X.w) X.A X.env X.xe) (hc : X.calm = true) (hi : PE X iter (tE (evOf X) W fo)) (hg : PG X te (tgV X.K tg)) (hb : PSs X body (tS (evOf X) W fb))
    (hs : ∀ x, foldedSetIterable iter X.env x = pure x := by intro _; rfl) : PS X (.For te iter body [] pos) (tS (evOf X) W (sForB fo tg fb)) :=
  (ps_for hp hc (pi_either hi) hg hb hs).imp fun E σ H ⟨r, F, sl, h, s, g, q⟩ => by
    refine tE.of s g ((q.bindS s g).imp fun r1 H1 x h1 e1 g1 q1 v hv => ?_)
    have q0 : SAft (evOf X) W F r1 H1 (match tupD x with
      | some xs => forD tg fb xs sl h1
      | none => match refD x with
        | some k => if (oLst h1[k]?).isSome = true then forH k tg fb (lenH h1 k) 0 sl h1 else .bad
        | none => .bad) E := q1
    clear q1
    cases et : tupD x with
    | some xs =>
      rw [et] at q0
      have q1 : SAft (evOf X) W F r1 H1 (forD tg fb xs sl h1) E := q0
      clear q0
      cases tupD_some et
      cases hv with
      | tup hq hl =>
        refine ⟨_, rfl, .inr ⟨⟨_, hq.sq⟩, ?_⟩⟩
        have hJ := itd_tup g1.mine g1.mineF hq hl
        refine ⟨fun i m σ' H' => ∃ r' sl' h', Ext r1 H1 r' H' ∧ GoodH (evOf X) r' F h' H' ∧ CH.SlR (evOf X) r' F H' sl' σ' ∧ m = xs.length - i ∧ i ≤ xs.length ∧ SAft (evOf X) W F r' H' (forD tg fb (xs.drop i) sl' h') E, ⟨xs.length, r1, sl, h1, .refl, g1, s.mono g.mine e1, by simp, Nat.zero_le _, q1⟩, ?_⟩
        rintro i m σ' H' ⟨r', sl', h', e', g', s', rfl, hi', q'⟩
        have hJ' := hJ r' F H' e'.toF g'.mine .refl i
        by_cases hlt : i < xs.length
        · have hd : xs[i]? = some xs[i] := List.getElem?_eq_getElem hlt
          obtain ⟨hgo, hy⟩ := hJ'.1 _ hd
          refine .inr ⟨hgo, fun σ2 H2 => ∃ r2 sl2 h2, Ext r1 H1 r2 H2 ∧ GoodH (evOf X) r2 F h2 H2 ∧ CH.SlR (evOf X) r2 F H2 sl2 σ2 ∧ SAft (evOf X) W F r2 H2 (forD tg fb (xs.drop (i + 1)) sl2 h2) E,
            fun σ2 H2 ⟨r2, sl2, h2, a1, a2, a3, a4⟩ => ⟨xs.length - (i + 1), by omega, r2, sl2, h2, a1, a2, a3, rfl, hlt, a4⟩, fun x H'' yld => ?_⟩
          obtain ⟨sm, hx⟩ := hy x H'' yld
          rw [List.drop_eq_getElem_cons hlt] at q'
          unfold forD at q'
          have g'' := g'.same sm
          have s'' := s'.mono g'.mine (.same sm)
          have ee := e'.trans g'.mine (Ext.same (r := r') sm)
          cases ht : tgD tg xs[i] sl' with
          | none => rw [ht] at q'; exact False.elim q'
          | some sl1 =>
            rw [ht] at q'
            have q'' : SAft (evOf X) W F r' H' (turnR (forD tg fb (xs.drop (i + 1))) (fb sl1 h')) E := q'
            refine tgV_of (G := evOf X) hx ht s'' fun σ2 s2 _ => tS.of s2 g'' ?_
            cases hbr : fb sl1 h' with
            | nx sl2 h2 =>
              rw [hbr] at q''
              exact fun r3 H3 σ3 e3 g3 s3 => ⟨r3, sl2, h2, ee.trans g''.mine e3, g3, s3, SAft.later q'' ((Ext.same (r := r') sm).trans g''.mine e3) g3⟩
            | ct sl2 h2 =>
              rw [hbr] at q''
              exact fun r3 H3 σ3 e3 g3 s3 => ⟨r3, sl2, h2, ee.trans g''.mine e3, g3, s3, SAft.later q'' ((Ext.same (r := r') sm).trans g''.mine e3) g3⟩
            | bk sl2 h2 =>
              rw [hbr] at q''
              exact fun r3 H3 σ3 e3 g3 s3 => q'' r3 H3 σ3 ((Ext.same (r := r') sm).trans g''.mine e3) g3 s3
            | rt d h2 =>
              rw [hbr] at q''
              exact fun r3 H3 v e3 g3 => q'' r3 H3 v ((Ext.same (r := r') sm).trans g''.mine e3) g3
            | exc c a sl2 h2 =>
              rw [hbr] at q''
              exact fun r3 H3 σ3 cls x e3 g3 => q'' r3 H3 σ3 cls x ((Ext.same (r := r') sm).trans g''.mine e3) g3
            | bad => rw [hbr] at q''; exact False.elim q''
        · have ei : i = xs.length := by omega
          subst ei
          rw [List.drop_length] at q'
          exact .inl ⟨hJ'.2 (by simp), q'.nxh s' g'⟩
    | none =>
      rw [et] at q0
      have q1 : SAft (evOf X) W F r1 H1 (match refD x with
        | some k => if (oLst h1[k]?).isSome = true then forH k tg fb (lenH h1 k) 0 sl h1 else .bad
        | none => .bad) E := q0
      clear q0
      have q3 : SAft (evOf X) W F r1 H1 (match refD x with
        | some k => if (oLst h1[k]?).isSome = true then forH k tg fb (lenH h1 k) 0 sl h1 else .bad
        | none => .bad) E := q1
      clear q1
      cases ex : refD x with
      | none => rw [ex] at q3; exact False.elim q3
      | some k =>
        rw [ex] at q3
        have q4 : SAft (evOf X) W F r1 H1 (if (oLst h1[k]?).isSome = true then forH k tg fb (lenH h1 k) 0 sl h1 else .bad) E := q3
        clear q3
        cases refD_some ex
        by_cases hsm : (oLst h1[k]?).isSome = true
        · rw [if_pos hsm] at q4
          cases hv with
          | ref hk =>
            rename_i a
            obtain ⟨xs0, hxs0⟩ := Option.isSome_iff_exists.mp hsm
            obtain ⟨vs0, ha0, _⟩ := lst_at g1 hk hxs0
            refine ⟨a, rfl, .inl ⟨⟨vs0, SqL.of ha0⟩, fun i m σ' H' => ∃ r' sl' h', Ext r1 H1 r' H' ∧ GoodH (evOf X) r' F h' H' ∧ CH.SlR (evOf X) r' F H' sl' σ' ∧ SAft (evOf X) W F r' H' (forH k tg fb m i sl' h') E, ⟨lenH h1 k, r1, sl, h1, .refl, g1, s.mono g.mine e1, q4⟩, ?_⟩⟩
            rintro i m σ' H' ⟨r', sl', h', e', g', s', q'⟩
            have hk' := e'.get hk
            cases m with
            | zero =>
              have q5 : SAft (evOf X) W F r' H' (match oLst h'[k]? with
                | some xs => if xs.length ≤ i then .nx sl' h' else .bad
                | none => .bad) E := q'
              cases ho : oLst h'[k]? with
              | none => rw [ho] at q5; exact False.elim q5
              | some xs =>
                rw [ho] at q5
                have q6 : SAft (evOf X) W F r' H' (if xs.length ≤ i then .nx sl' h' else .bad) E := q5
                by_cases hl : xs.length ≤ i
                · rw [if_pos hl] at q6
                  obtain ⟨vs, ha, hd⟩ := lst_at g' hk' ho
                  exact .inl ⟨⟨vs, SqL.of ha, by rw [← hd.len]; exact hl⟩, q6.nxh s' g'⟩
                · rw [if_neg hl] at q6; exact False.elim q6
            | succ m =>
              have q5 : SAft (evOf X) W F r' H' (match oLst h'[k]? with
                | some xs => (match xs[i]? with
                  | none => .nx sl' h'
                  | some d => match tgD tg d sl' with
                    | none => .bad
                    | some sl1 => turnR (forH k tg fb m (i + 1)) (fb sl1 h'))
                | none => .bad) E := q'
              cases ho : oLst h'[k]? with
              | none => rw [ho] at q5; exact False.elim q5
              | some xs =>
                rw [ho] at q5
                obtain ⟨vs, ha, hd⟩ := lst_at g' hk' ho
                have q6 : SAft (evOf X) W F r' H' (match xs[i]? with
                  | none => .nx sl' h'
                  | some d => match tgD tg d sl' with
                    | none => .bad
                    | some sl1 => turnR (forH k tg fb m (i + 1)) (fb sl1 h')) E := q5
                clear q5
                cases hx : xs[i]? with
                | none =>
                  rw [hx] at q6
                  exact .inl ⟨⟨vs, SqL.of ha, hd.none hx⟩, q6.nxh s' g'⟩
                | some d =>
                  rw [hx] at q6
                  have q7 : SAft (evOf X) W F r' H' (match tgD tg d sl' with
                    | none => .bad
                    | some sl1 => turnR (forH k tg fb m (i + 1)) (fb sl1 h')) E := q6
                  obtain ⟨vd, hv1, hv2⟩ := hd.get hx
                  refine .inr ⟨⟨vs, vd, SqL.of ha, hv1⟩, fun σ2 H2 => ∃ r2 sl2 h2, Ext r1 H1 r2 H2 ∧ GoodH (evOf X) r2 F h2 H2 ∧ CH.SlR (evOf X) r2 F H2 sl2 σ2 ∧ SAft (evOf X) W F r2 H2 (forH k tg fb m (i + 1) sl2 h2) E,
                    fun σ2 H2 ⟨r2, sl2, h2, a1, a2, a3, a4⟩ => ⟨m, Nat.lt_succ_self m, r2, sl2, h2, a1, a2, a3, a4⟩, fun y H'' ⟨eH, ey⟩ => ?_⟩
                  subst eH
                  have := ey vs (SqL.of ha)
                  rw [hv1] at this; cases this
                  cases ht : tgD tg d sl' with
                  | none => rw [ht] at q7; exact False.elim q7
                  | some sl1 =>
                    rw [ht] at q7
                    have q8 : SAft (evOf X) W F r' H'' (turnR (forH k tg fb m (i + 1)) (fb sl1 h')) E := q7
                    refine tgV_of (G := evOf X) hv2 ht s' fun σ2 s2 _ => tS.of s2 g' ?_
                    cases hbr : fb sl1 h' with
                    | nx sl2 h2 =>
                      rw [hbr] at q8
                      exact fun r3 H3 σ3 e3 g3 s3 => ⟨r3, sl2, h2, e'.trans g'.mine e3, g3, s3, SAft.later q8 e3 g3⟩
                    | ct sl2 h2 =>
                      rw [hbr] at q8
                      exact fun r3 H3 σ3 e3 g3 s3 => ⟨r3, sl2, h2, e'.trans g'.mine e3, g3, s3, SAft.later q8 e3 g3⟩
                    | bk sl2 h2 => rw [hbr] at q8; exact q8
                    | rt d h2 => rw [hbr] at q8; exact q8
                    | exc c a sl2 h2 => rw [hbr] at q8; exact q8
                    | bad => rw [hbr] at q8; exact False.elim q8
        · rw [if_neg hsm] at q4; exact False.elim q4
end CH

/-! CHN: max of a list of integers. -/
namespace CH
open PySem PySem.Spec PyProof.Rows L2
def maxI : List Int → Int
  | [] => 0
  | x :: xs => xs.foldl (fun a b => if b > a then b else a) x
theorem foldl_max (xs : List Int) : ∀ x, (xs.foldl (fun a b => if b > a then b else a) x ∈ x :: xs) ∧ x ≤ xs.foldl (fun a b => if b > a then b else a) x ∧ ∀ a ∈ xs, a ≤ xs.foldl (fun a b => if b > a then b else a) x := by
  induction xs with
  | nil => intro x; simp
  | cons y ys ih =>
    intro x
    obtain ⟨h1, h2, h3⟩ := ih (if y > x then y else x)
    simp only [List.foldl_cons]
    refine ⟨?_, ?_, ?_⟩
    · rcases List.mem_cons.mp h1 with e | e
      · rw [e]
        split <;> simp
      · exact List.mem_cons_of_mem _ (List.mem_cons_of_mem _ e)
    · split at h2 <;> split <;> omega
    · intro a ha
      rcases List.mem_cons.mp ha with rfl | ha
      · split at h2 <;> split <;> omega
      · exact h3 a ha
theorem maxI_mem {js : List Int} (h : js ≠ []) : maxI js ∈ js ∧ ∀ a ∈ js, a ≤ maxI js := by
  cases js with
  | nil => exact absurd rfl h
  | cons x xs =>
    obtain ⟨h1, h2, h3⟩ := foldl_max xs x
    refine ⟨h1, fun a ha => ?_⟩
    rcases List.mem_cons.mp ha with rfl | ha
    · exact h2
    · exact h3 a ha
theorem maxI_eq {js : List Int} {M : Int} (h1 : M ∈ js) (h2 : ∀ a ∈ js, a ≤ M) : M = maxI js := by
  have hne : js ≠ [] := by rintro rfl; cases h1
  obtain ⟨h3, h4⟩ := maxI_mem hne
  exact Int.le_antisymm (h4 M h1) (h2 _ h3)
def rMaxL (K : PySem.W.Frag) : List V → Hp → VK → Prop := fun vs H Q => ∃ (a : Addr) (js : List Int), vs = [.ref a] ∧ SqL K H a (js.map V.int) ∧ js ≠ [] ∧ Q (.int (maxI js)) H
theorem vals_ints : ∀ {js : List Int} {its : List Value}, Vals (js.map V.int) its → ∃ ps : List (Int × Tok), its = ps.map (fun p => Value.int p.1 p.2) ∧ ps.map (·.1) = js
  | [], _, .nil => ⟨[], rfl, rfl⟩
  | j :: js, _, .cons h t => by
    obtain ⟨ps, e1, e2⟩ := vals_ints t
    obtain ⟨tk, rfl⟩ := h
    exact ⟨(j, tk) :: ps, by rw [e1]; rfl, by rw [List.map_cons, e2]⟩
theorem cr_maxL {X : Cx} (hc : X.calm = true) : CallR X (.builtin "max") (rMaxL X.K) := by
  intro pins s σ H vs us Q I r h
  obtain ⟨a, js, rfl, hs, hne, q⟩ := h
  obtain ⟨its, rv, hl, _⟩ := I.list hs
  rw [Vals.ref1 r]
  obtain ⟨ps, rfl, rfl⟩ := vals_ints rv
  have hl2 : s.heap.IsList a (intItems ps.toArray) := by
    have := hl.isList
    unfold intItems
    rw [List.map_toArray]
    exact this
  have hsz : 0 < ps.toArray.size := by
    rw [List.size_toArray]
    cases ps with
    | nil => exact absurd rfl hne
    | cons p ps => simp
  refine max_intList (I.ok.hd hc) hl2 hsz fun v h' tk hv k => ⟨_, H, I.kept k, ?_, q⟩
  obtain ⟨t, rfl⟩ := intItems_at hv
  obtain ⟨h1, h2⟩ := argBest_gt (numAt ps.toArray) (ps.toArray.size - 1)
  generalize argBest (fun i j => decide (numAt ps.toArray i > numAt ps.toArray j)) (ps.toArray.size - 1) = m at *
  have hm : m < ps.length := by
    rw [List.size_toArray] at h1 hsz
    omega
  have hnum : ∀ i (hi : i < ps.length), numAt ps.toArray i = (ps[i]).1 := by
    intro i hi
    unfold numAt
    simp [hi]
  have e : numAt ps.toArray m = maxI (ps.map (·.1)) := by
    refine maxI_eq ?_ ?_
    · rw [hnum m hm]
      exact List.mem_map.mpr ⟨_, List.getElem_mem hm, rfl⟩
    · intro x hx
      obtain ⟨p, hp, rfl⟩ := List.mem_map.mp hx
      obtain ⟨i, hi, rfl⟩ := List.getElem_of_mem hp
      rw [← hnum i hi]
      refine h2 i ?_
      rw [List.size_toArray]
      omega
  rw [← e]
  exact ⟨t, rfl⟩
def intsD : List D → Option (List Int)
  | [] => some []
  | .int i :: ds => (intsD ds).map fun js => i :: js
  | _ => none
def maxR (h : MH) : Option (List Int) → Res D
  | some (j :: js) => .ok (.int (maxI (j :: js))) h
  | _ => .bad
def fMaxL : List D → MH → Res D := fun ds h => match ds with
  | [.lst xs] => maxR h (intsD xs)
  | _ => .bad
theorem intsD_some : ∀ {ds : List D} {js : List Int}, intsD ds = some js → ds = js.map D.int
  | [], js, h => by cases h; rfl
  | d :: ds, js, h => by
    cases d with
    | int i =>
      have h : (intsD ds).map (fun js => i :: js) = some js := h
      cases e : intsD ds with
      | none => rw [e] at h; cases h
      | some ks =>
        rw [e] at h
        cases h
        rw [intsD_some e]
        rfl
    | _ => cases h
theorem denL_ints {G : Ev} {r F : List Addr} {H : Hp} : ∀ {js : List Int} {vs : List V}, DenL G r F H (js.map D.int) vs → vs = js.map V.int
  | [], _, h => by cases h; rfl
  | j :: js, _, h => by
    cases h with
    | cons h1 h2 =>
      cases h1
      rw [denL_ints h2]
      rfl
theorem calls_maxL {G : Ev} : CallS G (rMaxL G.K) fMaxL := fun W σ r F H h ds vs Q g hd q => by
  match ds, hd with
  | [], _ => exact False.elim q
  | d :: e :: _, _ => cases d <;> exact False.elim q
  | [x], .cons hx .nil =>
    cases hx with
    | lst hq hn hl =>
      rename_i xs vs
      have q : Aft G W F σ r H (maxR h (intsD xs)) _ := q
      cases e : intsD xs with
      | none => rw [e] at q; exact False.elim q
      | some js =>
        rw [e] at q
        cases js with
        | nil => exact False.elim q
        | cons j js =>
          have q : Aft G W F σ r H (Res.ok (D.int (maxI (j :: js))) h) _ := q
          rw [intsD_some e] at hl
          have ev := denL_ints hl
          subst ev
          exact ⟨_, j :: js, rfl, SqL.of hq, by simp, q.here g _ (.int _)⟩
    | _ => exact False.elim q
end CH

/-! CHP: a list (of anything) == []. -/
namespace CH
open PySem PySem.SeqAt PySem.Spec PyProof.Rows L2
def rEqE (K : PySem.W.Frag) : R2 := fun x y H Q => ∃ a b xs, x = .ref a ∧ y = .ref b ∧ SqL K H a xs ∧ SqL K H b [] ∧ Q (.bl xs.isEmpty) H
def rNeE (K : PySem.W.Frag) : R2 := fun x y H Q => ∃ a b xs, x = .ref a ∧ y = .ref b ∧ SqL K H a xs ∧ SqL K H b [] ∧ Q (.bl (!xs.isEmpty)) H
theorem vals_nil {us : List Value} (r : Vals [] us) : us = [] := by cases r; rfl
theorem vals_ne {x : V} {xs : List V} {us : List Value} (r : Vals (x :: xs) us) : ∃ u us', us = u :: us' := by cases r; exact ⟨_, _, rfl⟩
theorem opr_eqE {X : Cx} {k : Nat} (hr : Room k X.A) : OpR X (compareOp .Eq) (rEqE X.K) := by
  intro pins s σ H x y v u Q I rx ry h
  obtain ⟨a, b, xs, rfl, rfl, h1, h2, q⟩ := h
  cases rx; cases ry
  obtain ⟨us, r1, l1, _⟩ := I.list h1
  obtain ⟨ws, r2, l2, _⟩ := I.list h2
  have e2 := vals_nil r2
  subst e2
  have hu : X.A.units < cLine := by have := hr.units; omega
  cases xs with
  | nil =>
    have e1 := vals_nil r1
    subst e1
    exact eq_listAt (e := fun _ => true) l1.isList l2.isList rfl hu (fun j h1 _ => absurd h1 (by simp)) ⟨.bl _, H, I, rfl, q⟩
  | cons x xs =>
    obtain ⟨w, us', rfl⟩ := vals_ne r1
    exact eq_list_lengthsAt l1.isList l2.isList (by simp) hu ⟨.bl _, H, I, rfl, q⟩
theorem opr_neE {X : Cx} {k : Nat} (hr : Room k X.A) : OpR X (compareOp .NotEq) (rNeE X.K) := by
  intro pins s σ H x y v u Q I rx ry h
  obtain ⟨a, b, xs, rfl, rfl, h1, h2, q⟩ := h
  cases rx; cases ry
  obtain ⟨us, r1, l1, _⟩ := I.list h1
  obtain ⟨ws, r2, l2, _⟩ := I.list h2
  have e2 := vals_nil r2
  subst e2
  have hu : X.A.units < cLine := by have := hr.units; omega
  cases xs with
  | nil =>
    have e1 := vals_nil r1
    subst e1
    exact RcNeAt.lists (e := fun _ => true) l1.isList l2.isList rfl hu (fun j h1 _ => absurd h1 (by simp)) _ _ _ _ ⟨.bl _, H, I, rfl, q⟩
  | cons x xs =>
    obtain ⟨w, us', rfl⟩ := vals_ne r1
    exact RcNeAt.lists_lengths l1.isList l2.isList (by simp) hu _ _ _ _ ⟨.bl _, H, I, rfl, q⟩
def oEqE : D → D → MH → Res D := fun x y h => match x, y with
  | .lst xs, .lst [] => .ok (.bl xs.isEmpty) h
  | _, _ => .bad
def oNeE : D → D → MH → Res D := fun x y h => match x, y with
  | .lst xs, .lst [] => .ok (.bl (!xs.isEmpty)) h
  | _, _ => .bad
theorem denL_empty {G : Ev} {r F : List Addr} {H : Hp} {xs : List D} {vs : List V} (h : DenL G r F H xs vs) : vs.isEmpty = xs.isEmpty := by cases h <;> rfl
theorem ops_eqE {G : Ev} : OpS G (rEqE G.K) oEqE := fun W σ r F H h x y v u Q g hx hy q => by
  cases x with
  | lst xs =>
    cases y with
    | lst ys =>
      cases ys with
      | nil =>
        cases hx with
        | lst h1 _ h3 =>
          cases hy with
          | lst h4 _ h6 =>
            cases h6
            refine ⟨_, _, _, rfl, rfl, SqL.of h1, SqL.of h4, ?_⟩
            rw [denL_empty h3]
            exact q.here g _ (.bl _)
      | cons y ys => exact False.elim q
    | _ => exact False.elim q
  | _ => exact False.elim q
theorem ops_neE {G : Ev} : OpS G (rNeE G.K) oNeE := fun W σ r F H h x y v u Q g hx hy q => by
  cases x with
  | lst xs =>
    cases y with
    | lst ys =>
      cases ys with
      | nil =>
        cases hx with
        | lst h1 _ h3 =>
          cases hy with
          | lst h4 _ h6 =>
            cases h6
            refine ⟨_, _, _, rfl, rfl, SqL.of h1, SqL.of h4, ?_⟩
            rw [denL_empty h3]
            exact q.here g _ (.bl _)
      | cons y ys => exact False.elim q
    | _ => exact False.elim q
  | _ => exact False.elim q
end CH

/-! CHQ: min of two, enumerate, sorted of a dict with integer keys. -/
namespace CH
open PySem PySem.Spec PyProof.Rows L2
def fMin2 : List D → MH → Res D := fun ds h => match ds with
  | [.int i, .int j] => .ok (.int (if j < i then j else i)) h
  | _ => .bad
theorem calls_min2 {G : Ev} : CallS G (fun xs H Q => ∃ i j, xs = [.int i, .int j] ∧ Q (.int (if j < i then j else i)) H) fMin2 := fun W σ r F H h ds vs Q g hd q => by
  match ds, hd with
  | [], _ => exact False.elim q
  | [x], _ => cases x <;> exact False.elim q
  | d :: e :: _ :: _, _ => cases d <;> cases e <;> exact False.elim q
  | [x, y], .cons hx (.cons hy .nil) =>
    cases hx <;> cases hy <;> first | exact False.elim q | exact ⟨_, _, rfl, q.here g _ (.int _)⟩
def enumD : Nat → List D → List D
  | _, [] => []
  | i, d :: ds => .tup [.int (i : Int), d] :: enumD (i + 1) ds
theorem enumD_get : ∀ (xs : List D) (k i : Nat), (enumD k xs)[i]? = (xs[i]?).map fun d => D.tup [.int ((k + i : Nat) : Int), d]
  | [], k, i => by simp [enumD]
  | x :: xs, k, 0 => by simp [enumD]
  | x :: xs, k, i + 1 => by
    have := enumD_get xs (k + 1) i
    simp only [enumD, List.getElem?_cons_succ, this]
    have e : k + 1 + i = k + (i + 1) := by omega
    rw [e]
def mItE (fl : Mo (List D)) : Mo (List D) := mBind fl fun ds => fun _ h => match ds with
  | [.lst xs] => .ok (enumD 0 xs) h
  | _ => .bad
theorem itd_enum {G : Ev} {r F : List Addr} {H : Hp} {a : Addr} {xs : List D} {vs : List V} (m : Mine r H) (mf : Mine F H) (hq : H a = some (.lst vs)) (hn : a ∉ r ∧ a ∉ F) (hl : DenL G r F H xs vs) : ItD G r F H (Ite G.K a) (enumD 0 xs) := by
  intro r' F' H' e m' fo i
  have hq' : SqL G.K H' a vs := SqL.of (e.keep _ _ hq hn.1 hn.2)
  rw [enumD_get]
  cases hx : xs[i]? with
  | none => exact ⟨fun d hd => (by cases hd), fun _ => ⟨vs, hq', hl.none hx⟩⟩
  | some x =>
    obtain ⟨v, h1, h2⟩ := hl.get hx
    refine ⟨fun d hd => ?_, fun hd => (by cases hd)⟩
    have hd := Option.some.inj hd
    subst hd
    refine ⟨⟨vs, v, hq', h1⟩, fun z H'' ⟨T, x', ez, hT, eH, f1⟩ => ?_⟩
    have e1 := f1 vs hq'
    rw [h1] at e1; cases e1
    subst ez eH
    have sm : Same H' (upd H' T (.tup [.int (i : Nat), v])) := same_new hT
    have q1 := Den.monoX m mf e fo _ _ h2
    refine ⟨sm, .tup (.inl upd_same) ?_⟩
    rw [Nat.zero_add]
    exact .cons (.int _) (.cons (Den.mono m' (.same sm) _ _ q1) .nil)
section
variable {X : Cx} {W : WX} {pos : Pos} {e : Expr} {fl : Mo (List D)}
theorem di_enum {p tpos : Pos} {elts : List Expr} {kk : Nat} (hg : Gl X "enumerate") (hm : X.mg "enumerate" = none) (ha : PA X [e] (tA (evOf X) W fl))
    (hs : starEach [e] X.env = [(false, eval e X.env)] := by rfl) : PI X (.Tuple elts kk tpos) (.Call (.Name "enumerate" p) [e] [] pos) (tI (evOf X) W (mItE fl)) :=
  (pi_enum hg hm ha hs).imp fun σ H R ⟨r, F, sl, h, s, g, q⟩ => tA.of s g (q.bind.imp fun r1 H1 ds h1 e1 g1 q1 vs hv => by
    match ds, hv with
    | [], _ => exact False.elim q1
    | [d], .cons hd .nil =>
      cases hd with
      | lst hq hn hl => exact ⟨_, _, rfl, SqL.of hq, q1.here g1 _ (itd_enum g1.mine g1.mineF hq hn hl)⟩
      | _ => exact False.elim q1
    | d :: _ :: _, hv => cases d <;> exact False.elim q1)
end
theorem sorted_unique : ∀ {a b : List Int}, a.Perm b → a.Pairwise (· ≤ ·) → b.Pairwise (· ≤ ·) → a = b
  | [], b, h, _, _ => by rw [List.nil_perm.mp h]
  | x :: a, [], h, _, _ => by cases List.perm_nil.mp h
  | x :: a, y :: b, h, h1, h2 => by
    have hx := h.mem_iff.mp (List.mem_cons_self (a := x) (l := a))
    have hy := h.mem_iff.mpr (List.mem_cons_self (a := y) (l := b))
    have e1 : y ≤ x := by
      rcases List.mem_cons.mp hx with e | e
      · rw [e]; exact Int.le_refl _
      · exact List.rel_of_pairwise_cons h2 e
    have e2 : x ≤ y := by
      rcases List.mem_cons.mp hy with e | e
      · rw [e]; exact Int.le_refl _
      · exact List.rel_of_pairwise_cons h1 e
    have e3 : x = y := Int.le_antisymm e2 e1
    subst e3
    rw [sorted_unique (List.Perm.cons_inv h) (List.Pairwise.of_cons h1) (List.Pairwise.of_cons h2)]
def sortI (ks : List Int) : List Int := ks.mergeSort fun a b => decide (a ≤ b)
theorem sortI_sorted (ks : List Int) : (sortI ks).Pairwise (· ≤ ·) := by
  have := List.pairwise_mergeSort (le := fun a b : Int => decide (a ≤ b)) (fun a b c h1 h2 => by simp only [decide_eq_true_eq] at *; omega) (fun a b => by simp only [Bool.or_eq_true, decide_eq_true_eq]; omega) ks
  exact this.imp fun h => by simpa using h
theorem sortI_perm (ks : List Int) : (sortI ks).Perm ks := List.mergeSort_perm _ _
def intsK : List Key → Option (List Int)
  | [] => some []
  | .inl i :: ks => (intsK ks).map fun js => i :: js
  | _ => none
theorem intsK_some : ∀ {ks : List Key} {js : List Int}, intsK ks = some js → ks = js.map Sum.inl
  | [], js, h => by cases h; rfl
  | k :: ks, js, h => by
    cases k with
    | inl i =>
      have h : (intsK ks).map (fun js => i :: js) = some js := h
      cases e : intsK ks with
      | none => rw [e] at h; cases h
      | some us =>
        rw [e] at h
        cases h
        rw [intsK_some e]
        rfl
    | inr _ => cases h
def sortDI (h : MH) : Option (List Key × List D) → Res D
  | none => .bad
  | some p => match intsK p.1 with
    | none => .bad
    | some js => if js.length < 64 then .ok (.lst ((sortI js).map D.int)) h else .bad
def fSortedDI : List D → MH → Res D := fun ds h => match ds with
  | [x] => sortDI h (dicD h x)
  | _ => .bad
def rSortDI : List V → Hp → VK → Prop := fun xs H Q => ∃ (a : Addr) (kvs : List (Key × V)) (ks : List Int), xs = [.ref a] ∧ Rd H a (.dK kvs) ∧ kvs.map (·.1) = ks.map Sum.inl ∧ ks.length < 64 ∧
    ∀ (ys : List Int) (p : Addr), ys.Perm ks → ys.Pairwise (· ≤ ·) → H p = none → Q (.ref p) (upd H p (.lst (ys.map V.int)))
theorem denL_intsV {G : Ev} {r F : List Addr} {H : Hp} : ∀ (js : List Int), DenL G r F H (js.map D.int) (js.map V.int)
  | [] => .nil
  | j :: js => .cons (.int j) (denL_intsV js)
theorem calls_sortedDI {G : Ev} : CallS G rSortDI fSortedDI := fun W σ r F H h ds vs Q g hd q => by
  match ds, hd with
  | [], _ => exact False.elim q
  | _ :: _ :: _, _ => exact False.elim q
  | [x], .cons hx .nil =>
    have q : Aft G W F σ r H (sortDI h (dicD h x)) _ := q
    cases ed : dicD h x with
    | none => rw [ed] at q; exact False.elim q
    | some p =>
      rw [ed] at q
      have q : Aft G W F σ r H (match intsK p.1 with
        | none => Res.bad
        | some js => if js.length < 64 then Res.ok (D.lst ((sortI js).map D.int)) h else .bad) _ := q
      cases ek : intsK p.1 with
      | none => rw [ek] at q; exact False.elim q
      | some js =>
        rw [ek] at q
        have q : Aft G W F σ r H (if js.length < 64 then Res.ok (D.lst ((sortI js).map D.int)) h else .bad) _ := q
        by_cases hl : js.length < 64
        · rw [if_pos hl] at q
          obtain ⟨a, ws, rfl, h1, h2, h3⟩ := dic_den g hx ed
          refine ⟨a, _, js, rfl, .inl h1, ?_, hl, fun ys p' hp hs hn => ?_⟩
          · rw [← intsK_some ek, List.map_fst_zip (by omega)]
          · have e : ys = sortI js := sorted_unique (hp.trans (sortI_perm js).symm) hs (sortI_sorted js)
            subst e
            exact q.hereS g (same_new hn) _ (new_lst g (denL_intsV _) hn)
        · rw [if_neg hl] at q; exact False.elim q
theorem callr_sortedDI {X : Cx} (hc : X.calm = true) : CallR X (.builtin "sorted") rSortDI := call_sortedDI hc
end CH

/-! CHR: int of a text, list of a range, extend, partition, join, a list | a tuple times a number, min of a list of data. -/
namespace CH
open PySem PySem.Spec PyProof.Rows L2
/-! ### int(text) -/
def fIntS : List D → MH → Res D := fun ds h => match ds with
  | [.str a] => (match intText? a with
    | some n => if a.length ≤ 640 then .ok (.int n) h else .bad
    | none => .bad)
  | _ => .bad
theorem calls_intS {G : Ev} : CallS G (fun xs H Q => ∃ a n, xs = [.str a] ∧ PySem.intText? a = some n ∧ a.length ≤ 640 ∧ Q (.int n) H) fIntS := fun W σ r F H h ds vs Q g hd q => by
  match ds, hd with
  | [], _ => exact False.elim q
  | d :: _ :: _, _ => cases d <;> exact False.elim q
  | [x], .cons hx .nil =>
    cases hx with
    | str a =>
      have q : Aft G W F σ r H (match intText? a with
        | some n => if a.length ≤ 640 then Res.ok (D.int n) h else .bad
        | none => .bad) _ := q
      cases e : intText? a with
      | none => rw [e] at q; exact False.elim q
      | some n =>
        rw [e] at q
        have q : Aft G W F σ r H (if a.length ≤ 640 then Res.ok (D.int n) h else .bad) _ := q
        by_cases z : a.length ≤ 640
        · rw [if_pos z] at q
          exact ⟨a, n, rfl, e, z, q.here g _ (.int n)⟩
        · rw [if_neg z] at q; exact False.elim q
    | _ => exact False.elim q
/-! ### xs.extend(ys) -/
def extD (h : MH) (k : Nat) (ys : List D) : Option (List D) → Res D
  | some xs => if xs.length + ys.length ≤ lim then .ok .non (h.set k (.lst (xs ++ ys))) else .bad
  | none => .bad
def gExt : D → List D → MH → Res D := fun x ds h => match x, ds with
  | .ref k, [.lst ys] => extD h k ys (oLst h[k]?)
  | _, _ => .bad
theorem mts_ext {G : Ev} : MtS G rExtend gExt := fun W σ r F H h x v ds vs Q g hx hd q => by
  cases hx with
  | ref hk =>
    rename_i k a
    cases hd with
    | nil => exact False.elim q
    | cons h1 t1 =>
      rename_i d y ds vs
      cases t1 with
      | cons _ _ => cases d <;> exact False.elim q
      | nil =>
        cases h1 with
        | lst hq hn hl =>
          rename_i b ys ws
          have q : Aft G W F σ r H (extD h k ys (oLst h[k]?)) _ := q
          cases ho : oLst h[k]? with
          | none => rw [ho] at q; exact False.elim q
          | some xs =>
            rw [ho] at q
            have q : Aft G W F σ r H (if xs.length + ys.length ≤ lim then Res.ok D.non (h.set k (.lst (xs ++ ys))) else .bad) _ := q
            by_cases z : xs.length + ys.length ≤ lim
            · rw [if_pos z] at q
              obtain ⟨a', ea, us, h2, h3⟩ := g.ob k _ (oLst_some ho)
              rw [hk] at ea; cases ea
              have ha : a ∈ r := List.mem_of_getElem? hk
              have ee : Ext r H r (upd H a (.lst (us ++ ws))) := Ext.upd ha
              refine ⟨a, b, us, ws, rfl, rfl, h2, hq, by rw [← h3.len, ← hl.len]; exact lim_ok z, ?_⟩
              exact q r _ ee (g.set hk trivial ⟨_, upd_same, (DenL.mono g.mine ee _ _ h3).app (DenL.mono g.mine ee _ _ hl)⟩) _ .non
            · rw [if_neg z] at q; exact False.elim q
        | _ => exact False.elim q
  | _ => cases hd <;> first | exact False.elim q | (rename_i t; cases t <;> exact False.elim q)
/-! ### x.partition(y), x.join(ys) -/
def gPart : D → List D → MH → Res D := fun x ds h => match x, ds with
  | .str a, [.str b] => if (b.length == 0) = false ∧ a.length ≤ lim then .ok (.tup [.str (Txt.partition a b).1, .str (Txt.partition a b).2.1, .str (Txt.partition a b).2.2]) h else .bad
  | _, _ => .bad
theorem mts_part {G : Ev} : MtS G (fun x xs H Q => ∃ a b, x = .str a ∧ xs = [.str b] ∧ (b.length == 0) = false ∧ a.length ≤ sizeLine ∧
    ∀ p, H p = none → Q (.ref p) (upd H p (.tup [.str (Txt.partition a b).1, .str (Txt.partition a b).2.1, .str (Txt.partition a b).2.2]))) gPart := fun W σ r F H h x v ds vs Q g hx hd q => by
  cases hx with
  | str a =>
    match ds, hd with
    | [], _ => exact False.elim q
    | d :: _ :: _, _ => cases d <;> exact False.elim q
    | [d], .cons hy .nil =>
      cases hy with
      | str b =>
        have q : Aft G W F σ r H (if (b.length == 0) = false ∧ a.length ≤ lim then Res.ok (D.tup [.str (Txt.partition a b).1, .str (Txt.partition a b).2.1, .str (Txt.partition a b).2.2]) h else .bad) _ := q
        by_cases z : (b.length == 0) = false ∧ a.length ≤ lim
        · rw [if_pos z] at q
          exact ⟨a, b, rfl, rfl, z.1, lim_ok z.2, fun p hp => q.hereS g (same_new hp) _ (new_tup g (.cons (.str _) (.cons (.str _) (.cons (.str _) .nil))) hp)⟩
        · rw [if_neg z] at q; exact False.elim q
      | _ => exact False.elim q
  | _ => exact False.elim q
def strsD : List D → Option (List Str)
  | [] => some []
  | .str i :: ds => (strsD ds).map fun js => i :: js
  | _ => none
theorem strsD_some : ∀ {ds : List D} {js : List Str}, strsD ds = some js → ds = js.map D.str
  | [], js, h => by cases h; rfl
  | d :: ds, js, h => by
    cases d with
    | str i =>
      have h : (strsD ds).map (fun js => i :: js) = some js := h
      cases e : strsD ds with
      | none => rw [e] at h; cases h
      | some ks =>
        rw [e] at h
        cases h
        rw [strsD_some e]
        rfl
    | _ => cases h
theorem denL_strs' {G : Ev} {r F : List Addr} {H : Hp} : ∀ {js : List Str} {vs : List V}, DenL G r F H (js.map D.str) vs → vs = js.map V.str
  | [], _, h => by cases h; rfl
  | j :: js, _, h => by
    cases h with
    | cons h1 h2 =>
      cases h1
      rw [denL_strs' h2]
      rfl
def joinR (a : Str) (h : MH) : Option (List Str) → Res D
  | some ys => if (ys.map (·.length)).sum + ys.length * a.length ≤ 16777216 then .ok (.str (Txt.join a ys)) h else .bad
  | none => .bad
def gJoin : D → List D → MH → Res D := fun x ds h => match x, ds with
  | .str a, [.lst ys] => joinR a h (strsD ys)
  | _, _ => .bad
theorem mts_join {G : Ev} : MtS G (fun x xs H Q => ∃ a p, ∃ ys : List Str, x = .str a ∧ xs = [.ref p] ∧ (SqL G.K H p (ys.map V.str) ∨ SqT G.K H p (ys.map V.str)) ∧
    (ys.map (·.length)).sum + ys.length * a.length ≤ 16777216 ∧ Q (.str (Txt.join a ys)) H) gJoin := fun W σ r F H h x v ds vs Q g hx hd q => by
  cases hx with
  | str a =>
    match ds, hd with
    | [], _ => exact False.elim q
    | d :: _ :: _, _ => cases d <;> exact False.elim q
    | [d], .cons hy .nil =>
      cases hy with
      | lst hq hn hl =>
        rename_i b xs ws
        have q : Aft G W F σ r H (joinR a h (strsD xs)) _ := q
        cases e : strsD xs with
        | none => rw [e] at q; exact False.elim q
        | some ys =>
          rw [e] at q
          have q : Aft G W F σ r H (if (ys.map (·.length)).sum + ys.length * a.length ≤ 16777216 then Res.ok (D.str (Txt.join a ys)) h else .bad) _ := q
          by_cases z : (ys.map (·.length)).sum + ys.length * a.length ≤ 16777216
          · rw [if_pos z] at q
            have e1 := strsD_some e
            rw [e1] at hl
            have e2 := denL_strs' hl
            rw [e2] at hq
            exact ⟨a, _, ys, rfl, rfl, .inl (SqL.of hq), z, q.here g _ (.str _)⟩
          · rw [if_neg z] at q; exact False.elim q
      | _ => exact False.elim q
  | _ => exact False.elim q
/-! ### a list times a number -/
theorem denL_rep {G : Ev} {r F : List Addr} {H : Hp} {xs : List D} {vs : List V} (h : DenL G r F H xs vs) : ∀ n : Nat, DenL G r F H (List.replicate n xs).flatten (List.replicate n vs).flatten
  | 0 => .nil
  | n + 1 => by
    rw [List.replicate_succ, List.replicate_succ, List.flatten_cons, List.flatten_cons]
    exact h.app (denL_rep h n)
def oMulL : D → D → MH → Res D := fun x y h => match x, y with
  | .lst xs, .int k => if (0 ≤ k ∧ k ≤ 1000) ∧ xs.length * k.toNat ≤ lim then .ok (.lst (List.replicate k.toNat xs).flatten) h else .bad
  | _, _ => .bad
theorem ops_mulL {G : Ev} : OpS G rRep oMulL := fun W σ r F H h x y v u Q g hx hy q => by
  cases hx with
  | lst hq hn hl =>
    rename_i a xs ws
    cases hy with
    | int k =>
      have q : Aft G W F σ r H (if (0 ≤ k ∧ k ≤ 1000) ∧ xs.length * k.toNat ≤ lim then Res.ok (D.lst (List.replicate k.toNat xs).flatten) h else .bad) _ := q
      by_cases z : (0 ≤ k ∧ k ≤ 1000) ∧ xs.length * k.toNat ≤ lim
      · rw [if_pos z] at q
        refine ⟨a, k, ws, rfl, rfl, hq, by omega, by omega, by rw [← hl.len]; exact lim_ok z.2, fun p hp => ?_⟩
        exact q.hereS g (same_new hp) _ (new_lst g (denL_rep hl _) hp)
      · rw [if_neg z] at q; exact False.elim q
    | _ => exact False.elim q
  | _ => cases hy <;> exact False.elim q
/-! ### list(range(..)) -/
def rgD (i j : Int) : List D := (List.range (j - i).toNat).map fun k => D.int (i + (k : Nat))
theorem denL_rg {G : Ev} {r F : List Addr} {H : Hp} {i j : Int} : DenL G r F H (rgD i j) (rgV i j) := by
  unfold rgD rgV
  have key : ∀ l : List Nat, DenL G r F H (l.map fun k => D.int (i + (k : Nat))) (l.map fun k => V.int (i + (k : Nat))) := by
    intro l
    induction l with
    | nil => exact .nil
    | cons k l ih => exact .cons (.int _) ih
  exact key _
def rgR (i j : Int) (h : MH) : Res D := if (0 ≤ i ∧ i ≤ 100000) ∧ 0 ≤ j ∧ j ≤ 100000 then .ok (.lst (rgD i j)) h else .bad
def mListRg1 (fa : Mo D) : Mo D := mBind fa fun x => fun _ h => match x with
  | .int j => rgR 0 j h
  | _ => .bad
def mListRg2 (fa fb : Mo D) : Mo D := mBind fa fun x => mBind fb fun y => fun _ h => match x, y with
  | .int i, .int j => rgR i j h
  | _, _ => .bad
section
variable {X : Cx} {W : WX} {e e2 : Expr} {fa fb : Mo D}
theorem de_listRg1 {p p2 pos pos2 : Pos} (hc : X.calm = true) (hg : Gl X "list") (hm : X.mg "list" = none) (hg2 : Gl X "range") (hm2 : X.mg "range" = none) (ha : PE X e (tE (evOf X) W fa)) (na : starEach [e] X.env = (false, eval e X.env) :: starEach [] X.env := by rfl)
    (nb : starEach [.Call (.Name "range" p2) [e] [] pos2] X.env = (false, eval (.Call (.Name "range" p2) [e] [] pos2) X.env) :: starEach [] X.env := by rfl) :
    PE X (.Call (.Name "list" p) [.Call (.Name "range" p2) [e] [] pos2] [] pos) (tE (evOf X) W (mListRg1 fa)) :=
  (pe_listRg hc hg hm (prg_1 hg2 hm2 ha na) nb).imp fun σ H Q ⟨r, F, sl, h, s, g, q⟩ => tE.of s g (q.bind.imp fun r1 H1 x h1 e1 g1 q1 v hv => by
    cases hv with
    | int j =>
      have q1 : Aft (evOf X) W F σ r1 H1 (if (0 ≤ (0 : Int) ∧ (0 : Int) ≤ 100000) ∧ 0 ≤ j ∧ j ≤ 100000 then Res.ok (D.lst (rgD 0 j)) h1 else .bad) _ := q1
      by_cases z : (0 ≤ (0 : Int) ∧ (0 : Int) ≤ 100000) ∧ 0 ≤ j ∧ j ≤ 100000
      · rw [if_pos z] at q1
        exact ⟨j, rfl, RgOk.of_le (by omega) (by omega) (by omega) (by omega), fun p hp => q1.hereS g1 (same_new hp) _ (new_lst g1 denL_rg hp)⟩
      · rw [if_neg z] at q1; exact False.elim q1
    | _ => exact False.elim q1)
theorem de_listRg2 {p p2 pos pos2 : Pos} (hc : X.calm = true) (hg : Gl X "list") (hm : X.mg "list" = none) (hg2 : Gl X "range") (hm2 : X.mg "range" = none) (ha : PE X e (tE (evOf X) W fa)) (hb : PE X e2 (tE (evOf X) W fb)) (na : starEach [e, e2] X.env = (false, eval e X.env) :: starEach [e2] X.env := by rfl)
    (na2 : starEach [e2] X.env = (false, eval e2 X.env) :: starEach [] X.env := by rfl) (hp : (backTo pos2 (starEach [e2] X.env)).any (·.1) = false := by rfl)
    (nb : starEach [.Call (.Name "range" p2) [e, e2] [] pos2] X.env = (false, eval (.Call (.Name "range" p2) [e, e2] [] pos2) X.env) :: starEach [] X.env := by rfl) :
    PE X (.Call (.Name "list" p) [.Call (.Name "range" p2) [e, e2] [] pos2] [] pos) (tE (evOf X) W (mListRg2 fa fb)) :=
  (pe_listRg hc hg hm (prg_2 hg2 hm2 ha hb na na2 hp) nb).imp fun σ H Q ⟨r, F, sl, h, s, g, q⟩ => tE.of s g (q.bind.imp fun r1 H1 x h1 e1 g1 q1 v hv =>
    tE.of (s.mono g.mine e1) g1 (q1.bind.imp fun r2 H2 y h2 e2 g2 q2 u hu => by
    cases hv with
    | int i =>
      cases hu with
      | int j =>
        have q2 : Aft (evOf X) W F σ r2 H2 (if (0 ≤ i ∧ i ≤ 100000) ∧ 0 ≤ j ∧ j ≤ 100000 then Res.ok (D.lst (rgD i j)) h2 else .bad) _ := q2
        by_cases z : (0 ≤ i ∧ i ≤ 100000) ∧ 0 ≤ j ∧ j ≤ 100000
        · rw [if_pos z] at q2
          exact ⟨i, j, rfl, rfl, RgOk.of_le (by omega) (by omega) (by omega) (by omega), fun p hp => q2.hereS g2 (same_new hp) _ (new_lst g2 denL_rg hp)⟩
        · rw [if_neg z] at q2; exact False.elim q2
      | _ => exact False.elim q2
    | _ => cases hu <;> exact False.elim q2))
end
end CH

/-! CHS: a tuple times 0 or 1, min of a list of data. -/
namespace CH
open PySem PySem.Spec PyProof.Rows L2
theorem tuple_mul1 (l : Addr) (items : Array Value) (n : Nat) (dd : Option Addr) (sl : Array (Option Value)) (x : Int) (u : Tok) (c0 : (decide (x < -(2 ^ 63)) || decide (x ≥ 2 ^ 63)) = false) (c1 : (items.isEmpty || x == 1) = true) :
    Meets (Builtin.«tuple.__mul__» ⟨[.ref l, .int x u], []⟩) fun _ R s => s.heap.get? l = some ⟨.type "tuple", dd, .seq items n, sl⟩ ∧ R (.ok (.ret (.ref l))) s :=
  .of_wp fun prog w A R ⟨hp, g, d, tk, os⟩ ⟨hl, h⟩ => by
    have index := AutoSeq1.idx_int
    wp_walk using wpAny_loadPart' hl
    refine wpAny_ite_false (decide_eq_false fun z => nomatch c0.symm.trans z) ?_
    wp_walk using wpAny_loadPart' hl
    exact ⟨_, rfl, h⟩
theorem tuple_mul0 (l : Addr) (items : Array Value) (n : Nat) (dd : Option Addr) (sl : Array (Option Value)) (x : Int) (u : Tok) (c0 : (decide (x < -(2 ^ 63)) || decide (x ≥ 2 ^ 63)) = false) (c1 : (items.isEmpty || x == 1) = false) (c2 : (decide (x ≤ 0) || items.isEmpty) = true) :
    Meets (Builtin.«tuple.__mul__» ⟨[.ref l, .int x u], []⟩) fun _ R s => s.heap.get? l = some ⟨.type "tuple", dd, .seq items n, sl⟩ ∧
      R (.ok (.ret (.ref s.heap.objs.size))) { s with heap := s.heap.push { cls := Value.type "tuple", data := Data.seq #[] }, toks := s.toks } :=
  .of_wp fun prog w A R ⟨hp, g, d, tk, os⟩ ⟨hl, h⟩ => by
    have index := AutoSeq1.idx_int
    wp_walk using wpAny_loadPart' hl
    refine wpAny_ite_false (decide_eq_false fun z => nomatch c0.symm.trans z) ?_
    wp_walk using wpAny_loadPart' hl
    exact ⟨_, rfl, h⟩

def rMulT (K : PySem.W.Frag) : R2 := fun x y H Q => ∃ l k xs, x = .ref l ∧ y = .int k ∧ SqT K H l xs ∧ xs ≠ [] ∧ ((k = 1 ∧ Q (.ref l) H) ∨ (k = 0 ∧ ∀ p, H p = none → Q (.ref p) (upd H p (.tup []))))
theorem op_mulT {X : Cx} : OpR X (binaryOp .Mult) (rMulT X.K) := by
  intro pins s σ H x y v u Q I rx ry h
  have ⟨l, k, xs, ex, ey, hT, hne, q⟩ := h
  subst ex
  subst ey
  have ⟨t, et⟩ := ry
  subst et
  cases rx
  have ⟨its, r, ⟨⟨cls, dd, data, sl⟩, ho, hc, n, hd⟩, hs⟩ := I.tuple hT
  cases hc
  cases hd
  have hi : its.toArray.isEmpty = false := match its, r with
    | _, .cons _ _ => rfl
    | _, .nil => absurd rfl hne
  rcases q with ⟨rfl, q⟩ | ⟨rfl, q⟩
  · refine wpAny_binaryOp_repeat_ref (T := "tuple") (U := "int") (by decide) ⟨_, ho, rfl⟩ (fun s' => typeIs_int s' 1 t) noFill_tuple_mul F.fills_int_mul F.slot_int_rmul repeat_tuple F.slot_int_index.lookup
      (call_meets F.slot_int_rmul (typeIs_int s 1 t) F.entry_int_rmul (F.args_int_rmul_2 _ _) (int_rmul_tuple 1 t l its.toArray n dd sl)
        ⟨ho, rfl, ⟨_, ho, rfl⟩, call_meets F.slot_tuple_mul ⟨_, ho, rfl⟩ F.entry_tuple_mul (F.args_tuple_mul_2 _ _) (tuple_mul1 l its.toArray n dd sl 1 t (by decide) (by rw [hi]; rfl)) ⟨ho, ?_⟩⟩)
    exact ⟨.ref l, H, I, rfl, q⟩
  · refine wpAny_binaryOp_repeat_ref (T := "tuple") (U := "int") (by decide) ⟨_, ho, rfl⟩ (fun s' => typeIs_int s' 0 t) noFill_tuple_mul F.fills_int_mul F.slot_int_rmul repeat_tuple F.slot_int_index.lookup
      (call_meets F.slot_int_rmul (typeIs_int s 0 t) F.entry_int_rmul (F.args_int_rmul_2 _ _) (int_rmul_tuple 0 t l its.toArray n dd sl)
        ⟨ho, rfl, ⟨_, ho, rfl⟩, call_meets F.slot_tuple_mul ⟨_, ho, rfl⟩ F.entry_tuple_mul (F.args_tuple_mul_2 _ _) (tuple_mul0 l its.toArray n dd sl 0 t (by decide) (by rw [hi]; rfl) rfl) ⟨ho, ?_⟩⟩)
    refine ⟨.ref s.heap.objs.size, _, I.laid (t' := s.toks) (o := .tup []) (fun b ob q => Heap.get?_push_of_some _ q) (Nat.le_refl _) ?_, rfl, q _ (I.hok.fresh (Nat.le_refl _))⟩
    exact ⟨Nat.zero_le _, [], .nil, IsTup.new _ _⟩
def oMulT : D → D → MH → Res D := fun x y h => match x, y with
  | .tup (d :: ds), .int k => if k = 1 then .ok (.tup (d :: ds)) h else if k = 0 then .ok (.tup []) h else .bad
  | _, _ => .bad
theorem ops_mulT {G : Ev} : OpS G (rMulT G.K) oMulT := fun W σ r F H h x y v u Q g hx hy q => by
  cases hx with
  | tup hq hl =>
    rename_i a xs ws
    cases hl with
    | nil => cases hy <;> exact False.elim q
    | cons hd ht =>
      rename_i d w ds ws
      cases hy with
      | int k =>
        have q : Aft G W F σ r H (if k = 1 then Res.ok (D.tup (d :: ds)) h else if k = 0 then .ok (.tup []) h else .bad) _ := q
        refine ⟨a, k, w :: ws, rfl, rfl, hq.sq, by simp, ?_⟩
        by_cases z : k = 1
        · rw [if_pos z] at q
          exact .inl ⟨z, q.here g _ (.tup hq (.cons hd ht))⟩
        · rw [if_neg z] at q
          by_cases z2 : k = 0
          · rw [if_pos z2] at q
            exact .inr ⟨z2, fun p hp => q.hereS g (same_new hp) _ (new_tup g .nil hp)⟩
          · rw [if_neg z2] at q; exact False.elim q
      | _ => exact False.elim q
  | _ => cases hy <;> exact False.elim q
/-! ### min of a list of data -/
open PySem.W (EachIs alike dataLt AllAlike Sortable)
mutual
theorem toPy_inj : ∀ (a b : D) (n m : Nat), pyOk n a = true → pyOk m b = true → toPy a = toPy b → a = b
  | .non, b, n, m, h1, h2, e => by
    cases b with
    | non => rfl
    | bl _ => cases e
    | int _ => cases e
    | str _ => cases e
    | tup _ => cases e
    | lst _ => cases e
    | _ => cases m <;> cases h2
  | .bl x, b, n, m, h1, h2, e => by
    cases b <;> first | (cases e; rfl) | (cases e) | (cases m <;> cases h2)
  | .int x, b, n, m, h1, h2, e => by
    cases b <;> first | (cases e; rfl) | (cases e) | (cases m <;> cases h2)
  | .str x, b, n, m, h1, h2, e => by
    cases b <;> first | (cases e; rfl) | (cases e) | (cases m <;> cases h2)
  | .tup xs, b, n, m, h1, h2, e => by
    cases b with
    | tup ys =>
      cases n with
      | zero => cases h1
      | succ n =>
        cases m with
        | zero => cases h2
        | succ m =>
          have e : PyData.tuple (toPyL xs) = PyData.tuple (toPyL ys) := e
          injection e with e
          rw [toPyL_inj xs ys n m h1 h2 e]
    | _ => first | cases e | (cases m <;> cases h2)
  | .lst xs, b, n, m, h1, h2, e => by
    cases b with
    | lst ys =>
      cases n with
      | zero => cases h1
      | succ n =>
        cases m with
        | zero => cases h2
        | succ m =>
          have e : PyData.list (toPyL xs) = PyData.list (toPyL ys) := e
          injection e with e
          rw [toPyL_inj xs ys n m h1 h2 e]
    | _ => first | cases e | (cases m <;> cases h2)
  | .dic _ _, _, n, _, h1, _, _ => by cases n <;> cases h1
  | .ref _, _, n, _, h1, _, _ => by cases n <;> cases h1
  | .gl _, _, n, _, h1, _, _ => by cases n <;> cases h1
  | .dct _ _, _, n, _, h1, _, _ => by cases n <;> cases h1
  | .ty _, _, n, _, h1, _, _ => by cases n <;> cases h1
  | .scr _, _, n, _, h1, _, _ => by cases n <;> cases h1
theorem toPyL_inj : ∀ (xs ys : List D) (n m : Nat), pyOkL n xs = true → pyOkL m ys = true → toPyL xs = toPyL ys → xs = ys
  | [], [], _, _, _, _, _ => rfl
  | [], _ :: _, _, _, _, _, e => by cases e
  | _ :: _, [], _, _, _, _, e => by cases e
  | x :: xs, y :: ys, n, m, h1, h2, e => by
    have h1 : (pyOk n x && pyOkL n xs) = true := by cases n <;> exact h1
    have h2 : (pyOk m y && pyOkL m ys) = true := by cases m <;> exact h2
    rw [Bool.and_eq_true] at h1 h2
    have e : toPy x :: toPyL xs = toPy y :: toPyL ys := e
    injection e with e1 e2
    rw [toPy_inj x y n m h1.1 h2.1 e1, toPyL_inj xs ys n m h1.2 h2.2 e2]
end
def minDD (x : D) (xs : List D) : D := xs.foldl (fun a y => if dataLt (toPy y) (toPy a) then y else a) x
theorem minDD_py : ∀ (xs : List D) (x : D), toPy (minDD x xs) = PySem.W.minD (toPy x) (xs.map toPy) := by
  intro xs
  unfold minDD PySem.W.minD
  induction xs with
  | nil => intro x; rfl
  | cons y ys ih =>
    intro x
    rw [List.foldl_cons, List.map_cons, List.foldl_cons, ih]
    congr 1
    split <;> rfl
theorem minDD_mem (xs : List D) : ∀ x : D, minDD x xs ∈ x :: xs := by
  unfold minDD
  induction xs with
  | nil => intro x; simp
  | cons y ys ih =>
    intro x
    rw [List.foldl_cons]
    have := ih (if dataLt (toPy y) (toPy x) = true then y else x)
    rcases List.mem_cons.mp this with e | e
    · rw [e]; split <;> simp
    · exact List.mem_cons_of_mem _ (List.mem_cons_of_mem _ e)
def minR (h : MH) : Option (List D) → Res D
  | some (x :: xs) => if okSort (x :: xs) = true then .ok (minDD x xs) h else .bad
  | _ => .bad
def fMinD : List D → MH → Res D := fun ds h => match ds with
  | [x] => minR h (lstD h x)
  | _ => .bad
def rMinD (K : PySem.W.Frag) : List V → Hp → VK → Prop := fun vs H Q => ∃ (a : Addr) (xs : List V) (b : D) (bs : List D) (R : V → D → Prop), vs = [.ref a] ∧ SqL K H a xs ∧ EachIs R xs (b :: bs) ∧ (∀ x b, R x b → Dp K H x (toPy b)) ∧ okSort (b :: bs) = true ∧ ∀ w, R w (minDD b bs) → Q w H
theorem toPyL_map2 : ∀ ds : List D, toPyL ds = ds.map toPy
  | [] => rfl
  | d :: ds => by
    show toPy d :: toPyL ds = _
    rw [toPyL_map2 ds]; rfl
theorem each_get {R : V → D → Prop} : ∀ {xs : List V} {ds : List D} {us : List Value} {i : Nat} {v : Value}, EachIs R xs ds → Vals xs us → us[i]? = some v → ∃ x d, RelV x v ∧ R x d ∧ d ∈ ds
  | _, _, _, 0, v, .cons h t, .cons r _, e => by
    cases e
    exact ⟨_, _, r, h, by simp⟩
  | _, _, _, i + 1, v, .cons h t, .cons r t2, e => by
    obtain ⟨x, d, h1, h2, h3⟩ := each_get t t2 (by simpa using e)
    exact ⟨x, d, h1, h2, List.mem_cons_of_mem _ h3⟩
  | _, _, _, i, v, .nil, .nil, e => by simp at e
theorem each_dp {K : PySem.W.Frag} {H : Hp} {R : V → D → Prop} (hd : ∀ x b, R x b → Dp K H x (toPy b)) : ∀ {xs : List V} {ds : List D}, EachIs R xs ds → DpAll K H xs (ds.map toPy)
  | _, _, .nil => .nil
  | _, _, .cons h t => .cons (hd _ _ h) (each_dp hd t)
theorem cr_minD {X : Cx} {k : Nat} (hc : X.calm = true) (hr : Room k X.A) : CallR X (.builtin "min") (rMinD X.K) := by
  intro pins s σ H vs us Q I r h
  obtain ⟨a, xs, b, bs, R, rfl, hs, he, hd, ok, q⟩ := h
  obtain ⟨its, rv, hl, hz⟩ := I.list hs
  rw [Vals.ref1 r]
  obtain ⟨f1, f2, f3, f4⟩ := okSort_facts ok
  obtain ⟨as, ra⟩ := Dp.readsAll I _ xs its (each_dp hd he) rv
  have hok : pyOkL 40 (b :: bs) = true := by
    unfold okSort at ok
    simp only [Bool.and_eq_true] at ok
    exact ok.1
  have hdep : PyData.depthAll ((b :: bs).map toPy) ≤ 40 := by
    rw [← toPyL_map2]
    exact (layL_of (b :: bs) 40 hok).2
  refine PySem.W.min_list_data (x := toPy b) (xs := bs.map toPy) (I.ok.hd hc) hl.isList ra ⟨f3, ?_⟩ (by have := hr.un; simp only [List.map_cons] at hdep; omega) fun i v h' tk bs' hv hrd hk => ?_
  · intro x hx
    rcases f4 with f4 | f4
    · obtain ⟨y, ys, rfl⟩ := f4 x hx
      intro e; cases e
    · intro e
      rw [e] at hx
      exact (f4 _ hx).1 rfl
  · have hv : its[i]? = some v := by simpa using hv
    obtain ⟨x, d, h1, h2, h3⟩ := each_get he rv hv
    obtain ⟨as2, r2⟩ := Dp.reads I (toPy d) x v (hd x d h2) h1
    have e1 := SeqAt.Reads.unique (toPy d) _ v _ _ (lay_of d 40 (f1 d h3)).1 (PyProof.Rows.Reads.keeps (fun b o e => hk b o e) r2) hrd
    rw [← minDD_py] at e1
    have e2 := toPy_inj d (minDD b bs) 40 40 (f1 d h3) (f1 _ (minDD_mem bs b)) e1
    rw [e2] at h2
    exact ⟨x, H, I.kept hk, h1, q x h2⟩
theorem calls_minD {G : Ev} : CallS G (rMinD G.K) fMinD := fun W σ r F H h ds vs Q g hd q => by
  match ds, hd with
  | [], _ => exact False.elim q
  | _ :: _ :: _, _ => exact False.elim q
  | [x], .cons hx .nil =>
    have q : Aft G W F σ r H (minR h (lstD h x)) _ := q
    cases el : lstD h x with
    | none => rw [el] at q; exact False.elim q
    | some xs =>
      rw [el] at q
      cases xs with
      | nil => exact False.elim q
      | cons b bs =>
        have q : Aft G W F σ r H (if okSort (b :: bs) = true then Res.ok (minDD b bs) h else .bad) _ := q
        by_cases ok : okSort (b :: bs) = true
        · rw [if_pos ok] at q
          obtain ⟨a, ws, rfl, hs, hd⟩ := lstD_den g hx el
          obtain ⟨f1, f2, f3, f4⟩ := okSort_facts ok
          refine ⟨a, ws, b, bs, _, rfl, hs, each_denL hd, fun x b ⟨hb, hm⟩ => dp_of b 40 x (f1 b hm) hb, ok, fun w hw => ?_⟩
          exact q.here g _ hw.1
        · rw [if_neg ok] at q; exact False.elim q
end CH

/-! CHT: the __init__ of an exception of one's own: super().__init__(x), self.f = x. -/
namespace CH
open PySem PySem.Spec PyProof.Rows L2 NdefX
/-- what the written part says of the class at C, whose __init__ stands at f -/
structure SupC (P : Program) (K : PySem.W.Frag) (C f : Addr) (F : NF) (fld : Str) : Prop where
  lk : ∃ oc od osl doc pm ctv, K.lookup f = some ⟨oc, od, .func (F.fd doc pm ctv), osl⟩
  code : PySem.W.codeIn K (.ref F.c) F.qual = true
  file : ∃ ccl cdd vs ccs file tf, K.lookup F.c = some ⟨ccl, cdd, .fields vs, ccs⟩ ∧ vs[2]? = some (.str file tf) ∧ ((P.main.file : Str) == file) = true
  cell : ∃ cc cl cld csl, F.cl = [(("__class__" : Str), cc)] ∧ K.lookup cc = some ⟨cl, cld, .cell (some (.ref C)), csl⟩
  sub : PySem.W.mroIn K C (.ref C) = some true
  meth : PySem.W.ks_superIn K C C "__init__" = some (some (.builtin "ValueError.__init__"))
  vE : PySem.W.subIn K (.ref C) (.type "ValueError") = some true
  any : PySem.W.nsIn K cStatics "thirdparty.any" = some none
  oex : OexC K C
  noF : PySem.W.findIn K (.ref C) fld = some none
  top : (P.main.scope.names.lookup ("super" : Str)).isSome = false
/-- what the __init__ of an exception keeps: the field -/
def spX (C : Addr) (fld : Str) : Sp := fun vs H Q _ => ∃ (a : Addr) (y : V), vs = [.ref a, y] ∧ H a = some (exo a C none) ∧ ∀ dx, H dx = none → dx ≠ a → Q .non (upd (upd H dx (exd dx [(fld, y)])) a (exo a C (some dx)))
section
variable {P : Program} {w : World} {K : PySem.W.Frag} {mg : Str → Option Value} {base : Heap} {C f : Addr} {F : NF} {fld x : Str} {k : Nat} {doc pm ctv : Value} {p0 p1 p2 p3 p4 p5 p6 p7 p8 p9 : Pos} {ar : Arg}
theorem call_mw {A : Around} {E : Value → Shared → Prop} {s : Shared} {a u t1 : Addr} {rest : List Value} {nm q : Str} {N : Addr} {bs bm : List Value} {hdct : Bool} {sn : List Str} {sub : List Value} {ab : Bool} {col : Option Bool} {dd : Option Addr} {k0 k1 k2 k3 k5 : Option Value} {Q : Value → Shared → Prop}
    (hC : s.heap.get? C = some (excClassObj nm q C N bs bm hdct sn sub ab col dd k0 k1 k2 k3 k5 "ValueError.__new__")) (hu : s.heap.get? u = some (PySem.W.kxs_mw "ValueError.__init__" a)) (he : s.heap.get? a = some (PySem.W.excObj C t1 none .none)) (hz : rest.length ≤ sizeLine)
    (h : ∀ h' t2, (∀ b o, b ≠ a → s.heap.get? b = some o → h'.get? b = some o) → h'.get? a = some (PySem.W.excObj C t2 none .none) → Q .none { s with heap := h' }) : wpAny (model P w) A (call (.ref u) rest) Q E s := by
  match s, hC, hu, he, h with
  | ⟨hh, g, d, tk, os⟩, hC, hu, he, h =>
  refine wpAny_call (codeAny_of_tree (show wpAny (model P w) A.in1 (callAny (.ref u) ⟨rest, []⟩) _ _ _ from ?_))
  unfold callAny
  refine wpAny_bind (wpAny_load hu ?_)
  simp only [PySem.W.kxs_mw, show (Value.type "method-wrapper" == Value.type "method" || Value.type "method-wrapper" == Value.type "builtin_function_or_method" || Value.type "method-wrapper" == Value.type "method-wrapper") = true by decide, if_true]
  refine PySem.W.KFB.if_so (by decide) ?_
  refine wpAny_bind (PySem.W.check_bound_init PySem.F.excBase_ValueError.toExcCallFacts hC he rfl ?_)
  refine wpAny_bind (wpAny_pure (wpAny_pure ?_))
  refine ⟨plainId_quiet PySem.F.excBase_ValueError.init.plain _, codeAny_builtin PySem.F.excBase_ValueError.initEntry ?_⟩
  exact PySem.W.exc_init_tree (cls := .ref C) (t0 := t1) (dv := none) (c2 := .none) (c3 := .none) (b4 := .bool false) he hz fun h' k e' _ => h h' _ k e'
theorem var_raw {X : Cx} {pins : List (Addr × Obj)} {σ : L2.St} {H : Hp} {s : Shared} {i : Nat} {x : Str} {v : V} {M : Model} {A : Around} {E : Value → Shared → Prop} {Q : Value → Shared → Prop} (I : Inv X pins σ H s) (hN : X.N[i]? = some x) (e : σ[i]? = some (some v)) (hk : X.env.kindOf x = some .local) (h : ∀ u, RelV v u → Q u s) :
    wpAny M A (loadName X.env x) Q E s := by
  obtain ⟨m, hn, hl⟩ := I.loc
  obtain ⟨u, r, l⟩ := hl i x v hN e (.inl hk)
  rcases l with ⟨hk2, hm⟩ | ⟨hk2, c, hc, hcell⟩
  · exact wpAny_loadName_local I.ok.kind hk2 hn hm (h u r)
  · rcases hk2 with hk2 | hk2 <;> rw [hk] at hk2 <;> cases hk2
theorem init_ok {pl : Addr → Sem Bool} (he : ∀ L : Addr, eval (.Call (.Attribute (.Call (.Name "super" p0) [] [] p1) "__init__" p2) [.Name x p3] [] p4) (envF F f L) = (do
      let ov ← attributeBase (.Call (.Name "super" p0) [] [] p1) "__init__" (envF F f L) (eval (.Call (.Name "super" p0) [] [] p1) (envF F f L))
      standAt p2.atName
      let (g, first) ← holding [ov] (getMethod ov "__init__" (pl L))
      callWith p4 g first (backTo p4 (starEach [.Name x p3] (envF F f L))) []))
    (hb : F.body = [.Expr (.Call (.Attribute (.Call (.Name "super" p0) [] [] p1) "__init__" p2) [.Name x p3] [] p4) p5, .Assign [.Attribute (.Name "self" p6) fld p7] (.Name x p8) p9])
    (S : NScope ["self", x, "__class__"] ["self", x] ["__class__"] F.scope) (hks : F.scope.names.lookup ("super" : Str) = some .globalImplicit) (har : (F.params.posonlyargs ++ F.params.args).head? = some ar) (hars : ar.arg = "self") (hxd : (x == ("__debug__" : Str)) = false) (hxc : (x == ("__classdict__" : Str)) = false)
    (c : SupC P K C f F fld) {oc : Value} {od : Option Addr} {osl : Array (Option Value)} (lk : K.lookup f = some ⟨oc, od, .func (F.fd doc pm ctv), osl⟩) (hmg : mg "super" = none) : FnOk P w K mg base (L2.CX P w) k f (F.fd doc pm ctv) ["self", x] (spX C fld) := by
  refine ⟨fun vs H Q E ⟨a, y, e, _⟩ => by rw [e]; rfl, ?_⟩
  intro A outer s H args us vs Q E hr e0 hbind rv hsp
  obtain ⟨a, y, rfl, ha, q⟩ := hsp
  have rv0 := rv
  obtain ⟨cc, cl, cld, csl, hcl, hcell⟩ := c.cell
  obtain ⟨ccl, cdd, cvs, ccs, file, tf, hfile, hvs, hfl⟩ := c.file
  have up0 : ∀ b o, base.get? b = some o → s.heap.get? b = some o := fun b o e => (e0.bs b o e).1
  have kin : K.In s.heap := e0.mod.kin.keeps up0
  have lim : s.heap.NoLimit := e0.mod.nolimit.keeps up0
  have hHc : H cc = none := (e0.bs _ _ (e0.mod.kin _ _ hcell)).2
  have CA : CellsAt F.cl ["__class__"] [none] s.heap H := by
    refine ⟨rfl, fun z c' e => ?_, fun x1 x2 c' e1 e2 => ?_, fun i z hz => ?_⟩
    · rw [hcl] at e
      simp only [List.lookup] at e
      split at e
      · cases e
        exact ⟨hHc, _, _, kin _ _ hcell, rfl⟩
      · cases e
    · rw [hcl] at e1 e2
      simp only [List.lookup] at e1 e2
      split at e1
      · rename_i q1
        split at e2
        · rename_i q2
          rw [eq_of_beq q1, eq_of_beq q2]
        · cases e2
      · cases e1
    · cases i with
      | zero =>
        cases hz
        refine ⟨cc, by rw [hcl]; rfl, fun v hv => by cases hv⟩
      | succ i => cases hz
  refine ks_codeAny_call_defAt (fd := F.fd doc pm ctv) (body := F.body) (binds := (["self", x] : List Str).zip us) hr.depth (kin _ _ lk) rfl lim (PySem.W.codeRec_of kin c.code) rfl hbind S.nocell (fun ⟨n, _⟩ hy => S.par n (List.of_mem_zip hy).1) (fun h₁ hns kp => ?_) S.co S.gen S.kind
  have I : Inv (ncx (L2.CX P w) P w K mg base ["self", x, "__class__"] F f A outer s H E) [] (startF ["self", x, "__class__"] [.ref a, y] [none]) H { s with heap := h₁, toks := s.toks + ((["self", x] : List Str).zip us).length } := inv_startN S hr.hd e0 rfl rv CA hns kp
  obtain ⟨t1, hex⟩ := exo_at I.hok ha
  obtain ⟨nm, cq, N, bs, bm, sn, sub, ab, col, dd, k0, k1, k2, k3, k5, hC, hbm⟩ := c.oex.cls
  have K1 : K.In h₁ := I.kIn
  have hkc : F.scope.names.lookup ("__class__" : Str) = some .free := S.frk "__class__" (by simp)
  have hka : F.scope.names.lookup ("self" : Str) = some .local := S.par "self" (by simp)
  have hkx : F.scope.names.lookup x = some .local := S.par x (by simp)
  have hcd := hC
  obtain ⟨mb, hbl1, hbl2⟩ := I.mod.blt
  rw [hb]
  show _root_.PySem.wpAt (model P w) (A.deeper (envF F f s.heap.objs.size)) (.func _ (envF F f s.heap.objs.size)) (execs _ (envF F f s.heap.objs.size)) _ _ _
  refine ks_wpAt_execs_cons (ks_wpAt_Expr_any (ks_wpAt_MethodCall (ks_wpAt_super_base (env := envF F f s.heap.objs.size) (f := f) (cc := F.c) hks hkc (by decide) rfl (kp _ _ (kin _ _ lk)) rfl har rfl (kp _ _ (kin _ _ hfile)) rfl hvs hfl c.top ?_) (he _)) (hi := by unfold interactive; rw [show (envF F f s.heap.objs.size).scope.kind = .function from S.kind]; rfl))
  refine PySem.W.ks_loadName_global S.kind hks (Calls.loadGlobal_builtin (I.mod.glob.keeps I.bk) hmg (hbl1.keeps I.bk) ((hbl2 "super" (by decide)).trans (by decide +kernel : bootBuiltins "super" = some (.type "super"))) ⟨rfl, ?_⟩)
  refine wpAny_loadName_free S.kind hkc (show F.cl.lookup ("__class__" : Str) = some cc by rw [hcl]; rfl) ⟨_, K1 _ _ hcell, rfl⟩ ?_
  rw [hars]
  refine var_raw (i := 0) (v := .ref a) I rfl rfl hka fun u ru => ?_
  obtain rfl : u = Value.ref a := ru
  refine ks_wpAny_isType_cls (K1 _ _ hC) rfl ⟨rfl, ?_⟩
  refine ks_wpAny_call_super (K1 _ _ hC) rfl hex rfl (by intro c e; cases e) (PySem.W.looks_mroIn K1 c.sub) fun h2 e2 k2 => ?_
  have K2 : K.In h2 := K1.keeps k2
  have hex2 := k2 _ _ hex
  have IA : PySem.W.InstAt h2 a (PySem.W.excObj C t1 none .none) C none := ⟨hex2, rfl, rfl, trivial⟩
  have hcls : PySem.W.clsIn K C = some { name := nm, bases := bs, mro := .ref C :: bm, ns := N, qualname := cq, hasDict := true, slotNames := sn, subclasses := sub, abstract := ab, collection := col, hasDel := false } := by
    unfold PySem.W.clsIn
    rw [hC]
  have hal : PySem.W.alongIn K "__init__" (((Value.ref C :: bm).dropWhile (· != .ref C)).drop 1) = some (some (.builtin "ValueError.__init__")) := by
    have := c.meth
    unfold PySem.W.ks_superIn at this
    rw [hcls] at this
    exact this
  have hmr : ∀ {M : Model}, PySem.W.Looks M h2 (mroOf (.ref C)) (Value.ref C :: bm) := fun A Q E s k q => wpAny_bind ((PySem.W.looks_clsIn K2 hcls) A _ E s k (wpAny_pure q))
  have hI : PySem.W.Looks (model P w) h2 (isInstance (.ref a) (.type "ValueError")) true := IA.type.andThen (PySem.W.looks_subIn K2 c.vE)
  refine PySem.W.kxs_getMethod PySem.W.kxs_ValueError e2 (PySem.W.looks_opaque K2 c.any) (l₀ := Value.ref C :: bm) hmr rfl K2 hal hI (PySem.W.ks_ne K2 IA hcls) (by decide) ?_
  refine PySem.W.kxs_callWith (i := "ValueError.__init__") (x := a) rfl (Calls.evalArgs_plain (Calls.spliced_cons ?_))
  have I3 : Inv (ncx (L2.CX P w) P w K mg base ["self", x, "__class__"] F f A outer s H E) [] (startF ["self", x, "__class__"] [.ref a, y] [none]) H { s with heap := h2.push (PySem.W.kxs_mw "ValueError.__init__" a), toks := s.toks + ((["self", x] : List Str).zip us).length + 1 } :=
    I.kept (t' := s.toks + ((["self", x] : List Str).zip us).length + 1) fun b o e => Heap.get?_push_of_some _ (k2 _ _ e)
  refine wpAny_Name (var_raw (i := 1) (v := y) I3 rfl rfl hkx fun uy ry => ?_) hxd
  have hu : (h2.push (PySem.W.kxs_mw "ValueError.__init__" a)).get? h2.objs.size = some (PySem.W.kxs_mw "ValueError.__init__" a) := Heap.get?_push_size _ rfl
  refine Calls.spliced_nil ⟨hu, ?_⟩
  refine call_mw (I3.kIn _ _ hC) hu (Heap.get?_push_of_some _ hex2) (by show 1 ≤ sizeLine; decide) fun h3 t2 k3 e3 => ?_
  have J := I3.write (t' := s.toks + ((["self", x] : List Str).zip us).length + 1) (x := a) (e := a) (o := exo a C none) (by rw [ha]; exact True.intro) (.inl rfl) k3 ⟨_, e3⟩ (exo_ok e3)
  have eu : upd H a (exo a C none) = H := by
    funext b
    by_cases hb : b = a
    · rw [hb, upd_same, ha]
    · rw [upd_ne hb]
  rw [eu] at J
  have hst : PS (ncx (L2.CX P w) P w K mg base ["self", x, "__class__"] F f A outer s H E) (.Assign [.Attribute (.Name "self" p6) fld p7] (.Name x p8) p9) (tOst K fld (tVar 0) (tVar 1)) :=
    ps_ost (pe_var (i := 0) rfl (.inl hka)) (pe_var (i := 1) rfl (.inl hkx) hxd hxc)
  refine ks_wpAt_execs_cons (wpAt_of_wpAny ?_)
  refine wpAny_mono (hst.run [] _ (startF ["self", x, "__class__"] [.ref a, y] [none]) H { nx := fun _ H' => Q .non H', rt := fun _ _ => False } J ⟨y, rfl, .ref a, rfl, a, C, rfl, c.oex, c.noF, .inl ⟨ha, fun dx n ne => q dx n ne⟩⟩) (fun fl s' hs => ?_) fun e s' he => he
  cases fl with
  | next =>
    obtain ⟨σ', H', J', qq⟩ := hs
    refine wpAt_of_wpAny ?_
    rw [execs_nil]
    exact wpAny_pure ⟨.non, H', J'.os, J'.bare, J'.base, J'.hok, rfl, qq⟩
  | ret u =>
    obtain ⟨v, σ', H', J', rv, qq⟩ := hs
    exact False.elim qq
  | brk =>
    obtain ⟨_, _, _, qq⟩ := hs
    exact False.elim qq
  | cont =>
    obtain ⟨_, _, _, qq⟩ := hs
    exact False.elim qq
end
end CH

/-! CHU: raise of an exception with a field, try .. except. -/
namespace CH
open PySem PySem.Spec PyProof.Rows L2 NdefX
def sRaiseI (c fld : Str) (fe : Mo D) : Ms := fun sl h => bindS sl (fe sl h) fun d h1 => .exc c (some (fld, d)) sl h1
section
variable {X : Cx} {W : WX} {C f : Addr} {fd : FuncData} {c fld : Str} {ps : List Str} {e : Expr} {fe : Mo D} {p pos pos' : Pos} {k : Nat}
theorem ds_raiseI (T : OexC X.K C) (iC : PySem.W.findIn X.K (.ref C) "__init__" = some (some (.ref f))) (tI : PySem.W.typeIn X.K (.ref f) = some (.type "function")) (F1 : FnOk X.prog X.w X.K X.mg X.base (L2.CX X.prog X.w) k f fd ps (spX C fld)) (hr : Room (k + 1) X.A) (hb : Binds X.K fd ps [])
    (hc : X.calm = true) (tk : Takes X W) (hg : Gl X c) (hm : X.mg c = some (.ref C)) (he : PE X e (tE (evOf X) W fe)) (hdb : (c == ("__debug__" : Str)) = false := by decide)
    (hs : starEach [e] X.env = (false, eval e X.env) :: starEach [] X.env := by rfl) :
    PS X (.Raise (some (.Call (.Name c p) [e] [] pos)) none pos') (tS (evOf X) W (sRaiseI c fld fe)) := by
  have hx : Passes (L2.CX X.prog X.w) X (fun _ _ _ => False) := passes_call tk fun _ _ _ _ h => h.elim
  have mk := pmk_oex (x := c) (e := e) (es := []) (p := p) (pos := pos) (dvs := []) (ds := []) T iC tI F1 hr hb .nil hx hg hm (da_cons he da_nil hs) hdb hs
  refine (ps_raise hc tk mk).imp fun E σ H ⟨r, F, sl, h, s, g, q⟩ => ?_
  refine tA.of s g ?_
  have q0 := q.bindS s g
  cases hfe : fe sl h with
  | bad => rw [hfe] at q0; exact False.elim q0
  | exc c2 a2 h2 =>
    rw [hfe] at q0
    have e1 : mCons fe mNil sl h = .exc c2 a2 h2 := by
      show bindR (fe sl h) _ = _
      rw [hfe]; rfl
    rw [e1]
    exact q0
  | ok d h1 =>
    rw [hfe] at q0
    have e1 : mCons fe mNil sl h = .ok [d] h1 := by
      show bindR (fe sl h) _ = _
      rw [hfe]; rfl
    rw [e1]
    intro r1 H1 ee g1 vs hvs
    have q1 := q0 r1 H1 ee g1
    cases hvs with
    | cons hv ht =>
      rename_i v vs
      cases ht
      refine ⟨by show 1 ≤ 1000; omega, fun a na => ⟨a, v, rfl, upd_same, fun dx nd hda => ⟨rfl, dx, [(fld, v)], upd_same, ?_, ?_, ?_⟩⟩⟩
      · rw [upd_ne hda, upd_same]
      · rw [upd_ne hda] at nd
        exact nd
      · rw [upd_ne hda] at nd
        have eH : upd (del (upd (upd (upd H1 a (exo a C none)) dx (exd dx [(fld, v)])) a (exo a C (some dx))) a) dx (.xd [(fld, v)]) = upd H1 dx (.xd [(fld, v)]) := by
          funext b
          by_cases h1 : b = dx
          · rw [h1, upd_same, upd_same]
          · rw [upd_ne h1, upd_ne h1]
            by_cases h2 : b = a
            · rw [h2, del_same, na]
            · rw [del_ne h2, upd_ne h2, upd_ne h1, upd_ne h2]
        rw [eH]
        have sm : Same H1 (upd H1 dx (.xd [(fld, v)])) := same_new nd
        exact q1 r1 _ σ (.ref C) (some dx) (.same sm) (g1.same sm) ((s.mono g.mine ee).mono g1.mine (.same sm)) ⟨C, hm, rfl, dx, v, rfl, upd_same, Den.mono g1.mine (.same sm) _ _ hv⟩
end
/-! ### try: body, except x: suite -/
def tryR (tab : List (Str × Bool)) (g : Ms) : SRes → SRes
  | .exc c a sl h => (match tab.lookup c with
    | some true => g sl h
    | some false => .exc c a sl h
    | none => .bad)
  | x => x
def sTryO (tab : List (Str × Bool)) (f g : Ms) : Ms := fun sl h => tryR tab g (f sl h)
/-- which of the classes the clause catches -/
def ExT (X : Cx) (tab : List (Str × Bool)) (cv : Value) : Prop := ∀ c b, tab.lookup c = some b → ∃ C, X.mg c = some (.ref C) ∧ PySem.W.exmOne X.K (.ref C) cv = some b
theorem ExT.one {X : Cx} {c : Str} {b : Bool} {C : Addr} {cv : Value} (hm : X.mg c = some (.ref C)) (h : PySem.W.exmOne X.K (.ref C) cv = some b) : ExT X [(c, b)] cv := fun c' b' e => by
  simp only [List.lookup] at e
  split at e
  · rename_i q
    cases e
    rw [eq_of_beq q]
    exact ⟨C, hm, h⟩
  · cases e
theorem ds_tryO {X : Cx} {W : WX} {x : Str} {cv : Value} {tab : List (Str × Bool)} {body suite : List Stmt} {b0 : Stmt} {np pos pos' : Pos} {f g : Ms} (hs : X.stack = X.env :: X.outer) (hf : X.env.frame = some X.env.locals) (hc : Names X x cv) (tk : Takes X W) (ht : ExT X tab cv)
    (hb : ∀ (W1 : WX) (pn : List (Addr × Obj)) (xe : Value → Shared → Prop), Takes (X.tr pn xe) W1 → PassesOwn (model X.prog X.w) X.A X.env xe → PSs (X.tr pn xe) body (tS (evOf X) W1 f))
    (hsu : ∀ (a : Addr) (pn : List (Addr × Obj)), PSs (X.suite a pn) (b0 :: suite) (tS (evOf X) W g)) :
    PS X (.Try body [.ExceptHandler (some (.Name x np)) none (b0 :: suite) pos'] [] [] pos) (tS (evOf X) W (sTryO tab f g)) :=
  (ps_try_only (tb := fun W1 => tS (evOf X) W1 f) (ts := fun _ _ _ => tS (evOf X) W g) hs hf hc tk hb (fun a oe cls d pn _ _ => hsu a ((a, oe) :: pn))).imp fun E σ H ⟨r, F, sl, h, s, gd, q⟩ => by
    refine tS.of s gd ?_
    have q : SAft (evOf X) W F r H (tryR tab g (f sl h)) E := q
    cases hfs : f sl h with
    | nx sl' h' => rw [hfs] at q; exact q
    | ct sl' h' => rw [hfs] at q; exact q
    | bk sl' h' => rw [hfs] at q; exact q
    | rt d h' => rw [hfs] at q; exact q
    | bad => rw [hfs] at q; exact q
    | exc c a sl' h' =>
      rw [hfs] at q
      have q : SAft (evOf X) W F r H (match tab.lookup c with
        | some true => g sl' h'
        | some false => .exc c a sl' h'
        | none => .bad) E := q
      intro r' H' σ' cls y ee g' s' xd
      obtain ⟨C, hm, rfl, hx⟩ := xd
      cases hl : tab.lookup c with
      | none => rw [hl] at q; exact False.elim q
      | some b =>
        rw [hl] at q
        obtain ⟨C2, hm2, hex⟩ := ht c b hl
        have hm : X.mg c = some (.ref C) := hm
        rw [hm] at hm2
        cases hm2
        refine ⟨b, hex, fun hbt a0 na => ?_, fun hbf => ?_⟩
        · subst hbt
          exact tS.of s' g' (SAft.later (h1 := h') q ee g')
        · subst hbf
          exact q r' H' σ' (.ref C) y ee g' s' ⟨C, hm, rfl, hx⟩
end CH

/-! CHV: what the head says of exceptions with an __init__ of their own. -/
namespace CH
open PySem PySem.Spec PyProof.Rows L2 NdefX
/-- an exception's class, its field, the words of its __init__ -/
structure ExDef where
  cls : Str
  fld : Str
  name : Str
  qual : Str
  params : Arguments
  body : List Stmt
  scope : Scope
abbrev ExV : Type := Option (Str × Str × Arguments × FuncBody × Scope × Addr × List Str × Addr)
def isNoV : Value → Bool
  | .none => true
  | _ => false
theorem isNoV_ok {v : Value} (h : isNoV v = true) : v = .none := by cases v <;> first | rfl | cases h
def fileB (K : PySem.W.Frag) (file : Str) : Value → Bool
  | .ref c => (match K.lookup c with
    | some ⟨_, _, .fields vs, _⟩ => (match (vs[2]? : Option Value) with
      | some (Value.str x _) => file == x
      | _ => false)
    | _ => false)
  | _ => false
def cellB (K : PySem.W.Frag) (C : Addr) : List (Str × Addr) → Bool
  | [(n, c)] => decide (n = ("__class__" : Str)) && (match K.lookup c with
    | some ⟨_, _, .cell (some (.ref D)), _⟩ => decide (D = C)
    | _ => false)
  | _ => false
def oexB (K : PySem.W.Frag) (C : Addr) : Bool := (match K.lookup C with
    | some ⟨.type c, _, .cls cd, sl⟩ => decide (c = "type") && (match cd.mro, sl.toList with
      | .ref C' :: bm, [_, _, _, _, some (.builtin n), _] => decide (C' = C) && (decide (n = "ValueError.__new__") && (!cd.hasDel && (cd.hasDict && PySem.HandSPX.refsVE bm)))
      | _, _ => false)
    | _ => false) && (He.eqO (PySem.W.findIn K (.ref C) "__setattr__") (some (some (.builtin "object.__setattr__"))) && (decide (PySem.W.subIn K (.ref C) (.type "BaseException") = some true) && (decide (PySem.W.typeIn K (.ref C) = some (.type "type")) && PySem.W.keepIn K (.ref C))))
theorem oexB_ok {K : PySem.W.Frag} {C : Addr} (h : oexB K C = true) : OexC K C := by
  unfold oexB at h
  obtain ⟨h1, h⟩ := He.ba h
  obtain ⟨h2, h⟩ := He.ba h
  obtain ⟨h3, h⟩ := He.ba h
  obtain ⟨h4, h5⟩ := He.ba h
  refine ⟨?_, He.eqO_ok h2, of_decide_eq_true h3, of_decide_eq_true h4, h5⟩
  cases q : K.lookup C with
  | none => rw [q] at h1; cases h1
  | some o =>
    obtain ⟨oc, od, dt, osl⟩ := o
    rw [q] at h1
    cases oc with
    | type c =>
      cases dt with
      | cls cd =>
        obtain ⟨g1, g2⟩ := He.ba (show (decide (c = "type") && (match cd.mro, osl.toList with
          | .ref C' :: bm, [_, _, _, _, some (.builtin n), _] => decide (C' = C) && (decide (n = "ValueError.__new__") && (!cd.hasDel && (cd.hasDict && PySem.HandSPX.refsVE bm)))
          | _, _ => false)) = true from h1)
        have ec := of_decide_eq_true g1
        subst ec
        split at g2
        · rename_i C' bm k0 k1 k2 k3 n k5 hm hs
          obtain ⟨a1, g2⟩ := He.ba g2
          obtain ⟨a2, g2⟩ := He.ba g2
          obtain ⟨a3, g2⟩ := He.ba g2
          obtain ⟨a4, a5⟩ := He.ba g2
          have e1 := of_decide_eq_true a1
          have e2 := of_decide_eq_true a2
          subst e1 e2
          obtain ⟨nm, bs, mro, ns, qn, hd, sn, sub, ab, col, del⟩ := cd
          dsimp only at hm a3 a4
          subst hm a4
          have e3 : del = false := by cases del <;> first | rfl | cases a3
          subst e3
          have e4 : osl = #[k0, k1, k2, k3, some (.builtin "ValueError.__new__"), k5] := by
            rw [← Array.toArray_toList (xs := osl), hs]
          subst e4
          exact ⟨nm, qn, ns, bs, bm, sn, sub, ab, col, od, k0, k1, k2, k3, k5, rfl, a5⟩
        · cases g2
      | _ => cases h1
    | _ => cases dt <;> cases h1
def supB (file : Str) (K : PySem.W.Frag) (C f : Addr) (fld qual : Str) : Bool := (match K.lookup f with
    | some ⟨_, _, .func fd, _⟩ => isNoV fd.defaults && (isNoV fd.kwdefaults && (fd.annotations.isNone && (PySem.W.codeIn K fd.code qual && (fileB K file fd.code && cellB K C fd.closure))))
    | _ => false) && (decide (PySem.W.mroIn K C (.ref C) = some true) && (He.eqO (PySem.W.ks_superIn K C C "__init__") (some (some (.builtin "ValueError.__init__"))) && (decide (PySem.W.subIn K (.ref C) (.type "ValueError") = some true) &&
    (He.eqO (PySem.W.nsIn K cStatics "thirdparty.any") (some none) && (oexB K C && (He.eqO (PySem.W.findIn K (.ref C) fld) (some none) && (He.eqO (PySem.W.findIn K (.ref C) "__init__") (some (some (.ref f))) && decide (PySem.W.typeIn K (.ref f) = some (.type "function")))))))))
def exFn (K : PySem.W.Frag) (f : Addr) : ExV := match K.lookup f with
  | some ⟨_, _, .func fd, _⟩ => some (fd.name, fd.qualname, fd.params, fd.body, fd.scope, fd.globals, fd.closure.map (·.1), fd.builtins)
  | _ => none
def exObs1 (file : Str) (K : PySem.W.Frag) (d : ExDef) : ExV × Bool := (exFn K (He.ma K (He.ga K d.cls) "__init__"), supB file K (He.ga K d.cls) (He.ma K (He.ga K d.cls) "__init__") d.fld d.qual)
def exVal1 (d : ExDef) : ExV × Bool := (some (d.name, d.qual, d.params, FuncBody.stmts d.body, d.scope, mainGlobals, [("__class__" : Str)], builtinsNs), true)
def ExDef.nf (d : ExDef) (cc c : Addr) : NF := ⟨d.name, d.qual, d.params, d.body, d.scope, [(("__class__" : Str), cc)], c⟩
theorem sup_of {P : Program} {K : PySem.W.Frag} {d : ExDef} (htop : (P.main.scope.names.lookup ("super" : Str)).isSome = false) (h : exObs1 P.main.file K d = exVal1 d) :
    ∃ (cc c : Addr) (oc : Value) (od : Option Addr) (osl : Array (Option Value)) (doc pm ctv : Value), K.lookup (He.ma K (He.ga K d.cls) "__init__") = some ⟨oc, od, .func ((d.nf cc c).fd doc pm ctv), osl⟩ ∧ SupC P K (He.ga K d.cls) (He.ma K (He.ga K d.cls) "__init__") (d.nf cc c) d.fld ∧
      PySem.W.findIn K (.ref (He.ga K d.cls)) "__init__" = some (some (.ref (He.ma K (He.ga K d.cls) "__init__"))) ∧ PySem.W.typeIn K (.ref (He.ma K (He.ga K d.cls) "__init__")) = some (.type "function") := by
  have e1 : exFn K (He.ma K (He.ga K d.cls) "__init__") = _ := congrArg Prod.fst h
  have e2 : supB P.main.file K (He.ga K d.cls) (He.ma K (He.ga K d.cls) "__init__") d.fld d.qual = true := congrArg Prod.snd h
  generalize hf : He.ma K (He.ga K d.cls) "__init__" = f at *
  generalize hC : He.ga K d.cls = C at *
  unfold supB at e2
  obtain ⟨g1, e2⟩ := He.ba e2
  obtain ⟨g2, e2⟩ := He.ba e2
  obtain ⟨g3, e2⟩ := He.ba e2
  obtain ⟨g4, e2⟩ := He.ba e2
  obtain ⟨g5, e2⟩ := He.ba e2
  obtain ⟨g6, e2⟩ := He.ba e2
  obtain ⟨g7, e2⟩ := He.ba e2
  obtain ⟨g8, g9⟩ := He.ba e2
  unfold exFn at e1
  cases q : K.lookup f with
  | none => rw [q] at g1; cases g1
  | some o =>
    obtain ⟨oc, od, dt, osl⟩ := o
    rw [q] at g1 e1
    cases dt with
    | func fd =>
      obtain ⟨a1, g1⟩ := He.ba (show (isNoV fd.defaults && (isNoV fd.kwdefaults && (fd.annotations.isNone && (PySem.W.codeIn K fd.code d.qual && (fileB K P.main.file fd.code && cellB K C fd.closure))))) = true from g1)
      obtain ⟨a2, g1⟩ := He.ba g1
      obtain ⟨a3, g1⟩ := He.ba g1
      obtain ⟨a4, g1⟩ := He.ba g1
      obtain ⟨a5, a6⟩ := He.ba g1
      have e1 : (some (fd.name, fd.qualname, fd.params, fd.body, fd.scope, fd.globals, fd.closure.map (·.1), fd.builtins) : ExV) = some (d.name, d.qual, d.params, FuncBody.stmts d.body, d.scope, mainGlobals, [("__class__" : Str)], builtinsNs) := e1
      obtain ⟨name, qualname, params, body, scope, globals, closure, defaults, kwdefaults, doc, pyModule, annotations, code, closureTuple, builtins⟩ := fd
      dsimp only at a1 a2 a3 a4 a5 a6 e1
      injection e1 with e1
      injection e1 with b1 e1
      injection e1 with b2 e1
      injection e1 with b3 e1
      injection e1 with b4 e1
      injection e1 with b5 e1
      injection e1 with b6 e1
      injection e1 with b7 b8
      subst b1 b2 b3 b4 b5 b6 b8
      have c1 := isNoV_ok a1
      have c2 := isNoV_ok a2
      have c3 : annotations = none := by cases annotations <;> first | rfl | cases a3
      subst c1 c2 c3
      obtain ⟨c, rfl⟩ := He.codeIn_ref a4
      cases closure with
      | nil => cases a6
      | cons p ps =>
        obtain ⟨n, cc⟩ := p
        cases ps with
        | cons _ _ => cases a6
        | nil =>
          obtain ⟨x1, x2⟩ := He.ba (show (decide (n = ("__class__" : Str)) && (match K.lookup cc with
            | some ⟨_, _, .cell (some (.ref D)), _⟩ => decide (D = C)
            | _ => false)) = true from a6)
          have hn := of_decide_eq_true x1
          subst hn
          have hcell : ∃ cl cld csl, K.lookup cc = some ⟨cl, cld, .cell (some (.ref C)), csl⟩ := by
            cases q2 : K.lookup cc with
            | none => rw [q2] at x2; cases x2
            | some o2 =>
              obtain ⟨oc2, od2, dt2, osl2⟩ := o2
              rw [q2] at x2
              cases dt2 with
              | cell v =>
                cases v with
                | none => cases x2
                | some v =>
                  cases v with
                  | ref D =>
                    have : D = C := of_decide_eq_true x2
                    subst this
                    exact ⟨_, _, _, rfl⟩
                  | _ => cases x2
              | _ => cases x2
          have hfile : ∃ ccl cdd vs ccs file tf, K.lookup c = some ⟨ccl, cdd, .fields vs, ccs⟩ ∧ vs[2]? = some (.str file tf) ∧ ((P.main.file : Str) == file) = true := by
            have a5 : (match K.lookup c with
              | some ⟨_, _, .fields vs, _⟩ => (match (vs[2]? : Option Value) with
                | some (Value.str x _) => P.main.file == x
                | _ => false)
              | _ => false) = true := a5
            cases q2 : K.lookup c with
            | none => rw [q2] at a5; cases a5
            | some o2 =>
              obtain ⟨oc2, od2, dt2, osl2⟩ := o2
              rw [q2] at a5
              cases dt2 with
              | fields vs =>
                have a5 : (match (vs[2]? : Option Value) with
                  | some (Value.str x _) => P.main.file == x
                  | _ => false) = true := a5
                cases q3 : vs[2]? with
                | none => rw [q3] at a5; cases a5
                | some v =>
                  rw [q3] at a5
                  cases v with
                  | str x t => exact ⟨_, _, vs, _, x, t, rfl, q3, a5⟩
                  | _ => cases a5
              | _ => cases a5
          obtain ⟨cl, cld, csl, hcl⟩ := hcell
          exact ⟨cc, c, oc, od, osl, doc, pyModule, closureTuple, rfl, ⟨⟨oc, od, osl, doc, pyModule, closureTuple, q⟩, a4, hfile, ⟨cc, cl, cld, csl, rfl, hcl⟩, of_decide_eq_true g2, He.eqO_ok g3, of_decide_eq_true g4, He.eqO_ok g5, oexB_ok g6, He.eqO_ok g7, htop⟩, He.eqO_ok g8, of_decide_eq_true g9⟩
    | _ => cases g1
end CH

/-! CHW: the Hook with such exceptions, raise of one. -/
namespace CH
open PySem PySem.Spec PyProof.Rows L2 NdefX
abbrev AlE : Type := He.AlX × List (ExV × Bool)
def obsE (file : Str) (n : Nat) (fa : List He.Fa) (fn : List He.DefD) (ex : PySem.W.Frag → Bool) (ds : List ExDef) (g : Addr → Option Obj) : AlE := (He.obsX n fa fn [] [] ex g, ds.map fun d => exObs1 file (He.frT g (He.asD g n)) d)
def hookE (file : Str) (n : Nat) (fa : List He.Fa) (fn : List He.DefD) (ex : PySem.W.Frag → Bool) (ds : List ExDef) : PySem.W.Hook where
  α := AlE
  obs := fun s => obsE file n fa fn ex ds s.heap.get?
  val := fun w => (He.valX fn [] w, ds.map exVal1)
  says := fun w h => ∃ K : PySem.W.Frag, K.In h ∧ He.SaysX fa fn [] [] ex w h K ∧ ds.map (fun d => exObs1 file K d) = ds.map exVal1
  of := fun w s e => ⟨_, He.frT_in, He.saysX_of (congrArg Prod.fst e), congrArg Prod.snd e⟩
  keeps := fun _ _ _ ⟨K, hK, c, z⟩ k => ⟨K, PySem.W.Frag.In.keeps hK k, ⟨c.t, c.more, c.hd, c.out, fun p hp => k _ _ (c.empty p hp)⟩, z⟩
theorem obsE_eq {file : Str} {n : Nat} {fa : List He.Fa} {fn : List He.DefD} {ex : PySem.W.Frag → Bool} {ds : List ExDef} {g : Addr → Option Obj} {s : Shared} (h : ∀ a, g a = s.heap.get? a) : obsE file n fa fn ex ds g = (hookE file n fa fn ex ds).obs s := by
  have e : g = s.heap.get? := funext h
  rw [e] <;> rfl
/-- an exception with an __init__ of its own -/
structure XInit (P : Program) (w : World) (K : PySem.W.Frag) (mg : Str → Option Value) (base : Heap) (C : Addr) (fld : Str) : Prop where
  ex : ∃ (f : Addr) (fd : FuncData) (ps : List Str), OexC K C ∧ PySem.W.findIn K (.ref C) "__init__" = some (some (.ref f)) ∧ PySem.W.typeIn K (.ref f) = some (.type "function") ∧ (∀ k, FnOk P w K mg base (L2.CX P w) k f fd ps (spX C fld)) ∧ Binds K fd ps []
theorem xinit_of {P : Program} {w : World} {K : PySem.W.Frag} {mg : Str → Option Value} {base : Heap} {ds : List ExDef} {d : ExDef} {x : Str} {ar : Arg} {p0 p1 p2 p3 p4 p5 p6 p7 p8 p9 : Pos} {pl : (cc c f L : Addr) → Sem Bool} (i : Nat) (hd : ds[i]? = some d) (h : ds.map (fun d => exObs1 P.main.file K d) = ds.map exVal1) (hmg : mg "super" = none)
    (htop : (P.main.scope.names.lookup ("super" : Str)).isSome = false)
    (hb : d.body = [.Expr (.Call (.Attribute (.Call (.Name "super" p0) [] [] p1) "__init__" p2) [.Name x p3] [] p4) p5, .Assign [.Attribute (.Name "self" p6) d.fld p7] (.Name x p8) p9])
    (he : ∀ cc c f L : Addr, eval (.Call (.Attribute (.Call (.Name "super" p0) [] [] p1) "__init__" p2) [.Name x p3] [] p4) (envF (d.nf cc c) f L) = (do
      let ov ← attributeBase (.Call (.Name "super" p0) [] [] p1) "__init__" (envF (d.nf cc c) f L) (eval (.Call (.Name "super" p0) [] [] p1) (envF (d.nf cc c) f L))
      standAt p2.atName
      let (g, first) ← holding [ov] (getMethod ov "__init__" (pl cc c f L))
      callWith p4 g first (backTo p4 (starEach [.Name x p3] (envF (d.nf cc c) f L))) []))
    (S : NScope ["self", x, "__class__"] ["self", x] ["__class__"] d.scope) (hks : d.scope.names.lookup ("super" : Str) = some .globalImplicit) (har : (d.params.posonlyargs ++ d.params.args).head? = some ar) (hars : ar.arg = "self") (hxd : (x == ("__debug__" : Str)) = false) (hxc : (x == ("__classdict__" : Str)) = false)
    (hbd : ∀ (cc c : Addr) (doc pm ctv : Value) (us : List Value), us.length = 2 → bindArgs ((d.nf cc c).fd doc pm ctv) ⟨us, []⟩ = pure ((["self", x] : List Str).zip us)) : XInit P w K mg base (He.ga K d.cls) d.fld := by
  have e := congrArg (fun l => l[i]?) h
  simp only [List.getElem?_map, hd] at e
  obtain ⟨cc, c, oc, od, osl, doc, pm, ctv, lk, sc, iC, tI⟩ := sup_of htop (Option.some.inj e)
  exact ⟨_, _, ["self", x], sc.oex, iC, tI, fun k => init_ok (F := d.nf cc c) (pl := pl cc c _) (he cc c _) hb S hks har hars hxd hxc sc lk hmg, Binds.all fun us hl => hbd cc c doc pm ctv us hl⟩
theorem ds_raiseX {X : Cx} {W : WX} {C : Addr} {c fld : Str} {e : Expr} {fe : Mo D} {p pos pos' : Pos} {n : Nat} (T : XInit X.prog X.w X.K X.mg X.base C fld) (hr : Room (2 * n + 1) X.A) (hc : X.calm = true) (tk : Takes X W) (hg : Gl X c) (hm : X.mg c = some (.ref C)) (he : PE X e (tE (evOf X) W fe)) (hdb : (c == ("__debug__" : Str)) = false := by decide)
    (hs : starEach [e] X.env = (false, eval e X.env) :: starEach [] X.env := by rfl) :
    PS X (.Raise (some (.Call (.Name c p) [e] [] pos)) none pos') (tS (evOf X) W (sRaiseI c fld fe)) := by
  obtain ⟨f, fd, ps, T1, iC, tI, F1, hb⟩ := T.ex
  exact ds_raiseI (k := 0) T1 iC tI (F1 0) (hr.mono (by omega)) hb hc tk hg hm he hdb hs
end CH

/-! CHX: a leaner Hook: only the objects that the facts look at. -/
namespace CH
open PySem PySem.Spec PyProof.Rows L2 NdefX
def atF (g : Addr → Option Obj) (r : Obj → List Addr) (as : List Addr) : List Addr := as.flatMap fun a => match g a with
  | some o => r o
  | none => []
def seqF (o : Obj) : List Addr := match o.data with
  | .seq its _ => its.toList.flatMap He.refV
  | _ => []
/-- of a module's value: a function's code, a class's names, a row's items -/
def ref1 (o : Obj) : List Addr := match o.data with
  | .seq its _ => its.toList.flatMap He.refV
  | .func fd => He.refV fd.code
  | .cls cd => [cd.ns]
  | _ => []
def refNs (o : Obj) : List Addr := match o.data with
  | .seq its _ => its.toList.flatMap He.refV
  | .dict es _ => es.toList.flatMap fun e => He.refV e.val
  | _ => []
def refM (o : Obj) : List Addr := match o.data with
  | .seq its _ => its.toList.flatMap He.refV
  | .func fd => He.refV fd.code ++ fd.closure.map (·.2)
  | _ => []
def asF (g : Addr → Option Obj) : List Addr :=
  let l1 := atF g refNs [mainGlobals]
  let l2 := atF g ref1 l1
  let l3 := atF g refNs l2
  let l4 := atF g refM l3
  mainGlobals :: cStatics :: (l1 ++ (l2 ++ (l3 ++ l4)))
def obsF (file : Str) (fa : List He.Fa) (fn : List He.DefD) (ex : PySem.W.Frag → Bool) (ds : List ExDef) (g : Addr → Option Obj) : AlE := ((He.obsT fa fn [] (He.frT g (asF g)), ex (He.frT g (asF g))), ds.map fun d => exObs1 file (He.frT g (asF g)) d)
def hookF (file : Str) (fa : List He.Fa) (fn : List He.DefD) (ex : PySem.W.Frag → Bool) (ds : List ExDef) : PySem.W.Hook where
  α := AlE
  obs := fun s => obsF file fa fn ex ds s.heap.get?
  val := fun w => (He.valX fn [] w, ds.map exVal1)
  says := fun w h => ∃ K : PySem.W.Frag, K.In h ∧ He.SaysX fa fn [] [] ex w h K ∧ ds.map (fun d => exObs1 file K d) = ds.map exVal1
  of := fun w s e => ⟨_, He.frT_in, ⟨congrArg (fun z : AlE => z.1.1) e, congrArg (fun z : AlE => z.1.2) e, fun p hp => (List.not_mem_nil hp).elim, fun p hp => (List.not_mem_nil hp).elim, fun p hp => (List.not_mem_nil hp).elim⟩, congrArg Prod.snd e⟩
  keeps := fun _ _ _ ⟨K, hK, c, z⟩ k => ⟨K, PySem.W.Frag.In.keeps hK k, ⟨c.t, c.more, c.hd, c.out, fun p hp => k _ _ (c.empty p hp)⟩, z⟩
theorem obsF_eq {file : Str} {fa : List He.Fa} {fn : List He.DefD} {ex : PySem.W.Frag → Bool} {ds : List ExDef} {g : Addr → Option Obj} {s : Shared} (h : ∀ a, g a = s.heap.get? a) : obsF file fa fn ex ds g = (hookF file fa fn ex ds).obs s := by
  have e : g = s.heap.get? := funext h
  rw [e] <;> rfl
end CH

/-! CHD1: the values of a locked dict with tuple keys. The steps of the values' iterator are KE.KDictWalk's raw rules. -/
namespace CHT
open PySem PySem.Spec PyProof.Rows L2
/-- what is needed of a built-in iterator that is one object it with fields fs i after i steps, to be a Turn -/
structure Alone (P : Program) (w : World) (K : PySem.W.Frag) (J : It) (T : String) (it : Addr) (fs : Nat → Array Value) : Prop where
  nopair : ["enumerate", "zip", "dict_itemiterator", "dict_reverseitemiterator", "odict_iterator", "itertools.zip_longest", "itertools.pairwise"].contains T = false
  step : ∀ {X : Cx} {pins : List (Addr × Obj)} {σ : L2.St} {H : Hp} {s : Shared} {E : Value → Shared → Prop} {Q : Option Value → Shared → Prop} (i : Nat), X.prog = P → X.w = w → Inv X pins σ H s →
    (∃ o, s.heap.get? it = some o ∧ o.cls = .type T ∧ o.data = .fields (fs i)) → J.go i H →
    (∀ h' u x, (∃ o, h'.get? it = some o ∧ o.cls = .type T ∧ o.data = .fields (fs (i + 1))) → Heap.SameBut it s.heap h' → RelV x u → J.yld i H x H → Q (some u) { s with heap := h' }) →
    wpAny (model P w) X.A (pyNext (.ref it)) Q E s
  stop : ∀ {X : Cx} {pins : List (Addr × Obj)} {σ : L2.St} {H : Hp} {s : Shared} {E : Value → Shared → Prop} {Q : Option Value → Shared → Prop} (i : Nat), X.prog = P → X.w = w → X.calm = true → Inv X pins σ H s →
    (∃ o, s.heap.get? it = some o ∧ o.cls = .type T ∧ o.data = .fields (fs i)) → J.stop i H → (∀ h', Heap.ExtBut it s.heap h' → Q none { s with heap := h' }) →
    wpAny (model P w) X.A (pyNext (.ref it)) Q E s
  iter : ∀ {A : Around} {s : Shared} {E Q : Value → Shared → Prop} (i : Nat), (∃ o, s.heap.get? it = some o ∧ o.cls = .type T ∧ o.data = .fields (fs i)) → Q (.ref it) s → wpAny (model P w) A (pyIter (.ref it)) Q E s
theorem FpOk.keep {X : Cx} {pins : List (Addr × Obj)} {σ : L2.St} {H : Hp} {s : Shared} {it : Addr} {h' : Heap} (f : FpOk X pins H it) (I : Inv X pins σ H s) (k : Heap.ExtBut it s.heap h') : Inv X pins σ H { s with heap := h' } :=
  match f with
  | ⟨a, b, c, d, e, g⟩ => I.turned (t' := s.toks) (fun x ox hx ex => k x ox hx ex) a b d e g
theorem Alone.turn {P : Program} {w : World} {K : PySem.W.Frag} {tg : Expr} {J : It} {T : String} {it : Addr} {fs : Nat → Array Value} (Z : Alone P w K J T it fs) :
    Turn P w K tg J [it] it (fun i h => ∃ o, h.get? it = some o ∧ o.cls = .type T ∧ o.data = .fields (fs i)) where
  mem := List.mem_singleton.mpr rfl
  obj i h st b hb := by
    cases List.mem_singleton.mp hb
    exact st.elim fun o p => ⟨o, p.1, fun v q => nomatch p.2.2.symm.trans q⟩
  keep i h h' st k := st.elim fun o p => ⟨o, k it (List.mem_singleton.mpr rfl) o p.1, p.2⟩
  item X hP hw hK hc i pins s σ H E I hf st go := by
    have f := hf it (List.mem_singleton.mpr rfl)
    refine Z.step i hP hw I st go fun h' u x st' sb rx yy => ⟨u, rfl, ?_⟩
    have I' := FpOk.keep f I sb.extBut
    exact st'.elim fun o p => go_of (s := { s with heap := h' }) p.1 p.2.1 p.2.2 Z.nopair ⟨x, H, I', rx, yy, st', fun b hb => (hf b hb).1⟩
  done X hP hw hK hc i pins s σ H E I hf st go := Z.stop i hP hw hc I st go fun h' k => ⟨rfl, FpOk.keep (hf it (List.mem_singleton.mpr rfl)) I k⟩
  self A i s Q E st h := Z.iter i st h
section
variable {X : Cx} {pins : List (Addr × Obj)} {σ : L2.St} {H : Hp} {s : Shared} {d : Addr} {o : Obj} {kvs : List (List Key × V)}
/-- the values of the locked dict, as they stand in its entries -/
structure ValsAt (h : Heap) (d : Addr) (es : Array DictEntry) (ep : Nat) (kvs : List (List Key × V)) : Prop where
  raw : h.DictRaw d es ep
  size : es.size = kvs.length
  val : ∀ i (hi : i < es.size), ∃ k v, kvs[i]? = some (k, v) ∧ RelV v es[i].val
theorem valsAt (I : Inv X pins σ H s) (h : H d = some (.frz o (.dT kvs))) : (d == sysModules) = false ∧ ∃ es ep, o.data = .dict es ep ∧ ValsAt s.heap d es ep kvs := by
  have ok : ObjOk X.prog X.w H s.heap d (.frz o (.dT kvs)) := I.hok d _ h
  have base := I.frzT h
  refine ⟨base.1, ?_⟩
  match base.2 with
  | ⟨at_, ex, es, ep, dat, n, _⟩ =>
    refine ⟨es, ep, dat, ⟨o, at_, ex, dat⟩, n, fun i hi => ?_⟩
    have hk : i < kvs.length := n ▸ hi
    match ok with
    | ⟨_, _, _, xs, pr, o', es', ep', ho, _, dat', he, _⟩ =>
      cases at_.symm.trans ho
      cases dat.symm.trans dat'
      match paired_get pr (List.getElem?_eq_getElem hk) with
      | ⟨b, hb, _, _, rel⟩ =>
        refine ⟨kvs[i].1, kvs[i].2, List.getElem?_eq_getElem hk, ?_⟩
        have q := entry_at he i
        rw [hb] at q
        rw [show es[i] = _ from Option.some.inj ((Array.getElem?_eq_getElem hi).symm.trans q)]
        exact rel
/-- the values -/
def Itdt (d : Addr) (o : Obj) (kvs : List (List Key × V)) : It where
  go i H := H d = some (.frz o (.dT kvs)) ∧ i < kvs.length
  yld i H x H' := H' = H ∧ ∃ k, kvs[i]? = some (k, x)
  stop i H := H d = some (.frz o (.dT kvs)) ∧ kvs.length ≤ i
/-- the fields of the iterator over a dict's values -/
def vfs (d : Addr) (n ep i : Nat) : Array Value := #[.ref d, .int i 0, .int n 0, .int ep 0]
theorem vals_alone {P : Program} {w : World} {K : PySem.W.Frag} {es : Array DictEntry} {ep : Nat} (it : Addr) (hod : o.data = .dict es ep) (hn : es.size = kvs.length) :
    Alone P w K (Itdt d o kvs) "dict_valueiterator" it (vfs d es.size ep) where
  nopair := by decide
  step {X pins σ H s E Q} i hP hw I st go k := by
    cases hP
    cases hw
    match valsAt I go.1 with
    | ⟨_, es', ep', dat, V⟩ =>
      cases hod.symm.trans dat
      have hi : i < es.size := hn ▸ go.2
      match V.val i hi with
      | ⟨key, v, e, rel⟩ => exact wpAny_pyNext_values_item_raw st V.raw hi fun h' st' sb => k h' _ v st' sb rel ⟨rfl, key, e⟩
  stop {X pins σ H s E Q} i hP hw hc I st go k := by
    cases hP
    cases hw
    match valsAt I go.1 with
    | ⟨_, es', ep', dat, V⟩ =>
      cases hod.symm.trans dat
      exact wpAny_pyNext_values_end_raw (I.ok.hd hc) st V.raw (hn ▸ go.2) k
  iter i st h := wpAny_pyIter_valiter (i := i) (d := d) (n := es.size) (ep := ep) st h
def iValsT (td : TE) : TI := fun σ H R => td σ H fun x H1 => ∃ d o kvs, x = .ref d ∧ H1 d = some (.frz o (.dT kvs)) ∧ R (Itdt d o kvs) H1
theorem pi_valuesT {tg e : Expr} {td : TE} {apos cpos : Pos} (he : PE X e td) (hbase : attributeBase e "values" X.env (eval e X.env) = eval e X.env := by rfl) (hline : (apos.endLine == cpos.line) = true := by rfl) : PI X tg (.Call (.Attribute e "values" apos) [] [] cpos) (iValsT td) where
  run pins s σ H R I h := by
    refine wpAny_Call_method (T := "dict") (id := "dict.values") hbase rfl hline F.plainAttrs_dict F.slot_dict_values F.type_dict_values (thn (he.run pins s σ H _ I h) fun u s1 hh => ?_)
    match hh with
    | ⟨x, H1, I1, rx, d, o, kvs, ex, hd, q⟩ =>
      cases ex
      cases (show u = Value.ref d from rx)
      match valsAt I1 hd with
      | ⟨hs, es, ep, dat, V⟩ =>
        refine ⟨V.raw.typeIs, V.raw.elim fun o1 p a ea => ⟨o1, Value.ref.inj ea ▸ p.1, p.2.1.2.1⟩, ?_⟩
        refine method_meetsIn F.slot_dict_values F.entry_dict_values rfl (PySem.evalArgs_none ⟨rfl, V.raw.typeIs, F.args_dict_values_1 _, _, meets_dict_values_raw d hs, ⟨es, ep, V.raw⟩, ?_⟩)
        refine wpAny_pyIter_values_raw (d := d) ⟨_, Heap.get?_push_size _ rfl, rfl, rfl⟩ (V.raw.at fun _ e => Heap.get?_push_of_some _ e) ?_
        exact pi_one (tk := s1.toks) (I1.kept (t' := s1.toks) fun _ _ e => Heap.get?_push_of_some _ e) _ (vals_alone (d := d) _ dat V.size).turn ⟨_, Heap.get?_push_size _ rfl, rfl, rfl⟩ q
end
end CHT

/-! CHD2: a dict comprehension whose keys are tuples; the dict that it makes is locked for good. -/
namespace CHT
open PySem PySem.Spec PyProof.Rows L2
/-- true of every block that the scope may get -/
def EachBlk (X : Cx) (scope : Scope) (Φ : Cx → Prop) : Prop := ∀ (s : Shared) (H : Hp) (C : Addr) (cl : List (Str × Addr)) (fp : List Addr), Φ (X.blk s H scope (compEnvC scope cl C X.env) fp)
/-- one pair more in the growing dict -/
theorem setKey {X : Cx} {pins : List (Addr × Obj)} {σ : L2.St} {H : Hp} {s : Shared} {E : Value → Shared → Prop} {D b : Addr} {kvs : List (List Key × V)} {k : List Key} {v : V} {r : Value} {Q : Unit → Shared → Prop} (room : X.A.units + 1 < cLine) (I : Inv X pins σ H s) (hD : H D = some (.dT kvs)) (few : kvs.length < sizeLine)
    (hb : H b = some (.tup (k.map kV))) (rv : RelV v r) (h : ∀ s', Inv X pins σ (upd H D (.dT (putK kvs k v))) s' → Q () s') : wpAny (model X.prog X.w) X.A (dictSet D (.ref b) r) Q E s :=
  match dt_of I.hok hD with
  | ⟨le, ns, xs, pairs, d0⟩ => by
    have apart : ∀ c ys, H c = some (.tup ys) → (upd H D (.dT (putK kvs k v))) c = some (.tup ys) := fun c ys e => (upd_ne (ne_of e hD (fun z => nomatch z))).trans e
    refine wpAny_dictSet_heap (hsz := Paired.length pairs ▸ le) (Nat.lt_of_succ_lt room) (key_of I.hok hb) d0 fun h' d1 sb => h _ ?_
    match d1 with
    | ⟨ob, es, ep, e1, e2, e3, e4, _, e5⟩ =>
      exact d_write I (hD ▸ (True.intro : Mut (some (.dT kvs)))) sb ⟨ob, e1⟩ ⟨Nat.le_trans (length_putK kvs k v) few, ns, _, (pairs.put k hb rv).keeps apart, ob, es, ep, e1, e2, e3, e4, e5⟩
/-- {k: v for target in iter if ..}, keys tuples: D the new dict, locked at the end -/
def tDcT (wi : TI) (g : TG) (tt : TT) (tk tv : TE) (vs : List Nat) : TE := fun σ H Q => wi σ H fun J H1 => ∀ D, H1 D = none → ∃ W : Nat → Nat → Hp → Prop, (∃ m, W 0 m (upd H1 D (.dT []))) ∧ ∀ i m H, W i m H →
  (J.stop i H ∧ ∃ kvs, H D = some (.dT kvs) ∧ ∀ od, Q (.ref D) (upd H D (.frz od (.dT kvs)))) ∨ (J.go i H ∧ ∃ Nx : Hp → Prop, (∀ H', Nx H' → ∃ m', m' < m ∧ W (i + 1) m' H') ∧ ∀ x H', J.yld i H x H' → g x (L2.wipe σ vs) H' fun σ2 H2 => L2.wipe σ2 vs = L2.wipe σ vs ∧ tt σ2 H2 fun b H3 =>
    if b = true then tk σ2 H3 fun y H4 => tv σ2 H4 fun z H5 => ∃ kvs k b, y = .ref b ∧ H5 b = some (.tup (k.map kV)) ∧ H5 D = some (.dT kvs) ∧ kvs.length < sizeLine ∧ Nx (upd H5 D (.dT (putK kvs k z))) else Nx H3)
/-- the loop inside the block Y, after i turns, at most n to come -/
structure InLoop (Y : Cx) (τ : L2.St) (tn : Nat → Heap → Prop) (W : Nat → Nat → Hp → Prop) (n i : Nat) (H : Hp) (s : Shared) : Prop where
  inv : Inv Y [] τ H s
  st : tn i s.heap
  free : ∀ b ∈ Y.ex, H b = none
  w : W i n H
theorem ex_ok {Y : Cx} {τ : L2.St} {H : Hp} {s : Shared} (I : Inv Y [] τ H s) (hp : Y.pn = []) (n : ∀ b ∈ Y.ex, H b = none) : ∀ b ∈ Y.ex, FpOk Y [] H b := fun b hb =>
  have u := I.ok.exf b hb
  ⟨n b hb, u.1, I.ok.exfs b hb, Or.inl hb, u.2, by rw [hp]; exact fun p q => absurd q (List.not_mem_nil)⟩
section
variable {X : Cx} {s3 : Shared} {H3 : Hp} {scope : Scope} {ce : Env} {fp : List Addr} {tn : Nat → Heap → Prop} {J : It} {it : Addr} {tg : Expr} {W : Nat → Nat → Hp → Prop} {vs : List Nat} {σ : L2.St}
/-- the end of a turn: the names of the block fall, the iterator's objects are no longer pinned -/
theorem turn_ends (T : Turn X.prog X.w X.K tg J fp it tn) {i m : Nat} {h7 : Heap} {σ8 : L2.St} {H' : Hp} {s' : Shared} (st : tn (i + 1) h7) (I : Inv (X.blk s3 H3 scope ce fp) ([] ++ pinsAt fp h7) σ8 H' s') (e : L2.wipe σ8 vs = L2.wipe σ vs) (w : W (i + 1) m H') :
    InLoop (X.blk s3 H3 scope ce fp) (L2.wipe σ vs) tn W m (i + 1) H' s' := by
  have pin : ∀ b ∈ fp, ∀ o, h7.get? b = some o → s'.heap.get? b = some o ∧ H' b = none := fun b hb o eo =>
    have z := I.pin (b, o) (List.mem_append_right _ (List.mem_append_right _ (mem_pinsAt hb eo)))
    ⟨z.1, z.2.1⟩
  constructor
  · exact I.unpinned.weak (e ▸ wipe_length σ8 vs) fun j v ej => (wipe_some (vs := vs) (e ▸ ej)).1
  · exact T.keep _ _ _ st fun b hb o eo => (pin b hb o eo).1
  · exact fun b hb => (T.obj _ _ st b hb).elim fun o p => (pin b hb o p.1).2
  · exact w
/-- the loop's turns -/
theorem turnsT {kx vx iter : Expr} {ifs : List Expr} {pos : Pos} {D : Addr} {g : TG} {tt : TT} {tk tv : TE} {Q : VK} {R : Result → Shared → Prop} {m0 : Nat} {s4 : Shared} (room : X.A.units + 1 < cLine) (hc : X.calm = true) (T : Turn X.prog X.w X.K tg J fp it tn)
    (pg : PG (X.blk s3 H3 scope ce fp) tg g) (pt : PTs (X.blk s3 H3 scope ce fp) ifs tt) (pk : PE (X.blk s3 H3 scope ce fp) kx tk) (pv : PE (X.blk s3 H3 scope ce fp) vx tv)
    (turn : ∀ i m H, W i m H → (J.stop i H ∧ ∃ kvs, H D = some (.dT kvs) ∧ ∀ od, Q (.ref D) (upd H D (.frz od (.dT kvs)))) ∨ (J.go i H ∧ ∃ Nx : Hp → Prop, (∀ H', Nx H' → ∃ m', m' < m ∧ W (i + 1) m' H') ∧
      ∀ x H', J.yld i H x H' → g x (L2.wipe σ vs) H' fun σ2 H2 => L2.wipe σ2 vs = L2.wipe σ vs ∧ tt σ2 H2 fun b H3 =>
        if b = true then tk σ2 H3 fun y H4 => tv σ2 H4 fun z H5 => ∃ kvs k b, y = .ref b ∧ H5 b = some (.tup (k.map kV)) ∧ H5 D = some (.dT kvs) ∧ kvs.length < sizeLine ∧ Nx (upd H5 D (.dT (putK kvs k z))) else Nx H3))
    (last : ∀ H s kvs, Inv (X.blk s3 H3 scope ce fp) [] (L2.wipe σ vs) H s → H D = some (.dT kvs) → (∀ od, Q (.ref D) (upd H D (.frz od (.dT kvs)))) → R (.ok .next) s)
    (L : InLoop (X.blk s3 H3 scope ce fp) (L2.wipe σ vs) tn W m0 0 H3 s4) :
    codeAny (model X.prog X.w) X.A (.compLoop (.DictComp kx vx [⟨tg, iter, ifs, 0⟩] scope pos) 0 (.ref it) (.ref D) ce) R s4 := by
  refine compLoop_anyD (fun n s => ∃ i H, InLoop (X.blk s3 H3 scope ce fp) (L2.wipe σ vs) tn W n i H s) (fun n s hs => ?_) m0 ⟨0, H3, L⟩
  match hs with
  | ⟨i, H, L⟩ =>
    have fps := ex_ok L.inv rfl L.free
    rcases turn i n H L.w with ⟨stop, kvs, hD, q⟩ | ⟨go, Nx, down, body⟩
    · refine thnF (T.done (X.blk s3 H3 scope ce fp) rfl rfl rfl hc i [] s _ H (fun _ _ => False) L.inv fps L.st stop) fun r s6 hr => ?_
      cases hr.1
      exact last H s6 kvs hr.2 hD q
    · refine thnF (T.item (X.blk s3 H3 scope ce fp) rfl rfl rfl hc i [] s _ H (fun _ _ => False) L.inv fps L.st go) fun r s6 hr => ?_
      match r, hr with
      | _, ⟨u, rfl, step⟩ =>
        refine thnF step fun _ s7 ⟨x, H7, I7, rx, y7, st7, n7⟩ => ?_
        have P7 := I7.pinned (ex_ok I7 rfl n7) (T.obj _ _ st7)
        have back : ∀ {s' : Shared} {H' : Hp} {σ8 : L2.St}, Inv (X.blk s3 H3 scope ce fp) ([] ++ pinsAt fp s7.heap) σ8 H' s' → L2.wipe σ8 vs = L2.wipe σ vs → Nx H' → ∃ m, m < n ∧ ∃ i H, InLoop (X.blk s3 H3 scope ce fp) (L2.wipe σ vs) tn W m i H s' := fun {s' H' σ8} I' e nx =>
          (down H' nx).elim fun m w => ⟨m, w.1, i + 1, H', turn_ends T st7 I' e w.2⟩
        refine thnF (pg.run _ s7 _ H7 x u _ P7 rx (body x H7 y7)) fun _ s8 ⟨σ8, H8, I8, e8, q8⟩ => ?_
        refine thnF (pt.run _ s8 σ8 H8 _ I8 q8) fun b s9 ⟨H9, I9, q9⟩ => ?_
        dsimp only at q9 ⊢
        by_cases hb : b = true
        · rw [if_pos hb] at q9 ⊢
          refine thnF (pk.run _ s9 σ8 H9 _ I9 q9) fun z s10 ⟨yk, H10, I10, rk, q10⟩ => ?_
          refine thnF (pv.run _ s10 σ8 H10 _ I10 q10) fun z2 s11 ⟨yv, H11, I11, rv, kvs, k, b, ek, hb, hD, few, nx⟩ => ?_
          cases ek
          cases (show z = Value.ref b from rk)
          exact setKey (X := X.blk s3 H3 scope ce fp) room I11 hD few hb rv fun s12 I12 => back I12 e8 nx
        · rw [if_neg hb] at q9 ⊢
          exact back I9 e8 q9
/-- out of the block again -/
theorem leaves {pins : List (Addr × Obj)} {σ τ : L2.St} {H : Hp} {s : Shared} (I3 : Inv X pins σ H3 s3) (f : ∀ b ∈ fp, FpOk X pins H3 b) (hL : ce.locals = s3.heap.objs.size) (I : Inv (X.blk s3 H3 scope ce fp) [] τ H s) :
    Inv X pins σ H s ∧ H s3.heap.objs.size = none ∧ ∃ m, s.heap.Ns s3.heap.objs.size m := by
  rw [← hL]
  refine ⟨I3.call' (ch := fp) I.os I.base I.hok I.bare fun b hb => ?_, I.free, I.loc.elim fun m p => ⟨m, p.1⟩⟩
  match f b hb with
  | ⟨_, a1, _, a3, a4, a5⟩ => exact ⟨a3, a1, a4, a5⟩
end
section
variable {X : Cx} {pins : List (Addr × Obj)} {σ : L2.St} {H : Hp} {s : Shared}
/-- a new empty dict, and the iterator's objects beside it -/
theorem new_dT (I : Inv X pins σ H s) : Inv X pins σ (upd H s.heap.objs.size (.dT [])) { s with heap := s.heap.push { cls := .type "dict", data := .dict #[] } } :=
  I.laid (t' := s.toks) (fun _ _ e => Heap.get?_push_of_some _ e) (Nat.le_refl _) (dt_empty s.heap I.big)
theorem fp_push {fp : List Addr} {o : HO} {ob : Obj} (old : ∀ b ∈ fp, b < s.heap.objs.size) (f : ∀ b ∈ fp, FpOk X pins H b) : ∀ b ∈ fp, FpOk X pins (upd H s.heap.objs.size o) b ∧ b < (s.heap.push ob).objs.size := fun b hb =>
  ⟨⟨(upd_ne (Nat.ne_of_lt (old b hb))).trans (f b hb).1, (f b hb).2⟩, Heap.size_push s.heap ob ▸ Nat.lt_succ_of_lt (old b hb)⟩
theorem dcT_core {Q : VK} {kx vx tg iter : Expr} {ifs : List Expr} {scope : Scope} {own : List (Str × Nat)} {pos pos' : Pos} {wi : TI} {g : TG} {tt : TT} {tk tv : TE} {use : Option (Value → Sem Unit)} {Qf : Value → Shared → Prop} (room : X.A.units + 1 < cLine)
    (hc : X.calm = true) (hN : X.N.Nodup) (I : Inv X pins σ H s) (hi : PI X tg iter wi) (ok : BlkOk X.N X.env.scope scope own) (hg : EachBlk X scope fun Y => PG Y tg g) (ht : EachBlk X scope fun Y => PTs Y ifs tt) (hk : EachBlk X scope fun Y => PE Y kx tk) (hv : EachBlk X scope fun Y => PE Y vx tv)
    (hs : ∀ x, foldedSetIterable iter X.env x = pure x) (h : tDcT wi g tt tk tv (own.map (·.2)) σ H Q)
    (post : ∀ D C s' m H', Inv X pins σ H' s' → Q (.ref D) H' → s'.heap.Ns C m → FpOk X pins H' C → compPost (model X.prog X.w) X.A X.xe use Qf (.ref D) C (.ok .next) s') :
    wpAny (model X.prog X.w) X.A (comprehension (.DictComp kx vx [⟨tg, iter, ifs, 0⟩] scope pos) scope X.env pos' newDict false (eval iter X.env) use) Qf X.xe s := by
  have caught : closureFor scope X.env = pure (cloFrom X.env.cells scope.names []) := closure_ok fun y hy e => I.ok.has _ (ok.free y hy e)
  refine wpAny_comprehension_free (use := use) rfl hs caught ok.kind (fun y hy e => e ▸ ok.uniq y hy) (thn (hi.run pins s σ H _ I h) fun _ _ hx => thn hx fun itv s2 h2 => ?_)
  match itv, h2 with
  | _, ⟨it, fp, tn, J, H2, rfl, I2, T, st2, f2, q⟩ =>
    match q s2.heap.objs.size (I2.hok.fresh (Nat.le_refl _)) with
    | ⟨W, ⟨m0, w0⟩, turn⟩ =>
      have old : ∀ b ∈ fp, b < s2.heap.objs.size := fun b hb => (T.obj _ _ st2 b hb).elim fun o p => Heap.lt_size p.1
      have I3 := new_dT I2
      have f3 := fp_push (o := .dT []) (ob := { cls := .type "dict", data := .dict #[] }) old f2
      have I4 := block_start I3 ok hN f3
      have st3 : tn 0 (s2.heap.push { cls := .type "dict", data := .dict #[] }) := T.keep _ _ _ st2 fun b _ o e => Heap.get?_push_of_some _ e
      have st4 := T.keep _ _ (pushCells ((s2.heap.push { cls := .type "dict", data := .dict #[] }).push { cls := .type "dict", data := .dict #[] }) scope.names) st3 fun b _ o e => pushCells_keeps _ _ _ _ (Heap.get?_push_of_some _ e)
      refine wpAny_newObj_type (newEnv_comp ?_)
      have loop := turnsT (iter := iter) (pos := pos) (R := compPost (model X.prog X.w) X.A X.xe use Qf (.ref s2.heap.objs.size) (s2.heap.push { cls := .type "dict", data := .dict #[] }).objs.size) room hc T (hg _ _ _ _ fp) (ht _ _ _ _ fp) (hk _ _ _ _ fp) (hv _ _ _ _ fp) turn (fun H6 s6 kvs I6 hD q6 => ?_)
        ⟨I4, st4, fun b hb => (f3 b hb).1.1, w0⟩
      · exact codeAny_compStart_dict loop (T.self X.A 0 _ _ _ st4 loop)
      · match leaves I3 (fun b hb => (f3 b hb).1) rfl I6 with
        | ⟨I7, hC, m, ns⟩ =>
          match I7.lock hD (show Mut (some (.dT kvs)) from True.intro) with
          | ⟨od, I8⟩ =>
            have hC' : (upd H6 s2.heap.objs.size (.frz od (.dT kvs))) (s2.heap.push { cls := .type "dict", data := .dict #[] }).objs.size = none :=
              (upd_ne (Heap.size_push s2.heap _ ▸ Nat.succ_ne_self _)).trans hC
            exact post _ _ s6 m _ I8 (q6 od) ns (I3.fpOk (Nat.le_refl _) hC')
end
section
variable {X : Cx}
theorem pe_dcT {kx vx tg iter : Expr} {ifs : List Expr} {scope : Scope} {own : List (Str × Nat)} {pos : Pos} {wi : TI} {g : TG} {tt : TT} {tk tv : TE} (room : X.A.units + 1 < cLine) (hc : X.calm = true) (hN : X.N.Nodup) (hi : PI X tg iter wi) (ok : BlkOk X.N X.env.scope scope own)
    (hg : EachBlk X scope fun Y => PG Y tg g) (ht : EachBlk X scope fun Y => PTs Y ifs tt) (hk : EachBlk X scope fun Y => PE Y kx tk) (hv : EachBlk X scope fun Y => PE Y vx tv) (hs : ∀ x, foldedSetIterable iter X.env x = pure x := by intro _; rfl) :
    PE X (.DictComp kx vx [⟨tg, iter, ifs, 0⟩] scope pos) (tDcT wi g tt tk tv (own.map (·.2))) where
  run pins s σ H Q I h := by
    rw [arm_eval_DictComp]
    exact dcT_core room hc hN I hi ok hg ht hk hv hs h fun D C s' m H' I' q ns f => ⟨m, ns, fun h'' sb => ⟨.ref D, H', FpOk.keep f I' sb.extBut, rfl, q⟩⟩
/-- name = {..} on one line, the name a local -/
theorem ps_setDcT {i : Nat} {y : Str} {py spos : Pos} {kx vx tg iter : Expr} {ifs : List Expr} {scope : Scope} {own : List (Str × Nat)} {pos : Pos} {wi : TI} {g : TG} {tt : TT} {tk tv : TE} (room : X.A.units + 1 < cLine)
    (hc : X.calm = true) (hN : X.N.Nodup) (hy : X.N[i]? = some y) (hyl : X.env.scope.names.lookup y = some .local)
    (hsw : swapsWith (.DictComp kx vx [⟨tg, iter, ifs, 0⟩] scope pos) (some (.Name y py)) spos.line X.env = pure true) (hi : PI X tg iter wi) (ok : BlkOk X.N X.env.scope scope own)
    (hg : EachBlk X scope fun Y => PG Y tg g) (ht : EachBlk X scope fun Y => PTs Y ifs tt) (hk : EachBlk X scope fun Y => PE Y kx tk) (hv : EachBlk X scope fun Y => PE Y vx tv) (hs : ∀ x, foldedSetIterable iter X.env x = pure x := by intro _; rfl) :
    PS X (.Assign [.Name y py] (.DictComp kx vx [⟨tg, iter, ifs, 0⟩] scope pos) spos) (tAsg (tDcT wi g tt tk tv (own.map (·.2))) (gName i)) where
  run pins s σ H D I h := by
    have away : ∀ {C a : Addr} {H' : Hp}, FpOk X pins H' C → a = X.env.locals ∨ X.env.cells.lookup y = some a → C ≠ a := fun {C a H'} f ha => ha.elim (fun z => z ▸ f.2.1) fun z => (f.2.2.2.2.1 y a z).symm
    have made : wpAny (model X.prog X.w) X.A (comprehension (.DictComp kx vx [⟨tg, iter, ifs, 0⟩] scope pos) scope X.env (firstIterPos [⟨tg, iter, ifs, 0⟩] pos) newDict false (eval iter X.env) (some (assign (.Name y py) X.env))) (fun _ s' => SP X pins D .next s') X.xe s := by
      refine dcT_core (Q := fun x H1 => gName i x σ H1 D.nx) room hc hN I hi ok hg ht hk hv hs h fun L C s' m H' I' q ns f => ?_
      refine wpAny_assign_Name (store_ok2 (v := V.ref L) I' hN hy (.inl hyl) rfl (fun s2 I2 ha => ?_) (.inr hyl))
      match ha with
      | ⟨a, sb, ha⟩ => exact ⟨m, ns.sameBut sb (away f ha), fun h3 sb3 => ⟨_, H', FpOk.keep f I2 sb3.extBut, q⟩⟩
    rw [exec_Assign_Name_used _ _ _ _ hsw]
    exact wpAny_bind (wpAny_standAt (wpAny_bind (wpAny_bind (thn made fun _ s' q => wpAny_pure (wpAny_pure q)))))
theorem sw_trueD {kx vx : Expr} {gs : List Comprehension} {scope : Scope} {pos py : Pos} {y : Str} {l : Nat} {env : Env} (hk : env.scope.kind = .function) (hy : env.scope.names.lookup y = some .local) (hl : (py.line == pos.line) = true)
    (ha : (scope.names.any fun (n, k) => n == y && (k == .local || k == .cell)) = false) : swapsWith (.DictComp kx vx gs scope pos) (some (.Name y py)) l env = pure true := by
  have inDef : env.blockKind = .function := (show env.blockKind = env.scope.kind by rw [Env.blockKind, hk]; rfl).trans hk
  simp only [swapsWith, Expr.pos, hl, ha, inDef, show env.kindOf y = some .local from hy]
  rfl
end
end CHT

/-! CHD3: the mirror of a dict with tuple keys (D.dct). -/
namespace CH
open PySem PySem.Spec PyProof.Rows L2
/-! ### keys -/
def keyTD : D → Option (List Key)
  | .tup [.str a, .str b, .str c] => some [.inr a, .inr b, .inr c]
  | _ => none
def kD : Key → D
  | .inl i => .int i
  | .inr x => .str x
def keyV (k : List Key) : D := .tup (k.map kD)
theorem kD_den {G : Ev} {r F : List Addr} {H : Hp} : ∀ k : Key, Den G r F H (kD k) (kV k)
  | .inl i => .int i
  | .inr x => .str x
theorem kDs_den {G : Ev} {r F : List Addr} {H : Hp} : ∀ k : List Key, DenL G r F H (k.map kD) (k.map kV)
  | [] => .nil
  | k :: ks => .cons (kD_den k) (kDs_den ks)
/-- no written tuple of three texts -/
def No3 (K : PySem.W.Frag) : Prop := ∀ (a : Addr) (x y z : Str), ¬ SqT K (fun _ => none) a [.str x, .str y, .str z]
def no3O : Obj → Bool
  | ⟨.type c, _, .seq its _, _⟩ => !(decide (c = "tuple") && (match its.toList with
    | [.str _ _, .str _ _, .str _ _] => true
    | _ => false))
  | _ => true
def no3B (K : PySem.W.Frag) : Bool := K.all fun q => no3O q.2
theorem no3B_ok {K : PySem.W.Frag} (h : no3B K = true) : No3 K := by
  intro a x y z hs
  rcases hs with (hs | ⟨o, hs⟩) | ⟨o, its, n, h1, h2, h3, h4, h5⟩
  · cases hs
  · cases hs
  · have hm := He.lookup_mem h1
    have q := List.all_eq_true.mp h _ hm
    obtain ⟨oc, od, dt, sl⟩ := o
    simp only at h2 h3
    subst h2 h3
    have q : (!(decide ("tuple" = "tuple") && (match its.toList with
      | [.str _ _, .str _ _, .str _ _] => true
      | _ => false))) = true := q
    generalize its.toList = us at h5 q
    cases h5 with
    | cons r1 t1 =>
      cases t1 with
      | cons r2 t2 =>
        cases t2 with
        | cons r3 t3 =>
          cases t3
          obtain ⟨k1, rfl⟩ := r1
          obtain ⟨k2, rfl⟩ := r2
          obtain ⟨k3, rfl⟩ := r3
          simp at q
theorem key_made {G : Ev} {r F : List Addr} {H : Hp} {y : D} {u : V} {k : List Key} (n3 : No3 G.K) (h : Den G r F H y u) (e : keyTD y = some k) : ∃ b, u = .ref b ∧ H b = some (.tup (k.map kV)) := by
  unfold keyTD at e
  split at e
  · rename_i a b c
    cases e
    cases h with
    | tup ht l =>
      cases l with
      | cons h1 t1 =>
        cases t1 with
        | cons h2 t2 =>
          cases t2 with
          | cons h3 t3 =>
            cases t3
            cases h1
            cases h2
            cases h3
            rcases ht with ht | ht
            · exact ⟨_, rfl, ht⟩
            · exact (n3 _ _ _ _ ht).elim
  · cases e
/-! ### the comprehension -/
def tHas (k : List Key) (ks : List (List Key)) : Bool := ks.any fun a => decide (a = k)
theorem tHas_no {k : List Key} {ks : List (List Key)} (h : tHas k ks = false) : k ∉ ks := fun hm => by
  have := List.any_eq_false.mp h k hm
  simp at this
def dcDT (tg : Tg) (c : Mo Bool) (fk fv : Mo D) (sl : Sl) : List (List Key) → List D → List D → MH → Res (List (List Key) × List D)
  | ks, vs, [], h => .ok (ks, vs) h
  | ks, vs, d :: ds, h => match tgD tg d sl with
    | none => .bad
    | some sl1 => bindR (noX (c sl1 h)) fun b h1 => if b then (bindR (noX (fk sl1 h1)) fun y h2 => bindR (noX (fv sl1 h2)) fun z h3 => match keyTD y with
      | some k => if tHas k ks = false ∧ ks.length < lim then dcDT tg c fk fv sl (ks ++ [k]) (vs ++ [z]) ds h3 else .bad
      | none => .bad) else dcDT tg c fk fv sl ks vs ds h1
def mDcT (vs : List Nat) (fi : Mo (List D)) (tg : Tg) (c : Mo Bool) (fk fv : Mo D) : Mo D := fun sl h => bindR (fi sl h) fun ds h1 => bindR (dcDT tg c fk fv (wipeD sl vs) [] [] ds h1) fun p h2 => .ok (.dct p.1 p.2) h2
theorem putK_new {ks : List (List Key)} {vs : List V} {k : List Key} {v : V} (hl : ks.length = vs.length) (hk : k ∉ ks) : putK (ks.zip vs) k v = (ks ++ [k]).zip (vs ++ [v]) := by
  have e : ((ks.zip vs).any fun kv => decide (kv.1 = k)) = false := by
    rw [List.any_eq_false]
    rintro ⟨a, b⟩ hm
    simp only [decide_eq_true_eq]
    rintro rfl
    exact hk (List.of_mem_zip hm).1
  unfold putK
  rw [e, if_neg (by decide), List.zip_append hl]
  rfl
section
variable {G : Ev} {r F : List Addr} {H : Hp} {h : MH} {D0 : Addr} {acc acc' : HO}
/-- what a foreign thing was is no more: it is locked -/
theorem GoodH.seal (g : GoodH G r (D0 :: F) h H) (hD : H D0 = some acc) (mu : MutT (some acc)) (nF : D0 ∉ F) : GoodH G r F h (upd H D0 acc') := by
  have hF : D0 ∈ D0 :: F := List.mem_cons_self
  have hp : ∀ a, a ∉ r ∧ a ∉ D0 :: F → a ∉ r ∧ a ∉ F := fun a ⟨n1, n2⟩ => ⟨n1, fun hm => n2 (List.mem_cons_of_mem _ hm)⟩
  refine ⟨g.len, g.nd, fun a ha => ⟨?_, (g.fd a (List.mem_cons_of_mem _ ha)).2⟩, fun i o hi => ?_⟩
  · rw [upd_ne (fun z => nF (by rw [← z]; exact ha))]
    exact (g.fd a (List.mem_cons_of_mem _ ha)).1
  · obtain ⟨a, ea, q⟩ := g.ob i o hi
    have ne : a ≠ D0 := fun e => (g.fd D0 hF).2 (by rw [← e]; exact List.mem_of_getElem? ea)
    refine ⟨a, ea, ODen.re hp (fun _ _ z => z) ?_⟩
    cases o with
    | lst ds =>
      obtain ⟨vs, q1, q2⟩ := q
      exact ⟨vs, by rw [upd_ne ne]; exact q1, DenL.updF hD mu hF _ _ q2⟩
    | dic ks ds =>
      obtain ⟨vs, q1, ql, q2⟩ := q
      exact ⟨vs, by rw [upd_ne ne]; exact q1, ql, DenL.updF hD mu hF _ _ q2⟩
    | ins c ks ds =>
      obtain ⟨C, dx, vs, q0, q1, ql, q3, q2⟩ := q
      exact ⟨C, dx, vs, q0, by rw [upd_ne ne]; exact q1, ql, by rw [upd_ne (mut_ne hD mu q3 id)]; exact q3, DenL.updF hD mu hF _ _ q2⟩
    | tbl =>
      obtain ⟨q0, ps, q1, q2, q3⟩ := q
      exact ⟨q0, ps, by rw [upd_ne ne]; exact q1, q2, fun pos cv hc => by
        obtain ⟨c, e1, e2⟩ := q3 pos cv hc
        exact ⟨c, e1, by rw [upd_ne (mut_ne hD mu e2 id)]; exact e2⟩⟩
end
theorem dcT_of {X : Cx} {W : WX} {vs : List Nat} {fi : Mo (List D)} {tg : Tg} {fc : Mo Bool} {fk fv : Mo D} (n3 : No3 X.K) (ho : ∀ i ∈ tg.slots, i ∈ vs) (σ : L2.St) (H : Hp) (Q : VK) (q : tE (evOf X) W (mDcT vs fi tg fc fk fv) σ H Q) :
    CHT.tDcT (tI (evOf X) W fi) (tgV X.K tg) (tT (evOf X) W0 fc) (tE (evOf X) W0 fk) (tE (evOf X) W0 fv) vs σ H Q := by
  obtain ⟨r, F, sl, h, s, g, q⟩ := q
  refine tI.of s g (q.bind.imp fun r1 H1 xs h1 e1 g1 q1 J hJ D0 hD => ?_)
  have q1 := q1.bind
  have nF : D0 ∉ F := (g1.fresh hD).2
  have fo : Foe F H1 (D0 :: F) := fun a ha => by
    rcases List.mem_cons.mp ha with e | e
    · exact .inr (by rw [e]; exact hD)
    · exact .inl e
  have sm0 : Same H1 (upd H1 D0 (.dT [])) := same_new hD
  have g1' : GoodH (evOf X) r1 (D0 :: F) h1 (upd H1 D0 (.dT [])) := g1.newF hD trivial
  refine ⟨fun i m H' => ∃ r' h' ks acc vacc, Ext r1 H1 r' H' ∧ GoodH (evOf X) r' (D0 :: F) h' H' ∧ H' D0 = some (.dT (ks.zip vacc)) ∧ ks.length = vacc.length ∧ DenL (evOf X) r' (D0 :: F) H' acc vacc ∧ m = xs.length - i ∧ i ≤ xs.length ∧
    Aft (evOf X) W F σ r1 H1 (dcDT tg fc fk fv (wipeD sl vs) ks acc (xs.drop i) h') (fun r' H' p h1 => Aft (evOf X) W F σ r' H' (Res.ok (D.dct p.1 p.2) h1) fun r' H' d _ => ∀ v, Den (evOf X) r' F H' d v → Q v H'),
    ⟨xs.length, r1, h1, [], [], [], .same sm0, g1', upd_same, rfl, .nil, by simp, Nat.zero_le _, q1⟩, ?_⟩
  rintro i m H' ⟨r', h', ks, acc, vacc, e', g', hD', hlk, hacc, rfl, hi', q'⟩
  have hJ' := hJ r' (D0 :: F) H' e'.toF g'.mine fo i
  have s' : SlR (evOf X) r' (D0 :: F) H' (wipeD sl vs) (L2.wipe σ vs) := by
    have z := (s.mono g.mine e1).wiped vs
    exact ⟨z.1, fun j d hd => let ⟨v, a1, a2⟩ := z.2 j d hd; ⟨v, a1, Den.monoF g1.mine e' fo _ _ a2⟩⟩
  by_cases hlt : i < xs.length
  · have hd : xs[i]? = some xs[i] := List.getElem?_eq_getElem hlt
    obtain ⟨hgo, hy⟩ := hJ'.1 _ hd
    refine .inr ⟨hgo, fun H2 => ∃ r2 h2 ks acc vacc, Ext r1 H1 r2 H2 ∧ GoodH (evOf X) r2 (D0 :: F) h2 H2 ∧ H2 D0 = some (.dT (ks.zip vacc)) ∧ ks.length = vacc.length ∧ DenL (evOf X) r2 (D0 :: F) H2 acc vacc ∧
        Aft (evOf X) W F σ r1 H1 (dcDT tg fc fk fv (wipeD sl vs) ks acc (xs.drop (i + 1)) h2) (fun r' H' p h1 => Aft (evOf X) W F σ r' H' (Res.ok (D.dct p.1 p.2) h1) fun r' H' d _ => ∀ v, Den (evOf X) r' F H' d v → Q v H'),
      fun H2 ⟨r2, h2, kk, ac, va, a1, a2, a3, a4, a5, a6⟩ => ⟨xs.length - (i + 1), by omega, r2, h2, kk, ac, va, a1, a2, a3, a4, a5, rfl, hlt, a6⟩, fun x H'' yld => ?_⟩
    obtain ⟨sm, hx⟩ := hy x H'' yld
    rw [List.drop_eq_getElem_cons hlt] at q'
    have g'' := g'.same sm
    have s'' := s'.mono g'.mine (.same sm)
    have ee := e'.trans g'.mine (Ext.same (r := r') sm)
    cases htg : tgD tg xs[i] (wipeD sl vs) with
    | none => unfold dcDT at q'; rw [htg] at q'; exact False.elim q'
    | some sl1 =>
      have q2 : Aft (evOf X) W F σ r1 H1 (bindR (noX (fc sl1 h')) fun b h1 => if b = true then (bindR (noX (fk sl1 h1)) fun y h2 => bindR (noX (fv sl1 h2)) fun z h3 => match keyTD y with
          | some k => if tHas k ks = false ∧ ks.length < lim then dcDT tg fc fk fv (wipeD sl vs) (ks ++ [k]) (acc ++ [z]) (xs.drop (i + 1)) h3 else .bad
          | none => .bad) else dcDT tg fc fk fv (wipeD sl vs) ks acc (xs.drop (i + 1)) h1)
          (fun r' H' p h1 => Aft (evOf X) W F σ r' H' (Res.ok (D.dct p.1 p.2) h1) fun r' H' d _ => ∀ v, Den (evOf X) r' F H' d v → Q v H') := by
        unfold dcDT at q'; rw [htg] at q'; exact q'
      refine tgV_of (G := evOf X) hx htg s'' fun σ2 s2 o2 => ⟨only_in o2 ho, ?_⟩
      refine tT.of s2 g'' ((aft0 (D0 := D0) (σ0 := σ2) q2).imp fun r3 H3 b h3 e3 g3 q4 => ?_)
      have hD3 : H3 D0 = some (.dT (ks.zip vacc)) := e3.keep _ _ (sm _ _ hD') (g''.fd D0 List.mem_cons_self).2
      have hac3 := DenL.mono g'.mine (Ext.trans (.same sm) g''.mine e3) _ _ hacc
      have ee3 := ee.trans g''.mine e3
      cases b with
      | false => exact ⟨r3, h3, ks, acc, vacc, ee3, g3, hD3, hlk, hac3, q4⟩
      | true =>
        have q4 : Aft (evOf X) W F σ r1 H1 (bindR (noX (fk sl1 h3)) fun y h2 => bindR (noX (fv sl1 h2)) fun z h3 => match keyTD y with
          | some k => if tHas k ks = false ∧ ks.length < lim then dcDT tg fc fk fv (wipeD sl vs) (ks ++ [k]) (acc ++ [z]) (xs.drop (i + 1)) h3 else .bad
          | none => .bad) _ := q4
        refine tE.of (s2.mono g''.mine e3) g3 ((aft0 (D0 := D0) (σ0 := σ2) q4).imp fun r4 H4 y h4 e4 g4 q5 u hu => ?_)
        have q5 : Aft (evOf X) W F σ r1 H1 (bindR (noX (fv sl1 h4)) fun z h3 => match keyTD y with
          | some k => if tHas k ks = false ∧ ks.length < lim then dcDT tg fc fk fv (wipeD sl vs) (ks ++ [k]) (acc ++ [z]) (xs.drop (i + 1)) h3 else .bad
          | none => .bad) _ := q5
        refine tE.of ((s2.mono g''.mine e3).mono g3.mine e4) g4 ((aft0 (D0 := D0) (σ0 := σ2) q5).imp fun r5 H5 z h5 e5 g5 q6 v hv => ?_)
        cases hky : keyTD y with
        | none => rw [hky] at q6; exact False.elim q6
        | some k =>
          rw [hky] at q6
          have q6 : Aft (evOf X) W F σ r1 H1 (if tHas k ks = false ∧ ks.length < lim then dcDT tg fc fk fv (wipeD sl vs) (ks ++ [k]) (acc ++ [z]) (xs.drop (i + 1)) h5 else .bad) _ := q6
          by_cases hz : tHas k ks = false ∧ ks.length < lim
          · rw [if_pos hz] at q6
            obtain ⟨b, rfl, hb⟩ := key_made n3 (Den.mono g4.mine e5 _ _ hu) hky
            have hD5 : H5 D0 = some (.dT (ks.zip vacc)) := e5.keep _ _ (e4.keep _ _ hD3 (g3.fd D0 List.mem_cons_self).2) (g4.fd D0 List.mem_cons_self).2
            have hac5 := DenL.mono g4.mine e5 _ _ (DenL.mono g3.mine e4 _ _ hac3)
            refine ⟨_, k, b, rfl, hb, hD5, ?_, ?_⟩
            · rw [List.length_zip, ← hlk, Nat.min_self]
              exact lim_lt hz.2
            rw [putK_new hlk (tHas_no hz.1)]
            have g6 := g5.updF (acc' := .dT ((ks ++ [k]).zip (vacc ++ [v]))) hD5 trivial trivial List.mem_cons_self
            have ee6 : Ext r1 H1 r5 (upd H5 D0 (.dT ((ks ++ [k]).zip (vacc ++ [v])))) := by
              have ee5 := (ee3.trans g3.mine e4).trans g4.mine e5
              refine ⟨ee5.pre, fun a o ha hr => ?_⟩
              rw [upd_ne (ne_of_none ha hD)]
              exact ee5.keep a o ha hr
            refine ⟨r5, h5, ks ++ [k], acc ++ [z], vacc ++ [v], ee6, g6, upd_same, by rw [List.length_append, List.length_append, hlk]; rfl, DenL.updF hD5 trivial List.mem_cons_self _ _ (hac5.app (.cons hv .nil)), q6⟩
          · rw [if_neg hz] at q6; exact False.elim q6
  · have ei : i = xs.length := by omega
    subst ei
    rw [List.drop_length] at q'
    have q' : Aft (evOf X) W F σ r1 H1 (Res.ok (ks, acc) h') (fun r' H' p h1 => Aft (evOf X) W F σ r' H' (Res.ok (D.dct p.1 p.2) h1) fun r' H' d _ => ∀ v, Den (evOf X) r' F H' d v → Q v H') := by
      unfold dcDT at q'; exact q'
    refine .inl ⟨hJ'.2 (by simp), _, hD', fun od => ?_⟩
    have g9 : GoodH (evOf X) r' F h' (upd H' D0 (.frz od (.dT (ks.zip vacc)))) := g'.seal hD' trivial nF
    have e9 : Ext r1 H1 r' (upd H' D0 (.frz od (.dT (ks.zip vacc)))) := by
      refine ⟨e'.pre, fun a o ha hr => ?_⟩
      rw [upd_ne (ne_of_none ha hD)]
      exact e'.keep a o ha hr
    have q2 := Aft.here (q' r' _ e9 g9) g9
    have hp : ∀ a, a ∉ r' ∧ a ∉ D0 :: F → a ∉ r' ∧ a ∉ F := fun a ⟨n1, n2⟩ => ⟨n1, fun hm => n2 (List.mem_cons_of_mem _ hm)⟩
    exact q2 _ (.dct upd_same hlk (DenL.re hp (fun _ _ z => z) _ _ (DenL.updF hD' trivial List.mem_cons_self _ _ hacc)))
theorem de_dcT {X : Cx} {W : WX} {j : Nat} {vs : List Nat} {kx vx te iter : Expr} {ifs : List Expr} {scope : Scope} {own : List (Str × Nat)} {pos : Pos} {fi : Mo (List D)} {tg : Tg} {fc : Mo Bool} {fk fv : Mo D} (n3 : No3 X.K) (hr : Room j X.A) (hc : X.calm = true) (hN : X.N.Nodup) (hi : PI X te iter (tI (evOf X) W fi)) (ok : BlkOk X.N X.env.scope scope own)
    (ho : ∀ i ∈ tg.slots, i ∈ own.map (·.2))
    (hg : ∀ (s : Shared) (H : Hp) (C : Addr) (cl : List (Str × Addr)) (fp : List Addr), PG (X.blk s H scope (compEnvC scope cl C X.env) fp) te (tgV X.K tg))
    (ht : ∀ (s : Shared) (H : Hp) (C : Addr) (cl : List (Str × Addr)) (fp : List Addr), PTs (X.blk s H scope (compEnvC scope cl C X.env) fp) ifs (tT (evOf X) W0 fc))
    (hk : ∀ (s : Shared) (H : Hp) (C : Addr) (cl : List (Str × Addr)) (fp : List Addr), PE (X.blk s H scope (compEnvC scope cl C X.env) fp) kx (tE (evOf X) W0 fk))
    (he : ∀ (s : Shared) (H : Hp) (C : Addr) (cl : List (Str × Addr)) (fp : List Addr), PE (X.blk s H scope (compEnvC scope cl C X.env) fp) vx (tE (evOf X) W0 fv)) (hs : ∀ x, foldedSetIterable iter X.env x = pure x := by intro _; rfl) (hv : own.map (·.2) = vs := by rfl) :
    PE X (.DictComp kx vx [⟨te, iter, ifs, 0⟩] scope pos) (tE (evOf X) W (mDcT vs fi tg fc fk fv)) := by
  subst hv
  exact (CHT.pe_dcT (by have := hr.un; omega) hc hN hi ok hg ht hk he hs).imp fun σ H Q q => dcT_of n3 ho σ H Q q
/-- name = {..} on one line -/
theorem ds_setDcT {X : Cx} {W : WX} {i j : Nat} {y : Str} {py spos : Pos} {vs : List Nat} {kx vx te iter : Expr} {ifs : List Expr} {scope : Scope} {own : List (Str × Nat)} {pos : Pos} {fi : Mo (List D)} {tg : Tg} {fc : Mo Bool} {fk fv : Mo D} (n3 : No3 X.K) (hr : Room j X.A) (hc : X.calm = true) (hN : X.N.Nodup) (hy : X.N[i]? = some y) (hyl : X.env.scope.names.lookup y = some .local)
    (hsw : swapsWith (.DictComp kx vx [⟨te, iter, ifs, 0⟩] scope pos) (some (.Name y py)) spos.line X.env = pure true) (hi : PI X te iter (tI (evOf X) W fi)) (ok : BlkOk X.N X.env.scope scope own)
    (ho : ∀ i ∈ tg.slots, i ∈ own.map (·.2))
    (hg : ∀ (s : Shared) (H : Hp) (C : Addr) (cl : List (Str × Addr)) (fp : List Addr), PG (X.blk s H scope (compEnvC scope cl C X.env) fp) te (tgV X.K tg))
    (ht : ∀ (s : Shared) (H : Hp) (C : Addr) (cl : List (Str × Addr)) (fp : List Addr), PTs (X.blk s H scope (compEnvC scope cl C X.env) fp) ifs (tT (evOf X) W0 fc))
    (hk : ∀ (s : Shared) (H : Hp) (C : Addr) (cl : List (Str × Addr)) (fp : List Addr), PE (X.blk s H scope (compEnvC scope cl C X.env) fp) kx (tE (evOf X) W0 fk))
    (he : ∀ (s : Shared) (H : Hp) (C : Addr) (cl : List (Str × Addr)) (fp : List Addr), PE (X.blk s H scope (compEnvC scope cl C X.env) fp) vx (tE (evOf X) W0 fv)) (hs : ∀ x, foldedSetIterable iter X.env x = pure x := by intro _; rfl) (hv : own.map (·.2) = vs := by rfl) :
    PS X (.Assign [.Name y py] (.DictComp kx vx [⟨te, iter, ifs, 0⟩] scope pos) spos) (tS (evOf X) W (sSet i (mDcT vs fi tg fc fk fv))) := by
  subst hv
  exact (CHT.ps_setDcT (by have := hr.un; omega) hc hN hy hyl hsw hi ok hg ht hk he hs).imp fun E σ H ⟨r, F, sl, h, s, g, q⟩ => dcT_of n3 ho σ H _ (tE.of s g ((q.bindS s g).imp fun r1 H1 x h1 e1 g1 q1 v hv => q1.nxh ((s.mono g.mine e1).set hv) g1))
/-! ### d[k] -/
def getT (k : List Key) : List (List Key) → List D → Option D
  | a :: ks, d :: ds => if a = k then some d else getT k ks ds
  | _, _ => none
theorem getT_den {G : Ev} {r F : List Addr} {H : Hp} {k : List Key} {d : D} : ∀ {ks : List (List Key)} {ds : List D} {vs : List V}, DenL G r F H ds vs → getT k ks ds = some d → ∃ v, valV (ks.zip vs) k = some v ∧ Den G r F H d v
  | [], ds, _, _, e => by cases ds <;> cases e
  | _ :: _, [], _, .nil, e => by cases e
  | a :: ks, x :: ds, _, .cons (v := w) (vs := us) h t, e => by
    unfold getT at e
    by_cases ha : a = k
    · rw [if_pos ha] at e
      cases e
      exact ⟨w, valV_pos (p := (a, w)) ha, h⟩
    · rw [if_neg ha] at e
      obtain ⟨v, h1, h2⟩ := getT_den t e
      exact ⟨v, (valV_neg (p := (a, w)) (r := ks.zip us) ha).trans h1, h2⟩
def oTGet : D → D → MH → Res D := fun x y h => match x with
  | .dct ks ds => optR ((keyTD y).bind fun k => getT k ks ds) h
  | _ => .bad
section
variable {X : Cx} {W : WX} {pos apos cpos : Pos} {o i e tg : Expr} {fo fi f : Mo D}
theorem de_tget {k : Nat} (n3 : No3 X.K) (hr : Room k X.A) (ho : PE X o (tE (evOf X) W fo)) (hi : PE X i (tE (evOf X) W fi)) (hs : NoSl i) : PE X (.Subscript o i pos) (tE (evOf X) W (mOp oTGet fo fi)) :=
  (pe_dget (by have := hr.un; omega) ho hi hs).imp fun σ H Q ⟨r, F, sl, h, s, g, q⟩ => by
    refine tE.of s g (q.bind.imp fun r1 H1 x h1 e1 g1 q1 v hv => ?_)
    refine tE.of (s.mono g.mine e1) g1 (q1.bind.imp fun r2 H2 y h2 e2 g2 q2 u hu => ?_)
    have q2 : Aft (evOf X) W F σ r2 H2 (oTGet x y h2) _ := q2
    have hv2 := Den.mono g1.mine e2 _ _ hv
    cases hv2 with
    | dct hd hl hl2 =>
      obtain ⟨d, e, qq⟩ := optR_ok (show Aft (evOf X) W F σ r2 H2 (optR ((keyTD y).bind fun k => getT k _ _) h2) _ from q2)
      cases hk : keyTD y with
      | none => rw [hk] at e; cases e
      | some k =>
        rw [hk] at e
        obtain ⟨b, rfl, hb⟩ := key_made n3 hu hk
        obtain ⟨z, h3, h4⟩ := getT_den hl2 e
        exact ⟨_, z, rfl, .inr ⟨_, k, b, .inr ⟨_, hd⟩, rfl, hb, h3.symm⟩, qq.here g2 _ h4⟩
    | _ => exact False.elim q2
/-! ### for k in d, for v in d.values() -/
def mItK (f : Mo D) : Mo (List D) := mBind f fun d => fun _ h => match d with
  | .dct ks _ => .ok (ks.map keyV) h
  | _ => .bad
def mItV (f : Mo D) : Mo (List D) := mBind f fun d => fun _ h => match d with
  | .dct _ ds => .ok ds h
  | _ => .bad
theorem itd_keysT {G : Ev} {r F : List Addr} {H : Hp} {d : Addr} {od : Obj} {ks : List (List Key)} {vs : List V} (m : Mine r H) (mf : Mine F H) (hq : H d = some (.frz od (.dT (ks.zip vs)))) (hl : ks.length = vs.length) : ItD G r F H (Itkt d od (ks.zip vs)) (ks.map keyV) := by
  intro r' F' H' e m' fo i
  have hq' := e.keep _ _ hq (m.out hq id) (mf.out hq id)
  have hz : (ks.zip vs).length = ks.length := by rw [List.length_zip, ← hl, Nat.min_self]
  refine ⟨fun x hx => ?_, fun hx => ⟨hq', by rw [hz]; simpa using hx⟩⟩
  rw [List.getElem?_map] at hx
  obtain ⟨k, hk, rfl⟩ := Option.map_eq_some_iff.mp hx
  have hi : i < ks.length := (List.getElem?_eq_some_iff.mp hk).1
  refine ⟨⟨hq', by rw [hz]; exact hi⟩, fun y H'' ⟨e1, k2, v, q, hkv, ey, hH⟩ => ?_⟩
  subst e1 ey
  have hk2 : k2 = k := by
    rw [List.getElem?_zip_eq_some] at hkv
    exact Option.some.inj (hkv.1.symm.trans hk)
  subst hk2
  exact ⟨Same.refl _, .tup (.inl hH) (kDs_den _)⟩
theorem itd_valsT {G : Ev} {r F : List Addr} {H : Hp} {d : Addr} {od : Obj} {ks : List (List Key)} {ds : List D} {vs : List V} (m : Mine r H) (mf : Mine F H) (hq : H d = some (.frz od (.dT (ks.zip vs)))) (hl : ks.length = vs.length) (hd : DenL G r F H ds vs) : ItD G r F H (CHT.Itdt d od (ks.zip vs)) ds := by
  intro r' F' H' e m' fo i
  have hq' := e.keep _ _ hq (m.out hq id) (mf.out hq id)
  have hz : (ks.zip vs).length = vs.length := by rw [List.length_zip, hl, Nat.min_self]
  refine ⟨fun x hx => ?_, fun hx => ⟨hq', by rw [hz]; exact hd.none hx⟩⟩
  obtain ⟨v, h1, h2⟩ := hd.get hx
  have hi : i < vs.length := (List.getElem?_eq_some_iff.mp h1).1
  refine ⟨⟨hq', by rw [hz]; exact hi⟩, fun y H'' ⟨e1, k2, hkv⟩ => ?_⟩
  subst e1
  have hv2 : y = v := by
    rw [List.getElem?_zip_eq_some] at hkv
    exact Option.some.inj (hkv.2.symm.trans h1)
  subst hv2
  exact ⟨Same.refl _, Den.monoX m mf e fo _ _ h2⟩
theorem di_keysT (he : PE X e (tE (evOf X) W f)) : PI X tg e (tI (evOf X) W (mItK f)) := (pi_keys he).imp fun σ H R ⟨r, F, sl, h, s, g, q⟩ =>
  tE.of s g (q.bind.imp fun r1 H1 x h1 e1 g1 q1 v hv => by
    cases hv with
    | dct hq hl hd => exact ⟨_, _, rfl, .inr ⟨_, hq, q1.here g1 _ (itd_keysT g1.mine g1.mineF hq hl)⟩⟩
    | _ => exact False.elim q1)
theorem di_valsT (he : PE X e (tE (evOf X) W f)) (hbase : attributeBase e "values" X.env (eval e X.env) = eval e X.env := by rfl) (hline : (apos.endLine == cpos.line) = true := by rfl) : PI X tg (.Call (.Attribute e "values" apos) [] [] cpos) (tI (evOf X) W (mItV f)) := (CHT.pi_valuesT he hbase hline).imp fun σ H R ⟨r, F, sl, h, s, g, q⟩ =>
  tE.of s g (q.bind.imp fun r1 H1 x h1 e1 g1 q1 v hv => by
    cases hv with
    | dct hq hl hd => exact ⟨_, _, _, rfl, hq, q1.here g1 _ (itd_valsT g1.mine g1.mineF hq hl hd)⟩
    | _ => exact False.elim q1)
def itemsE : D → Option (List D)
  | .lst xs => some xs
  | .tup xs => some xs
  | _ => none
def mItE2 (f : Mo D) : Mo (List D) := mBind f fun d => fun _ h => optR (itemsE d) h
theorem di_either (he : PE X e (tE (evOf X) W f)) : PI X tg e (tI (evOf X) W (mItE2 f)) := (pi_either he).imp fun σ H R ⟨r, F, sl, h, s, g, q⟩ =>
  tE.of s g (q.bind.imp fun r1 H1 x h1 e1 g1 q1 v hv => by
    cases hv with
    | lst hq hn hl => exact ⟨_, rfl, .inl ⟨⟨_, SqL.of hq⟩, q1.here g1 _ (itd_lst g1.mine g1.mineF hq hn hl)⟩⟩
    | tup hq hl => exact ⟨_, rfl, .inr ⟨⟨_, hq.sq⟩, q1.here g1 _ (itd_tup g1.mine g1.mineF hq hl)⟩⟩
    | _ => exact False.elim q1)
end
end CH

/-! the mirror of the law's text -/
namespace CH
open PySem L2

def k_PATHS : D := D.tup [D.str "drop store", D.str "drop store drop", D.str "store", D.str "store drop", D.str "store set"]
def k_GUARDS : D := D.tup [D.str "always", D.str "empty", D.str "mark", D.str "never", D.str "newer", D.str "token"]
def k_FLIGHTS : D := D.tup [D.str "alone", D.str "shared"]
def k_DESIGNS : D := D.tup [k_PATHS, k_GUARDS, k_FLIGHTS]
def k_PROMISES : D := D.tup [D.str "ending", D.str "filled", D.str "forward", D.str "fresh", D.str "linear", D.str "mended", D.str "moving", D.str "quiet", D.str "rest", D.str "single"]
def k_WORLDS : D := D.tup [D.tup [D.str "primary", D.str "replica"], D.tup [D.str "evicts", D.str "keeps"], D.tup [D.str "finishes", D.str "stops"]]
def k_DROPS_LAST : D := D.tup [D.str "drop store drop", D.str "store drop"]
def k_VERSIONED : D := D.tup [D.str "mark", D.str "newer"]
inductive Fid where
  | is_integer
  | is_in
  | is_list
  | is_choice
  | all_choices
  | is_design
  | is_world
  | need_design
  | need_world
  | need_both
  | all_designs
  | all_worlds
  | need_promises
  | is_passed_by
  | is_climbing
  | is_guarded
  | rest_holds
  | fresh_holds
  | forward_holds
  | filled_holds
  | quiet_holds
  | does_hold
  | kept_in
  | keeps
  | keepers
  | worlds_for
  | changes
  | nearest
  | strongest
  | harmless
  | l_taken
  | l_pick
  | l_alike
  | l_paths
  | l_promises
  | l_holds
  | l_words
  | l_designs
  | l_worlds
  | l_kept
  | l_keeps
  | law_
/-- is_integer(value) slots: value -/
def b_is_integer (c : Fid → Fn) : Ms :=
  sRet (mAnd (mFn fIsi (mCons (mVar 0) (mCons (mC (.ty "int")) (mNil)))) (mNot (mFn fIsi (mCons (mVar 0) (mCons (mC (.ty "bool")) (mNil))))))
/-- is_in(value, least, most) slots: value, least, most -/
def b_is_in (c : Fid → Fn) : Ms :=
  sRet (mAnd (mCall 1 (c .is_integer) (mCons (mVar 0) (mNil))) (mChain oLe oLe (mVar 1) (mVar 0) (mVar 2)))
/-- is_list(value, least, most) slots: value, least, most -/
def b_is_list (c : Fid → Fn) : Ms :=
  sRet (mAnd (mFn fIsi (mCons (mVar 0) (mCons (mC (.ty "tuple")) (mNil)))) (mChain oLe oLe (mVar 1) (mFn fLen (mCons (mVar 0) (mNil))) (mVar 2)))
/-- is_choice(value, options) slots: value, options, one, some -/
def b_is_choice (c : Fid → Fn) : Ms :=
  sSeq (sIf (mOrT (mNotT (mTest (mCall 3 (c .is_list) (mCons (mVar 0) (mCons (mFn fLen (mCons (mVar 1) (mNil))) (mCons (mFn fLen (mCons (mVar 1) (mNil))) (mNil))))))) (mNotT (mTest (mFn fAll (mCons (mLc [2] (mItT (mVar 0)) (.nm 2) (mYes) (mFn fIsi (mCons (mVar 2) (mCons (mC (.ty "str")) (mNil))))) (mNil)))))) (sRet (mC (.bl false))) (sSkip)) (sRet (mFn fAll (mCons (mLc [2, 3] (mItZ (mCons (mVar 0) (mCons (mVar 1) (mNil)))) (.tp [2, 3]) (mYes) (mOp oIn (mVar 2) (mVar 3))) (mNil))))
/-- all_choices(options) slots: options, found, some, one, word -/
def b_all_choices (c : Fid → Fn) : Ms :=
  sSeq (sSet 1 (mLst (mCons (mTup (mNil)) (mNil)))) (sSeq (sFor (mItT (mVar 0)) (.nm 2) (sSet 1 (mLc2 [3, 4] (mItL (mVar 1)) (.nm 3) (mYes) (mItT (mVar 2)) (.nm 4) (mYes) (mOp oAdd (mVar 3) (mTup (mCons (mVar 4) (mNil)))) [4]))) (sRet (mFn fTuple (mCons (mVar 1) (mNil)))))
/-- is_design(value) slots: value -/
def b_is_design (c : Fid → Fn) : Ms :=
  sRet (mCall 2 (c .is_choice) (mCons (mVar 0) (mCons (mC k_DESIGNS) (mNil))))
/-- is_world(value) slots: value -/
def b_is_world (c : Fid → Fn) : Ms :=
  sRet (mCall 2 (c .is_choice) (mCons (mVar 0) (mCons (mC k_WORLDS) (mNil))))
/-- need_design(design) slots: design -/
def b_need_design (c : Fid → Fn) : Ms :=
  sIf (mNotT (mTest (mCall 1 (c .is_design) (mCons (mVar 0) (mNil))))) (sNever) (sSkip)
/-- need_world(world) slots: world -/
def b_need_world (c : Fid → Fn) : Ms :=
  sIf (mNotT (mTest (mCall 1 (c .is_world) (mCons (mVar 0) (mNil))))) (sNever) (sSkip)
/-- need_both(design, world) slots: design, world -/
def b_need_both (c : Fid → Fn) : Ms :=
  sSeq (sExpr (mCall 1 (c .need_design) (mCons (mVar 0) (mNil)))) (sExpr (mCall 1 (c .need_world) (mCons (mVar 1) (mNil))))
/-- all_designs() slots:  -/
def b_all_designs (c : Fid → Fn) : Ms :=
  sRet (mCall 1 (c .all_choices) (mCons (mC k_DESIGNS) (mNil)))
/-- all_worlds() slots:  -/
def b_all_worlds (c : Fid → Fn) : Ms :=
  sRet (mCall 1 (c .all_choices) (mCons (mC k_WORLDS) (mNil)))
/-- need_promises(promises) slots: promises, one, other -/
def b_need_promises (c : Fid → Fn) : Ms :=
  sSeq (sIf (mOrT (mNotT (mTest (mFn fIsi (mCons (mVar 0) (mCons (mC (.ty "tuple")) (mNil)))))) (mNotT (mTest (mFn fAll (mCons (mLc [1] (mItT (mVar 0)) (.nm 1) (mYes) (mAnd (mFn fIsi (mCons (mVar 1) (mCons (mC (.ty "str")) (mNil)))) (mOp oIn (mVar 1) (mC k_PROMISES)))) (mNil)))))) (sNever) (sSkip)) (sIf (mNotT (mTest (mFn fAll (mCons (mLc [1, 2] (mItZ (mCons (mVar 0) (mCons (mSl (mVar 0) (mPart (mC (.int 1))) (mNoPart)) (mNil)))) (.tp [1, 2]) (mYes) (mOp oLtS (mVar 1) (mVar 2))) (mNil))))) (sNever) (sSkip))
/-- is_passed_by(design) slots: design -/
def b_is_passed_by (c : Fid → Fn) : Ms :=
  sRet (mAnd (mOp oEq (mOp oIx (mVar 0) (mC (.int 1))) (mC (.str "never"))) (mOp oNe (mOp oIx (mVar 0) (mC (.int 0))) (mC (.str "store set"))))
/-- is_climbing(design, world) slots: design, world -/
def b_is_climbing (c : Fid → Fn) : Ms :=
  sRet (mAnd (mOp oEq (mOp oIx (mVar 0) (mC (.int 0))) (mC (.str "store set"))) (mAnd (mOp oIn (mOp oIx (mVar 0) (mC (.int 1))) (mC k_VERSIONED)) (mOp oEq (mOp oIx (mVar 1) (mC (.int 1))) (mC (.str "keeps")))))
/-- is_guarded(design, world) slots: design, world -/
def b_is_guarded (c : Fid → Fn) : Ms :=
  sSeq (sIf (mTest (mOp oNi (mOp oIx (mVar 0) (mC (.int 0))) (mC k_DROPS_LAST))) (sRet (mC (.bl false))) (sSkip)) (sRet (mOr (mOp oEq (mOp oIx (mVar 0) (mC (.int 1))) (mC (.str "token"))) (mAnd (mOp oEq (mOp oIx (mVar 0) (mC (.int 1))) (mC (.str "mark"))) (mOp oEq (mOp oIx (mVar 1) (mC (.int 1))) (mC (.str "keeps"))))))
/-- rest_holds(design, world) slots: design, world, is_token_late -/
def b_rest_holds (c : Fid → Fn) : Ms :=
  sSeq (sIf (mTest (mCall 1 (c .is_passed_by) (mCons (mVar 0) (mNil)))) (sRet (mC (.bl true))) (sSkip)) (sSeq (sIf (mTest (mOp oEq (mOp oIx (mVar 1) (mC (.int 2))) (mC (.str "stops")))) (sRet (mC (.bl false))) (sSkip)) (sSeq (sSet 2 (mAnd (mOp oEq (mOp oIx (mVar 0) (mC (.int 1))) (mC (.str "token"))) (mOp oEq (mOp oIx (mVar 1) (mC (.int 0))) (mC (.str "replica"))))) (sRet (mOr (mCall 2 (c .is_climbing) (mCons (mVar 0) (mCons (mVar 1) (mNil)))) (mAnd (mCall 2 (c .is_guarded) (mCons (mVar 0) (mCons (mVar 1) (mNil)))) (mNot (mVar 2)))))))
/-- fresh_holds(design, world) slots: design, world -/
def b_fresh_holds (c : Fid → Fn) : Ms :=
  sSeq (sIf (mTest (mCall 2 (c .is_climbing) (mCons (mVar 0) (mCons (mVar 1) (mNil))))) (sRet (mC (.bl true))) (sSkip)) (sSeq (sIf (mTest (mOp oEq (mOp oIx (mVar 1) (mC (.int 0))) (mC (.str "replica")))) (sRet (mC (.bl false))) (sSkip)) (sRet (mOr (mCall 1 (c .is_passed_by) (mCons (mVar 0) (mNil))) (mAnd (mCall 2 (c .is_guarded) (mCons (mVar 0) (mCons (mVar 1) (mNil)))) (mOp oEq (mOp oIx (mVar 0) (mC (.int 2))) (mC (.str "alone")))))))
/-- forward_holds(design, world) slots: design, world -/
def b_forward_holds (c : Fid → Fn) : Ms :=
  sSeq (sIf (mOrT (mTest (mCall 1 (c .is_passed_by) (mCons (mVar 0) (mNil)))) (mAndT (mTest (mOp oEq (mOp oIx (mVar 0) (mC (.int 2))) (mC (.str "shared")))) (mTest (mOp oNe (mOp oIx (mVar 0) (mC (.int 0))) (mC (.str "store set")))))) (sRet (mC (.bl true))) (sSkip)) (sSeq (sIf (mTest (mOp oEq (mOp oIx (mVar 1) (mC (.int 1))) (mC (.str "evicts")))) (sRet (mC (.bl false))) (sSkip)) (sRet (mOr (mOp oEq (mOp oIx (mVar 0) (mC (.int 1))) (mC (.str "mark"))) (mAnd (mOp oEq (mOp oIx (mVar 0) (mC (.int 1))) (mC (.str "newer"))) (mOp oIn (mOp oIx (mVar 0) (mC (.int 0))) (mTup (mCons (mC (.str "store")) (mCons (mC (.str "store set")) (mNil)))))))))
/-- filled_holds(design, world) slots: design, world -/
def b_filled_holds (c : Fid → Fn) : Ms :=
  sSeq (sIf (mOrT (mTest (mOp oEq (mOp oIx (mVar 0) (mC (.int 1))) (mC (.str "never")))) (mAndT (mTest (mOp oEq (mOp oIx (mVar 0) (mC (.int 2))) (mC (.str "shared")))) (mTest (mOp oEq (mOp oIx (mVar 1) (mC (.int 2))) (mC (.str "stops")))))) (sRet (mC (.bl false))) (sSkip)) (sRet (mOr (mOp oNe (mOp oIx (mVar 0) (mC (.int 1))) (mC (.str "mark"))) (mOr (mOp oEq (mOp oIx (mVar 1) (mC (.int 0))) (mC (.str "primary"))) (mOp oNi (mOp oIx (mVar 0) (mC (.int 0))) (mC k_DROPS_LAST)))))
/-- quiet_holds(design, world) slots: design, world -/
def b_quiet_holds (c : Fid → Fn) : Ms :=
  sSeq (sIf (mTest (mCall 1 (c .is_passed_by) (mCons (mVar 0) (mNil)))) (sRet (mOp oEq (mOp oIx (mVar 1) (mC (.int 0))) (mC (.str "primary")))) (sSkip)) (sRet (mAnd (mOp oEq (mOp oIx (mVar 1) (mC (.int 2))) (mC (.str "finishes"))) (mCall 2 (c .fresh_holds) (mCons (mVar 0) (mCons (mVar 1) (mNil))))))
def vt_does_hold (c : Fid → Fn) : VTab := [("filled_holds", 2, c .filled_holds), ("forward_holds", 2, c .forward_holds), ("fresh_holds", 2, c .fresh_holds), ("quiet_holds", 2, c .quiet_holds), ("rest_holds", 2, c .rest_holds)]
/-- does_hold(design, world, promise) slots: design, world, promise, told -/
def b_does_hold (c : Fid → Fn) : Ms :=
  sSeq (sIf (mTest (mOp oEq (mVar 2) (mC (.str "ending")))) (sRet (mOr (mOp oEq (mOp oIx (mVar 0) (mC (.int 2))) (mC (.str "alone"))) (mOp oEq (mOp oIx (mVar 1) (mC (.int 2))) (mC (.str "finishes"))))) (sSkip)) (sSeq (sIf (mTest (mOp oEq (mVar 2) (mC (.str "mended")))) (sRet (mOr (mOp oNe (mOp oIx (mVar 0) (mC (.int 0))) (mC (.str "store"))) (mOp oEq (mOp oIx (mVar 0) (mC (.int 1))) (mC (.str "never"))))) (sSkip)) (sSeq (sIf (mTest (mOp oIn (mVar 2) (mTup (mCons (mC (.str "moving")) (mCons (mC (.str "single")) (mNil)))))) (sRet (mOp oEq (mOp oIx (mVar 0) (mC (.int 2))) (mIf (mTest (mOp oEq (mVar 2) (mC (.str "moving")))) (mC (.str "alone")) (mC (.str "shared"))))) (sSkip)) (sSeq (sIf (mTest (mOp oEq (mVar 2) (mC (.str "linear")))) (sRet (mAnd (mCall 2 (c .fresh_holds) (mCons (mVar 0) (mCons (mVar 1) (mNil)))) (mCall 2 (c .forward_holds) (mCons (mVar 0) (mCons (mVar 1) (mNil)))))) (sSkip)) (sSeq (sSet 3 (mDic [(mC (.str "filled"), mC (.gl "filled_holds")), (mC (.str "forward"), mC (.gl "forward_holds")), (mC (.str "fresh"), mC (.gl "fresh_holds")), (mC (.str "quiet"), mC (.gl "quiet_holds"))])) (sRet (mCallV (vt_does_hold c) (mDGet2 (mVar 3) (mVar 2) (mC (.gl "rest_holds"))) (mCons (mVar 0) (mCons (mVar 1) (mNil)))))))))
/-- kept_in(design, world) slots: design, world, one -/
def b_kept_in (c : Fid → Fn) : Ms :=
  sRet (mFn fTuple (mCons (mLc [2] (mItT (mC k_PROMISES)) (.nm 2) (mTest (mCall 3 (c .does_hold) (mCons (mVar 0) (mCons (mVar 1) (mCons (mVar 2) (mNil)))))) (mVar 2)) (mNil)))
/-- keeps(design, world, promises) slots: design, world, promises, kept, one -/
def b_keeps (c : Fid → Fn) : Ms :=
  sSeq (sSet 3 (mCall 2 (c .kept_in) (mCons (mVar 0) (mCons (mVar 1) (mNil))))) (sRet (mFn fAll (mCons (mLc [4] (mItT (mVar 2)) (.nm 4) (mYes) (mOp oIn (mVar 4) (mVar 3))) (mNil))))
/-- keepers(world, promises) slots: world, promises, design -/
def b_keepers (c : Fid → Fn) : Ms :=
  sSeq (sExpr (mCall 1 (c .need_world) (mCons (mVar 0) (mNil)))) (sSeq (sExpr (mCall 1 (c .need_promises) (mCons (mVar 1) (mNil)))) (sRet (mFn fTuple (mCons (mLc [2] (mItT (mCall 0 (c .all_designs) mNil)) (.nm 2) (mTest (mCall 3 (c .keeps) (mCons (mVar 2) (mCons (mVar 0) (mCons (mVar 1) (mNil)))))) (mVar 2)) (mNil)))))
/-- worlds_for(design, promises) slots: design, promises, world -/
def b_worlds_for (c : Fid → Fn) : Ms :=
  sSeq (sExpr (mCall 1 (c .need_design) (mCons (mVar 0) (mNil)))) (sSeq (sExpr (mCall 1 (c .need_promises) (mCons (mVar 1) (mNil)))) (sRet (mFn fTuple (mCons (mLc [2] (mItT (mCall 0 (c .all_worlds) mNil)) (.nm 2) (mTest (mCall 3 (c .keeps) (mCons (mVar 0) (mCons (mVar 2) (mCons (mVar 1) (mNil)))))) (mVar 2)) (mNil)))))
/-- changes(one, other) slots: one, other, left, right -/
def b_changes (c : Fid → Fn) : Ms :=
  sRet (mFn fLen (mCons (mLc [2, 3] (mItZ (mCons (mVar 0) (mCons (mVar 1) (mNil)))) (.tp [2, 3]) (mTest (mOp oNe (mVar 2) (mVar 3))) (mC (.int 1))) (mNil)))
/-- nearest(design, world, promises) slots: design, world, promises, found, one -/
def b_nearest (c : Fid → Fn) : Ms :=
  sSeq (sExpr (mCall 2 (c .need_both) (mCons (mVar 0) (mCons (mVar 1) (mNil))))) (sSeq (sExpr (mCall 1 (c .need_promises) (mCons (mVar 2) (mNil)))) (sSeq (sSet 3 (mLc [4] (mItT (mCall 2 (c .keepers) (mCons (mVar 1) (mCons (mVar 2) (mNil))))) (.nm 4) (mYes) (mTup (mCons (mCall 2 (c .changes) (mCons (mVar 0) (mCons (mVar 4) (mNil)))) (mCons (mVar 4) (mNil)))))) (sRet (mIf (mTest (mOp oNeE (mVar 3) (mLst (mNil)))) (mOp oIx (mFn fMinD (mCons (mVar 3) (mNil))) (mC (.int 1))) (mC .non)))))
/-- strongest(world) slots: world, kept, found, design, own, one, word -/
def b_strongest (c : Fid → Fn) : Ms :=
  sSeq (sExpr (mCall 1 (c .need_world) (mCons (mVar 0) (mNil)))) (sSeq (sSet 1 (mDcT [3] (mItT (mCall 0 (c .all_designs) mNil)) (.nm 3) (mYes) (mVar 3) (mCall 2 (c .kept_in) (mCons (mVar 3) (mCons (mVar 0) (mNil)))))) (sSeq (sSet 2 (mNewL (mNil))) (sSeq (sFor (mItK (mVar 1)) (.nm 3) (sSeq (sSet 4 (mOp oTGet (mVar 1) (mVar 3))) (sIf (mNotT (mTest (mFn fAny (mCons (mLc [5] (mItV (mVar 1)) (.nm 5) (mYes) (mAnd (mOp oGt (mFn fLen (mCons (mVar 5) (mNil))) (mFn fLen (mCons (mVar 4) (mNil)))) (mFn fAll (mCons (mLc [6] (mItT (mVar 4)) (.nm 6) (mYes) (mOp oIn (mVar 6) (mVar 5))) (mNil))))) (mNil))))) (sExpr (mMt isLst gApp (mVar 2) (mCons (mVar 3) (mNil)))) (sSkip)))) (sRet (mFn fTuple (mCons (mVar 2) (mNil)))))))
/-- harmless(design, world, place) slots: design, world, place, some, word, one -/
def b_harmless (c : Fid → Fn) : Ms :=
  sSeq (sExpr (mCall 2 (c .need_both) (mCons (mVar 0) (mCons (mVar 1) (mNil))))) (sSeq (sIf (mNotT (mTest (mCall 3 (c .is_in) (mCons (mVar 2) (mCons (mC (.int 0)) (mCons (mOp oSub (mFn fLen (mCons (mC k_DESIGNS) (mNil))) (mC (.int 1))) (mNil))))))) (sNever) (sSkip)) (sSeq (sSet 3 (mLc [4] (mItT (mOp oIx (mC k_DESIGNS) (mVar 2))) (.nm 4) (mYes) (mOp oAdd (mOp oAdd (mSl (mVar 0) (mNoPart) (mPart (mVar 2))) (mTup (mCons (mVar 4) (mNil)))) (mSl (mVar 0) (mPart (mOp oAdd (mVar 2) (mC (.int 1)))) (mNoPart))))) (sRet (mFn fTuple (mCons (mLc [5] (mItL (mVar 3)) (.nm 5) (mTest (mCall 3 (c .keeps) (mCons (mVar 5) (mCons (mVar 1) (mCons (mCall 2 (c .kept_in) (mCons (mVar 0) (mCons (mVar 1) (mNil)))) (mNil)))))) (mOp oIx (mVar 5) (mVar 2))) (mNil))))))
/-- _law_taken(_law_row, _law_many) slots: _law_row, _law_many, _law_cell, _law_found -/
def b_l_taken (c : Fid → Fn) : Ms :=
  sSeq (sIf (mTest (mOp oGt (mOp oIx (mVar 0) (mC (.int 3))) (mC (.int 0)))) (sSeq (sSet 3 (mOp oMod (mFn fInt (mCons (mOp oIx (mVar 0) (mC (.int 3))) (mNil))) (mVar 1))) (sSeq (sLSet (mVar 0) (mC (.int 3)) (mOp oDiv (mOp oIx (mVar 0) (mC (.int 3))) (mVar 1))) (sRet (mVar 3)))) (sSkip)) (sSeq (sLSet (mVar 0) (mC (.int 1)) (mOp oAdd (mOp oIx (mVar 0) (mC (.int 1))) (mC (.int 1)))) (sSeq (sIf (mTest (mOp oGt (mOp oIx (mVar 0) (mC (.int 1))) (mFn fLen (mCons (mOp oIx (mVar 0) (mC (.int 0))) (mNil))))) (sSeq (sLSet (mVar 0) (mC (.int 2)) (mOp oMod (mFn fInt (mCons (mOp oAdd (mOp oMul (mOp oIx (mVar 0) (mC (.int 2))) (mC (.int 48271))) (mC (.int 11))) (mNil))) (mC (.int 2147483647)))) (sRet (mOp oMod (mFn fInt (mCons (mOp oDiv (mOp oIx (mVar 0) (mC (.int 2))) (mC (.int 7))) (mNil))) (mVar 1)))) (sSkip)) (sSeq (sSet 2 (mOp oIx (mOp oIx (mVar 0) (mC (.int 0))) (mOp oSub (mOp oIx (mVar 0) (mC (.int 1))) (mC (.int 1))))) (sSeq (sLSet (mVar 0) (mC (.int 2)) (mOp oMod (mFn fInt (mCons (mOp oAdd (mOp oAdd (mOp oMul (mOp oIx (mVar 0) (mC (.int 2))) (mC (.int 48271))) (mVar 2)) (mC (.int 11))) (mNil))) (mC (.int 2147483647)))) (sSeq (sIf (mTest (mOp oGe (mVar 2) (mOp oPow (mC (.int 10)) (mC (.int 18))))) (sLSet (mVar 0) (mC (.int 3)) (mOp oDiv (mVar 2) (mVar 1))) (sSkip)) (sRet (mOp oMod (mFn fInt (mCons (mVar 2) (mNil))) (mVar 1))))))))
/-- _law_pick(_law_row, _law_kinds) slots: _law_row, _law_kinds -/
def b_l_pick (c : Fid → Fn) : Ms :=
  sRet (mOp oIx (mVar 1) (mCall 2 (c .l_taken) (mCons (mVar 0) (mCons (mFn fLen (mCons (mVar 1) (mNil))) (mNil)))))
/-- _law_alike(_law_found, _law_due) slots: _law_found, _law_due, _law_k -/
def b_l_alike (c : Fid → Fn) : Ms :=
  sSeq (sIf (mTest (mFn fIsi (mCons (mVar 1) (mCons (mTup (mCons (mC (.ty "tuple")) (mCons (mC (.ty "list")) (mNil)))) (mNil))))) (sSeq (sIf (mOrT (mNotT (mTest (mFn fIsi (mCons (mVar 0) (mCons (mTup (mCons (mC (.ty "tuple")) (mCons (mC (.ty "list")) (mNil)))) (mNil)))))) (mTest (mOp oNe (mFn fIsi (mCons (mVar 0) (mCons (mC (.ty "list")) (mNil)))) (mFn fIsi (mCons (mVar 1) (mCons (mC (.ty "list")) (mNil))))))) (sRet (mC (.bl false))) (sSkip)) (sSeq (sIf (mTest (mOp oNe (mFn fLen (mCons (mVar 0) (mNil))) (mFn fLen (mCons (mVar 1) (mNil))))) (sRet (mC (.bl false))) (sSkip)) (sRet (mOp oEqE (mLc [2] (mItR1 (mCons (mFn fLen (mCons (mVar 1) (mNil))) (mNil))) (.nm 2) (mNotT (mTest (mCall 2 (c .l_alike) (mCons (mOp oIx (mVar 0) (mVar 2)) (mCons (mOp oIx (mVar 1) (mVar 2)) (mNil)))))) (mVar 2)) (mLst (mNil)))))) (sSkip)) (sSeq (sIf (mOrT (mTest (mOp oIsN (mVar 1) (mC .non))) (mTest (mFn fIsi (mCons (mVar 1) (mCons (mC (.ty "str")) (mNil)))))) (sRet (mAnd (mOp oEq (mVar 0) (mVar 1)) (mOp oEq (mFn fIsi (mCons (mVar 0) (mCons (mC (.ty "str")) (mNil)))) (mFn fIsi (mCons (mVar 1) (mCons (mC (.ty "str")) (mNil))))))) (sSkip)) (sRet (mAnd (mFn fIsi (mCons (mVar 0) (mCons (mC (.ty "int")) (mNil)))) (mAnd (mOp oEq (mFn fIsi (mCons (mVar 0) (mCons (mC (.ty "bool")) (mNil)))) (mFn fIsi (mCons (mVar 1) (mCons (mC (.ty "bool")) (mNil))))) (mOp oEq (mVar 0) (mVar 1))))))
/-- _law_paths() slots:  -/
def b_l_paths (c : Fid → Fn) : Ms :=
  sRet (mLst (mCons (mC (.str "drop store")) (mCons (mC (.str "drop store drop")) (mCons (mC (.str "store")) (mCons (mC (.str "store drop")) (mCons (mC (.str "store set")) (mNil)))))))
/-- _law_promises() slots:  -/
def b_l_promises (c : Fid → Fn) : Ms :=
  sRet (mLst (mCons (mC (.str "ending")) (mCons (mC (.str "filled")) (mCons (mC (.str "forward")) (mCons (mC (.str "fresh")) (mCons (mC (.str "linear")) (mCons (mC (.str "mended")) (mCons (mC (.str "moving")) (mCons (mC (.str "quiet")) (mCons (mC (.str "rest")) (mCons (mC (.str "single")) (mNil))))))))))))
/-- _law_holds(_law_design, _law_world, _law_promise) slots: _law_design, _law_world, _law_promise, _law_by, _law_climbs, _law_guards, _law_fresh, _law_low, _law_forward, _law_late, _law_whole, _law_found, _law_path, _law_guard, _law_flight -/
def b_l_holds (c : Fid → Fn) : Ms :=
  sSeq (sAsgT (mVar 0) (kTup [kName 12, kName 13, kName 14])) (sSeq (sSet 3 (mAnd (mOp oEq (mVar 13) (mC (.str "never"))) (mOp oNe (mVar 12) (mC (.str "store set"))))) (sSeq (sSet 4 (mAnd (mOp oEq (mVar 12) (mC (.str "store set"))) (mAnd (mOp oIn (mVar 13) (mLst (mCons (mC (.str "mark")) (mCons (mC (.str "newer")) (mNil))))) (mOp oEq (mOp oIx (mVar 1) (mC (.int 1))) (mC (.str "keeps")))))) (sSeq (sSet 5 (mAnd (mMt (fun _ => isStr) gEnds (mVar 12) (mCons (mC (.str "drop")) (mNil))) (mOr (mOp oEq (mVar 13) (mC (.str "token"))) (mAnd (mOp oEq (mVar 13) (mC (.str "mark"))) (mOp oEq (mOp oIx (mVar 1) (mC (.int 1))) (mC (.str "keeps"))))))) (sSeq (sSet 6 (mOr (mVar 4) (mAnd (mOp oEq (mOp oIx (mVar 1) (mC (.int 0))) (mC (.str "primary"))) (mOr (mVar 3) (mAnd (mVar 5) (mOp oEq (mVar 14) (mC (.str "alone")))))))) (sSeq (sSet 7 (mOr (mOp oEq (mVar 13) (mC (.str "mark"))) (mAnd (mOp oEq (mVar 13) (mC (.str "newer"))) (mOp oIn (mVar 12) (mLst (mCons (mC (.str "store")) (mCons (mC (.str "store set")) (mNil)))))))) (sSeq (sSet 8 (mOr (mVar 3) (mOr (mAnd (mOp oEq (mVar 14) (mC (.str "shared"))) (mOp oNe (mVar 12) (mC (.str "store set")))) (mAnd (mOp oEq (mOp oIx (mVar 1) (mC (.int 1))) (mC (.str "keeps"))) (mVar 7))))) (sSeq (sSet 9 (mAnd (mOp oEq (mVar 13) (mC (.str "token"))) (mOp oEq (mOp oIx (mVar 1) (mC (.int 0))) (mC (.str "replica"))))) (sSeq (sSet 10 (mOp oEq (mOp oIx (mVar 1) (mC (.int 2))) (mC (.str "finishes")))) (sSeq (sSet 11 (mNewD [(mC (.str "ending"), mOr (mOp oEq (mVar 14) (mC (.str "alone"))) (mVar 10)), (mC (.str "fresh"), mVar 6), (mC (.str "forward"), mVar 8), (mC (.str "linear"), mAnd (mVar 6) (mVar 8))])) (sSeq (sDSet (mVar 11) (mC (.str "filled")) (mAnd (mOp oNe (mVar 13) (mC (.str "never"))) (mOr (mVar 10) (mOp oEq (mVar 14) (mC (.str "alone")))))) (sSeq (sDSet (mVar 11) (mC (.str "filled")) (mAnd (mOp oDGet (mVar 11) (mC (.str "filled"))) (mNot (mAnd (mOp oEq (mVar 13) (mC (.str "mark"))) (mAnd (mOp oEq (mOp oIx (mVar 1) (mC (.int 0))) (mC (.str "replica"))) (mMt (fun _ => isStr) gEnds (mVar 12) (mCons (mC (.str "drop")) (mNil)))))))) (sSeq (sAsgT (mTup (mCons (mOr (mOp oNe (mVar 12) (mC (.str "store"))) (mOp oEq (mVar 13) (mC (.str "never")))) (mCons (mOp oEq (mVar 14) (mC (.str "alone"))) (mNil)))) (kTup [kDSub (mVar 11) (mC (.str "mended")), kDSub (mVar 11) (mC (.str "moving"))])) (sSeq (sDSet (mVar 11) (mC (.str "quiet")) (mIf (mTest (mVar 3)) (mOp oEq (mOp oIx (mVar 1) (mC (.int 0))) (mC (.str "primary"))) (mAnd (mVar 10) (mVar 6)))) (sSeq (sDSet (mVar 11) (mC (.str "rest")) (mOr (mVar 3) (mAnd (mVar 10) (mOr (mVar 4) (mAnd (mVar 5) (mNot (mVar 9))))))) (sSeq (sDSet (mVar 11) (mC (.str "single")) (mOp oEq (mVar 14) (mC (.str "shared")))) (sRet (mOp oDGet (mVar 11) (mVar 2))))))))))))))))))
/-- _law_words(_law_row, _law_many) slots: _law_row, _law_many, _law_found, _law_one -/
def b_l_words (c : Fid → Fn) : Ms :=
  sSeq (sSet 2 (mLc [3] (mItL (mCall 0 (c .l_promises) mNil)) (.nm 3) (mTest (mOp oEq (mCall 2 (c .l_taken) (mCons (mVar 0) (mCons (mVar 1) (mNil)))) (mC (.int 0)))) (mVar 3))) (sRet (mFn fTuple (mCons (mVar 2) (mNil))))
/-- _law_designs() slots: _law_found, _law_path, _law_guard -/
def b_l_designs (c : Fid → Fn) : Ms :=
  sSeq (sSet 0 (mLst (mNil))) (sSeq (sFor (mItL (mCall 0 (c .l_paths) mNil)) (.nm 1) (sFor (mItL (mLst (mCons (mC (.str "always")) (mCons (mC (.str "empty")) (mCons (mC (.str "mark")) (mCons (mC (.str "never")) (mCons (mC (.str "newer")) (mCons (mC (.str "token")) (mNil))))))))) (.nm 2) (sSet 0 (mOp oAdd (mVar 0) (mLst (mCons (mTup (mCons (mVar 1) (mCons (mVar 2) (mCons (mC (.str "alone")) (mNil))))) (mCons (mTup (mCons (mVar 1) (mCons (mVar 2) (mCons (mC (.str "shared")) (mNil))))) (mNil)))))))) (sRet (mVar 0)))
/-- _law_worlds() slots: _law_found, _law_source, _law_evictions -/
def b_l_worlds (c : Fid → Fn) : Ms :=
  sSeq (sSet 0 (mLst (mNil))) (sSeq (sFor (mItL (mLst (mCons (mC (.str "primary")) (mCons (mC (.str "replica")) (mNil))))) (.nm 1) (sFor (mItL (mLst (mCons (mC (.str "evicts")) (mCons (mC (.str "keeps")) (mNil))))) (.nm 2) (sSet 0 (mOp oAdd (mVar 0) (mLst (mCons (mTup (mCons (mVar 1) (mCons (mVar 2) (mCons (mC (.str "finishes")) (mNil))))) (mCons (mTup (mCons (mVar 1) (mCons (mVar 2) (mCons (mC (.str "stops")) (mNil))))) (mNil)))))))) (sRet (mVar 0)))
/-- _law_kept(_law_design, _law_world) slots: _law_design, _law_world, _law_one -/
def b_l_kept (c : Fid → Fn) : Ms :=
  sRet (mLc [2] (mItL (mCall 0 (c .l_promises) mNil)) (.nm 2) (mTest (mCall 3 (c .l_holds) (mCons (mVar 0) (mCons (mVar 1) (mCons (mVar 2) (mNil)))))) (mVar 2))
/-- _law_keeps(_law_design, _law_world, _law_wanted) slots: _law_design, _law_world, _law_wanted, _law_one -/
def b_l_keeps (c : Fid → Fn) : Ms :=
  sRet (mOp oEqE (mLc [3] (mItE2 (mVar 2)) (.nm 3) (mNotT (mTest (mCall 3 (c .l_holds) (mCons (mVar 0) (mCons (mVar 1) (mCons (mVar 3) (mNil))))))) (mVar 3)) (mLst (mNil)))
/-- law(_law_script) slots: _law_script, _law_row, _law_due, _law_ranked, _law_place, _law_kept_here, _law_near, _law_some, _law_best, _law_design, _law_world, _law_wanted, _law_one, _law_own, _law_other, _law_more, _law_at, _law_word -/
def b_law_ (c : Fid → Fn) : Ms :=
  sSeq (sSet 1 (mNewL (mCons (mVar 0) (mCons (mC (.int 0)) (mCons (mC (.int 15554)) (mCons (mC (.int 0)) (mNil))))))) (sSeq (sAsgT (mTup (mCons (mCall 2 (c .l_pick) (mCons (mVar 1) (mCons (mCall 0 (c .l_designs) mNil) (mNil)))) (mCons (mCall 2 (c .l_pick) (mCons (mVar 1) (mCons (mCall 0 (c .l_worlds) mNil) (mNil)))) (mCons (mCall 2 (c .l_words) (mCons (mVar 1) (mCons (mC (.int 4)) (mNil)))) (mNil))))) (kTup [kName 9, kName 10, kName 11])) (sSeq (sSet 2 (mLc [12] (mItL (mCall 0 (c .l_designs) mNil)) (.nm 12) (mTest (mCall 3 (c .l_keeps) (mCons (mVar 12) (mCons (mVar 10) (mCons (mVar 11) (mNil)))))) (mVar 12))) (sSeq (sIf (mNotT (mTest (mCall 2 (c .l_alike) (mCons (mCall 2 (c .keepers) (mCons (mVar 10) (mCons (mVar 11) (mNil)))) (mCons (mFn fTuple (mCons (mVar 2) (mNil))) (mNil)))))) (sRet (mC (.bl false))) (sSkip)) (sSeq (sIf (mNotT (mTest (mCall 2 (c .l_alike) (mCons (mCall 2 (c .worlds_for) (mCons (mVar 9) (mCons (mVar 11) (mNil)))) (mCons (mFn fTuple (mCons (mLc [12] (mItL (mCall 0 (c .l_worlds) mNil)) (.nm 12) (mTest (mCall 3 (c .l_keeps) (mCons (mVar 9) (mCons (mVar 12) (mCons (mVar 11) (mNil)))))) (mVar 12)) (mNil))) (mNil)))))) (sRet (mC (.bl false))) (sSkip)) (sSeq (sSet 3 (mFn fSorted (mCons (mLc [12] (mItL (mVar 2)) (.nm 12) (mYes) (mTup (mCons (mFn fLen (mCons (mLc [16] (mItR1 (mCons (mC (.int 3)) (mNil))) (.nm 16) (mTest (mOp oNe (mOp oIx (mVar 12) (mVar 16)) (mOp oIx (mVar 9) (mVar 16)))) (mVar 16)) (mNil))) (mCons (mVar 12) (mNil))))) (mNil)))) (sSeq (sIf (mNotT (mTest (mCall 2 (c .l_alike) (mCons (mCall 3 (c .nearest) (mCons (mVar 9) (mCons (mVar 10) (mCons (mVar 11) (mNil))))) (mCons (mIf (mTest (mOp oNeE (mVar 3) (mLst (mNil)))) (mOp oIx (mOp oIx (mVar 3) (mC (.int 0))) (mC (.int 1))) (mC .non)) (mNil)))))) (sRet (mC (.bl false))) (sSkip)) (sSeq (sSet 4 (mCall 2 (c .l_taken) (mCons (mVar 1) (mCons (mC (.int 3)) (mNil))))) (sSeq (sSet 5 (mCall 2 (c .l_kept) (mCons (mVar 9) (mCons (mVar 10) (mNil))))) (sSeq (sSet 6 (mLc [12] (mItL (mCall 0 (c .l_designs) mNil)) (.nm 12) (mTest (mOp oEq (mOp oAdd (mSl (mVar 12) (mNoPart) (mPart (mVar 4))) (mSl (mVar 12) (mPart (mOp oAdd (mVar 4) (mC (.int 1)))) (mNoPart))) (mOp oAdd (mSl (mVar 9) (mNoPart) (mPart (mVar 4))) (mSl (mVar 9) (mPart (mOp oAdd (mVar 4) (mC (.int 1)))) (mNoPart))))) (mVar 12))) (sSeq (sIf (mNotT (mTest (mCall 2 (c .l_alike) (mCons (mCall 3 (c .harmless) (mCons (mVar 9) (mCons (mVar 10) (mCons (mVar 4) (mNil))))) (mCons (mFn fTuple (mCons (mLc [12] (mItL (mVar 6)) (.nm 12) (mTest (mCall 3 (c .l_keeps) (mCons (mVar 12) (mCons (mVar 10) (mCons (mVar 5) (mNil)))))) (mOp oIx (mVar 12) (mVar 4))) (mNil))) (mNil)))))) (sRet (mC (.bl false))) (sSkip)) (sSeq (sSet 7 (mLc [12] (mItL (mCall 0 (c .l_designs) mNil)) (.nm 12) (mYes) (mTup (mCons (mVar 12) (mCons (mCall 2 (c .l_kept) (mCons (mVar 12) (mCons (mVar 10) (mNil)))) (mNil)))))) (sSeq (sSet 8 (mNewL (mNil))) (sSeq (sFor (mItL (mVar 7)) (.tp [12, 13]) (sIf (mTest (mOp oEqE (mLc [14, 15] (mItL (mVar 7)) (.tp [14, 15]) (mAndT (mTest (mOp oGt (mFn fLen (mCons (mVar 15) (mNil))) (mFn fLen (mCons (mVar 13) (mNil))))) (mTest (mOp oEqE (mLc [17] (mItL (mVar 13)) (.nm 17) (mTest (mOp oNi (mVar 17) (mVar 15))) (mVar 17)) (mLst (mNil))))) (mC (.int 1))) (mLst (mNil)))) (sExpr (mMt isLst gApp (mVar 8) (mCons (mVar 12) (mNil)))) (sSkip))) (sRet (mCall 2 (c .l_alike) (mCons (mCall 1 (c .strongest) (mCons (mVar 10) (mNil))) (mCons (mFn fTuple (mCons (mVar 8) (mNil))) (mNil))))))))))))))))))
def bodyOf (c : Fid → Fn) : Fid → Fn
  | .is_integer => (runB 1 (b_is_integer c))
  | .is_in => (runB 3 (b_is_in c))
  | .is_list => (runB 3 (b_is_list c))
  | .is_choice => (runB 4 (b_is_choice c))
  | .all_choices => (runB 5 (b_all_choices c))
  | .is_design => (runB 1 (b_is_design c))
  | .is_world => (runB 1 (b_is_world c))
  | .need_design => (runB 1 (b_need_design c))
  | .need_world => (runB 1 (b_need_world c))
  | .need_both => (runB 2 (b_need_both c))
  | .all_designs => (runB 0 (b_all_designs c))
  | .all_worlds => (runB 0 (b_all_worlds c))
  | .need_promises => (runB 3 (b_need_promises c))
  | .is_passed_by => (runB 1 (b_is_passed_by c))
  | .is_climbing => (runB 2 (b_is_climbing c))
  | .is_guarded => (runB 2 (b_is_guarded c))
  | .rest_holds => (runB 3 (b_rest_holds c))
  | .fresh_holds => (runB 2 (b_fresh_holds c))
  | .forward_holds => (runB 2 (b_forward_holds c))
  | .filled_holds => (runB 2 (b_filled_holds c))
  | .quiet_holds => (runB 2 (b_quiet_holds c))
  | .does_hold => (runB 4 (b_does_hold c))
  | .kept_in => (runB 3 (b_kept_in c))
  | .keeps => (runB 5 (b_keeps c))
  | .keepers => (runB 3 (b_keepers c))
  | .worlds_for => (runB 3 (b_worlds_for c))
  | .changes => (runB 4 (b_changes c))
  | .nearest => (runB 5 (b_nearest c))
  | .strongest => (runB 7 (b_strongest c))
  | .harmless => (runB 6 (b_harmless c))
  | .l_taken => (runB 4 (b_l_taken c))
  | .l_pick => (runB 2 (b_l_pick c))
  | .l_alike => (runB 3 (b_l_alike c))
  | .l_paths => (runB 0 (b_l_paths c))
  | .l_promises => (runB 0 (b_l_promises c))
  | .l_holds => isoR (runB 15 (b_l_holds c))
  | .l_words => (runB 4 (b_l_words c))
  | .l_designs => (runB 3 (b_l_designs c))
  | .l_worlds => (runB 3 (b_l_worlds c))
  | .l_kept => (runB 3 (b_l_kept c))
  | .l_keeps => (runB 4 (b_l_keeps c))
  | .law_ => (runB 18 (b_law_ c))
def callF : Nat → Fid → Fn
  | 0, _ => fun _ _ => .bad
  | n + 1, f => bodyOf (callF n) f
end CH

/-! the derivations, the head -/
namespace CH
open PySem PySem.Spec PyProof.Rows L2

def topS (i : Nat) : Stmt := PySem.Challenge.pw_cacheheld_k07_whole_choices.main.body.getD i (.Pass ⟨0, 0, 0, 0⟩)
abbrev s_is_integer : Stmt := topS 1
abbrev N_is_integer : List Str := ["value"]
theorem sc_is_integer : FnScope N_is_integer ["value"] (defScope s_is_integer) := ⟨rfl, rfl, rfl, by decide +kernel, rfl, by decide +kernel, by decide +kernel⟩
abbrev s_is_in : Stmt := topS 2
abbrev N_is_in : List Str := ["value", "least", "most"]
theorem sc_is_in : FnScope N_is_in ["value", "least", "most"] (defScope s_is_in) := ⟨rfl, rfl, rfl, by decide +kernel, rfl, by decide +kernel, by decide +kernel⟩
abbrev s_is_list : Stmt := topS 3
abbrev N_is_list : List Str := ["value", "least", "most"]
theorem sc_is_list : FnScope N_is_list ["value", "least", "most"] (defScope s_is_list) := ⟨rfl, rfl, rfl, by decide +kernel, rfl, by decide +kernel, by decide +kernel⟩
abbrev s_is_choice : Stmt := topS 16
abbrev N_is_choice : List Str := ["value", "options", "one", "some"]
theorem sc_is_choice : FnScope N_is_choice ["value", "options"] (defScope s_is_choice) := ⟨rfl, rfl, rfl, by decide +kernel, rfl, by decide +kernel, by decide +kernel⟩
abbrev s_all_choices : Stmt := topS 17
abbrev N_all_choices : List Str := ["options", "found", "some", "one", "word"]
theorem sc_all_choices : FnScope N_all_choices ["options"] (defScope s_all_choices) := ⟨rfl, rfl, rfl, by decide +kernel, rfl, by decide +kernel, by decide +kernel⟩
abbrev s_is_design : Stmt := topS 18
abbrev N_is_design : List Str := ["value"]
theorem sc_is_design : FnScope N_is_design ["value"] (defScope s_is_design) := ⟨rfl, rfl, rfl, by decide +kernel, rfl, by decide +kernel, by decide +kernel⟩
abbrev s_is_world : Stmt := topS 19
abbrev N_is_world : List Str := ["value"]
theorem sc_is_world : FnScope N_is_world ["value"] (defScope s_is_world) := ⟨rfl, rfl, rfl, by decide +kernel, rfl, by decide +kernel, by decide +kernel⟩
abbrev s_need_design : Stmt := topS 20
abbrev N_need_design : List Str := ["design"]
theorem sc_need_design : FnScope N_need_design ["design"] (defScope s_need_design) := ⟨rfl, rfl, rfl, by decide +kernel, rfl, by decide +kernel, by decide +kernel⟩
abbrev s_need_world : Stmt := topS 21
abbrev N_need_world : List Str := ["world"]
theorem sc_need_world : FnScope N_need_world ["world"] (defScope s_need_world) := ⟨rfl, rfl, rfl, by decide +kernel, rfl, by decide +kernel, by decide +kernel⟩
abbrev s_need_both : Stmt := topS 22
abbrev N_need_both : List Str := ["design", "world"]
theorem sc_need_both : FnScope N_need_both ["design", "world"] (defScope s_need_both) := ⟨rfl, rfl, rfl, by decide +kernel, rfl, by decide +kernel, by decide +kernel⟩
abbrev s_all_designs : Stmt := topS 23
abbrev N_all_designs : List Str := []
theorem sc_all_designs : FnScope N_all_designs [] (defScope s_all_designs) := ⟨rfl, rfl, rfl, by decide +kernel, rfl, by decide +kernel, by decide +kernel⟩
abbrev s_all_worlds : Stmt := topS 24
abbrev N_all_worlds : List Str := []
theorem sc_all_worlds : FnScope N_all_worlds [] (defScope s_all_worlds) := ⟨rfl, rfl, rfl, by decide +kernel, rfl, by decide +kernel, by decide +kernel⟩
abbrev s_need_promises : Stmt := topS 27
abbrev N_need_promises : List Str := ["promises", "one", "other"]
theorem sc_need_promises : FnScope N_need_promises ["promises"] (defScope s_need_promises) := ⟨rfl, rfl, rfl, by decide +kernel, rfl, by decide +kernel, by decide +kernel⟩
abbrev s_is_passed_by : Stmt := topS 31
abbrev N_is_passed_by : List Str := ["design"]
theorem sc_is_passed_by : FnScope N_is_passed_by ["design"] (defScope s_is_passed_by) := ⟨rfl, rfl, rfl, by decide +kernel, rfl, by decide +kernel, by decide +kernel⟩
abbrev s_is_climbing : Stmt := topS 32
abbrev N_is_climbing : List Str := ["design", "world"]
theorem sc_is_climbing : FnScope N_is_climbing ["design", "world"] (defScope s_is_climbing) := ⟨rfl, rfl, rfl, by decide +kernel, rfl, by decide +kernel, by decide +kernel⟩
abbrev s_is_guarded : Stmt := topS 33
abbrev N_is_guarded : List Str := ["design", "world"]
theorem sc_is_guarded : FnScope N_is_guarded ["design", "world"] (defScope s_is_guarded) := ⟨rfl, rfl, rfl, by decide +kernel, rfl, by decide +kernel, by decide +kernel⟩
abbrev s_rest_holds : Stmt := topS 34
abbrev N_rest_holds : List Str := ["design", "world", "is_token_late"]
theorem sc_rest_holds : FnScope N_rest_holds ["design", "world"] (defScope s_rest_holds) := ⟨rfl, rfl, rfl, by decide +kernel, rfl, by decide +kernel, by decide +kernel⟩
abbrev s_fresh_holds : Stmt := topS 35
abbrev N_fresh_holds : List Str := ["design", "world"]
theorem sc_fresh_holds : FnScope N_fresh_holds ["design", "world"] (defScope s_fresh_holds) := ⟨rfl, rfl, rfl, by decide +kernel, rfl, by decide +kernel, by decide +kernel⟩
abbrev s_forward_holds : Stmt := topS 36
abbrev N_forward_holds : List Str := ["design", "world"]
theorem sc_forward_holds : FnScope N_forward_holds ["design", "world"] (defScope s_forward_holds) := ⟨rfl, rfl, rfl, by decide +kernel, rfl, by decide +kernel, by decide +kernel⟩
abbrev s_filled_holds : Stmt := topS 37
abbrev N_filled_holds : List Str := ["design", "world"]
theorem sc_filled_holds : FnScope N_filled_holds ["design", "world"] (defScope s_filled_holds) := ⟨rfl, rfl, rfl, by decide +kernel, rfl, by decide +kernel, by decide +kernel⟩
abbrev s_quiet_holds : Stmt := topS 38
abbrev N_quiet_holds : List Str := ["design", "world"]
theorem sc_quiet_holds : FnScope N_quiet_holds ["design", "world"] (defScope s_quiet_holds) := ⟨rfl, rfl, rfl, by decide +kernel, rfl, by decide +kernel, by decide +kernel⟩
abbrev s_does_hold : Stmt := topS 39
abbrev N_does_hold : List Str := ["design", "world", "promise", "told"]
theorem sc_does_hold : FnScope N_does_hold ["design", "world", "promise"] (defScope s_does_hold) := ⟨rfl, rfl, rfl, by decide +kernel, rfl, by decide +kernel, by decide +kernel⟩
abbrev s_kept_in : Stmt := topS 40
abbrev N_kept_in : List Str := ["design", "world", "one"]
theorem sc_kept_in : FnScope N_kept_in ["design", "world"] (defScope s_kept_in) := ⟨rfl, rfl, rfl, by decide +kernel, rfl, by decide +kernel, by decide +kernel⟩
abbrev s_keeps : Stmt := topS 42
abbrev N_keeps : List Str := ["design", "world", "promises", "kept", "one"]
theorem sc_keeps : FnScope N_keeps ["design", "world", "promises"] (defScope s_keeps) := ⟨rfl, rfl, rfl, by decide +kernel, rfl, by decide +kernel, by decide +kernel⟩
abbrev s_keepers : Stmt := topS 43
abbrev N_keepers : List Str := ["world", "promises", "design"]
theorem sc_keepers : FnScope N_keepers ["world", "promises"] (defScope s_keepers) := ⟨rfl, rfl, rfl, by decide +kernel, rfl, by decide +kernel, by decide +kernel⟩
abbrev s_worlds_for : Stmt := topS 44
abbrev N_worlds_for : List Str := ["design", "promises", "world"]
theorem sc_worlds_for : FnScope N_worlds_for ["design", "promises"] (defScope s_worlds_for) := ⟨rfl, rfl, rfl, by decide +kernel, rfl, by decide +kernel, by decide +kernel⟩
abbrev s_changes : Stmt := topS 45
abbrev N_changes : List Str := ["one", "other", "left", "right"]
theorem sc_changes : FnScope N_changes ["one", "other"] (defScope s_changes) := ⟨rfl, rfl, rfl, by decide +kernel, rfl, by decide +kernel, by decide +kernel⟩
abbrev s_nearest : Stmt := topS 46
abbrev N_nearest : List Str := ["design", "world", "promises", "found", "one"]
theorem sc_nearest : FnScope N_nearest ["design", "world", "promises"] (defScope s_nearest) := ⟨rfl, rfl, rfl, by decide +kernel, rfl, by decide +kernel, by decide +kernel⟩
abbrev s_strongest : Stmt := topS 47
abbrev N_strongest : List Str := ["world", "kept", "found", "design", "own", "one", "word"]
theorem sc_strongest : FnScope N_strongest ["world"] (defScope s_strongest) := ⟨rfl, rfl, rfl, by decide +kernel, rfl, by decide +kernel, by decide +kernel⟩
abbrev s_harmless : Stmt := topS 48
abbrev N_harmless : List Str := ["design", "world", "place", "some", "word", "one"]
theorem sc_harmless : FnScope N_harmless ["design", "world", "place"] (defScope s_harmless) := ⟨rfl, rfl, rfl, by decide +kernel, rfl, by decide +kernel, by decide +kernel⟩
abbrev s_l_taken : Stmt := topS 50
abbrev N_l_taken : List Str := ["_law_row", "_law_many", "_law_cell", "_law_found"]
theorem sc_l_taken : FnScope N_l_taken ["_law_row", "_law_many"] (defScope s_l_taken) := ⟨rfl, rfl, rfl, by decide +kernel, rfl, by decide +kernel, by decide +kernel⟩
abbrev s_l_pick : Stmt := topS 51
abbrev N_l_pick : List Str := ["_law_row", "_law_kinds"]
theorem sc_l_pick : FnScope N_l_pick ["_law_row", "_law_kinds"] (defScope s_l_pick) := ⟨rfl, rfl, rfl, by decide +kernel, rfl, by decide +kernel, by decide +kernel⟩
abbrev s_l_alike : Stmt := topS 52
abbrev N_l_alike : List Str := ["_law_found", "_law_due", "_law_k"]
theorem sc_l_alike : FnScope N_l_alike ["_law_found", "_law_due"] (defScope s_l_alike) := ⟨rfl, rfl, rfl, by decide +kernel, rfl, by decide +kernel, by decide +kernel⟩
abbrev s_l_paths : Stmt := topS 53
abbrev N_l_paths : List Str := []
theorem sc_l_paths : FnScope N_l_paths [] (defScope s_l_paths) := ⟨rfl, rfl, rfl, by decide +kernel, rfl, by decide +kernel, by decide +kernel⟩
abbrev s_l_promises : Stmt := topS 54
abbrev N_l_promises : List Str := []
theorem sc_l_promises : FnScope N_l_promises [] (defScope s_l_promises) := ⟨rfl, rfl, rfl, by decide +kernel, rfl, by decide +kernel, by decide +kernel⟩
abbrev s_l_holds : Stmt := topS 55
abbrev N_l_holds : List Str := ["_law_design", "_law_world", "_law_promise", "_law_by", "_law_climbs", "_law_guards", "_law_fresh", "_law_low", "_law_forward", "_law_late", "_law_whole", "_law_found", "_law_path", "_law_guard", "_law_flight"]
theorem sc_l_holds : FnScope N_l_holds ["_law_design", "_law_world", "_law_promise"] (defScope s_l_holds) := ⟨rfl, rfl, rfl, by decide +kernel, rfl, by decide +kernel, by decide +kernel⟩
abbrev s_l_words : Stmt := topS 56
abbrev N_l_words : List Str := ["_law_row", "_law_many", "_law_found", "_law_one"]
theorem sc_l_words : FnScope N_l_words ["_law_row", "_law_many"] (defScope s_l_words) := ⟨rfl, rfl, rfl, by decide +kernel, rfl, by decide +kernel, by decide +kernel⟩
abbrev s_l_designs : Stmt := topS 57
abbrev N_l_designs : List Str := ["_law_found", "_law_path", "_law_guard"]
theorem sc_l_designs : FnScope N_l_designs [] (defScope s_l_designs) := ⟨rfl, rfl, rfl, by decide +kernel, rfl, by decide +kernel, by decide +kernel⟩
abbrev s_l_worlds : Stmt := topS 58
abbrev N_l_worlds : List Str := ["_law_found", "_law_source", "_law_evictions"]
theorem sc_l_worlds : FnScope N_l_worlds [] (defScope s_l_worlds) := ⟨rfl, rfl, rfl, by decide +kernel, rfl, by decide +kernel, by decide +kernel⟩
abbrev s_l_kept : Stmt := topS 59
abbrev N_l_kept : List Str := ["_law_design", "_law_world", "_law_one"]
theorem sc_l_kept : FnScope N_l_kept ["_law_design", "_law_world"] (defScope s_l_kept) := ⟨rfl, rfl, rfl, by decide +kernel, rfl, by decide +kernel, by decide +kernel⟩
abbrev s_l_keeps : Stmt := topS 60
abbrev N_l_keeps : List Str := ["_law_design", "_law_world", "_law_wanted", "_law_one"]
theorem sc_l_keeps : FnScope N_l_keeps ["_law_design", "_law_world", "_law_wanted"] (defScope s_l_keeps) := ⟨rfl, rfl, rfl, by decide +kernel, rfl, by decide +kernel, by decide +kernel⟩
abbrev s_law_ : Stmt := topS 61
abbrev N_law_ : List Str := ["_law_script", "_law_row", "_law_due", "_law_ranked", "_law_place", "_law_kept_here", "_law_near", "_law_some", "_law_best", "_law_design", "_law_world", "_law_wanted", "_law_one", "_law_own", "_law_other", "_law_more", "_law_at", "_law_word"]
theorem sc_law_ : FnScope N_law_ ["_law_script"] (defScope s_law_) := ⟨rfl, rfl, rfl, by decide +kernel, rfl, by decide +kernel, by decide +kernel⟩
def psOf : Fid → List Str
  | .is_integer => ["value"]
  | .is_in => ["value", "least", "most"]
  | .is_list => ["value", "least", "most"]
  | .is_choice => ["value", "options"]
  | .all_choices => ["options"]
  | .is_design => ["value"]
  | .is_world => ["value"]
  | .need_design => ["design"]
  | .need_world => ["world"]
  | .need_both => ["design", "world"]
  | .all_designs => []
  | .all_worlds => []
  | .need_promises => ["promises"]
  | .is_passed_by => ["design"]
  | .is_climbing => ["design", "world"]
  | .is_guarded => ["design", "world"]
  | .rest_holds => ["design", "world"]
  | .fresh_holds => ["design", "world"]
  | .forward_holds => ["design", "world"]
  | .filled_holds => ["design", "world"]
  | .quiet_holds => ["design", "world"]
  | .does_hold => ["design", "world", "promise"]
  | .kept_in => ["design", "world"]
  | .keeps => ["design", "world", "promises"]
  | .keepers => ["world", "promises"]
  | .worlds_for => ["design", "promises"]
  | .changes => ["one", "other"]
  | .nearest => ["design", "world", "promises"]
  | .strongest => ["world"]
  | .harmless => ["design", "world", "place"]
  | .l_taken => ["_law_row", "_law_many"]
  | .l_pick => ["_law_row", "_law_kinds"]
  | .l_alike => ["_law_found", "_law_due"]
  | .l_paths => []
  | .l_promises => []
  | .l_holds => ["_law_design", "_law_world", "_law_promise"]
  | .l_words => ["_law_row", "_law_many"]
  | .l_designs => []
  | .l_worlds => []
  | .l_kept => ["_law_design", "_law_world"]
  | .l_keeps => ["_law_design", "_law_world", "_law_wanted"]
  | .law_ => ["_law_script"]
def atOf : Fid → Str × Option Str
  | .is_integer => ("is_integer", none)
  | .is_in => ("is_in", none)
  | .is_list => ("is_list", none)
  | .is_choice => ("is_choice", none)
  | .all_choices => ("all_choices", none)
  | .is_design => ("is_design", none)
  | .is_world => ("is_world", none)
  | .need_design => ("need_design", none)
  | .need_world => ("need_world", none)
  | .need_both => ("need_both", none)
  | .all_designs => ("all_designs", none)
  | .all_worlds => ("all_worlds", none)
  | .need_promises => ("need_promises", none)
  | .is_passed_by => ("is_passed_by", none)
  | .is_climbing => ("is_climbing", none)
  | .is_guarded => ("is_guarded", none)
  | .rest_holds => ("rest_holds", none)
  | .fresh_holds => ("fresh_holds", none)
  | .forward_holds => ("forward_holds", none)
  | .filled_holds => ("filled_holds", none)
  | .quiet_holds => ("quiet_holds", none)
  | .does_hold => ("does_hold", none)
  | .kept_in => ("kept_in", none)
  | .keeps => ("keeps", none)
  | .keepers => ("keepers", none)
  | .worlds_for => ("worlds_for", none)
  | .changes => ("changes", none)
  | .nearest => ("nearest", none)
  | .strongest => ("strongest", none)
  | .harmless => ("harmless", none)
  | .l_taken => ("_law_taken", none)
  | .l_pick => ("_law_pick", none)
  | .l_alike => ("_law_alike", none)
  | .l_paths => ("_law_paths", none)
  | .l_promises => ("_law_promises", none)
  | .l_holds => ("_law_holds", none)
  | .l_words => ("_law_words", none)
  | .l_designs => ("_law_designs", none)
  | .l_worlds => ("_law_worlds", none)
  | .l_kept => ("_law_kept", none)
  | .l_keeps => ("_law_keeps", none)
  | .law_ => ("law", none)
structure Tab (P : Program) (w : World) (K : PySem.W.Frag) (mg : Str → Option Value) (base : Heap) (n : Nat) : Prop where
  fn : ∀ f : Fid, FT P w K mg base (2 * n) (psOf f) (callF n f) (He.fAd K (atOf f))
  gl_is_integer : mg "is_integer" = some (.ref (He.ga K "is_integer"))
  gl_is_in : mg "is_in" = some (.ref (He.ga K "is_in"))
  gl_is_list : mg "is_list" = some (.ref (He.ga K "is_list"))
  gl_is_choice : mg "is_choice" = some (.ref (He.ga K "is_choice"))
  gl_all_choices : mg "all_choices" = some (.ref (He.ga K "all_choices"))
  gl_is_design : mg "is_design" = some (.ref (He.ga K "is_design"))
  gl_is_world : mg "is_world" = some (.ref (He.ga K "is_world"))
  gl_need_design : mg "need_design" = some (.ref (He.ga K "need_design"))
  gl_need_world : mg "need_world" = some (.ref (He.ga K "need_world"))
  gl_need_both : mg "need_both" = some (.ref (He.ga K "need_both"))
  gl_all_designs : mg "all_designs" = some (.ref (He.ga K "all_designs"))
  gl_all_worlds : mg "all_worlds" = some (.ref (He.ga K "all_worlds"))
  gl_need_promises : mg "need_promises" = some (.ref (He.ga K "need_promises"))
  gl_is_passed_by : mg "is_passed_by" = some (.ref (He.ga K "is_passed_by"))
  gl_is_climbing : mg "is_climbing" = some (.ref (He.ga K "is_climbing"))
  gl_is_guarded : mg "is_guarded" = some (.ref (He.ga K "is_guarded"))
  gl_rest_holds : mg "rest_holds" = some (.ref (He.ga K "rest_holds"))
  gl_fresh_holds : mg "fresh_holds" = some (.ref (He.ga K "fresh_holds"))
  gl_forward_holds : mg "forward_holds" = some (.ref (He.ga K "forward_holds"))
  gl_filled_holds : mg "filled_holds" = some (.ref (He.ga K "filled_holds"))
  gl_quiet_holds : mg "quiet_holds" = some (.ref (He.ga K "quiet_holds"))
  gl_does_hold : mg "does_hold" = some (.ref (He.ga K "does_hold"))
  gl_kept_in : mg "kept_in" = some (.ref (He.ga K "kept_in"))
  gl_keeps : mg "keeps" = some (.ref (He.ga K "keeps"))
  gl_keepers : mg "keepers" = some (.ref (He.ga K "keepers"))
  gl_worlds_for : mg "worlds_for" = some (.ref (He.ga K "worlds_for"))
  gl_changes : mg "changes" = some (.ref (He.ga K "changes"))
  gl_nearest : mg "nearest" = some (.ref (He.ga K "nearest"))
  gl_strongest : mg "strongest" = some (.ref (He.ga K "strongest"))
  gl_harmless : mg "harmless" = some (.ref (He.ga K "harmless"))
  gl_l_taken : mg "_law_taken" = some (.ref (He.ga K "_law_taken"))
  gl_l_pick : mg "_law_pick" = some (.ref (He.ga K "_law_pick"))
  gl_l_alike : mg "_law_alike" = some (.ref (He.ga K "_law_alike"))
  gl_l_paths : mg "_law_paths" = some (.ref (He.ga K "_law_paths"))
  gl_l_promises : mg "_law_promises" = some (.ref (He.ga K "_law_promises"))
  gl_l_holds : mg "_law_holds" = some (.ref (He.ga K "_law_holds"))
  gl_l_words : mg "_law_words" = some (.ref (He.ga K "_law_words"))
  gl_l_designs : mg "_law_designs" = some (.ref (He.ga K "_law_designs"))
  gl_l_worlds : mg "_law_worlds" = some (.ref (He.ga K "_law_worlds"))
  gl_l_kept : mg "_law_kept" = some (.ref (He.ga K "_law_kept"))
  gl_l_keeps : mg "_law_keeps" = some (.ref (He.ga K "_law_keeps"))
  gl_law_ : mg "law" = some (.ref (He.ga K "law"))
  m_all : mg "all" = none
  m_any : mg "any" = none
  m_bool : mg "bool" = none
  m_int : mg "int" = none
  m_isinstance : mg "isinstance" = none
  m_len : mg "len" = none
  m_list : mg "list" = none
  m_min : mg "min" = none
  m_range : mg "range" = none
  m_sorted : mg "sorted" = none
  m_str : mg "str" = none
  m_tuple : mg "tuple" = none
  m_zip : mg "zip" = none
  c_PATHS : CoD ⟨K, mg⟩ "PATHS" k_PATHS
  c_GUARDS : CoD ⟨K, mg⟩ "GUARDS" k_GUARDS
  c_FLIGHTS : CoD ⟨K, mg⟩ "FLIGHTS" k_FLIGHTS
  c_DESIGNS : CoD ⟨K, mg⟩ "DESIGNS" k_DESIGNS
  c_PROMISES : CoD ⟨K, mg⟩ "PROMISES" k_PROMISES
  c_WORLDS : CoD ⟨K, mg⟩ "WORLDS" k_WORLDS
  c_DROPS_LAST : CoD ⟨K, mg⟩ "DROPS_LAST" k_DROPS_LAST
  c_VERSIONED : CoD ⟨K, mg⟩ "VERSIONED" k_VERSIONED
  no3 : No3 K
section
variable {P : Program} {w : World} {K : PySem.W.Frag} {mg : Str → Option Value} {base : Heap} {n : Nat}
theorem d_is_integer (T : Tab P w K mg base n) {cdv : Value} {A : Around} {outer : List Env} {s : Shared} {H : Hp} {E : XK} {f : Addr} (hr1 : Room (2 * n + 1) (A.deeper (envOfC "is_integer" (defScope s_is_integer) s.heap.objs.size f cdv))) :
    PSs (cxOf (L2.CX P w) P w K mg base N_is_integer "is_integer" (defScope s_is_integer) f cdv A outer s H E) (defBody s_is_integer) (tS ⟨K, mg⟩ (WX0 E) (b_is_integer (callF n))) := by
  have hr := hr1.mono (Nat.le_succ (2 * n))
  have tk := takes_cx (P := P) (w := w) (K := K) (mg := mg) (base := base) (N := N_is_integer) (qual := "is_integer") (scope := defScope s_is_integer) (f := f) (cd := cdv) (A := A) (outer := outer) (s := s) (H := H) (E := E)
  exact dss_one (ds_ret (de_and (de_callB callr_isi calls_isi rfl T.m_isinstance boot_isinstance (da_cons (de_var (pv 0)) (da_cons (de_ty rfl T.m_int boot_int) (da_nil)))) (de_one (de_not (de_callB callr_isi calls_isi rfl T.m_isinstance boot_isinstance (da_cons (de_var (pv 0)) (da_cons (de_ty rfl T.m_bool boot_bool) (da_nil))))))))
theorem d_is_in (T : Tab P w K mg base n) {cdv : Value} {A : Around} {outer : List Env} {s : Shared} {H : Hp} {E : XK} {f : Addr} (hr1 : Room (2 * n + 1) (A.deeper (envOfC "is_in" (defScope s_is_in) s.heap.objs.size f cdv))) :
    PSs (cxOf (L2.CX P w) P w K mg base N_is_in "is_in" (defScope s_is_in) f cdv A outer s H E) (defBody s_is_in) (tS ⟨K, mg⟩ (WX0 E) (b_is_in (callF n))) := by
  have hr := hr1.mono (Nat.le_succ (2 * n))
  have tk := takes_cx (P := P) (w := w) (K := K) (mg := mg) (base := base) (N := N_is_in) (qual := "is_in") (scope := defScope s_is_in) (f := f) (cd := cdv) (A := A) (outer := outer) (s := s) (H := H) (E := E)
  exact dss_one (ds_ret (de_and (de_call (T.fn .is_integer) hr rfl T.gl_is_integer tk (da_cons (de_var (pv 0)) (da_nil))) (de_one (de_chain op_le ops_le op_le ops_le (de_var (pv 1)) (de_var (pv 0)) (de_var (pv 2))))))
theorem d_is_list (T : Tab P w K mg base n) {cdv : Value} {A : Around} {outer : List Env} {s : Shared} {H : Hp} {E : XK} {f : Addr} (hr1 : Room (2 * n + 1) (A.deeper (envOfC "is_list" (defScope s_is_list) s.heap.objs.size f cdv))) :
    PSs (cxOf (L2.CX P w) P w K mg base N_is_list "is_list" (defScope s_is_list) f cdv A outer s H E) (defBody s_is_list) (tS ⟨K, mg⟩ (WX0 E) (b_is_list (callF n))) := by
  have hr := hr1.mono (Nat.le_succ (2 * n))
  have tk := takes_cx (P := P) (w := w) (K := K) (mg := mg) (base := base) (N := N_is_list) (qual := "is_list") (scope := defScope s_is_list) (f := f) (cd := cdv) (A := A) (outer := outer) (s := s) (H := H) (E := E)
  exact dss_one (ds_ret (de_and (de_callB callr_isi calls_isi rfl T.m_isinstance boot_isinstance (da_cons (de_var (pv 0)) (da_cons (de_ty rfl T.m_tuple boot_tuple) (da_nil)))) (de_one (de_chain op_le ops_le op_le ops_le (de_var (pv 1)) (de_callB callr_len calls_len rfl T.m_len boot_len (da_cons (de_var (pv 0)) (da_nil))) (de_var (pv 2))))))
theorem d_is_choice (T : Tab P w K mg base n) {cdv : Value} {A : Around} {outer : List Env} {s : Shared} {H : Hp} {E : XK} {f : Addr} (hr1 : Room (2 * n + 1) (A.deeper (envOfC "is_choice" (defScope s_is_choice) s.heap.objs.size f cdv))) :
    PSs (cxOf (L2.CX P w) P w K mg base N_is_choice "is_choice" (defScope s_is_choice) f cdv A outer s H E) (defBody s_is_choice) (tS ⟨K, mg⟩ (WX0 E) (b_is_choice (callF n))) := by
  have hr := hr1.mono (Nat.le_succ (2 * n))
  have tk := takes_cx (P := P) (w := w) (K := K) (mg := mg) (base := base) (N := N_is_choice) (qual := "is_choice") (scope := defScope s_is_choice) (f := f) (cd := cdv) (A := A) (outer := outer) (s := s) (H := H) (E := E)
  exact dss_cons (ds_if (PW.pt (dw_or (dt_not (dt_val (de_call (T.fn .is_list) hr rfl T.gl_is_list tk (da_cons (de_var (pv 0)) (da_cons (de_callB callr_len calls_len rfl T.m_len boot_len (da_cons (de_var (pv 1)) (da_nil))) (da_cons (de_callB callr_len calls_len rfl T.m_len boot_len (da_cons (de_var (pv 1)) (da_nil))) (da_nil))))))) (dw_or1 (dt_not (dt_val (de_callB (cr_all rfl) calls_all rfl T.m_all boot_all (da_cons (de_lc (tg := (.nm 2)) (own := [("one", 2)]) rfl sc_is_choice.nd (di_tup (de_var (pv 0))) (blkOk_by (N := N_is_choice) (sc := defScope s_is_choice) (own := [("one", 2)]) (by decide +kernel)) (by decide) (fun _ _ _ _ _ => pg_name (i := 2) sc_is_choice.nd rfl (by first | exact Or.inl rfl | exact Or.inr rfl)) (fun _ _ _ _ _ => dt_yes) (fun _ _ _ _ _ => de_callB callr_isi calls_isi rfl T.m_isinstance boot_isinstance (da_cons (de_var (pv 2)) (da_cons (de_ty rfl T.m_str boot_str) (da_nil))))) (da_nil)))))))) (dss_one (ds_ret (de_bl))) (dss_nil)) (dss_one (ds_ret (de_callB (cr_all rfl) calls_all rfl T.m_all boot_all (da_cons (de_lc (tg := (.tp [2, 3])) (own := [("one", 2), ("some", 3)]) rfl sc_is_choice.nd (di_zipT rfl T.m_zip (da_cons (de_var (pv 0)) (da_cons (de_var (pv 1)) (da_nil)))) (blkOk_by (N := N_is_choice) (sc := defScope s_is_choice) (own := [("one", 2), ("some", 3)]) (by decide +kernel)) (by decide) (fun _ _ _ _ _ => pg_tup rfl (pgs_cons (pg_name (i := 2) sc_is_choice.nd rfl (by first | exact Or.inl rfl | exact Or.inr rfl)) (pgs_cons (pg_name (i := 3) sc_is_choice.nd rfl (by first | exact Or.inl rfl | exact Or.inr rfl)) (pgs_nil)))) (fun _ _ _ _ _ => dt_yes) (fun _ _ _ _ _ => de_cmp (opr_in hr) ops_in (de_var (pv 2)) (de_var (pv 3)) (by rfl))) (da_nil)))))
theorem d_all_choices (T : Tab P w K mg base n) {cdv : Value} {A : Around} {outer : List Env} {s : Shared} {H : Hp} {E : XK} {f : Addr} (hr1 : Room (2 * n + 1) (A.deeper (envOfC "all_choices" (defScope s_all_choices) s.heap.objs.size f cdv))) :
    PSs (cxOf (L2.CX P w) P w K mg base N_all_choices "all_choices" (defScope s_all_choices) f cdv A outer s H E) (defBody s_all_choices) (tS ⟨K, mg⟩ (WX0 E) (b_all_choices (callF n))) := by
  have hr := hr1.mono (Nat.le_succ (2 * n))
  have tk := takes_cx (P := P) (w := w) (K := K) (mg := mg) (base := base) (N := N_all_choices) (qual := "all_choices") (scope := defScope s_all_choices) (f := f) (cd := cdv) (A := A) (outer := outer) (s := s) (H := H) (E := E)
  exact dss_cons (ds_set (i := 1) sc_all_choices.nd rfl (by first | exact Or.inl rfl | exact Or.inr rfl) (de_lst (da_cons (de_tup (da_nil)) (da_nil)))) (dss_cons (ds_for (tg := (.nm 2)) (passes_of rfl) rfl (di_tup (de_var (pv 0))) (pg_name (i := 2) sc_all_choices.nd rfl (by first | exact Or.inl rfl | exact Or.inr rfl)) (dss_one (ds_setLc2 (i := 1) (tg := (.nm 3)) (tg1 := (.nm 4)) (vs1 := [4]) (own := [("one", 3), ("word", 4)]) rfl sc_all_choices.nd rfl rfl (sw_true rfl rfl rfl (by decide +kernel)) (di_lst (de_var (pv 1))) (blkOk_by (N := N_all_choices) (sc := defScope s_all_choices) (own := [("one", 3), ("word", 4)]) (by decide +kernel)) (by decide) (by decide) (by decide) (fun _ _ _ _ _ => pg_name (i := 3) sc_all_choices.nd rfl (by first | exact Or.inl rfl | exact Or.inr rfl)) (fun _ _ _ _ _ => dt_yes) (fun _ _ _ _ _ => di_tup (de_var (pv 2))) (fun _ _ _ _ _ => pg_name (i := 4) sc_all_choices.nd rfl (by first | exact Or.inl rfl | exact Or.inr rfl)) (fun _ _ _ _ _ => dt_yes) (fun _ _ _ _ _ => de_op opr_add ops_add (de_var (pv 3)) (de_tup (da_cons (de_var (pv 4)) (da_nil))))))) (dss_one (ds_ret (de_callTy call_tuple_of calls_tuple rfl T.m_tuple boot_tuple (da_cons (de_var (pv 1)) (da_nil))))))
theorem d_is_design (T : Tab P w K mg base n) {cdv : Value} {A : Around} {outer : List Env} {s : Shared} {H : Hp} {E : XK} {f : Addr} (hr1 : Room (2 * n + 1) (A.deeper (envOfC "is_design" (defScope s_is_design) s.heap.objs.size f cdv))) :
    PSs (cxOf (L2.CX P w) P w K mg base N_is_design "is_design" (defScope s_is_design) f cdv A outer s H E) (defBody s_is_design) (tS ⟨K, mg⟩ (WX0 E) (b_is_design (callF n))) := by
  have hr := hr1.mono (Nat.le_succ (2 * n))
  have tk := takes_cx (P := P) (w := w) (K := K) (mg := mg) (base := base) (N := N_is_design) (qual := "is_design") (scope := defScope s_is_design) (f := f) (cd := cdv) (A := A) (outer := outer) (s := s) (H := H) (E := E)
  exact dss_one (ds_ret (de_call (T.fn .is_choice) hr rfl T.gl_is_choice tk (da_cons (de_var (pv 0)) (da_cons (de_con rfl T.c_DESIGNS) (da_nil)))))
theorem d_is_world (T : Tab P w K mg base n) {cdv : Value} {A : Around} {outer : List Env} {s : Shared} {H : Hp} {E : XK} {f : Addr} (hr1 : Room (2 * n + 1) (A.deeper (envOfC "is_world" (defScope s_is_world) s.heap.objs.size f cdv))) :
    PSs (cxOf (L2.CX P w) P w K mg base N_is_world "is_world" (defScope s_is_world) f cdv A outer s H E) (defBody s_is_world) (tS ⟨K, mg⟩ (WX0 E) (b_is_world (callF n))) := by
  have hr := hr1.mono (Nat.le_succ (2 * n))
  have tk := takes_cx (P := P) (w := w) (K := K) (mg := mg) (base := base) (N := N_is_world) (qual := "is_world") (scope := defScope s_is_world) (f := f) (cd := cdv) (A := A) (outer := outer) (s := s) (H := H) (E := E)
  exact dss_one (ds_ret (de_call (T.fn .is_choice) hr rfl T.gl_is_choice tk (da_cons (de_var (pv 0)) (da_cons (de_con rfl T.c_WORLDS) (da_nil)))))
theorem d_need_design (T : Tab P w K mg base n) {cdv : Value} {A : Around} {outer : List Env} {s : Shared} {H : Hp} {E : XK} {f : Addr} (hr1 : Room (2 * n + 1) (A.deeper (envOfC "need_design" (defScope s_need_design) s.heap.objs.size f cdv))) :
    PSs (cxOf (L2.CX P w) P w K mg base N_need_design "need_design" (defScope s_need_design) f cdv A outer s H E) (defBody s_need_design) (tS ⟨K, mg⟩ (WX0 E) (b_need_design (callF n))) := by
  have hr := hr1.mono (Nat.le_succ (2 * n))
  have tk := takes_cx (P := P) (w := w) (K := K) (mg := mg) (base := base) (N := N_need_design) (qual := "need_design") (scope := defScope s_need_design) (f := f) (cd := cdv) (A := A) (outer := outer) (s := s) (H := H) (E := E)
  exact dss_one (ds_if (dt_not (dt_val (de_call (T.fn .is_design) hr rfl T.gl_is_design tk (da_cons (de_var (pv 0)) (da_nil))))) (dss_one (ds_never)) (dss_nil))
theorem d_need_world (T : Tab P w K mg base n) {cdv : Value} {A : Around} {outer : List Env} {s : Shared} {H : Hp} {E : XK} {f : Addr} (hr1 : Room (2 * n + 1) (A.deeper (envOfC "need_world" (defScope s_need_world) s.heap.objs.size f cdv))) :
    PSs (cxOf (L2.CX P w) P w K mg base N_need_world "need_world" (defScope s_need_world) f cdv A outer s H E) (defBody s_need_world) (tS ⟨K, mg⟩ (WX0 E) (b_need_world (callF n))) := by
  have hr := hr1.mono (Nat.le_succ (2 * n))
  have tk := takes_cx (P := P) (w := w) (K := K) (mg := mg) (base := base) (N := N_need_world) (qual := "need_world") (scope := defScope s_need_world) (f := f) (cd := cdv) (A := A) (outer := outer) (s := s) (H := H) (E := E)
  exact dss_one (ds_if (dt_not (dt_val (de_call (T.fn .is_world) hr rfl T.gl_is_world tk (da_cons (de_var (pv 0)) (da_nil))))) (dss_one (ds_never)) (dss_nil))
theorem d_need_both (T : Tab P w K mg base n) {cdv : Value} {A : Around} {outer : List Env} {s : Shared} {H : Hp} {E : XK} {f : Addr} (hr1 : Room (2 * n + 1) (A.deeper (envOfC "need_both" (defScope s_need_both) s.heap.objs.size f cdv))) :
    PSs (cxOf (L2.CX P w) P w K mg base N_need_both "need_both" (defScope s_need_both) f cdv A outer s H E) (defBody s_need_both) (tS ⟨K, mg⟩ (WX0 E) (b_need_both (callF n))) := by
  have hr := hr1.mono (Nat.le_succ (2 * n))
  have tk := takes_cx (P := P) (w := w) (K := K) (mg := mg) (base := base) (N := N_need_both) (qual := "need_both") (scope := defScope s_need_both) (f := f) (cd := cdv) (A := A) (outer := outer) (s := s) (H := H) (E := E)
  exact dss_cons (ds_expr (de_call (T.fn .need_design) hr rfl T.gl_need_design tk (da_cons (de_var (pv 0)) (da_nil)))) (dss_one (ds_expr (de_call (T.fn .need_world) hr rfl T.gl_need_world tk (da_cons (de_var (pv 1)) (da_nil)))))
theorem d_all_designs (T : Tab P w K mg base n) {cdv : Value} {A : Around} {outer : List Env} {s : Shared} {H : Hp} {E : XK} {f : Addr} (hr1 : Room (2 * n + 1) (A.deeper (envOfC "all_designs" (defScope s_all_designs) s.heap.objs.size f cdv))) :
    PSs (cxOf (L2.CX P w) P w K mg base N_all_designs "all_designs" (defScope s_all_designs) f cdv A outer s H E) (defBody s_all_designs) (tS ⟨K, mg⟩ (WX0 E) (b_all_designs (callF n))) := by
  have hr := hr1.mono (Nat.le_succ (2 * n))
  have tk := takes_cx (P := P) (w := w) (K := K) (mg := mg) (base := base) (N := N_all_designs) (qual := "all_designs") (scope := defScope s_all_designs) (f := f) (cd := cdv) (A := A) (outer := outer) (s := s) (H := H) (E := E)
  exact dss_one (ds_ret (de_call (T.fn .all_choices) hr rfl T.gl_all_choices tk (da_cons (de_con rfl T.c_DESIGNS) (da_nil))))
theorem d_all_worlds (T : Tab P w K mg base n) {cdv : Value} {A : Around} {outer : List Env} {s : Shared} {H : Hp} {E : XK} {f : Addr} (hr1 : Room (2 * n + 1) (A.deeper (envOfC "all_worlds" (defScope s_all_worlds) s.heap.objs.size f cdv))) :
    PSs (cxOf (L2.CX P w) P w K mg base N_all_worlds "all_worlds" (defScope s_all_worlds) f cdv A outer s H E) (defBody s_all_worlds) (tS ⟨K, mg⟩ (WX0 E) (b_all_worlds (callF n))) := by
  have hr := hr1.mono (Nat.le_succ (2 * n))
  have tk := takes_cx (P := P) (w := w) (K := K) (mg := mg) (base := base) (N := N_all_worlds) (qual := "all_worlds") (scope := defScope s_all_worlds) (f := f) (cd := cdv) (A := A) (outer := outer) (s := s) (H := H) (E := E)
  exact dss_one (ds_ret (de_call (T.fn .all_choices) hr rfl T.gl_all_choices tk (da_cons (de_con rfl T.c_WORLDS) (da_nil))))
theorem d_need_promises (T : Tab P w K mg base n) {cdv : Value} {A : Around} {outer : List Env} {s : Shared} {H : Hp} {E : XK} {f : Addr} (hr1 : Room (2 * n + 1) (A.deeper (envOfC "need_promises" (defScope s_need_promises) s.heap.objs.size f cdv))) :
    PSs (cxOf (L2.CX P w) P w K mg base N_need_promises "need_promises" (defScope s_need_promises) f cdv A outer s H E) (defBody s_need_promises) (tS ⟨K, mg⟩ (WX0 E) (b_need_promises (callF n))) := by
  have hr := hr1.mono (Nat.le_succ (2 * n))
  have tk := takes_cx (P := P) (w := w) (K := K) (mg := mg) (base := base) (N := N_need_promises) (qual := "need_promises") (scope := defScope s_need_promises) (f := f) (cd := cdv) (A := A) (outer := outer) (s := s) (H := H) (E := E)
  exact dss_cons (ds_if (PW.pt (dw_or (dt_not (dt_val (de_callB callr_isi calls_isi rfl T.m_isinstance boot_isinstance (da_cons (de_var (pv 0)) (da_cons (de_ty rfl T.m_tuple boot_tuple) (da_nil)))))) (dw_or1 (dt_not (dt_val (de_callB (cr_all rfl) calls_all rfl T.m_all boot_all (da_cons (de_lc (tg := (.nm 1)) (own := [("one", 1)]) rfl sc_need_promises.nd (di_tup (de_var (pv 0))) (blkOk_by (N := N_need_promises) (sc := defScope s_need_promises) (own := [("one", 1)]) (by decide +kernel)) (by decide) (fun _ _ _ _ _ => pg_name (i := 1) sc_need_promises.nd rfl (by first | exact Or.inl rfl | exact Or.inr rfl)) (fun _ _ _ _ _ => dt_yes) (fun _ _ _ _ _ => de_and (de_callB callr_isi calls_isi rfl T.m_isinstance boot_isinstance (da_cons (de_var (pv 1)) (da_cons (de_ty rfl T.m_str boot_str) (da_nil)))) (de_one (de_cmp (opr_in hr) ops_in (de_var (pv 1)) (de_con rfl T.c_PROMISES) (by rfl))))) (da_nil)))))))) (dss_one (ds_never)) (dss_nil)) (dss_one (ds_if (dt_not (dt_val (de_callB (cr_all rfl) calls_all rfl T.m_all boot_all (da_cons (de_lc (tg := (.tp [1, 2])) (own := [("one", 1), ("other", 2)]) rfl sc_need_promises.nd (di_zipT rfl T.m_zip (da_cons (de_var (pv 0)) (da_cons (de_sl (de_var (pv 0)) (do_some (de_int)) (do_none)) (da_nil)))) (blkOk_by (N := N_need_promises) (sc := defScope s_need_promises) (own := [("one", 1), ("other", 2)]) (by decide +kernel)) (by decide) (fun _ _ _ _ _ => pg_tup rfl (pgs_cons (pg_name (i := 1) sc_need_promises.nd rfl (by first | exact Or.inl rfl | exact Or.inr rfl)) (pgs_cons (pg_name (i := 2) sc_need_promises.nd rfl (by first | exact Or.inl rfl | exact Or.inr rfl)) (pgs_nil)))) (fun _ _ _ _ _ => dt_yes) (fun _ _ _ _ _ => de_cmp op_lt_str ops_lt_str (de_var (pv 1)) (de_var (pv 2)) (by rfl))) (da_nil))))) (dss_one (ds_never)) (dss_nil)))
theorem d_is_passed_by (T : Tab P w K mg base n) {cdv : Value} {A : Around} {outer : List Env} {s : Shared} {H : Hp} {E : XK} {f : Addr} (hr1 : Room (2 * n + 1) (A.deeper (envOfC "is_passed_by" (defScope s_is_passed_by) s.heap.objs.size f cdv))) :
    PSs (cxOf (L2.CX P w) P w K mg base N_is_passed_by "is_passed_by" (defScope s_is_passed_by) f cdv A outer s H E) (defBody s_is_passed_by) (tS ⟨K, mg⟩ (WX0 E) (b_is_passed_by (callF n))) := by
  have hr := hr1.mono (Nat.le_succ (2 * n))
  have tk := takes_cx (P := P) (w := w) (K := K) (mg := mg) (base := base) (N := N_is_passed_by) (qual := "is_passed_by") (scope := defScope s_is_passed_by) (f := f) (cd := cdv) (A := A) (outer := outer) (s := s) (H := H) (E := E)
  exact dss_one (ds_ret (de_and (de_cmp (opr_eq hr) ops_eq (de_ix ixr ops_ix (de_var (pv 0)) (de_int) (fun _ _ => rfl)) (de_str) (by rfl)) (de_one (de_cmp (opr_ne hr) ops_ne (de_ix ixr ops_ix (de_var (pv 0)) (de_int) (fun _ _ => rfl)) (de_str) (by rfl)))))
theorem d_is_climbing (T : Tab P w K mg base n) {cdv : Value} {A : Around} {outer : List Env} {s : Shared} {H : Hp} {E : XK} {f : Addr} (hr1 : Room (2 * n + 1) (A.deeper (envOfC "is_climbing" (defScope s_is_climbing) s.heap.objs.size f cdv))) :
    PSs (cxOf (L2.CX P w) P w K mg base N_is_climbing "is_climbing" (defScope s_is_climbing) f cdv A outer s H E) (defBody s_is_climbing) (tS ⟨K, mg⟩ (WX0 E) (b_is_climbing (callF n))) := by
  have hr := hr1.mono (Nat.le_succ (2 * n))
  have tk := takes_cx (P := P) (w := w) (K := K) (mg := mg) (base := base) (N := N_is_climbing) (qual := "is_climbing") (scope := defScope s_is_climbing) (f := f) (cd := cdv) (A := A) (outer := outer) (s := s) (H := H) (E := E)
  exact dss_one (ds_ret (de_and (de_cmp (opr_eq hr) ops_eq (de_ix ixr ops_ix (de_var (pv 0)) (de_int) (fun _ _ => rfl)) (de_str) (by rfl)) (de_and (de_cmp (opr_in hr) ops_in (de_ix ixr ops_ix (de_var (pv 0)) (de_int) (fun _ _ => rfl)) (de_con rfl T.c_VERSIONED) (by rfl)) (de_one (de_cmp (opr_eq hr) ops_eq (de_ix ixr ops_ix (de_var (pv 1)) (de_int) (fun _ _ => rfl)) (de_str) (by rfl))))))
theorem d_is_guarded (T : Tab P w K mg base n) {cdv : Value} {A : Around} {outer : List Env} {s : Shared} {H : Hp} {E : XK} {f : Addr} (hr1 : Room (2 * n + 1) (A.deeper (envOfC "is_guarded" (defScope s_is_guarded) s.heap.objs.size f cdv))) :
    PSs (cxOf (L2.CX P w) P w K mg base N_is_guarded "is_guarded" (defScope s_is_guarded) f cdv A outer s H E) (defBody s_is_guarded) (tS ⟨K, mg⟩ (WX0 E) (b_is_guarded (callF n))) := by
  have hr := hr1.mono (Nat.le_succ (2 * n))
  have tk := takes_cx (P := P) (w := w) (K := K) (mg := mg) (base := base) (N := N_is_guarded) (qual := "is_guarded") (scope := defScope s_is_guarded) (f := f) (cd := cdv) (A := A) (outer := outer) (s := s) (H := H) (E := E)
  exact dss_cons (ds_if (dt_cmp (opr_ni hr) ops_ni (de_ix ixr ops_ix (de_var (pv 0)) (de_int) (fun _ _ => rfl)) (de_con rfl T.c_DROPS_LAST) (by rfl)) (dss_one (ds_ret (de_bl))) (dss_nil)) (dss_one (ds_ret (de_or (de_cmp (opr_eq hr) ops_eq (de_ix ixr ops_ix (de_var (pv 0)) (de_int) (fun _ _ => rfl)) (de_str) (by rfl)) (de_one (de_and (de_cmp (opr_eq hr) ops_eq (de_ix ixr ops_ix (de_var (pv 0)) (de_int) (fun _ _ => rfl)) (de_str) (by rfl)) (de_one (de_cmp (opr_eq hr) ops_eq (de_ix ixr ops_ix (de_var (pv 1)) (de_int) (fun _ _ => rfl)) (de_str) (by rfl))))))))
theorem d_rest_holds (T : Tab P w K mg base n) {cdv : Value} {A : Around} {outer : List Env} {s : Shared} {H : Hp} {E : XK} {f : Addr} (hr1 : Room (2 * n + 1) (A.deeper (envOfC "rest_holds" (defScope s_rest_holds) s.heap.objs.size f cdv))) :
    PSs (cxOf (L2.CX P w) P w K mg base N_rest_holds "rest_holds" (defScope s_rest_holds) f cdv A outer s H E) (defBody s_rest_holds) (tS ⟨K, mg⟩ (WX0 E) (b_rest_holds (callF n))) := by
  have hr := hr1.mono (Nat.le_succ (2 * n))
  have tk := takes_cx (P := P) (w := w) (K := K) (mg := mg) (base := base) (N := N_rest_holds) (qual := "rest_holds") (scope := defScope s_rest_holds) (f := f) (cd := cdv) (A := A) (outer := outer) (s := s) (H := H) (E := E)
  exact dss_cons (ds_if (dt_val (de_call (T.fn .is_passed_by) hr rfl T.gl_is_passed_by tk (da_cons (de_var (pv 0)) (da_nil)))) (dss_one (ds_ret (de_bl))) (dss_nil)) (dss_cons (ds_if (dt_cmp (opr_eq hr) ops_eq (de_ix ixr ops_ix (de_var (pv 1)) (de_int) (fun _ _ => rfl)) (de_str) (by rfl)) (dss_one (ds_ret (de_bl))) (dss_nil)) (dss_cons (ds_set (i := 2) sc_rest_holds.nd rfl (by first | exact Or.inl rfl | exact Or.inr rfl) (de_and (de_cmp (opr_eq hr) ops_eq (de_ix ixr ops_ix (de_var (pv 0)) (de_int) (fun _ _ => rfl)) (de_str) (by rfl)) (de_one (de_cmp (opr_eq hr) ops_eq (de_ix ixr ops_ix (de_var (pv 1)) (de_int) (fun _ _ => rfl)) (de_str) (by rfl))))) (dss_one (ds_ret (de_or (de_call (T.fn .is_climbing) hr rfl T.gl_is_climbing tk (da_cons (de_var (pv 0)) (da_cons (de_var (pv 1)) (da_nil)))) (de_one (de_and (de_call (T.fn .is_guarded) hr rfl T.gl_is_guarded tk (da_cons (de_var (pv 0)) (da_cons (de_var (pv 1)) (da_nil)))) (de_one (de_not (de_var (pv 2)))))))))))
theorem d_fresh_holds (T : Tab P w K mg base n) {cdv : Value} {A : Around} {outer : List Env} {s : Shared} {H : Hp} {E : XK} {f : Addr} (hr1 : Room (2 * n + 1) (A.deeper (envOfC "fresh_holds" (defScope s_fresh_holds) s.heap.objs.size f cdv))) :
    PSs (cxOf (L2.CX P w) P w K mg base N_fresh_holds "fresh_holds" (defScope s_fresh_holds) f cdv A outer s H E) (defBody s_fresh_holds) (tS ⟨K, mg⟩ (WX0 E) (b_fresh_holds (callF n))) := by
  have hr := hr1.mono (Nat.le_succ (2 * n))
  have tk := takes_cx (P := P) (w := w) (K := K) (mg := mg) (base := base) (N := N_fresh_holds) (qual := "fresh_holds") (scope := defScope s_fresh_holds) (f := f) (cd := cdv) (A := A) (outer := outer) (s := s) (H := H) (E := E)
  exact dss_cons (ds_if (dt_val (de_call (T.fn .is_climbing) hr rfl T.gl_is_climbing tk (da_cons (de_var (pv 0)) (da_cons (de_var (pv 1)) (da_nil))))) (dss_one (ds_ret (de_bl))) (dss_nil)) (dss_cons (ds_if (dt_cmp (opr_eq hr) ops_eq (de_ix ixr ops_ix (de_var (pv 1)) (de_int) (fun _ _ => rfl)) (de_str) (by rfl)) (dss_one (ds_ret (de_bl))) (dss_nil)) (dss_one (ds_ret (de_or (de_call (T.fn .is_passed_by) hr rfl T.gl_is_passed_by tk (da_cons (de_var (pv 0)) (da_nil))) (de_one (de_and (de_call (T.fn .is_guarded) hr rfl T.gl_is_guarded tk (da_cons (de_var (pv 0)) (da_cons (de_var (pv 1)) (da_nil)))) (de_one (de_cmp (opr_eq hr) ops_eq (de_ix ixr ops_ix (de_var (pv 0)) (de_int) (fun _ _ => rfl)) (de_str) (by rfl)))))))))
theorem d_forward_holds (T : Tab P w K mg base n) {cdv : Value} {A : Around} {outer : List Env} {s : Shared} {H : Hp} {E : XK} {f : Addr} (hr1 : Room (2 * n + 1) (A.deeper (envOfC "forward_holds" (defScope s_forward_holds) s.heap.objs.size f cdv))) :
    PSs (cxOf (L2.CX P w) P w K mg base N_forward_holds "forward_holds" (defScope s_forward_holds) f cdv A outer s H E) (defBody s_forward_holds) (tS ⟨K, mg⟩ (WX0 E) (b_forward_holds (callF n))) := by
  have hr := hr1.mono (Nat.le_succ (2 * n))
  have tk := takes_cx (P := P) (w := w) (K := K) (mg := mg) (base := base) (N := N_forward_holds) (qual := "forward_holds") (scope := defScope s_forward_holds) (f := f) (cd := cdv) (A := A) (outer := outer) (s := s) (H := H) (E := E)
  exact dss_cons (ds_if (PW.pt (dw_or (dt_val (de_call (T.fn .is_passed_by) hr rfl T.gl_is_passed_by tk (da_cons (de_var (pv 0)) (da_nil)))) (dw_or1 (PW.pt (dw_and (dt_cmp (opr_eq hr) ops_eq (de_ix ixr ops_ix (de_var (pv 0)) (de_int) (fun _ _ => rfl)) (de_str) (by rfl)) (dw_and1 (dt_cmp (opr_ne hr) ops_ne (de_ix ixr ops_ix (de_var (pv 0)) (de_int) (fun _ _ => rfl)) (de_str) (by rfl)))))))) (dss_one (ds_ret (de_bl))) (dss_nil)) (dss_cons (ds_if (dt_cmp (opr_eq hr) ops_eq (de_ix ixr ops_ix (de_var (pv 1)) (de_int) (fun _ _ => rfl)) (de_str) (by rfl)) (dss_one (ds_ret (de_bl))) (dss_nil)) (dss_one (ds_ret (de_or (de_cmp (opr_eq hr) ops_eq (de_ix ixr ops_ix (de_var (pv 0)) (de_int) (fun _ _ => rfl)) (de_str) (by rfl)) (de_one (de_and (de_cmp (opr_eq hr) ops_eq (de_ix ixr ops_ix (de_var (pv 0)) (de_int) (fun _ _ => rfl)) (de_str) (by rfl)) (de_one (de_cmp (opr_in hr) ops_in (de_ix ixr ops_ix (de_var (pv 0)) (de_int) (fun _ _ => rfl)) (de_tup (da_cons (de_str) (da_cons (de_str) (da_nil)))) (by rfl)))))))))
theorem d_filled_holds (T : Tab P w K mg base n) {cdv : Value} {A : Around} {outer : List Env} {s : Shared} {H : Hp} {E : XK} {f : Addr} (hr1 : Room (2 * n + 1) (A.deeper (envOfC "filled_holds" (defScope s_filled_holds) s.heap.objs.size f cdv))) :
    PSs (cxOf (L2.CX P w) P w K mg base N_filled_holds "filled_holds" (defScope s_filled_holds) f cdv A outer s H E) (defBody s_filled_holds) (tS ⟨K, mg⟩ (WX0 E) (b_filled_holds (callF n))) := by
  have hr := hr1.mono (Nat.le_succ (2 * n))
  have tk := takes_cx (P := P) (w := w) (K := K) (mg := mg) (base := base) (N := N_filled_holds) (qual := "filled_holds") (scope := defScope s_filled_holds) (f := f) (cd := cdv) (A := A) (outer := outer) (s := s) (H := H) (E := E)
  exact dss_cons (ds_if (PW.pt (dw_or (dt_cmp (opr_eq hr) ops_eq (de_ix ixr ops_ix (de_var (pv 0)) (de_int) (fun _ _ => rfl)) (de_str) (by rfl)) (dw_or1 (PW.pt (dw_and (dt_cmp (opr_eq hr) ops_eq (de_ix ixr ops_ix (de_var (pv 0)) (de_int) (fun _ _ => rfl)) (de_str) (by rfl)) (dw_and1 (dt_cmp (opr_eq hr) ops_eq (de_ix ixr ops_ix (de_var (pv 1)) (de_int) (fun _ _ => rfl)) (de_str) (by rfl)))))))) (dss_one (ds_ret (de_bl))) (dss_nil)) (dss_one (ds_ret (de_or (de_cmp (opr_ne hr) ops_ne (de_ix ixr ops_ix (de_var (pv 0)) (de_int) (fun _ _ => rfl)) (de_str) (by rfl)) (de_or (de_cmp (opr_eq hr) ops_eq (de_ix ixr ops_ix (de_var (pv 1)) (de_int) (fun _ _ => rfl)) (de_str) (by rfl)) (de_one (de_cmp (opr_ni hr) ops_ni (de_ix ixr ops_ix (de_var (pv 0)) (de_int) (fun _ _ => rfl)) (de_con rfl T.c_DROPS_LAST) (by rfl)))))))
theorem d_quiet_holds (T : Tab P w K mg base n) {cdv : Value} {A : Around} {outer : List Env} {s : Shared} {H : Hp} {E : XK} {f : Addr} (hr1 : Room (2 * n + 1) (A.deeper (envOfC "quiet_holds" (defScope s_quiet_holds) s.heap.objs.size f cdv))) :
    PSs (cxOf (L2.CX P w) P w K mg base N_quiet_holds "quiet_holds" (defScope s_quiet_holds) f cdv A outer s H E) (defBody s_quiet_holds) (tS ⟨K, mg⟩ (WX0 E) (b_quiet_holds (callF n))) := by
  have hr := hr1.mono (Nat.le_succ (2 * n))
  have tk := takes_cx (P := P) (w := w) (K := K) (mg := mg) (base := base) (N := N_quiet_holds) (qual := "quiet_holds") (scope := defScope s_quiet_holds) (f := f) (cd := cdv) (A := A) (outer := outer) (s := s) (H := H) (E := E)
  exact dss_cons (ds_if (dt_val (de_call (T.fn .is_passed_by) hr rfl T.gl_is_passed_by tk (da_cons (de_var (pv 0)) (da_nil)))) (dss_one (ds_ret (de_cmp (opr_eq hr) ops_eq (de_ix ixr ops_ix (de_var (pv 1)) (de_int) (fun _ _ => rfl)) (de_str) (by rfl)))) (dss_nil)) (dss_one (ds_ret (de_and (de_cmp (opr_eq hr) ops_eq (de_ix ixr ops_ix (de_var (pv 1)) (de_int) (fun _ _ => rfl)) (de_str) (by rfl)) (de_one (de_call (T.fn .fresh_holds) hr rfl T.gl_fresh_holds tk (da_cons (de_var (pv 0)) (da_cons (de_var (pv 1)) (da_nil))))))))
theorem vtok_does_hold {X : Cx} (T : Tab X.prog X.w X.K X.mg X.base n) : VTabOk X (2 * n) (vt_does_hold (callF n)) := fun x p e => by
  have key : ∀ y, (vt_does_hold (callF n)).lookup y = some p → ∃ (f : Addr) (ps : List Str), X.mg y = some (.ref f) ∧ ps.length = p.1 ∧ FT X.prog X.w X.K X.mg X.base (2 * n) ps p.2 f := by
    intro y e
    unfold vt_does_hold at e
    simp only [List.lookup] at e
    split at e
    · rename_i hy
      have ey := eq_of_beq hy
      cases e
      rw [ey]
      exact ⟨_, _, T.gl_filled_holds, rfl, T.fn .filled_holds⟩
    split at e
    · rename_i hy
      have ey := eq_of_beq hy
      cases e
      rw [ey]
      exact ⟨_, _, T.gl_forward_holds, rfl, T.fn .forward_holds⟩
    split at e
    · rename_i hy
      have ey := eq_of_beq hy
      cases e
      rw [ey]
      exact ⟨_, _, T.gl_fresh_holds, rfl, T.fn .fresh_holds⟩
    split at e
    · rename_i hy
      have ey := eq_of_beq hy
      cases e
      rw [ey]
      exact ⟨_, _, T.gl_quiet_holds, rfl, T.fn .quiet_holds⟩
    split at e
    · rename_i hy
      have ey := eq_of_beq hy
      cases e
      rw [ey]
      exact ⟨_, _, T.gl_rest_holds, rfl, T.fn .rest_holds⟩
    cases e
  exact key x e
theorem d_does_hold (T : Tab P w K mg base n) {cdv : Value} {A : Around} {outer : List Env} {s : Shared} {H : Hp} {E : XK} {f : Addr} (hr1 : Room (2 * n + 1) (A.deeper (envOfC "does_hold" (defScope s_does_hold) s.heap.objs.size f cdv))) :
    PSs (cxOf (L2.CX P w) P w K mg base N_does_hold "does_hold" (defScope s_does_hold) f cdv A outer s H E) (defBody s_does_hold) (tS ⟨K, mg⟩ (WX0 E) (b_does_hold (callF n))) := by
  have hr := hr1.mono (Nat.le_succ (2 * n))
  have tk := takes_cx (P := P) (w := w) (K := K) (mg := mg) (base := base) (N := N_does_hold) (qual := "does_hold") (scope := defScope s_does_hold) (f := f) (cd := cdv) (A := A) (outer := outer) (s := s) (H := H) (E := E)
  exact dss_cons (ds_if (dt_cmp (opr_eq hr) ops_eq (de_var (pv 2)) (de_str) (by rfl)) (dss_one (ds_ret (de_or (de_cmp (opr_eq hr) ops_eq (de_ix ixr ops_ix (de_var (pv 0)) (de_int) (fun _ _ => rfl)) (de_str) (by rfl)) (de_one (de_cmp (opr_eq hr) ops_eq (de_ix ixr ops_ix (de_var (pv 1)) (de_int) (fun _ _ => rfl)) (de_str) (by rfl)))))) (dss_nil)) (dss_cons (ds_if (dt_cmp (opr_eq hr) ops_eq (de_var (pv 2)) (de_str) (by rfl)) (dss_one (ds_ret (de_or (de_cmp (opr_ne hr) ops_ne (de_ix ixr ops_ix (de_var (pv 0)) (de_int) (fun _ _ => rfl)) (de_str) (by rfl)) (de_one (de_cmp (opr_eq hr) ops_eq (de_ix ixr ops_ix (de_var (pv 0)) (de_int) (fun _ _ => rfl)) (de_str) (by rfl)))))) (dss_nil)) (dss_cons (ds_if (dt_cmp (opr_in hr) ops_in (de_var (pv 2)) (de_tup (da_cons (de_str) (da_cons (de_str) (da_nil)))) (by rfl)) (dss_one (ds_ret (de_cmp (opr_eq hr) ops_eq (de_ix ixr ops_ix (de_var (pv 0)) (de_int) (fun _ _ => rfl)) (de_if (dt_cmp (opr_eq hr) ops_eq (de_var (pv 2)) (de_str) (by rfl)) (de_str) (de_str)) (by rfl)))) (dss_nil)) (dss_cons (ds_if (dt_cmp (opr_eq hr) ops_eq (de_var (pv 2)) (de_str) (by rfl)) (dss_one (ds_ret (de_and (de_call (T.fn .fresh_holds) hr rfl T.gl_fresh_holds tk (da_cons (de_var (pv 0)) (da_cons (de_var (pv 1)) (da_nil)))) (de_one (de_call (T.fn .forward_holds) hr rfl T.gl_forward_holds tk (da_cons (de_var (pv 0)) (da_cons (de_var (pv 1)) (da_nil)))))))) (dss_nil)) (dss_cons (ds_set (i := 3) sc_does_hold.nd rfl (by first | exact Or.inl rfl | exact Or.inr rfl) (de_dic (dp_cons (de_str) (de_gl rfl (T.gl_filled_holds)) (dp_cons (de_str) (de_gl rfl (T.gl_forward_holds)) (dp_cons (de_str) (de_gl rfl (T.gl_fresh_holds)) (dp_cons (de_str) (de_gl rfl (T.gl_quiet_holds)) (dp_nil))))))) (dss_one (ds_ret (de_callV (vtok_does_hold T) hr tk (de_dget2 hr (de_var (pv 3)) (de_var (pv 2)) (de_gl rfl (T.gl_rest_holds))) (da_cons (de_var (pv 0)) (da_cons (de_var (pv 1)) (da_nil))))))))))
theorem d_kept_in (T : Tab P w K mg base n) {cdv : Value} {A : Around} {outer : List Env} {s : Shared} {H : Hp} {E : XK} {f : Addr} (hr1 : Room (2 * n + 1) (A.deeper (envOfC "kept_in" (defScope s_kept_in) s.heap.objs.size f cdv))) :
    PSs (cxOf (L2.CX P w) P w K mg base N_kept_in "kept_in" (defScope s_kept_in) f cdv A outer s H E) (defBody s_kept_in) (tS ⟨K, mg⟩ (WX0 E) (b_kept_in (callF n))) := by
  have hr := hr1.mono (Nat.le_succ (2 * n))
  have tk := takes_cx (P := P) (w := w) (K := K) (mg := mg) (base := base) (N := N_kept_in) (qual := "kept_in") (scope := defScope s_kept_in) (f := f) (cd := cdv) (A := A) (outer := outer) (s := s) (H := H) (E := E)
  exact dss_one (ds_ret (de_callTy call_tuple_of calls_tuple rfl T.m_tuple boot_tuple (da_cons (de_lc (tg := (.nm 2)) (own := [("one", 2)]) rfl sc_kept_in.nd (di_tup (de_con rfl T.c_PROMISES)) (blkOk_by (N := N_kept_in) (sc := defScope s_kept_in) (own := [("one", 2)]) (by decide +kernel)) (by decide) (fun _ _ _ _ _ => pg_name (i := 2) sc_kept_in.nd rfl (by first | exact Or.inl rfl | exact Or.inr rfl)) (fun _ _ _ _ _ => dt_cond (dt_val (de_call (T.fn .does_hold) hr rfl T.gl_does_hold takes0 (da_cons (de_var (pv 0)) (da_cons (de_var (pv 1)) (da_cons (de_var (pv 2)) (da_nil))))))) (fun _ _ _ _ _ => de_var (pv 2))) (da_nil))))
theorem d_keeps (T : Tab P w K mg base n) {cdv : Value} {A : Around} {outer : List Env} {s : Shared} {H : Hp} {E : XK} {f : Addr} (hr1 : Room (2 * n + 1) (A.deeper (envOfC "keeps" (defScope s_keeps) s.heap.objs.size f cdv))) :
    PSs (cxOf (L2.CX P w) P w K mg base N_keeps "keeps" (defScope s_keeps) f cdv A outer s H E) (defBody s_keeps) (tS ⟨K, mg⟩ (WX0 E) (b_keeps (callF n))) := by
  have hr := hr1.mono (Nat.le_succ (2 * n))
  have tk := takes_cx (P := P) (w := w) (K := K) (mg := mg) (base := base) (N := N_keeps) (qual := "keeps") (scope := defScope s_keeps) (f := f) (cd := cdv) (A := A) (outer := outer) (s := s) (H := H) (E := E)
  exact dss_cons (ds_set (i := 3) sc_keeps.nd rfl (by first | exact Or.inl rfl | exact Or.inr rfl) (de_call (T.fn .kept_in) hr rfl T.gl_kept_in tk (da_cons (de_var (pv 0)) (da_cons (de_var (pv 1)) (da_nil))))) (dss_one (ds_ret (de_callB (cr_all rfl) calls_all rfl T.m_all boot_all (da_cons (de_lc (tg := (.nm 4)) (own := [("one", 4)]) rfl sc_keeps.nd (di_tup (de_var (pv 2))) (blkOk_by (N := N_keeps) (sc := defScope s_keeps) (own := [("one", 4)]) (by decide +kernel)) (by decide) (fun _ _ _ _ _ => pg_name (i := 4) sc_keeps.nd rfl (by first | exact Or.inl rfl | exact Or.inr rfl)) (fun _ _ _ _ _ => dt_yes) (fun _ _ _ _ _ => de_cmp (opr_in hr) ops_in (de_var (pv 4)) (de_var (pv 3)) (by rfl))) (da_nil)))))
theorem d_keepers (T : Tab P w K mg base n) {cdv : Value} {A : Around} {outer : List Env} {s : Shared} {H : Hp} {E : XK} {f : Addr} (hr1 : Room (2 * n + 1) (A.deeper (envOfC "keepers" (defScope s_keepers) s.heap.objs.size f cdv))) :
    PSs (cxOf (L2.CX P w) P w K mg base N_keepers "keepers" (defScope s_keepers) f cdv A outer s H E) (defBody s_keepers) (tS ⟨K, mg⟩ (WX0 E) (b_keepers (callF n))) := by
  have hr := hr1.mono (Nat.le_succ (2 * n))
  have tk := takes_cx (P := P) (w := w) (K := K) (mg := mg) (base := base) (N := N_keepers) (qual := "keepers") (scope := defScope s_keepers) (f := f) (cd := cdv) (A := A) (outer := outer) (s := s) (H := H) (E := E)
  exact dss_cons (ds_expr (de_call (T.fn .need_world) hr rfl T.gl_need_world tk (da_cons (de_var (pv 0)) (da_nil)))) (dss_cons (ds_expr (de_call (T.fn .need_promises) hr rfl T.gl_need_promises tk (da_cons (de_var (pv 1)) (da_nil)))) (dss_one (ds_ret (de_callTy call_tuple_of calls_tuple rfl T.m_tuple boot_tuple (da_cons (de_lc (tg := (.nm 2)) (own := [("design", 2)]) rfl sc_keepers.nd (di_tup (de_call0 (T.fn .all_designs) hr rfl T.gl_all_designs tk)) (blkOk_by (N := N_keepers) (sc := defScope s_keepers) (own := [("design", 2)]) (by decide +kernel)) (by decide) (fun _ _ _ _ _ => pg_name (i := 2) sc_keepers.nd rfl (by first | exact Or.inl rfl | exact Or.inr rfl)) (fun _ _ _ _ _ => dt_cond (dt_val (de_call (T.fn .keeps) hr rfl T.gl_keeps takes0 (da_cons (de_var (pv 2)) (da_cons (de_var (pv 0)) (da_cons (de_var (pv 1)) (da_nil))))))) (fun _ _ _ _ _ => de_var (pv 2))) (da_nil))))))
theorem d_worlds_for (T : Tab P w K mg base n) {cdv : Value} {A : Around} {outer : List Env} {s : Shared} {H : Hp} {E : XK} {f : Addr} (hr1 : Room (2 * n + 1) (A.deeper (envOfC "worlds_for" (defScope s_worlds_for) s.heap.objs.size f cdv))) :
    PSs (cxOf (L2.CX P w) P w K mg base N_worlds_for "worlds_for" (defScope s_worlds_for) f cdv A outer s H E) (defBody s_worlds_for) (tS ⟨K, mg⟩ (WX0 E) (b_worlds_for (callF n))) := by
  have hr := hr1.mono (Nat.le_succ (2 * n))
  have tk := takes_cx (P := P) (w := w) (K := K) (mg := mg) (base := base) (N := N_worlds_for) (qual := "worlds_for") (scope := defScope s_worlds_for) (f := f) (cd := cdv) (A := A) (outer := outer) (s := s) (H := H) (E := E)
  exact dss_cons (ds_expr (de_call (T.fn .need_design) hr rfl T.gl_need_design tk (da_cons (de_var (pv 0)) (da_nil)))) (dss_cons (ds_expr (de_call (T.fn .need_promises) hr rfl T.gl_need_promises tk (da_cons (de_var (pv 1)) (da_nil)))) (dss_one (ds_ret (de_callTy call_tuple_of calls_tuple rfl T.m_tuple boot_tuple (da_cons (de_lc (tg := (.nm 2)) (own := [("world", 2)]) rfl sc_worlds_for.nd (di_tup (de_call0 (T.fn .all_worlds) hr rfl T.gl_all_worlds tk)) (blkOk_by (N := N_worlds_for) (sc := defScope s_worlds_for) (own := [("world", 2)]) (by decide +kernel)) (by decide) (fun _ _ _ _ _ => pg_name (i := 2) sc_worlds_for.nd rfl (by first | exact Or.inl rfl | exact Or.inr rfl)) (fun _ _ _ _ _ => dt_cond (dt_val (de_call (T.fn .keeps) hr rfl T.gl_keeps takes0 (da_cons (de_var (pv 0)) (da_cons (de_var (pv 2)) (da_cons (de_var (pv 1)) (da_nil))))))) (fun _ _ _ _ _ => de_var (pv 2))) (da_nil))))))
theorem d_changes (T : Tab P w K mg base n) {cdv : Value} {A : Around} {outer : List Env} {s : Shared} {H : Hp} {E : XK} {f : Addr} (hr1 : Room (2 * n + 1) (A.deeper (envOfC "changes" (defScope s_changes) s.heap.objs.size f cdv))) :
    PSs (cxOf (L2.CX P w) P w K mg base N_changes "changes" (defScope s_changes) f cdv A outer s H E) (defBody s_changes) (tS ⟨K, mg⟩ (WX0 E) (b_changes (callF n))) := by
  have hr := hr1.mono (Nat.le_succ (2 * n))
  have tk := takes_cx (P := P) (w := w) (K := K) (mg := mg) (base := base) (N := N_changes) (qual := "changes") (scope := defScope s_changes) (f := f) (cd := cdv) (A := A) (outer := outer) (s := s) (H := H) (E := E)
  exact dss_one (ds_ret (de_callB callr_len calls_len rfl T.m_len boot_len (da_cons (de_lc (tg := (.tp [2, 3])) (own := [("left", 2), ("right", 3)]) rfl sc_changes.nd (di_zipT rfl T.m_zip (da_cons (de_var (pv 0)) (da_cons (de_var (pv 1)) (da_nil)))) (blkOk_by (N := N_changes) (sc := defScope s_changes) (own := [("left", 2), ("right", 3)]) (by decide +kernel)) (by decide) (fun _ _ _ _ _ => pg_tup rfl (pgs_cons (pg_name (i := 2) sc_changes.nd rfl (by first | exact Or.inl rfl | exact Or.inr rfl)) (pgs_cons (pg_name (i := 3) sc_changes.nd rfl (by first | exact Or.inl rfl | exact Or.inr rfl)) (pgs_nil)))) (fun _ _ _ _ _ => dt_cond (dt_cmp (opr_ne hr) ops_ne (de_var (pv 2)) (de_var (pv 3)) (by rfl))) (fun _ _ _ _ _ => de_int)) (da_nil))))
theorem d_nearest (T : Tab P w K mg base n) {cdv : Value} {A : Around} {outer : List Env} {s : Shared} {H : Hp} {E : XK} {f : Addr} (hr1 : Room (2 * n + 1) (A.deeper (envOfC "nearest" (defScope s_nearest) s.heap.objs.size f cdv))) :
    PSs (cxOf (L2.CX P w) P w K mg base N_nearest "nearest" (defScope s_nearest) f cdv A outer s H E) (defBody s_nearest) (tS ⟨K, mg⟩ (WX0 E) (b_nearest (callF n))) := by
  have hr := hr1.mono (Nat.le_succ (2 * n))
  have tk := takes_cx (P := P) (w := w) (K := K) (mg := mg) (base := base) (N := N_nearest) (qual := "nearest") (scope := defScope s_nearest) (f := f) (cd := cdv) (A := A) (outer := outer) (s := s) (H := H) (E := E)
  exact dss_cons (ds_expr (de_call (T.fn .need_both) hr rfl T.gl_need_both tk (da_cons (de_var (pv 0)) (da_cons (de_var (pv 1)) (da_nil))))) (dss_cons (ds_expr (de_call (T.fn .need_promises) hr rfl T.gl_need_promises tk (da_cons (de_var (pv 2)) (da_nil)))) (dss_cons (ds_setLc (i := 3) (tg := (.nm 4)) (own := [("one", 4)]) rfl sc_nearest.nd rfl rfl (sw_true rfl rfl rfl (by decide +kernel)) (di_tup (de_call (T.fn .keepers) hr rfl T.gl_keepers tk (da_cons (de_var (pv 1)) (da_cons (de_var (pv 2)) (da_nil))))) (blkOk_by (N := N_nearest) (sc := defScope s_nearest) (own := [("one", 4)]) (by decide +kernel)) (by decide) (fun _ _ _ _ _ => pg_name (i := 4) sc_nearest.nd rfl (by first | exact Or.inl rfl | exact Or.inr rfl)) (fun _ _ _ _ _ => dt_yes) (fun _ _ _ _ _ => de_tup (da_cons (de_call (T.fn .changes) hr rfl T.gl_changes takes0 (da_cons (de_var (pv 0)) (da_cons (de_var (pv 4)) (da_nil)))) (da_cons (de_var (pv 4)) (da_nil))))) (dss_one (ds_ret (de_if (dt_cmp (opr_neE hr) ops_neE (de_var (pv 3)) (de_lst (da_nil)) (by rfl)) (de_ix ixr ops_ix (de_callB (cr_minD rfl hr) calls_minD rfl T.m_min boot_min (da_cons (de_var (pv 3)) (da_nil))) (de_int) (fun _ _ => rfl)) (de_non))))))
theorem d_strongest (T : Tab P w K mg base n) {cdv : Value} {A : Around} {outer : List Env} {s : Shared} {H : Hp} {E : XK} {f : Addr} (hr1 : Room (2 * n + 1) (A.deeper (envOfC "strongest" (defScope s_strongest) s.heap.objs.size f cdv))) :
    PSs (cxOf (L2.CX P w) P w K mg base N_strongest "strongest" (defScope s_strongest) f cdv A outer s H E) (defBody s_strongest) (tS ⟨K, mg⟩ (WX0 E) (b_strongest (callF n))) := by
  have hr := hr1.mono (Nat.le_succ (2 * n))
  have tk := takes_cx (P := P) (w := w) (K := K) (mg := mg) (base := base) (N := N_strongest) (qual := "strongest") (scope := defScope s_strongest) (f := f) (cd := cdv) (A := A) (outer := outer) (s := s) (H := H) (E := E)
  exact dss_cons (ds_expr (de_call (T.fn .need_world) hr rfl T.gl_need_world tk (da_cons (de_var (pv 0)) (da_nil)))) (dss_cons (ds_setDcT (i := 1) (tg := (.nm 3)) (own := [("design", 3)]) T.no3 hr rfl sc_strongest.nd rfl rfl (CHT.sw_trueD rfl rfl rfl (by decide +kernel)) (di_tup (de_call0 (T.fn .all_designs) hr rfl T.gl_all_designs tk)) (blkOk_by (N := N_strongest) (sc := defScope s_strongest) (own := [("design", 3)]) (by decide +kernel)) (by decide) (fun _ _ _ _ _ => pg_name (i := 3) sc_strongest.nd rfl (by first | exact Or.inl rfl | exact Or.inr rfl)) (fun _ _ _ _ _ => dt_yes) (fun _ _ _ _ _ => de_var (pv 3)) (fun _ _ _ _ _ => de_call (T.fn .kept_in) hr rfl T.gl_kept_in takes0 (da_cons (de_var (pv 3)) (da_cons (de_var (pv 0)) (da_nil))))) (dss_cons (ds_set (i := 2) sc_strongest.nd rfl (by first | exact Or.inl rfl | exact Or.inr rfl) (de_newL (da_nil))) (dss_cons (ds_for (tg := (.nm 3)) (passes_of rfl) rfl (di_keysT (de_var (pv 1))) (pg_name (i := 3) sc_strongest.nd rfl (by first | exact Or.inl rfl | exact Or.inr rfl)) (dss_cons (ds_set (i := 4) sc_strongest.nd rfl (by first | exact Or.inl rfl | exact Or.inr rfl) (de_tget T.no3 hr (de_var (pv 1)) (de_var (pv 3)) (fun _ _ => rfl))) (dss_one (ds_if (dt_not (dt_val (de_callB (cr_any rfl) calls_any rfl T.m_any boot_any (da_cons (de_lc (tg := (.nm 5)) (own := [("one", 5)]) rfl sc_strongest.nd (di_valsT (de_var (pv 1))) (blkOk_by (N := N_strongest) (sc := defScope s_strongest) (own := [("one", 5)]) (by decide +kernel)) (by decide) (fun _ _ _ _ _ => pg_name (i := 5) sc_strongest.nd rfl (by first | exact Or.inl rfl | exact Or.inr rfl)) (fun _ _ _ _ _ => dt_yes) (fun _ _ _ _ _ => de_and (de_cmp op_gt ops_gt (de_callB callr_len calls_len rfl T.m_len boot_len (da_cons (de_var (pv 5)) (da_nil))) (de_callB callr_len calls_len rfl T.m_len boot_len (da_cons (de_var (pv 4)) (da_nil))) (by rfl)) (de_one (de_callB (cr_all rfl) calls_all rfl T.m_all boot_all (da_cons (de_lc (tg := (.nm 6)) (own := [("word", 6)]) rfl sc_strongest.nd (di_tup (de_var (pv 4))) (blkOk_by (N := N_strongest) (own := [("word", 6)]) (by kernel_rfl)) (by decide) (fun _ _ _ _ _ => pg_name (i := 6) sc_strongest.nd rfl (by first | exact Or.inl rfl | exact Or.inr rfl)) (fun _ _ _ _ _ => dt_yes) (fun _ _ _ _ _ => de_cmp (opr_in hr) ops_in (de_var (pv 6)) (de_var (pv 5)) (by rfl))) (da_nil)))))) (da_nil))))) (dss_one (ds_expr (de_bm PySem.F.plainAttrs_list PySem.F.slot_list_append PySem.F.type_list_append mt_append mts_app rc_lst (de_var (pv 2)) (da_cons (de_var (pv 3)) (da_nil))))) (dss_nil))))) (dss_one (ds_ret (de_callTy call_tuple_of calls_tuple rfl T.m_tuple boot_tuple (da_cons (de_var (pv 2)) (da_nil))))))))
theorem d_harmless (T : Tab P w K mg base n) {cdv : Value} {A : Around} {outer : List Env} {s : Shared} {H : Hp} {E : XK} {f : Addr} (hr1 : Room (2 * n + 1) (A.deeper (envOfC "harmless" (defScope s_harmless) s.heap.objs.size f cdv))) :
    PSs (cxOf (L2.CX P w) P w K mg base N_harmless "harmless" (defScope s_harmless) f cdv A outer s H E) (defBody s_harmless) (tS ⟨K, mg⟩ (WX0 E) (b_harmless (callF n))) := by
  have hr := hr1.mono (Nat.le_succ (2 * n))
  have tk := takes_cx (P := P) (w := w) (K := K) (mg := mg) (base := base) (N := N_harmless) (qual := "harmless") (scope := defScope s_harmless) (f := f) (cd := cdv) (A := A) (outer := outer) (s := s) (H := H) (E := E)
  exact dss_cons (ds_expr (de_call (T.fn .need_both) hr rfl T.gl_need_both tk (da_cons (de_var (pv 0)) (da_cons (de_var (pv 1)) (da_nil))))) (dss_cons (ds_if (dt_not (dt_val (de_call (T.fn .is_in) hr rfl T.gl_is_in tk (da_cons (de_var (pv 2)) (da_cons (de_int) (da_cons (de_op op_sub ops_sub (de_callB callr_len calls_len rfl T.m_len boot_len (da_cons (de_con rfl T.c_DESIGNS) (da_nil))) (de_int)) (da_nil))))))) (dss_one (ds_never)) (dss_nil)) (dss_cons (ds_setLc (i := 3) (tg := (.nm 4)) (own := [("word", 4)]) rfl sc_harmless.nd rfl rfl (sw_true rfl rfl rfl (by decide +kernel)) (di_tup (de_ix ixr ops_ix (de_con rfl T.c_DESIGNS) (de_var (pv 2)) (fun _ _ => rfl))) (blkOk_by (N := N_harmless) (sc := defScope s_harmless) (own := [("word", 4)]) (by decide +kernel)) (by decide) (fun _ _ _ _ _ => pg_name (i := 4) sc_harmless.nd rfl (by first | exact Or.inl rfl | exact Or.inr rfl)) (fun _ _ _ _ _ => dt_yes) (fun _ _ _ _ _ => de_op opr_add ops_add (de_op opr_add ops_add (de_sl (de_var (pv 0)) (do_none) (do_some (de_var (pv 2)))) (de_tup (da_cons (de_var (pv 4)) (da_nil)))) (de_sl (de_var (pv 0)) (do_some (de_op opr_add ops_add (de_var (pv 2)) (de_int))) (do_none)))) (dss_one (ds_ret (de_callTy call_tuple_of calls_tuple rfl T.m_tuple boot_tuple (da_cons (de_lc (tg := (.nm 5)) (own := [("one", 5)]) rfl sc_harmless.nd (di_lst (de_var (pv 3))) (blkOk_by (N := N_harmless) (sc := defScope s_harmless) (own := [("one", 5)]) (by decide +kernel)) (by decide) (fun _ _ _ _ _ => pg_name (i := 5) sc_harmless.nd rfl (by first | exact Or.inl rfl | exact Or.inr rfl)) (fun _ _ _ _ _ => dt_cond (dt_val (de_call (T.fn .keeps) hr rfl T.gl_keeps takes0 (da_cons (de_var (pv 5)) (da_cons (de_var (pv 1)) (da_cons (de_call (T.fn .kept_in) hr rfl T.gl_kept_in takes0 (da_cons (de_var (pv 0)) (da_cons (de_var (pv 1)) (da_nil)))) (da_nil))))))) (fun _ _ _ _ _ => de_ix ixr ops_ix (de_var (pv 5)) (de_var (pv 2)) (fun _ _ => rfl))) (da_nil)))))))
theorem d_l_taken (T : Tab P w K mg base n) {cdv : Value} {A : Around} {outer : List Env} {s : Shared} {H : Hp} {E : XK} {f : Addr} (hr1 : Room (2 * n + 1) (A.deeper (envOfC "_law_taken" (defScope s_l_taken) s.heap.objs.size f cdv))) :
    PSs (cxOf (L2.CX P w) P w K mg base N_l_taken "_law_taken" (defScope s_l_taken) f cdv A outer s H E) (defBody s_l_taken) (tS ⟨K, mg⟩ (WX0 E) (b_l_taken (callF n))) := by
  have hr := hr1.mono (Nat.le_succ (2 * n))
  have tk := takes_cx (P := P) (w := w) (K := K) (mg := mg) (base := base) (N := N_l_taken) (qual := "_law_taken") (scope := defScope s_l_taken) (f := f) (cd := cdv) (A := A) (outer := outer) (s := s) (H := H) (E := E)
  exact dss_cons (ds_if (dt_cmp op_gt ops_gt (de_ix ixr ops_ix (de_var (pv 0)) (de_int) (fun _ _ => rfl)) (de_int) (by rfl)) (dss_cons (ds_set (i := 3) sc_l_taken.nd rfl (by first | exact Or.inl rfl | exact Or.inr rfl) (de_op op_mod ops_mod (de_callTy call_int1 calls_int rfl T.m_int boot_int (da_cons (de_ix ixr ops_ix (de_var (pv 0)) (de_int) (fun _ _ => rfl)) (da_nil))) (de_var (pv 1)))) (dss_cons (ds_lset (by intro _; rfl) (de_var (pv 0)) (de_int) (de_op op_fdiv ops_div (de_ix ixr ops_ix (de_var (pv 0)) (de_int) (fun _ _ => rfl)) (de_var (pv 1)))) (dss_one (ds_ret (de_var (pv 3)))))) (dss_nil)) (dss_cons (ds_lset (by intro _; rfl) (de_var (pv 0)) (de_int) (de_op opr_add ops_add (de_ix ixr ops_ix (de_var (pv 0)) (de_int) (fun _ _ => rfl)) (de_int))) (dss_cons (ds_if (dt_cmp op_gt ops_gt (de_ix ixr ops_ix (de_var (pv 0)) (de_int) (fun _ _ => rfl)) (de_callB callr_len calls_len rfl T.m_len boot_len (da_cons (de_ix ixr ops_ix (de_var (pv 0)) (de_int) (fun _ _ => rfl)) (da_nil))) (by rfl)) (dss_cons (ds_lset (by intro _; rfl) (de_var (pv 0)) (de_int) (de_op op_mod ops_mod (de_callTy call_int1 calls_int rfl T.m_int boot_int (da_cons (de_op opr_add ops_add (de_op op_mul ops_mul (de_ix ixr ops_ix (de_var (pv 0)) (de_int) (fun _ _ => rfl)) (de_int)) (de_int)) (da_nil))) (de_int))) (dss_one (ds_ret (de_op op_mod ops_mod (de_callTy call_int1 calls_int rfl T.m_int boot_int (da_cons (de_op op_fdiv ops_div (de_ix ixr ops_ix (de_var (pv 0)) (de_int) (fun _ _ => rfl)) (de_int)) (da_nil))) (de_var (pv 1)))))) (dss_nil)) (dss_cons (ds_set (i := 2) sc_l_taken.nd rfl (by first | exact Or.inl rfl | exact Or.inr rfl) (de_ix ixr ops_ix (de_ix ixr ops_ix (de_var (pv 0)) (de_int) (fun _ _ => rfl)) (de_op op_sub ops_sub (de_ix ixr ops_ix (de_var (pv 0)) (de_int) (fun _ _ => rfl)) (de_int)) (fun _ _ => rfl))) (dss_cons (ds_lset (by intro _; rfl) (de_var (pv 0)) (de_int) (de_op op_mod ops_mod (de_callTy call_int1 calls_int rfl T.m_int boot_int (da_cons (de_op opr_add ops_add (de_op opr_add ops_add (de_op op_mul ops_mul (de_ix ixr ops_ix (de_var (pv 0)) (de_int) (fun _ _ => rfl)) (de_int)) (de_var (pv 2))) (de_int)) (da_nil))) (de_int))) (dss_cons (ds_if (dt_cmp op_ge ops_ge (de_var (pv 2)) (de_op op_pow ops_pow (de_int) (de_int)) (by rfl)) (dss_one (ds_lset (by intro _; rfl) (de_var (pv 0)) (de_int) (de_op op_fdiv ops_div (de_var (pv 2)) (de_var (pv 1))))) (dss_nil)) (dss_one (ds_ret (de_op op_mod ops_mod (de_callTy call_int1 calls_int rfl T.m_int boot_int (da_cons (de_var (pv 2)) (da_nil))) (de_var (pv 1))))))))))
theorem d_l_pick (T : Tab P w K mg base n) {cdv : Value} {A : Around} {outer : List Env} {s : Shared} {H : Hp} {E : XK} {f : Addr} (hr1 : Room (2 * n + 1) (A.deeper (envOfC "_law_pick" (defScope s_l_pick) s.heap.objs.size f cdv))) :
    PSs (cxOf (L2.CX P w) P w K mg base N_l_pick "_law_pick" (defScope s_l_pick) f cdv A outer s H E) (defBody s_l_pick) (tS ⟨K, mg⟩ (WX0 E) (b_l_pick (callF n))) := by
  have hr := hr1.mono (Nat.le_succ (2 * n))
  have tk := takes_cx (P := P) (w := w) (K := K) (mg := mg) (base := base) (N := N_l_pick) (qual := "_law_pick") (scope := defScope s_l_pick) (f := f) (cd := cdv) (A := A) (outer := outer) (s := s) (H := H) (E := E)
  exact dss_one (ds_ret (de_ix ixr ops_ix (de_var (pv 1)) (de_call (T.fn .l_taken) hr rfl T.gl_l_taken tk (da_cons (de_var (pv 0)) (da_cons (de_callB callr_len calls_len rfl T.m_len boot_len (da_cons (de_var (pv 1)) (da_nil))) (da_nil)))) (fun _ _ => rfl)))
theorem d_l_alike (T : Tab P w K mg base n) {cdv : Value} {A : Around} {outer : List Env} {s : Shared} {H : Hp} {E : XK} {f : Addr} (hr1 : Room (2 * n + 1) (A.deeper (envOfC "_law_alike" (defScope s_l_alike) s.heap.objs.size f cdv))) :
    PSs (cxOf (L2.CX P w) P w K mg base N_l_alike "_law_alike" (defScope s_l_alike) f cdv A outer s H E) (defBody s_l_alike) (tS ⟨K, mg⟩ (WX0 E) (b_l_alike (callF n))) := by
  have hr := hr1.mono (Nat.le_succ (2 * n))
  have tk := takes_cx (P := P) (w := w) (K := K) (mg := mg) (base := base) (N := N_l_alike) (qual := "_law_alike") (scope := defScope s_l_alike) (f := f) (cd := cdv) (A := A) (outer := outer) (s := s) (H := H) (E := E)
  exact dss_cons (ds_if (dt_val (de_callB callr_isi calls_isi rfl T.m_isinstance boot_isinstance (da_cons (de_var (pv 1)) (da_cons (de_tup (da_cons (de_ty rfl T.m_tuple boot_tuple) (da_cons (de_ty rfl T.m_list boot_list) (da_nil)))) (da_nil))))) (dss_cons (ds_if (PW.pt (dw_or (dt_not (dt_val (de_callB callr_isi calls_isi rfl T.m_isinstance boot_isinstance (da_cons (de_var (pv 0)) (da_cons (de_tup (da_cons (de_ty rfl T.m_tuple boot_tuple) (da_cons (de_ty rfl T.m_list boot_list) (da_nil)))) (da_nil)))))) (dw_or1 (dt_cmp (opr_ne hr) ops_ne (de_callB callr_isi calls_isi rfl T.m_isinstance boot_isinstance (da_cons (de_var (pv 0)) (da_cons (de_ty rfl T.m_list boot_list) (da_nil)))) (de_callB callr_isi calls_isi rfl T.m_isinstance boot_isinstance (da_cons (de_var (pv 1)) (da_cons (de_ty rfl T.m_list boot_list) (da_nil)))) (by rfl))))) (dss_one (ds_ret (de_bl))) (dss_nil)) (dss_cons (ds_if (dt_cmp (opr_ne hr) ops_ne (de_callB callr_len calls_len rfl T.m_len boot_len (da_cons (de_var (pv 0)) (da_nil))) (de_callB callr_len calls_len rfl T.m_len boot_len (da_cons (de_var (pv 1)) (da_nil))) (by rfl)) (dss_one (ds_ret (de_bl))) (dss_nil)) (dss_one (ds_ret (de_cmp (opr_eqE hr) ops_eqE (de_lc (tg := (.nm 2)) (own := [("_law_k", 2)]) rfl sc_l_alike.nd (di_range1 rfl T.m_range (da_cons (de_callB callr_len calls_len rfl T.m_len boot_len (da_cons (de_var (pv 1)) (da_nil))) (da_nil))) (blkOk_by (N := N_l_alike) (sc := defScope s_l_alike) (own := [("_law_k", 2)]) (by decide +kernel)) (by decide) (fun _ _ _ _ _ => pg_name (i := 2) sc_l_alike.nd rfl (by first | exact Or.inl rfl | exact Or.inr rfl)) (fun _ _ _ _ _ => dt_cond (dt_not (dt_val (de_call (T.fn .l_alike) hr rfl T.gl_l_alike takes0 (da_cons (de_ix ixr ops_ix (de_var (pv 0)) (de_var (pv 2)) (fun _ _ => rfl)) (da_cons (de_ix ixr ops_ix (de_var (pv 1)) (de_var (pv 2)) (fun _ _ => rfl)) (da_nil))))))) (fun _ _ _ _ _ => de_var (pv 2))) (de_lst (da_nil)) (by rfl)))))) (dss_nil)) (dss_cons (ds_if (PW.pt (dw_or (dt_cmp op_isN ops_isN (de_var (pv 1)) (de_non) (by rfl)) (dw_or1 (dt_val (de_callB callr_isi calls_isi rfl T.m_isinstance boot_isinstance (da_cons (de_var (pv 1)) (da_cons (de_ty rfl T.m_str boot_str) (da_nil)))))))) (dss_one (ds_ret (de_and (de_cmp (opr_eq hr) ops_eq (de_var (pv 0)) (de_var (pv 1)) (by rfl)) (de_one (de_cmp (opr_eq hr) ops_eq (de_callB callr_isi calls_isi rfl T.m_isinstance boot_isinstance (da_cons (de_var (pv 0)) (da_cons (de_ty rfl T.m_str boot_str) (da_nil)))) (de_callB callr_isi calls_isi rfl T.m_isinstance boot_isinstance (da_cons (de_var (pv 1)) (da_cons (de_ty rfl T.m_str boot_str) (da_nil)))) (by rfl)))))) (dss_nil)) (dss_one (ds_ret (de_and (de_callB callr_isi calls_isi rfl T.m_isinstance boot_isinstance (da_cons (de_var (pv 0)) (da_cons (de_ty rfl T.m_int boot_int) (da_nil)))) (de_and (de_cmp (opr_eq hr) ops_eq (de_callB callr_isi calls_isi rfl T.m_isinstance boot_isinstance (da_cons (de_var (pv 0)) (da_cons (de_ty rfl T.m_bool boot_bool) (da_nil)))) (de_callB callr_isi calls_isi rfl T.m_isinstance boot_isinstance (da_cons (de_var (pv 1)) (da_cons (de_ty rfl T.m_bool boot_bool) (da_nil)))) (by rfl)) (de_one (de_cmp (opr_eq hr) ops_eq (de_var (pv 0)) (de_var (pv 1)) (by rfl))))))))
theorem d_l_paths (T : Tab P w K mg base n) {cdv : Value} {A : Around} {outer : List Env} {s : Shared} {H : Hp} {E : XK} {f : Addr} (hr1 : Room (2 * n + 1) (A.deeper (envOfC "_law_paths" (defScope s_l_paths) s.heap.objs.size f cdv))) :
    PSs (cxOf (L2.CX P w) P w K mg base N_l_paths "_law_paths" (defScope s_l_paths) f cdv A outer s H E) (defBody s_l_paths) (tS ⟨K, mg⟩ (WX0 E) (b_l_paths (callF n))) := by
  have hr := hr1.mono (Nat.le_succ (2 * n))
  have tk := takes_cx (P := P) (w := w) (K := K) (mg := mg) (base := base) (N := N_l_paths) (qual := "_law_paths") (scope := defScope s_l_paths) (f := f) (cd := cdv) (A := A) (outer := outer) (s := s) (H := H) (E := E)
  exact dss_one (ds_ret (de_lst (da_cons (de_str) (da_cons (de_str) (da_cons (de_str) (da_cons (de_str) (da_cons (de_str) (da_nil))))))))
theorem d_l_promises (T : Tab P w K mg base n) {cdv : Value} {A : Around} {outer : List Env} {s : Shared} {H : Hp} {E : XK} {f : Addr} (hr1 : Room (2 * n + 1) (A.deeper (envOfC "_law_promises" (defScope s_l_promises) s.heap.objs.size f cdv))) :
    PSs (cxOf (L2.CX P w) P w K mg base N_l_promises "_law_promises" (defScope s_l_promises) f cdv A outer s H E) (defBody s_l_promises) (tS ⟨K, mg⟩ (WX0 E) (b_l_promises (callF n))) := by
  have hr := hr1.mono (Nat.le_succ (2 * n))
  have tk := takes_cx (P := P) (w := w) (K := K) (mg := mg) (base := base) (N := N_l_promises) (qual := "_law_promises") (scope := defScope s_l_promises) (f := f) (cd := cdv) (A := A) (outer := outer) (s := s) (H := H) (E := E)
  exact dss_one (ds_ret (de_lst (da_cons (de_str) (da_cons (de_str) (da_cons (de_str) (da_cons (de_str) (da_cons (de_str) (da_cons (de_str) (da_cons (de_str) (da_cons (de_str) (da_cons (de_str) (da_cons (de_str) (da_nil)))))))))))))
theorem d_l_holds (T : Tab P w K mg base n) {cdv : Value} {A : Around} {outer : List Env} {s : Shared} {H : Hp} {E : XK} {f : Addr} (hr1 : Room (2 * n + 1) (A.deeper (envOfC "_law_holds" (defScope s_l_holds) s.heap.objs.size f cdv))) :
    PSs (cxOf (L2.CX P w) P w K mg base N_l_holds "_law_holds" (defScope s_l_holds) f cdv A outer s H E) (defBody s_l_holds) (tS ⟨K, mg⟩ (WX0 E) (b_l_holds (callF n))) := by
  have hr := hr1.mono (Nat.le_succ (2 * n))
  have tk := takes_cx (P := P) (w := w) (K := K) (mg := mg) (base := base) (N := N_l_holds) (qual := "_law_holds") (scope := defScope s_l_holds) (f := f) (cd := cdv) (A := A) (outer := outer) (s := s) (H := H) (E := E)
  exact dss_cons (ds_asg (de_var (pv 0)) (dg_tup rfl (dgs_cons (dg_name (pg_name (i := 12) sc_l_holds.nd rfl (by first | exact Or.inl rfl | exact Or.inr rfl))) (dgs_cons (dg_name (pg_name (i := 13) sc_l_holds.nd rfl (by first | exact Or.inl rfl | exact Or.inr rfl))) (dgs_cons (dg_name (pg_name (i := 14) sc_l_holds.nd rfl (by first | exact Or.inl rfl | exact Or.inr rfl))) (dgs_nil)))) rfl)) (dss_cons (ds_set (i := 3) sc_l_holds.nd rfl (by first | exact Or.inl rfl | exact Or.inr rfl) (de_and (de_cmp (opr_eq hr) ops_eq (de_var (pv 13)) (de_str) (by rfl)) (de_one (de_cmp (opr_ne hr) ops_ne (de_var (pv 12)) (de_str) (by rfl))))) (dss_cons (ds_set (i := 4) sc_l_holds.nd rfl (by first | exact Or.inl rfl | exact Or.inr rfl) (de_and (de_cmp (opr_eq hr) ops_eq (de_var (pv 12)) (de_str) (by rfl)) (de_and (de_cmp (opr_in hr) ops_in (de_var (pv 13)) (de_lst (da_cons (de_str) (da_cons (de_str) (da_nil)))) (by rfl)) (de_one (de_cmp (opr_eq hr) ops_eq (de_ix ixr ops_ix (de_var (pv 1)) (de_int) (fun _ _ => rfl)) (de_str) (by rfl)))))) (dss_cons (ds_set (i := 5) sc_l_holds.nd rfl (by first | exact Or.inl rfl | exact Or.inr rfl) (de_and (de_bm PySem.F.plainAttrs_str PySem.F.slot_str_endswith PySem.F.type_str_endswith mt_endswith mts_ends rc_str (de_var (pv 12)) (da_cons (de_str) (da_nil))) (de_one (de_or (de_cmp (opr_eq hr) ops_eq (de_var (pv 13)) (de_str) (by rfl)) (de_one (de_and (de_cmp (opr_eq hr) ops_eq (de_var (pv 13)) (de_str) (by rfl)) (de_one (de_cmp (opr_eq hr) ops_eq (de_ix ixr ops_ix (de_var (pv 1)) (de_int) (fun _ _ => rfl)) (de_str) (by rfl))))))))) (dss_cons (ds_set (i := 6) sc_l_holds.nd rfl (by first | exact Or.inl rfl | exact Or.inr rfl) (de_or (de_var (pv 4)) (de_one (de_and (de_cmp (opr_eq hr) ops_eq (de_ix ixr ops_ix (de_var (pv 1)) (de_int) (fun _ _ => rfl)) (de_str) (by rfl)) (de_one (de_or (de_var (pv 3)) (de_one (de_and (de_var (pv 5)) (de_one (de_cmp (opr_eq hr) ops_eq (de_var (pv 14)) (de_str) (by rfl))))))))))) (dss_cons (ds_set (i := 7) sc_l_holds.nd rfl (by first | exact Or.inl rfl | exact Or.inr rfl) (de_or (de_cmp (opr_eq hr) ops_eq (de_var (pv 13)) (de_str) (by rfl)) (de_one (de_and (de_cmp (opr_eq hr) ops_eq (de_var (pv 13)) (de_str) (by rfl)) (de_one (de_cmp (opr_in hr) ops_in (de_var (pv 12)) (de_lst (da_cons (de_str) (da_cons (de_str) (da_nil)))) (by rfl))))))) (dss_cons (ds_set (i := 8) sc_l_holds.nd rfl (by first | exact Or.inl rfl | exact Or.inr rfl) (de_or (de_var (pv 3)) (de_or (de_and (de_cmp (opr_eq hr) ops_eq (de_var (pv 14)) (de_str) (by rfl)) (de_one (de_cmp (opr_ne hr) ops_ne (de_var (pv 12)) (de_str) (by rfl)))) (de_one (de_and (de_cmp (opr_eq hr) ops_eq (de_ix ixr ops_ix (de_var (pv 1)) (de_int) (fun _ _ => rfl)) (de_str) (by rfl)) (de_one (de_var (pv 7)))))))) (dss_cons (ds_set (i := 9) sc_l_holds.nd rfl (by first | exact Or.inl rfl | exact Or.inr rfl) (de_and (de_cmp (opr_eq hr) ops_eq (de_var (pv 13)) (de_str) (by rfl)) (de_one (de_cmp (opr_eq hr) ops_eq (de_ix ixr ops_ix (de_var (pv 1)) (de_int) (fun _ _ => rfl)) (de_str) (by rfl))))) (dss_cons (ds_set (i := 10) sc_l_holds.nd rfl (by first | exact Or.inl rfl | exact Or.inr rfl) (de_cmp (opr_eq hr) ops_eq (de_ix ixr ops_ix (de_var (pv 1)) (de_int) (fun _ _ => rfl)) (de_str) (by rfl))) (dss_cons (ds_set (i := 11) sc_l_holds.nd rfl (by first | exact Or.inl rfl | exact Or.inr rfl) (de_newD (dp_cons (de_str) (de_or (de_cmp (opr_eq hr) ops_eq (de_var (pv 14)) (de_str) (by rfl)) (de_one (de_var (pv 10)))) (dp_cons (de_str) (de_var (pv 6)) (dp_cons (de_str) (de_var (pv 8)) (dp_cons (de_str) (de_and (de_var (pv 6)) (de_one (de_var (pv 8)))) (dp_nil))))))) (dss_cons (ds_dset hr (de_var (pv 11)) (de_str) (de_and (de_cmp (opr_ne hr) ops_ne (de_var (pv 13)) (de_str) (by rfl)) (de_one (de_or (de_var (pv 10)) (de_one (de_cmp (opr_eq hr) ops_eq (de_var (pv 14)) (de_str) (by rfl))))))) (dss_cons (ds_dset hr (de_var (pv 11)) (de_str) (de_and (de_dget hr (de_var (pv 11)) (de_str) (fun _ _ => rfl)) (de_one (de_not (de_and (de_cmp (opr_eq hr) ops_eq (de_var (pv 13)) (de_str) (by rfl)) (de_and (de_cmp (opr_eq hr) ops_eq (de_ix ixr ops_ix (de_var (pv 1)) (de_int) (fun _ _ => rfl)) (de_str) (by rfl)) (de_one (de_bm PySem.F.plainAttrs_str PySem.F.slot_str_endswith PySem.F.type_str_endswith mt_endswith mts_ends rc_str (de_var (pv 12)) (da_cons (de_str) (da_nil)))))))))) (dss_cons (ds_asg (de_tup (da_cons (de_or (de_cmp (opr_ne hr) ops_ne (de_var (pv 12)) (de_str) (by rfl)) (de_one (de_cmp (opr_eq hr) ops_eq (de_var (pv 13)) (de_str) (by rfl)))) (da_cons (de_cmp (opr_eq hr) ops_eq (de_var (pv 14)) (de_str) (by rfl)) (da_nil)))) (dg_tup rfl (dgs_cons (dg_dsub (W := WX0 E) hr (de_var (pv 11)) (de_str)) (dgs_cons (dg_dsub (W := WX0 E) hr (de_var (pv 11)) (de_str)) (dgs_nil))) rfl)) (dss_cons (ds_dset hr (de_var (pv 11)) (de_str) (de_if (dt_val (de_var (pv 3))) (de_cmp (opr_eq hr) ops_eq (de_ix ixr ops_ix (de_var (pv 1)) (de_int) (fun _ _ => rfl)) (de_str) (by rfl)) (de_and (de_var (pv 10)) (de_one (de_var (pv 6)))))) (dss_cons (ds_dset hr (de_var (pv 11)) (de_str) (de_or (de_var (pv 3)) (de_one (de_and (de_var (pv 10)) (de_one (de_or (de_var (pv 4)) (de_one (de_and (de_var (pv 5)) (de_one (de_not (de_var (pv 9)))))))))))) (dss_cons (ds_dset hr (de_var (pv 11)) (de_str) (de_cmp (opr_eq hr) ops_eq (de_var (pv 14)) (de_str) (by rfl))) (dss_one (ds_ret (de_dget hr (de_var (pv 11)) (de_var (pv 2)) (fun _ _ => rfl)))))))))))))))))))
theorem d_l_words (T : Tab P w K mg base n) {cdv : Value} {A : Around} {outer : List Env} {s : Shared} {H : Hp} {E : XK} {f : Addr} (hr1 : Room (2 * n + 1) (A.deeper (envOfC "_law_words" (defScope s_l_words) s.heap.objs.size f cdv))) :
    PSs (cxOf (L2.CX P w) P w K mg base N_l_words "_law_words" (defScope s_l_words) f cdv A outer s H E) (defBody s_l_words) (tS ⟨K, mg⟩ (WX0 E) (b_l_words (callF n))) := by
  have hr := hr1.mono (Nat.le_succ (2 * n))
  have tk := takes_cx (P := P) (w := w) (K := K) (mg := mg) (base := base) (N := N_l_words) (qual := "_law_words") (scope := defScope s_l_words) (f := f) (cd := cdv) (A := A) (outer := outer) (s := s) (H := H) (E := E)
  exact dss_cons (ds_setLc (i := 2) (tg := (.nm 3)) (own := [("_law_one", 3)]) rfl sc_l_words.nd rfl rfl (sw_true rfl rfl rfl (by decide +kernel)) (di_lst (de_call0 (T.fn .l_promises) hr rfl T.gl_l_promises tk)) (blkOk_by (N := N_l_words) (sc := defScope s_l_words) (own := [("_law_one", 3)]) (by decide +kernel)) (by decide) (fun _ _ _ _ _ => pg_name (i := 3) sc_l_words.nd rfl (by first | exact Or.inl rfl | exact Or.inr rfl)) (fun _ _ _ _ _ => dt_cond (dt_cmp (opr_eq hr) ops_eq (de_call (T.fn .l_taken) hr rfl T.gl_l_taken takes0 (da_cons (de_var (pv 0)) (da_cons (de_var (pv 1)) (da_nil)))) (de_int) (by rfl))) (fun _ _ _ _ _ => de_var (pv 3))) (dss_one (ds_ret (de_callTy call_tuple_of calls_tuple rfl T.m_tuple boot_tuple (da_cons (de_var (pv 2)) (da_nil)))))
theorem d_l_designs (T : Tab P w K mg base n) {cdv : Value} {A : Around} {outer : List Env} {s : Shared} {H : Hp} {E : XK} {f : Addr} (hr1 : Room (2 * n + 1) (A.deeper (envOfC "_law_designs" (defScope s_l_designs) s.heap.objs.size f cdv))) :
    PSs (cxOf (L2.CX P w) P w K mg base N_l_designs "_law_designs" (defScope s_l_designs) f cdv A outer s H E) (defBody s_l_designs) (tS ⟨K, mg⟩ (WX0 E) (b_l_designs (callF n))) := by
  have hr := hr1.mono (Nat.le_succ (2 * n))
  have tk := takes_cx (P := P) (w := w) (K := K) (mg := mg) (base := base) (N := N_l_designs) (qual := "_law_designs") (scope := defScope s_l_designs) (f := f) (cd := cdv) (A := A) (outer := outer) (s := s) (H := H) (E := E)
  exact dss_cons (ds_set (i := 0) sc_l_designs.nd rfl (by first | exact Or.inl rfl | exact Or.inr rfl) (de_lst (da_nil))) (dss_cons (ds_for (tg := (.nm 1)) (passes_of rfl) rfl (di_lst (de_call0 (T.fn .l_paths) hr rfl T.gl_l_paths tk)) (pg_name (i := 1) sc_l_designs.nd rfl (by first | exact Or.inl rfl | exact Or.inr rfl)) (dss_one (ds_for (tg := (.nm 2)) (passes_of rfl) rfl (di_lst (de_lst (da_cons (de_str) (da_cons (de_str) (da_cons (de_str) (da_cons (de_str) (da_cons (de_str) (da_cons (de_str) (da_nil))))))))) (pg_name (i := 2) sc_l_designs.nd rfl (by first | exact Or.inl rfl | exact Or.inr rfl)) (dss_one (ds_set (i := 0) sc_l_designs.nd rfl (by first | exact Or.inl rfl | exact Or.inr rfl) (de_op opr_add ops_add (de_var (pv 0)) (de_lst (da_cons (de_tup (da_cons (de_var (pv 1)) (da_cons (de_var (pv 2)) (da_cons (de_str) (da_nil))))) (da_cons (de_tup (da_cons (de_var (pv 1)) (da_cons (de_var (pv 2)) (da_cons (de_str) (da_nil))))) (da_nil)))))))))) (dss_one (ds_ret (de_var (pv 0)))))
theorem d_l_worlds (T : Tab P w K mg base n) {cdv : Value} {A : Around} {outer : List Env} {s : Shared} {H : Hp} {E : XK} {f : Addr} (hr1 : Room (2 * n + 1) (A.deeper (envOfC "_law_worlds" (defScope s_l_worlds) s.heap.objs.size f cdv))) :
    PSs (cxOf (L2.CX P w) P w K mg base N_l_worlds "_law_worlds" (defScope s_l_worlds) f cdv A outer s H E) (defBody s_l_worlds) (tS ⟨K, mg⟩ (WX0 E) (b_l_worlds (callF n))) := by
  have hr := hr1.mono (Nat.le_succ (2 * n))
  have tk := takes_cx (P := P) (w := w) (K := K) (mg := mg) (base := base) (N := N_l_worlds) (qual := "_law_worlds") (scope := defScope s_l_worlds) (f := f) (cd := cdv) (A := A) (outer := outer) (s := s) (H := H) (E := E)
  exact dss_cons (ds_set (i := 0) sc_l_worlds.nd rfl (by first | exact Or.inl rfl | exact Or.inr rfl) (de_lst (da_nil))) (dss_cons (ds_for (tg := (.nm 1)) (passes_of rfl) rfl (di_lst (de_lst (da_cons (de_str) (da_cons (de_str) (da_nil))))) (pg_name (i := 1) sc_l_worlds.nd rfl (by first | exact Or.inl rfl | exact Or.inr rfl)) (dss_one (ds_for (tg := (.nm 2)) (passes_of rfl) rfl (di_lst (de_lst (da_cons (de_str) (da_cons (de_str) (da_nil))))) (pg_name (i := 2) sc_l_worlds.nd rfl (by first | exact Or.inl rfl | exact Or.inr rfl)) (dss_one (ds_set (i := 0) sc_l_worlds.nd rfl (by first | exact Or.inl rfl | exact Or.inr rfl) (de_op opr_add ops_add (de_var (pv 0)) (de_lst (da_cons (de_tup (da_cons (de_var (pv 1)) (da_cons (de_var (pv 2)) (da_cons (de_str) (da_nil))))) (da_cons (de_tup (da_cons (de_var (pv 1)) (da_cons (de_var (pv 2)) (da_cons (de_str) (da_nil))))) (da_nil)))))))))) (dss_one (ds_ret (de_var (pv 0)))))
theorem d_l_kept (T : Tab P w K mg base n) {cdv : Value} {A : Around} {outer : List Env} {s : Shared} {H : Hp} {E : XK} {f : Addr} (hr1 : Room (2 * n + 1) (A.deeper (envOfC "_law_kept" (defScope s_l_kept) s.heap.objs.size f cdv))) :
    PSs (cxOf (L2.CX P w) P w K mg base N_l_kept "_law_kept" (defScope s_l_kept) f cdv A outer s H E) (defBody s_l_kept) (tS ⟨K, mg⟩ (WX0 E) (b_l_kept (callF n))) := by
  have hr := hr1.mono (Nat.le_succ (2 * n))
  have tk := takes_cx (P := P) (w := w) (K := K) (mg := mg) (base := base) (N := N_l_kept) (qual := "_law_kept") (scope := defScope s_l_kept) (f := f) (cd := cdv) (A := A) (outer := outer) (s := s) (H := H) (E := E)
  exact dss_one (ds_ret (de_lc (tg := (.nm 2)) (own := [("_law_one", 2)]) rfl sc_l_kept.nd (di_lst (de_call0 (T.fn .l_promises) hr rfl T.gl_l_promises tk)) (blkOk_by (N := N_l_kept) (sc := defScope s_l_kept) (own := [("_law_one", 2)]) (by decide +kernel)) (by decide) (fun _ _ _ _ _ => pg_name (i := 2) sc_l_kept.nd rfl (by first | exact Or.inl rfl | exact Or.inr rfl)) (fun _ _ _ _ _ => dt_cond (dt_val (de_call (T.fn .l_holds) hr rfl T.gl_l_holds takes0 (da_cons (de_var (pv 0)) (da_cons (de_var (pv 1)) (da_cons (de_var (pv 2)) (da_nil))))))) (fun _ _ _ _ _ => de_var (pv 2))))
theorem d_l_keeps (T : Tab P w K mg base n) {cdv : Value} {A : Around} {outer : List Env} {s : Shared} {H : Hp} {E : XK} {f : Addr} (hr1 : Room (2 * n + 1) (A.deeper (envOfC "_law_keeps" (defScope s_l_keeps) s.heap.objs.size f cdv))) :
    PSs (cxOf (L2.CX P w) P w K mg base N_l_keeps "_law_keeps" (defScope s_l_keeps) f cdv A outer s H E) (defBody s_l_keeps) (tS ⟨K, mg⟩ (WX0 E) (b_l_keeps (callF n))) := by
  have hr := hr1.mono (Nat.le_succ (2 * n))
  have tk := takes_cx (P := P) (w := w) (K := K) (mg := mg) (base := base) (N := N_l_keeps) (qual := "_law_keeps") (scope := defScope s_l_keeps) (f := f) (cd := cdv) (A := A) (outer := outer) (s := s) (H := H) (E := E)
  exact dss_one (ds_ret (de_cmp (opr_eqE hr) ops_eqE (de_lc (tg := (.nm 3)) (own := [("_law_one", 3)]) rfl sc_l_keeps.nd (di_either (de_var (pv 2))) (blkOk_by (N := N_l_keeps) (sc := defScope s_l_keeps) (own := [("_law_one", 3)]) (by decide +kernel)) (by decide) (fun _ _ _ _ _ => pg_name (i := 3) sc_l_keeps.nd rfl (by first | exact Or.inl rfl | exact Or.inr rfl)) (fun _ _ _ _ _ => dt_cond (dt_not (dt_val (de_call (T.fn .l_holds) hr rfl T.gl_l_holds takes0 (da_cons (de_var (pv 0)) (da_cons (de_var (pv 1)) (da_cons (de_var (pv 3)) (da_nil)))))))) (fun _ _ _ _ _ => de_var (pv 3))) (de_lst (da_nil)) (by rfl)))
theorem d_law_ (T : Tab P w K mg base n) {cdv : Value} {A : Around} {outer : List Env} {s : Shared} {H : Hp} {E : XK} {f : Addr} (hr1 : Room (2 * n + 1) (A.deeper (envOfC "law" (defScope s_law_) s.heap.objs.size f cdv))) :
    PSs (cxOf (L2.CX P w) P w K mg base N_law_ "law" (defScope s_law_) f cdv A outer s H E) (defBody s_law_) (tS ⟨K, mg⟩ (WX0 E) (b_law_ (callF n))) := by
  have hr := hr1.mono (Nat.le_succ (2 * n))
  have tk := takes_cx (P := P) (w := w) (K := K) (mg := mg) (base := base) (N := N_law_) (qual := "law") (scope := defScope s_law_) (f := f) (cd := cdv) (A := A) (outer := outer) (s := s) (H := H) (E := E)
  exact dss_cons (ds_set (i := 1) sc_law_.nd rfl (by first | exact Or.inl rfl | exact Or.inr rfl) (de_newL (da_cons (de_var (pv 0)) (da_cons (de_int) (da_cons (de_int) (da_cons (de_int) (da_nil))))))) (dss_cons (ds_asg (de_tup (da_cons (de_call (T.fn .l_pick) hr rfl T.gl_l_pick tk (da_cons (de_var (pv 1)) (da_cons (de_call0 (T.fn .l_designs) hr rfl T.gl_l_designs tk) (da_nil)))) (da_cons (de_call (T.fn .l_pick) hr rfl T.gl_l_pick tk (da_cons (de_var (pv 1)) (da_cons (de_call0 (T.fn .l_worlds) hr rfl T.gl_l_worlds tk) (da_nil)))) (da_cons (de_call (T.fn .l_words) hr rfl T.gl_l_words tk (da_cons (de_var (pv 1)) (da_cons (de_int) (da_nil)))) (da_nil))))) (dg_tup rfl (dgs_cons (dg_name (pg_name (i := 9) sc_law_.nd rfl (by first | exact Or.inl rfl | exact Or.inr rfl))) (dgs_cons (dg_name (pg_name (i := 10) sc_law_.nd rfl (by first | exact Or.inl rfl | exact Or.inr rfl))) (dgs_cons (dg_name (pg_name (i := 11) sc_law_.nd rfl (by first | exact Or.inl rfl | exact Or.inr rfl))) (dgs_nil)))) rfl)) (dss_cons (ds_setLc (i := 2) (tg := (.nm 12)) (own := [("_law_one", 12)]) rfl sc_law_.nd rfl rfl (sw_true rfl rfl rfl (by decide +kernel)) (di_lst (de_call0 (T.fn .l_designs) hr rfl T.gl_l_designs tk)) (blkOk_by (N := N_law_) (sc := defScope s_law_) (own := [("_law_one", 12)]) (by decide +kernel)) (by decide) (fun _ _ _ _ _ => pg_name (i := 12) sc_law_.nd rfl (by first | exact Or.inl rfl | exact Or.inr rfl)) (fun _ _ _ _ _ => dt_cond (dt_val (de_call (T.fn .l_keeps) hr rfl T.gl_l_keeps takes0 (da_cons (de_var (pv 12)) (da_cons (de_var (pv 10)) (da_cons (de_var (pv 11)) (da_nil))))))) (fun _ _ _ _ _ => de_var (pv 12))) (dss_cons (ds_if (dt_not (dt_val (de_call (T.fn .l_alike) hr rfl T.gl_l_alike tk (da_cons (de_call (T.fn .keepers) hr rfl T.gl_keepers tk (da_cons (de_var (pv 10)) (da_cons (de_var (pv 11)) (da_nil)))) (da_cons (de_callTy call_tuple_of calls_tuple rfl T.m_tuple boot_tuple (da_cons (de_var (pv 2)) (da_nil))) (da_nil)))))) (dss_one (ds_ret (de_bl))) (dss_nil)) (dss_cons (ds_if (dt_not (dt_val (de_call (T.fn .l_alike) hr rfl T.gl_l_alike tk (da_cons (de_call (T.fn .worlds_for) hr rfl T.gl_worlds_for tk (da_cons (de_var (pv 9)) (da_cons (de_var (pv 11)) (da_nil)))) (da_cons (de_callTy call_tuple_of calls_tuple rfl T.m_tuple boot_tuple (da_cons (de_lc (tg := (.nm 12)) (own := [("_law_one", 12)]) rfl sc_law_.nd (di_lst (de_call0 (T.fn .l_worlds) hr rfl T.gl_l_worlds tk)) (blkOk_by (N := N_law_) (sc := defScope s_law_) (own := [("_law_one", 12)]) (by decide +kernel)) (by decide) (fun _ _ _ _ _ => pg_name (i := 12) sc_law_.nd rfl (by first | exact Or.inl rfl | exact Or.inr rfl)) (fun _ _ _ _ _ => dt_cond (dt_val (de_call (T.fn .l_keeps) hr rfl T.gl_l_keeps takes0 (da_cons (de_var (pv 9)) (da_cons (de_var (pv 12)) (da_cons (de_var (pv 11)) (da_nil))))))) (fun _ _ _ _ _ => de_var (pv 12))) (da_nil))) (da_nil)))))) (dss_one (ds_ret (de_bl))) (dss_nil)) (dss_cons (ds_set (i := 3) sc_law_.nd rfl (by first | exact Or.inl rfl | exact Or.inr rfl) (de_callB (cr_sortD hr) calls_sorted rfl T.m_sorted boot_sorted (da_cons (de_lc (tg := (.nm 12)) (own := [("_law_one", 12)]) rfl sc_law_.nd (di_lst (de_var (pv 2))) (blkOk_by (N := N_law_) (sc := defScope s_law_) (own := [("_law_one", 12)]) (by decide +kernel)) (by decide) (fun _ _ _ _ _ => pg_name (i := 12) sc_law_.nd rfl (by first | exact Or.inl rfl | exact Or.inr rfl)) (fun _ _ _ _ _ => dt_yes) (fun _ _ _ _ _ => de_tup (da_cons (de_callB callr_len calls_len rfl T.m_len boot_len (da_cons (de_lc (tg := (.nm 16)) (own := [("_law_at", 16)]) rfl sc_law_.nd (di_range1 rfl T.m_range (da_cons (de_int) (da_nil))) (blkOk_by (N := N_law_) (own := [("_law_at", 16)]) (by kernel_rfl)) (by decide) (fun _ _ _ _ _ => pg_name (i := 16) sc_law_.nd rfl (by first | exact Or.inl rfl | exact Or.inr rfl)) (fun _ _ _ _ _ => dt_cond (dt_cmp (opr_ne hr) ops_ne (de_ix ixr ops_ix (de_var (pv 12)) (de_var (pv 16)) (fun _ _ => rfl)) (de_ix ixr ops_ix (de_var (pv 9)) (de_var (pv 16)) (fun _ _ => rfl)) (by rfl))) (fun _ _ _ _ _ => de_var (pv 16))) (da_nil))) (da_cons (de_var (pv 12)) (da_nil))))) (da_nil)))) (dss_cons (ds_if (dt_not (dt_val (de_call (T.fn .l_alike) hr rfl T.gl_l_alike tk (da_cons (de_call (T.fn .nearest) hr rfl T.gl_nearest tk (da_cons (de_var (pv 9)) (da_cons (de_var (pv 10)) (da_cons (de_var (pv 11)) (da_nil))))) (da_cons (de_if (dt_cmp (opr_neE hr) ops_neE (de_var (pv 3)) (de_lst (da_nil)) (by rfl)) (de_ix ixr ops_ix (de_ix ixr ops_ix (de_var (pv 3)) (de_int) (fun _ _ => rfl)) (de_int) (fun _ _ => rfl)) (de_non)) (da_nil)))))) (dss_one (ds_ret (de_bl))) (dss_nil)) (dss_cons (ds_set (i := 4) sc_law_.nd rfl (by first | exact Or.inl rfl | exact Or.inr rfl) (de_call (T.fn .l_taken) hr rfl T.gl_l_taken tk (da_cons (de_var (pv 1)) (da_cons (de_int) (da_nil))))) (dss_cons (ds_set (i := 5) sc_law_.nd rfl (by first | exact Or.inl rfl | exact Or.inr rfl) (de_call (T.fn .l_kept) hr rfl T.gl_l_kept tk (da_cons (de_var (pv 9)) (da_cons (de_var (pv 10)) (da_nil))))) (dss_cons (ds_setLc (i := 6) (tg := (.nm 12)) (own := [("_law_one", 12)]) rfl sc_law_.nd rfl rfl (sw_true rfl rfl rfl (by decide +kernel)) (di_lst (de_call0 (T.fn .l_designs) hr rfl T.gl_l_designs tk)) (blkOk_by (N := N_law_) (sc := defScope s_law_) (own := [("_law_one", 12)]) (by decide +kernel)) (by decide) (fun _ _ _ _ _ => pg_name (i := 12) sc_law_.nd rfl (by first | exact Or.inl rfl | exact Or.inr rfl)) (fun _ _ _ _ _ => dt_cond (dt_cmp (opr_eq hr) ops_eq (de_op opr_add ops_add (de_sl (de_var (pv 12)) (do_none) (do_some (de_var (pv 4)))) (de_sl (de_var (pv 12)) (do_some (de_op opr_add ops_add (de_var (pv 4)) (de_int))) (do_none))) (de_op opr_add ops_add (de_sl (de_var (pv 9)) (do_none) (do_some (de_var (pv 4)))) (de_sl (de_var (pv 9)) (do_some (de_op opr_add ops_add (de_var (pv 4)) (de_int))) (do_none))) (by rfl))) (fun _ _ _ _ _ => de_var (pv 12))) (dss_cons (ds_if (dt_not (dt_val (de_call (T.fn .l_alike) hr rfl T.gl_l_alike tk (da_cons (de_call (T.fn .harmless) hr rfl T.gl_harmless tk (da_cons (de_var (pv 9)) (da_cons (de_var (pv 10)) (da_cons (de_var (pv 4)) (da_nil))))) (da_cons (de_callTy call_tuple_of calls_tuple rfl T.m_tuple boot_tuple (da_cons (de_lc (tg := (.nm 12)) (own := [("_law_one", 12)]) rfl sc_law_.nd (di_lst (de_var (pv 6))) (blkOk_by (N := N_law_) (sc := defScope s_law_) (own := [("_law_one", 12)]) (by decide +kernel)) (by decide) (fun _ _ _ _ _ => pg_name (i := 12) sc_law_.nd rfl (by first | exact Or.inl rfl | exact Or.inr rfl)) (fun _ _ _ _ _ => dt_cond (dt_val (de_call (T.fn .l_keeps) hr rfl T.gl_l_keeps takes0 (da_cons (de_var (pv 12)) (da_cons (de_var (pv 10)) (da_cons (de_var (pv 5)) (da_nil))))))) (fun _ _ _ _ _ => de_ix ixr ops_ix (de_var (pv 12)) (de_var (pv 4)) (fun _ _ => rfl))) (da_nil))) (da_nil)))))) (dss_one (ds_ret (de_bl))) (dss_nil)) (dss_cons (ds_setLc (i := 7) (tg := (.nm 12)) (own := [("_law_one", 12)]) rfl sc_law_.nd rfl rfl (sw_true rfl rfl rfl (by decide +kernel)) (di_lst (de_call0 (T.fn .l_designs) hr rfl T.gl_l_designs tk)) (blkOk_by (N := N_law_) (sc := defScope s_law_) (own := [("_law_one", 12)]) (by decide +kernel)) (by decide) (fun _ _ _ _ _ => pg_name (i := 12) sc_law_.nd rfl (by first | exact Or.inl rfl | exact Or.inr rfl)) (fun _ _ _ _ _ => dt_yes) (fun _ _ _ _ _ => de_tup (da_cons (de_var (pv 12)) (da_cons (de_call (T.fn .l_kept) hr rfl T.gl_l_kept takes0 (da_cons (de_var (pv 12)) (da_cons (de_var (pv 10)) (da_nil)))) (da_nil))))) (dss_cons (ds_set (i := 8) sc_law_.nd rfl (by first | exact Or.inl rfl | exact Or.inr rfl) (de_newL (da_nil))) (dss_cons (ds_for (tg := (.tp [12, 13])) (passes_of rfl) rfl (di_lst (de_var (pv 7))) (pg_tup rfl (pgs_cons (pg_name (i := 12) sc_law_.nd rfl (by first | exact Or.inl rfl | exact Or.inr rfl)) (pgs_cons (pg_name (i := 13) sc_law_.nd rfl (by first | exact Or.inl rfl | exact Or.inr rfl)) (pgs_nil)))) (dss_one (ds_if (dt_cmp (opr_eqE hr) ops_eqE (de_lc (tg := (.tp [14, 15])) (own := [("_law_other", 14), ("_law_more", 15)]) rfl sc_law_.nd (di_lst (de_var (pv 7))) (blkOk_by (N := N_law_) (sc := defScope s_law_) (own := [("_law_other", 14), ("_law_more", 15)]) (by decide +kernel)) (by decide) (fun _ _ _ _ _ => pg_tup rfl (pgs_cons (pg_name (i := 14) sc_law_.nd rfl (by first | exact Or.inl rfl | exact Or.inr rfl)) (pgs_cons (pg_name (i := 15) sc_law_.nd rfl (by first | exact Or.inl rfl | exact Or.inr rfl)) (pgs_nil)))) (fun _ _ _ _ _ => dt_cond (PW.pt (dw_and (dt_cmp op_gt ops_gt (de_callB callr_len calls_len rfl T.m_len boot_len (da_cons (de_var (pv 15)) (da_nil))) (de_callB callr_len calls_len rfl T.m_len boot_len (da_cons (de_var (pv 13)) (da_nil))) (by rfl)) (dw_and1 (dt_cmp (opr_eqE hr) ops_eqE (de_lc (tg := (.nm 17)) (own := [("_law_word", 17)]) rfl sc_law_.nd (di_lst (de_var (pv 13))) (blkOk_by (N := N_law_) (own := [("_law_word", 17)]) (by kernel_rfl)) (by decide) (fun _ _ _ _ _ => pg_name (i := 17) sc_law_.nd rfl (by first | exact Or.inl rfl | exact Or.inr rfl)) (fun _ _ _ _ _ => dt_cond (dt_cmp (opr_ni hr) ops_ni (de_var (pv 17)) (de_var (pv 15)) (by rfl))) (fun _ _ _ _ _ => de_var (pv 17))) (de_lst (da_nil)) (by rfl)))))) (fun _ _ _ _ _ => de_int)) (de_lst (da_nil)) (by rfl)) (dss_one (ds_expr (de_bm PySem.F.plainAttrs_list PySem.F.slot_list_append PySem.F.type_list_append mt_append mts_app rc_lst (de_var (pv 8)) (da_cons (de_var (pv 12)) (da_nil))))) (dss_nil)))) (dss_one (ds_ret (de_call (T.fn .l_alike) hr rfl T.gl_l_alike tk (da_cons (de_call (T.fn .strongest) hr rfl T.gl_strongest tk (da_cons (de_var (pv 10)) (da_nil))) (da_cons (de_callTy call_tuple_of calls_tuple rfl T.m_tuple boot_tuple (da_cons (de_var (pv 8)) (da_nil))) (da_nil)))))))))))))))))))
end
end CH

namespace CH
open PySem PySem.Spec PyProof.Rows L2
abbrev FnP (K : PySem.W.Frag) (x q : Str) (st : Stmt) (f : Addr) (fd : FuncData) : Prop := FunD K x q (defArgs st) (defBody st) (defScope st) [] [] f fd
def dOf : Fid → He.DefD
  | .is_integer => ⟨atOf .is_integer, "is_integer", "is_integer", defArgs s_is_integer, defBody s_is_integer, defScope s_is_integer, [], []⟩
  | .is_in => ⟨atOf .is_in, "is_in", "is_in", defArgs s_is_in, defBody s_is_in, defScope s_is_in, [], []⟩
  | .is_list => ⟨atOf .is_list, "is_list", "is_list", defArgs s_is_list, defBody s_is_list, defScope s_is_list, [], []⟩
  | .is_choice => ⟨atOf .is_choice, "is_choice", "is_choice", defArgs s_is_choice, defBody s_is_choice, defScope s_is_choice, [], []⟩
  | .all_choices => ⟨atOf .all_choices, "all_choices", "all_choices", defArgs s_all_choices, defBody s_all_choices, defScope s_all_choices, [], []⟩
  | .is_design => ⟨atOf .is_design, "is_design", "is_design", defArgs s_is_design, defBody s_is_design, defScope s_is_design, [], []⟩
  | .is_world => ⟨atOf .is_world, "is_world", "is_world", defArgs s_is_world, defBody s_is_world, defScope s_is_world, [], []⟩
  | .need_design => ⟨atOf .need_design, "need_design", "need_design", defArgs s_need_design, defBody s_need_design, defScope s_need_design, [], []⟩
  | .need_world => ⟨atOf .need_world, "need_world", "need_world", defArgs s_need_world, defBody s_need_world, defScope s_need_world, [], []⟩
  | .need_both => ⟨atOf .need_both, "need_both", "need_both", defArgs s_need_both, defBody s_need_both, defScope s_need_both, [], []⟩
  | .all_designs => ⟨atOf .all_designs, "all_designs", "all_designs", defArgs s_all_designs, defBody s_all_designs, defScope s_all_designs, [], []⟩
  | .all_worlds => ⟨atOf .all_worlds, "all_worlds", "all_worlds", defArgs s_all_worlds, defBody s_all_worlds, defScope s_all_worlds, [], []⟩
  | .need_promises => ⟨atOf .need_promises, "need_promises", "need_promises", defArgs s_need_promises, defBody s_need_promises, defScope s_need_promises, [], []⟩
  | .is_passed_by => ⟨atOf .is_passed_by, "is_passed_by", "is_passed_by", defArgs s_is_passed_by, defBody s_is_passed_by, defScope s_is_passed_by, [], []⟩
  | .is_climbing => ⟨atOf .is_climbing, "is_climbing", "is_climbing", defArgs s_is_climbing, defBody s_is_climbing, defScope s_is_climbing, [], []⟩
  | .is_guarded => ⟨atOf .is_guarded, "is_guarded", "is_guarded", defArgs s_is_guarded, defBody s_is_guarded, defScope s_is_guarded, [], []⟩
  | .rest_holds => ⟨atOf .rest_holds, "rest_holds", "rest_holds", defArgs s_rest_holds, defBody s_rest_holds, defScope s_rest_holds, [], []⟩
  | .fresh_holds => ⟨atOf .fresh_holds, "fresh_holds", "fresh_holds", defArgs s_fresh_holds, defBody s_fresh_holds, defScope s_fresh_holds, [], []⟩
  | .forward_holds => ⟨atOf .forward_holds, "forward_holds", "forward_holds", defArgs s_forward_holds, defBody s_forward_holds, defScope s_forward_holds, [], []⟩
  | .filled_holds => ⟨atOf .filled_holds, "filled_holds", "filled_holds", defArgs s_filled_holds, defBody s_filled_holds, defScope s_filled_holds, [], []⟩
  | .quiet_holds => ⟨atOf .quiet_holds, "quiet_holds", "quiet_holds", defArgs s_quiet_holds, defBody s_quiet_holds, defScope s_quiet_holds, [], []⟩
  | .does_hold => ⟨atOf .does_hold, "does_hold", "does_hold", defArgs s_does_hold, defBody s_does_hold, defScope s_does_hold, [], []⟩
  | .kept_in => ⟨atOf .kept_in, "kept_in", "kept_in", defArgs s_kept_in, defBody s_kept_in, defScope s_kept_in, [], []⟩
  | .keeps => ⟨atOf .keeps, "keeps", "keeps", defArgs s_keeps, defBody s_keeps, defScope s_keeps, [], []⟩
  | .keepers => ⟨atOf .keepers, "keepers", "keepers", defArgs s_keepers, defBody s_keepers, defScope s_keepers, [], []⟩
  | .worlds_for => ⟨atOf .worlds_for, "worlds_for", "worlds_for", defArgs s_worlds_for, defBody s_worlds_for, defScope s_worlds_for, [], []⟩
  | .changes => ⟨atOf .changes, "changes", "changes", defArgs s_changes, defBody s_changes, defScope s_changes, [], []⟩
  | .nearest => ⟨atOf .nearest, "nearest", "nearest", defArgs s_nearest, defBody s_nearest, defScope s_nearest, [], []⟩
  | .strongest => ⟨atOf .strongest, "strongest", "strongest", defArgs s_strongest, defBody s_strongest, defScope s_strongest, [], []⟩
  | .harmless => ⟨atOf .harmless, "harmless", "harmless", defArgs s_harmless, defBody s_harmless, defScope s_harmless, [], []⟩
  | .l_taken => ⟨atOf .l_taken, "_law_taken", "_law_taken", defArgs s_l_taken, defBody s_l_taken, defScope s_l_taken, [], []⟩
  | .l_pick => ⟨atOf .l_pick, "_law_pick", "_law_pick", defArgs s_l_pick, defBody s_l_pick, defScope s_l_pick, [], []⟩
  | .l_alike => ⟨atOf .l_alike, "_law_alike", "_law_alike", defArgs s_l_alike, defBody s_l_alike, defScope s_l_alike, [], []⟩
  | .l_paths => ⟨atOf .l_paths, "_law_paths", "_law_paths", defArgs s_l_paths, defBody s_l_paths, defScope s_l_paths, [], []⟩
  | .l_promises => ⟨atOf .l_promises, "_law_promises", "_law_promises", defArgs s_l_promises, defBody s_l_promises, defScope s_l_promises, [], []⟩
  | .l_holds => ⟨atOf .l_holds, "_law_holds", "_law_holds", defArgs s_l_holds, defBody s_l_holds, defScope s_l_holds, [], []⟩
  | .l_words => ⟨atOf .l_words, "_law_words", "_law_words", defArgs s_l_words, defBody s_l_words, defScope s_l_words, [], []⟩
  | .l_designs => ⟨atOf .l_designs, "_law_designs", "_law_designs", defArgs s_l_designs, defBody s_l_designs, defScope s_l_designs, [], []⟩
  | .l_worlds => ⟨atOf .l_worlds, "_law_worlds", "_law_worlds", defArgs s_l_worlds, defBody s_l_worlds, defScope s_l_worlds, [], []⟩
  | .l_kept => ⟨atOf .l_kept, "_law_kept", "_law_kept", defArgs s_l_kept, defBody s_l_kept, defScope s_l_kept, [], []⟩
  | .l_keeps => ⟨atOf .l_keeps, "_law_keeps", "_law_keeps", defArgs s_l_keeps, defBody s_l_keeps, defScope s_l_keeps, [], []⟩
  | .law_ => ⟨atOf .law_, "law", "law", defArgs s_law_, defBody s_law_, defScope s_law_, [], []⟩
def allF : List Fid := [.is_integer, .is_in, .is_list, .is_choice, .all_choices, .is_design, .is_world, .need_design, .need_world, .need_both, .all_designs, .all_worlds, .need_promises, .is_passed_by, .is_climbing, .is_guarded, .rest_holds, .fresh_holds, .forward_holds, .filled_holds, .quiet_holds, .does_hold, .kept_in, .keeps, .keepers, .worlds_for, .changes, .nearest, .strongest, .harmless, .l_taken, .l_pick, .l_alike, .l_paths, .l_promises, .l_holds, .l_words, .l_designs, .l_worlds, .l_kept, .l_keeps, .law_]
theorem allF_mem : ∀ f : Fid, f ∈ allF := by
  intro f
  unfold allF
  cases f <;> simp
def fnL : List He.DefD := allF.map dOf
def xdL : List ExDef := []
def faL0 : List He.Fa := [.glo "is_integer", .glo "is_in", .glo "is_list", .glo "is_choice", .glo "all_choices", .glo "is_design", .glo "is_world", .glo "need_design", .glo "need_world", .glo "need_both", .glo "all_designs", .glo "all_worlds", .glo "need_promises", .glo "is_passed_by", .glo "is_climbing", .glo "is_guarded", .glo "rest_holds", .glo "fresh_holds", .glo "forward_holds", .glo "filled_holds", .glo "quiet_holds", .glo "does_hold", .glo "kept_in", .glo "keeps", .glo "keepers", .glo "worlds_for", .glo "changes", .glo "nearest", .glo "strongest", .glo "harmless"]
def faL1 : List He.Fa := [.glo "_law_taken", .glo "_law_pick", .glo "_law_alike", .glo "_law_paths", .glo "_law_promises", .glo "_law_holds", .glo "_law_words", .glo "_law_designs", .glo "_law_worlds", .glo "_law_kept", .glo "_law_keeps", .glo "law", .free "all", .free "any", .free "bool", .free "int", .free "isinstance", .free "len", .free "list", .free "min", .free "range", .free "sorted", .free "str", .free "tuple", .free "zip"]
def faL : List He.Fa := faL0 ++ faL1
def coL : List (Str × D) := [("PATHS", k_PATHS), ("GUARDS", k_GUARDS), ("FLIGHTS", k_FLIGHTS), ("DESIGNS", k_DESIGNS), ("PROMISES", k_PROMISES), ("WORLDS", k_WORLDS), ("DROPS_LAST", k_DROPS_LAST), ("VERSIONED", k_VERSIONED)]
def exL (K : PySem.W.Frag) : Bool := (coL.all fun p => chkC K p) && no3B K
theorem bind_of {K : PySem.W.Frag} : ∀ (f : Fid) (fd : FuncData), FnP K (dOf f).name (dOf f).qual (match f with
  | .is_integer => s_is_integer
  | .is_in => s_is_in
  | .is_list => s_is_list
  | .is_choice => s_is_choice
  | .all_choices => s_all_choices
  | .is_design => s_is_design
  | .is_world => s_is_world
  | .need_design => s_need_design
  | .need_world => s_need_world
  | .need_both => s_need_both
  | .all_designs => s_all_designs
  | .all_worlds => s_all_worlds
  | .need_promises => s_need_promises
  | .is_passed_by => s_is_passed_by
  | .is_climbing => s_is_climbing
  | .is_guarded => s_is_guarded
  | .rest_holds => s_rest_holds
  | .fresh_holds => s_fresh_holds
  | .forward_holds => s_forward_holds
  | .filled_holds => s_filled_holds
  | .quiet_holds => s_quiet_holds
  | .does_hold => s_does_hold
  | .kept_in => s_kept_in
  | .keeps => s_keeps
  | .keepers => s_keepers
  | .worlds_for => s_worlds_for
  | .changes => s_changes
  | .nearest => s_nearest
  | .strongest => s_strongest
  | .harmless => s_harmless
  | .l_taken => s_l_taken
  | .l_pick => s_l_pick
  | .l_alike => s_l_alike
  | .l_paths => s_l_paths
  | .l_promises => s_l_promises
  | .l_holds => s_l_holds
  | .l_words => s_l_words
  | .l_designs => s_l_designs
  | .l_worlds => s_l_worlds
  | .l_kept => s_l_kept
  | .l_keeps => s_l_keeps
  | .law_ => s_law_) (He.fAd K (atOf f)) fd → Binds K fd (psOf f) [] ∧ ∀ (s : Shared) (us : List Value), us.length = (psOf f).length → BindsTo s fd ⟨us, []⟩ ((psOf f).zip us)
  | .is_integer, fd, F => ⟨FunD.bindsN (ps := psOf .is_integer) F (fun _ _ _ _ _ _ us hl => match us, hl with | [_], _ => rfl), FunD.bindsA (ps := psOf .is_integer) F fun _ _ _ _ _ _ us hl => match us, hl with | [_], _ => rfl⟩
  | .is_in, fd, F => ⟨FunD.bindsN (ps := psOf .is_in) F (fun _ _ _ _ _ _ us hl => match us, hl with | [_, _, _], _ => rfl), FunD.bindsA (ps := psOf .is_in) F fun _ _ _ _ _ _ us hl => match us, hl with | [_, _, _], _ => rfl⟩
  | .is_list, fd, F => ⟨FunD.bindsN (ps := psOf .is_list) F (fun _ _ _ _ _ _ us hl => match us, hl with | [_, _, _], _ => rfl), FunD.bindsA (ps := psOf .is_list) F fun _ _ _ _ _ _ us hl => match us, hl with | [_, _, _], _ => rfl⟩
  | .is_choice, fd, F => ⟨FunD.bindsN (ps := psOf .is_choice) F (fun _ _ _ _ _ _ us hl => match us, hl with | [_, _], _ => rfl), FunD.bindsA (ps := psOf .is_choice) F fun _ _ _ _ _ _ us hl => match us, hl with | [_, _], _ => rfl⟩
  | .all_choices, fd, F => ⟨FunD.bindsN (ps := psOf .all_choices) F (fun _ _ _ _ _ _ us hl => match us, hl with | [_], _ => rfl), FunD.bindsA (ps := psOf .all_choices) F fun _ _ _ _ _ _ us hl => match us, hl with | [_], _ => rfl⟩
  | .is_design, fd, F => ⟨FunD.bindsN (ps := psOf .is_design) F (fun _ _ _ _ _ _ us hl => match us, hl with | [_], _ => rfl), FunD.bindsA (ps := psOf .is_design) F fun _ _ _ _ _ _ us hl => match us, hl with | [_], _ => rfl⟩
  | .is_world, fd, F => ⟨FunD.bindsN (ps := psOf .is_world) F (fun _ _ _ _ _ _ us hl => match us, hl with | [_], _ => rfl), FunD.bindsA (ps := psOf .is_world) F fun _ _ _ _ _ _ us hl => match us, hl with | [_], _ => rfl⟩
  | .need_design, fd, F => ⟨FunD.bindsN (ps := psOf .need_design) F (fun _ _ _ _ _ _ us hl => match us, hl with | [_], _ => rfl), FunD.bindsA (ps := psOf .need_design) F fun _ _ _ _ _ _ us hl => match us, hl with | [_], _ => rfl⟩
  | .need_world, fd, F => ⟨FunD.bindsN (ps := psOf .need_world) F (fun _ _ _ _ _ _ us hl => match us, hl with | [_], _ => rfl), FunD.bindsA (ps := psOf .need_world) F fun _ _ _ _ _ _ us hl => match us, hl with | [_], _ => rfl⟩
  | .need_both, fd, F => ⟨FunD.bindsN (ps := psOf .need_both) F (fun _ _ _ _ _ _ us hl => match us, hl with | [_, _], _ => rfl), FunD.bindsA (ps := psOf .need_both) F fun _ _ _ _ _ _ us hl => match us, hl with | [_, _], _ => rfl⟩
  | .all_designs, fd, F => ⟨FunD.bindsN (ps := psOf .all_designs) F (fun _ _ _ _ _ _ us hl => match us, hl with | [], _ => rfl), FunD.bindsA (ps := psOf .all_designs) F fun _ _ _ _ _ _ us hl => match us, hl with | [], _ => rfl⟩
  | .all_worlds, fd, F => ⟨FunD.bindsN (ps := psOf .all_worlds) F (fun _ _ _ _ _ _ us hl => match us, hl with | [], _ => rfl), FunD.bindsA (ps := psOf .all_worlds) F fun _ _ _ _ _ _ us hl => match us, hl with | [], _ => rfl⟩
  | .need_promises, fd, F => ⟨FunD.bindsN (ps := psOf .need_promises) F (fun _ _ _ _ _ _ us hl => match us, hl with | [_], _ => rfl), FunD.bindsA (ps := psOf .need_promises) F fun _ _ _ _ _ _ us hl => match us, hl with | [_], _ => rfl⟩
  | .is_passed_by, fd, F => ⟨FunD.bindsN (ps := psOf .is_passed_by) F (fun _ _ _ _ _ _ us hl => match us, hl with | [_], _ => rfl), FunD.bindsA (ps := psOf .is_passed_by) F fun _ _ _ _ _ _ us hl => match us, hl with | [_], _ => rfl⟩
  | .is_climbing, fd, F => ⟨FunD.bindsN (ps := psOf .is_climbing) F (fun _ _ _ _ _ _ us hl => match us, hl with | [_, _], _ => rfl), FunD.bindsA (ps := psOf .is_climbing) F fun _ _ _ _ _ _ us hl => match us, hl with | [_, _], _ => rfl⟩
  | .is_guarded, fd, F => ⟨FunD.bindsN (ps := psOf .is_guarded) F (fun _ _ _ _ _ _ us hl => match us, hl with | [_, _], _ => rfl), FunD.bindsA (ps := psOf .is_guarded) F fun _ _ _ _ _ _ us hl => match us, hl with | [_, _], _ => rfl⟩
  | .rest_holds, fd, F => ⟨FunD.bindsN (ps := psOf .rest_holds) F (fun _ _ _ _ _ _ us hl => match us, hl with | [_, _], _ => rfl), FunD.bindsA (ps := psOf .rest_holds) F fun _ _ _ _ _ _ us hl => match us, hl with | [_, _], _ => rfl⟩
  | .fresh_holds, fd, F => ⟨FunD.bindsN (ps := psOf .fresh_holds) F (fun _ _ _ _ _ _ us hl => match us, hl with | [_, _], _ => rfl), FunD.bindsA (ps := psOf .fresh_holds) F fun _ _ _ _ _ _ us hl => match us, hl with | [_, _], _ => rfl⟩
  | .forward_holds, fd, F => ⟨FunD.bindsN (ps := psOf .forward_holds) F (fun _ _ _ _ _ _ us hl => match us, hl with | [_, _], _ => rfl), FunD.bindsA (ps := psOf .forward_holds) F fun _ _ _ _ _ _ us hl => match us, hl with | [_, _], _ => rfl⟩
  | .filled_holds, fd, F => ⟨FunD.bindsN (ps := psOf .filled_holds) F (fun _ _ _ _ _ _ us hl => match us, hl with | [_, _], _ => rfl), FunD.bindsA (ps := psOf .filled_holds) F fun _ _ _ _ _ _ us hl => match us, hl with | [_, _], _ => rfl⟩
  | .quiet_holds, fd, F => ⟨FunD.bindsN (ps := psOf .quiet_holds) F (fun _ _ _ _ _ _ us hl => match us, hl with | [_, _], _ => rfl), FunD.bindsA (ps := psOf .quiet_holds) F fun _ _ _ _ _ _ us hl => match us, hl with | [_, _], _ => rfl⟩
  | .does_hold, fd, F => ⟨FunD.bindsN (ps := psOf .does_hold) F (fun _ _ _ _ _ _ us hl => match us, hl with | [_, _, _], _ => rfl), FunD.bindsA (ps := psOf .does_hold) F fun _ _ _ _ _ _ us hl => match us, hl with | [_, _, _], _ => rfl⟩
  | .kept_in, fd, F => ⟨FunD.bindsN (ps := psOf .kept_in) F (fun _ _ _ _ _ _ us hl => match us, hl with | [_, _], _ => rfl), FunD.bindsA (ps := psOf .kept_in) F fun _ _ _ _ _ _ us hl => match us, hl with | [_, _], _ => rfl⟩
  | .keeps, fd, F => ⟨FunD.bindsN (ps := psOf .keeps) F (fun _ _ _ _ _ _ us hl => match us, hl with | [_, _, _], _ => rfl), FunD.bindsA (ps := psOf .keeps) F fun _ _ _ _ _ _ us hl => match us, hl with | [_, _, _], _ => rfl⟩
  | .keepers, fd, F => ⟨FunD.bindsN (ps := psOf .keepers) F (fun _ _ _ _ _ _ us hl => match us, hl with | [_, _], _ => rfl), FunD.bindsA (ps := psOf .keepers) F fun _ _ _ _ _ _ us hl => match us, hl with | [_, _], _ => rfl⟩
  | .worlds_for, fd, F => ⟨FunD.bindsN (ps := psOf .worlds_for) F (fun _ _ _ _ _ _ us hl => match us, hl with | [_, _], _ => rfl), FunD.bindsA (ps := psOf .worlds_for) F fun _ _ _ _ _ _ us hl => match us, hl with | [_, _], _ => rfl⟩
  | .changes, fd, F => ⟨FunD.bindsN (ps := psOf .changes) F (fun _ _ _ _ _ _ us hl => match us, hl with | [_, _], _ => rfl), FunD.bindsA (ps := psOf .changes) F fun _ _ _ _ _ _ us hl => match us, hl with | [_, _], _ => rfl⟩
  | .nearest, fd, F => ⟨FunD.bindsN (ps := psOf .nearest) F (fun _ _ _ _ _ _ us hl => match us, hl with | [_, _, _], _ => rfl), FunD.bindsA (ps := psOf .nearest) F fun _ _ _ _ _ _ us hl => match us, hl with | [_, _, _], _ => rfl⟩
  | .strongest, fd, F => ⟨FunD.bindsN (ps := psOf .strongest) F (fun _ _ _ _ _ _ us hl => match us, hl with | [_], _ => rfl), FunD.bindsA (ps := psOf .strongest) F fun _ _ _ _ _ _ us hl => match us, hl with | [_], _ => rfl⟩
  | .harmless, fd, F => ⟨FunD.bindsN (ps := psOf .harmless) F (fun _ _ _ _ _ _ us hl => match us, hl with | [_, _, _], _ => rfl), FunD.bindsA (ps := psOf .harmless) F fun _ _ _ _ _ _ us hl => match us, hl with | [_, _, _], _ => rfl⟩
  | .l_taken, fd, F => ⟨FunD.bindsN (ps := psOf .l_taken) F (fun _ _ _ _ _ _ us hl => match us, hl with | [_, _], _ => rfl), FunD.bindsA (ps := psOf .l_taken) F fun _ _ _ _ _ _ us hl => match us, hl with | [_, _], _ => rfl⟩
  | .l_pick, fd, F => ⟨FunD.bindsN (ps := psOf .l_pick) F (fun _ _ _ _ _ _ us hl => match us, hl with | [_, _], _ => rfl), FunD.bindsA (ps := psOf .l_pick) F fun _ _ _ _ _ _ us hl => match us, hl with | [_, _], _ => rfl⟩
  | .l_alike, fd, F => ⟨FunD.bindsN (ps := psOf .l_alike) F (fun _ _ _ _ _ _ us hl => match us, hl with | [_, _], _ => rfl), FunD.bindsA (ps := psOf .l_alike) F fun _ _ _ _ _ _ us hl => match us, hl with | [_, _], _ => rfl⟩
  | .l_paths, fd, F => ⟨FunD.bindsN (ps := psOf .l_paths) F (fun _ _ _ _ _ _ us hl => match us, hl with | [], _ => rfl), FunD.bindsA (ps := psOf .l_paths) F fun _ _ _ _ _ _ us hl => match us, hl with | [], _ => rfl⟩
  | .l_promises, fd, F => ⟨FunD.bindsN (ps := psOf .l_promises) F (fun _ _ _ _ _ _ us hl => match us, hl with | [], _ => rfl), FunD.bindsA (ps := psOf .l_promises) F fun _ _ _ _ _ _ us hl => match us, hl with | [], _ => rfl⟩
  | .l_holds, fd, F => ⟨FunD.bindsN (ps := psOf .l_holds) F (fun _ _ _ _ _ _ us hl => match us, hl with | [_, _, _], _ => rfl), FunD.bindsA (ps := psOf .l_holds) F fun _ _ _ _ _ _ us hl => match us, hl with | [_, _, _], _ => rfl⟩
  | .l_words, fd, F => ⟨FunD.bindsN (ps := psOf .l_words) F (fun _ _ _ _ _ _ us hl => match us, hl with | [_, _], _ => rfl), FunD.bindsA (ps := psOf .l_words) F fun _ _ _ _ _ _ us hl => match us, hl with | [_, _], _ => rfl⟩
  | .l_designs, fd, F => ⟨FunD.bindsN (ps := psOf .l_designs) F (fun _ _ _ _ _ _ us hl => match us, hl with | [], _ => rfl), FunD.bindsA (ps := psOf .l_designs) F fun _ _ _ _ _ _ us hl => match us, hl with | [], _ => rfl⟩
  | .l_worlds, fd, F => ⟨FunD.bindsN (ps := psOf .l_worlds) F (fun _ _ _ _ _ _ us hl => match us, hl with | [], _ => rfl), FunD.bindsA (ps := psOf .l_worlds) F fun _ _ _ _ _ _ us hl => match us, hl with | [], _ => rfl⟩
  | .l_kept, fd, F => ⟨FunD.bindsN (ps := psOf .l_kept) F (fun _ _ _ _ _ _ us hl => match us, hl with | [_, _], _ => rfl), FunD.bindsA (ps := psOf .l_kept) F fun _ _ _ _ _ _ us hl => match us, hl with | [_, _], _ => rfl⟩
  | .l_keeps, fd, F => ⟨FunD.bindsN (ps := psOf .l_keeps) F (fun _ _ _ _ _ _ us hl => match us, hl with | [_, _, _], _ => rfl), FunD.bindsA (ps := psOf .l_keeps) F fun _ _ _ _ _ _ us hl => match us, hl with | [_, _, _], _ => rfl⟩
  | .law_, fd, F => ⟨FunD.bindsN (ps := psOf .law_) F (fun _ _ _ _ _ _ us hl => match us, hl with | [_], _ => rfl), FunD.bindsA (ps := psOf .law_) F fun _ _ _ _ _ _ us hl => match us, hl with | [_], _ => rfl⟩
section
variable {P : Program} {w : World} {K : PySem.W.Frag} {mg : Str → Option Value} {h : Heap}
theorem fun_of (c : He.SaysD faL fnL K) (f : Fid) : ∃ fd, FnP K (dOf f).name (dOf f).qual (match f with
  | .is_integer => s_is_integer
  | .is_in => s_is_in
  | .is_list => s_is_list
  | .is_choice => s_is_choice
  | .all_choices => s_all_choices
  | .is_design => s_is_design
  | .is_world => s_is_world
  | .need_design => s_need_design
  | .need_world => s_need_world
  | .need_both => s_need_both
  | .all_designs => s_all_designs
  | .all_worlds => s_all_worlds
  | .need_promises => s_need_promises
  | .is_passed_by => s_is_passed_by
  | .is_climbing => s_is_climbing
  | .is_guarded => s_is_guarded
  | .rest_holds => s_rest_holds
  | .fresh_holds => s_fresh_holds
  | .forward_holds => s_forward_holds
  | .filled_holds => s_filled_holds
  | .quiet_holds => s_quiet_holds
  | .does_hold => s_does_hold
  | .kept_in => s_kept_in
  | .keeps => s_keeps
  | .keepers => s_keepers
  | .worlds_for => s_worlds_for
  | .changes => s_changes
  | .nearest => s_nearest
  | .strongest => s_strongest
  | .harmless => s_harmless
  | .l_taken => s_l_taken
  | .l_pick => s_l_pick
  | .l_alike => s_l_alike
  | .l_paths => s_l_paths
  | .l_promises => s_l_promises
  | .l_holds => s_l_holds
  | .l_words => s_l_words
  | .l_designs => s_l_designs
  | .l_worlds => s_l_worlds
  | .l_kept => s_l_kept
  | .l_keeps => s_l_keeps
  | .law_ => s_law_) (He.fAd K (atOf f)) fd := by
  have hm : dOf f ∈ fnL := List.mem_map_of_mem (allF_mem f)
  obtain ⟨fd, F⟩ := He.SaysD.defs c hm
  cases f <;> exact ⟨fd, F⟩
theorem tab_of (X : K.In h) (G : h.Ns mainGlobals mg) (c : He.SaysD faL fnL K) (ce : exL K = true) {base : Heap} {n : Nat} (fn : ∀ f : Fid, FT P w K mg base (2 * n) (psOf f) (callF n f) (He.fAd K (atOf f))) : Tab P w K mg base n where
  fn := fn
  no3 := no3B_ok (He.ba ce).2
  gl_is_integer := He.glo_ok X G (c.fact 0 (f := .glo "is_integer") rfl)
  gl_is_in := He.glo_ok X G (c.fact 1 (f := .glo "is_in") rfl)
  gl_is_list := He.glo_ok X G (c.fact 2 (f := .glo "is_list") rfl)
  gl_is_choice := He.glo_ok X G (c.fact 3 (f := .glo "is_choice") rfl)
  gl_all_choices := He.glo_ok X G (c.fact 4 (f := .glo "all_choices") rfl)
  gl_is_design := He.glo_ok X G (c.fact 5 (f := .glo "is_design") rfl)
  gl_is_world := He.glo_ok X G (c.fact 6 (f := .glo "is_world") rfl)
  gl_need_design := He.glo_ok X G (c.fact 7 (f := .glo "need_design") rfl)
  gl_need_world := He.glo_ok X G (c.fact 8 (f := .glo "need_world") rfl)
  gl_need_both := He.glo_ok X G (c.fact 9 (f := .glo "need_both") rfl)
  gl_all_designs := He.glo_ok X G (c.fact 10 (f := .glo "all_designs") rfl)
  gl_all_worlds := He.glo_ok X G (c.fact 11 (f := .glo "all_worlds") rfl)
  gl_need_promises := He.glo_ok X G (c.fact 12 (f := .glo "need_promises") rfl)
  gl_is_passed_by := He.glo_ok X G (c.fact 13 (f := .glo "is_passed_by") rfl)
  gl_is_climbing := He.glo_ok X G (c.fact 14 (f := .glo "is_climbing") rfl)
  gl_is_guarded := He.glo_ok X G (c.fact 15 (f := .glo "is_guarded") rfl)
  gl_rest_holds := He.glo_ok X G (c.fact 16 (f := .glo "rest_holds") rfl)
  gl_fresh_holds := He.glo_ok X G (c.fact 17 (f := .glo "fresh_holds") rfl)
  gl_forward_holds := He.glo_ok X G (c.fact 18 (f := .glo "forward_holds") rfl)
  gl_filled_holds := He.glo_ok X G (c.fact 19 (f := .glo "filled_holds") rfl)
  gl_quiet_holds := He.glo_ok X G (c.fact 20 (f := .glo "quiet_holds") rfl)
  gl_does_hold := He.glo_ok X G (c.fact 21 (f := .glo "does_hold") rfl)
  gl_kept_in := He.glo_ok X G (c.fact 22 (f := .glo "kept_in") rfl)
  gl_keeps := He.glo_ok X G (c.fact 23 (f := .glo "keeps") rfl)
  gl_keepers := He.glo_ok X G (c.fact 24 (f := .glo "keepers") rfl)
  gl_worlds_for := He.glo_ok X G (c.fact 25 (f := .glo "worlds_for") rfl)
  gl_changes := He.glo_ok X G (c.fact 26 (f := .glo "changes") rfl)
  gl_nearest := He.glo_ok X G (c.fact 27 (f := .glo "nearest") rfl)
  gl_strongest := He.glo_ok X G (c.fact 28 (f := .glo "strongest") rfl)
  gl_harmless := He.glo_ok X G (c.fact 29 (f := .glo "harmless") rfl)
  gl_l_taken := He.glo_ok X G (c.fact 30 (f := .glo "_law_taken") rfl)
  gl_l_pick := He.glo_ok X G (c.fact 31 (f := .glo "_law_pick") rfl)
  gl_l_alike := He.glo_ok X G (c.fact 32 (f := .glo "_law_alike") rfl)
  gl_l_paths := He.glo_ok X G (c.fact 33 (f := .glo "_law_paths") rfl)
  gl_l_promises := He.glo_ok X G (c.fact 34 (f := .glo "_law_promises") rfl)
  gl_l_holds := He.glo_ok X G (c.fact 35 (f := .glo "_law_holds") rfl)
  gl_l_words := He.glo_ok X G (c.fact 36 (f := .glo "_law_words") rfl)
  gl_l_designs := He.glo_ok X G (c.fact 37 (f := .glo "_law_designs") rfl)
  gl_l_worlds := He.glo_ok X G (c.fact 38 (f := .glo "_law_worlds") rfl)
  gl_l_kept := He.glo_ok X G (c.fact 39 (f := .glo "_law_kept") rfl)
  gl_l_keeps := He.glo_ok X G (c.fact 40 (f := .glo "_law_keeps") rfl)
  gl_law_ := He.glo_ok X G (c.fact 41 (f := .glo "law") rfl)
  m_all := He.free_ok X G (c.fact 42 (f := .free "all") rfl)
  m_any := He.free_ok X G (c.fact 43 (f := .free "any") rfl)
  m_bool := He.free_ok X G (c.fact 44 (f := .free "bool") rfl)
  m_int := He.free_ok X G (c.fact 45 (f := .free "int") rfl)
  m_isinstance := He.free_ok X G (c.fact 46 (f := .free "isinstance") rfl)
  m_len := He.free_ok X G (c.fact 47 (f := .free "len") rfl)
  m_list := He.free_ok X G (c.fact 48 (f := .free "list") rfl)
  m_min := He.free_ok X G (c.fact 49 (f := .free "min") rfl)
  m_range := He.free_ok X G (c.fact 50 (f := .free "range") rfl)
  m_sorted := He.free_ok X G (c.fact 51 (f := .free "sorted") rfl)
  m_str := He.free_ok X G (c.fact 52 (f := .free "str") rfl)
  m_tuple := He.free_ok X G (c.fact 53 (f := .free "tuple") rfl)
  m_zip := He.free_ok X G (c.fact 54 (f := .free "zip") rfl)
  c_PATHS := chkC_ok X G (List.all_eq_true.mp (He.ba ce).1 _ (List.mem_of_getElem? (i := 0) (show coL[0]? = some (("PATHS" : Str), k_PATHS) from rfl)))
  c_GUARDS := chkC_ok X G (List.all_eq_true.mp (He.ba ce).1 _ (List.mem_of_getElem? (i := 1) (show coL[1]? = some (("GUARDS" : Str), k_GUARDS) from rfl)))
  c_FLIGHTS := chkC_ok X G (List.all_eq_true.mp (He.ba ce).1 _ (List.mem_of_getElem? (i := 2) (show coL[2]? = some (("FLIGHTS" : Str), k_FLIGHTS) from rfl)))
  c_DESIGNS := chkC_ok X G (List.all_eq_true.mp (He.ba ce).1 _ (List.mem_of_getElem? (i := 3) (show coL[3]? = some (("DESIGNS" : Str), k_DESIGNS) from rfl)))
  c_PROMISES := chkC_ok X G (List.all_eq_true.mp (He.ba ce).1 _ (List.mem_of_getElem? (i := 4) (show coL[4]? = some (("PROMISES" : Str), k_PROMISES) from rfl)))
  c_WORLDS := chkC_ok X G (List.all_eq_true.mp (He.ba ce).1 _ (List.mem_of_getElem? (i := 5) (show coL[5]? = some (("WORLDS" : Str), k_WORLDS) from rfl)))
  c_DROPS_LAST := chkC_ok X G (List.all_eq_true.mp (He.ba ce).1 _ (List.mem_of_getElem? (i := 6) (show coL[6]? = some (("DROPS_LAST" : Str), k_DROPS_LAST) from rfl)))
  c_VERSIONED := chkC_ok X G (List.all_eq_true.mp (He.ba ce).1 _ (List.mem_of_getElem? (i := 7) (show coL[7]? = some (("VERSIONED" : Str), k_VERSIONED) from rfl)))
theorem step_of {base : Heap} {n : Nat} (T : Tab P w K mg base n) (c : He.SaysD faL fnL K) : ∀ f : Fid, FT P w K mg base (2 * (n + 1)) (psOf f) (callF (n + 1) f) (He.fAd K (atOf f))
  | .is_integer => by
    obtain ⟨fd, F⟩ := fun_of c .is_integer
    exact (FT.of (N := N_is_integer) (b := b_is_integer (callF n)) F sc_is_integer (bind_of .is_integer fd F) fun cdv A outer s H E hr => d_is_integer T hr)
  | .is_in => by
    obtain ⟨fd, F⟩ := fun_of c .is_in
    exact (FT.of (N := N_is_in) (b := b_is_in (callF n)) F sc_is_in (bind_of .is_in fd F) fun cdv A outer s H E hr => d_is_in T hr)
  | .is_list => by
    obtain ⟨fd, F⟩ := fun_of c .is_list
    exact (FT.of (N := N_is_list) (b := b_is_list (callF n)) F sc_is_list (bind_of .is_list fd F) fun cdv A outer s H E hr => d_is_list T hr)
  | .is_choice => by
    obtain ⟨fd, F⟩ := fun_of c .is_choice
    exact (FT.of (N := N_is_choice) (b := b_is_choice (callF n)) F sc_is_choice (bind_of .is_choice fd F) fun cdv A outer s H E hr => d_is_choice T hr)
  | .all_choices => by
    obtain ⟨fd, F⟩ := fun_of c .all_choices
    exact (FT.of (N := N_all_choices) (b := b_all_choices (callF n)) F sc_all_choices (bind_of .all_choices fd F) fun cdv A outer s H E hr => d_all_choices T hr)
  | .is_design => by
    obtain ⟨fd, F⟩ := fun_of c .is_design
    exact (FT.of (N := N_is_design) (b := b_is_design (callF n)) F sc_is_design (bind_of .is_design fd F) fun cdv A outer s H E hr => d_is_design T hr)
  | .is_world => by
    obtain ⟨fd, F⟩ := fun_of c .is_world
    exact (FT.of (N := N_is_world) (b := b_is_world (callF n)) F sc_is_world (bind_of .is_world fd F) fun cdv A outer s H E hr => d_is_world T hr)
  | .need_design => by
    obtain ⟨fd, F⟩ := fun_of c .need_design
    exact (FT.of (N := N_need_design) (b := b_need_design (callF n)) F sc_need_design (bind_of .need_design fd F) fun cdv A outer s H E hr => d_need_design T hr)
  | .need_world => by
    obtain ⟨fd, F⟩ := fun_of c .need_world
    exact (FT.of (N := N_need_world) (b := b_need_world (callF n)) F sc_need_world (bind_of .need_world fd F) fun cdv A outer s H E hr => d_need_world T hr)
  | .need_both => by
    obtain ⟨fd, F⟩ := fun_of c .need_both
    exact (FT.of (N := N_need_both) (b := b_need_both (callF n)) F sc_need_both (bind_of .need_both fd F) fun cdv A outer s H E hr => d_need_both T hr)
  | .all_designs => by
    obtain ⟨fd, F⟩ := fun_of c .all_designs
    exact (FT.of (N := N_all_designs) (b := b_all_designs (callF n)) F sc_all_designs (bind_of .all_designs fd F) fun cdv A outer s H E hr => d_all_designs T hr)
  | .all_worlds => by
    obtain ⟨fd, F⟩ := fun_of c .all_worlds
    exact (FT.of (N := N_all_worlds) (b := b_all_worlds (callF n)) F sc_all_worlds (bind_of .all_worlds fd F) fun cdv A outer s H E hr => d_all_worlds T hr)
  | .need_promises => by
    obtain ⟨fd, F⟩ := fun_of c .need_promises
    exact (FT.of (N := N_need_promises) (b := b_need_promises (callF n)) F sc_need_promises (bind_of .need_promises fd F) fun cdv A outer s H E hr => d_need_promises T hr)
  | .is_passed_by => by
    obtain ⟨fd, F⟩ := fun_of c .is_passed_by
    exact (FT.of (N := N_is_passed_by) (b := b_is_passed_by (callF n)) F sc_is_passed_by (bind_of .is_passed_by fd F) fun cdv A outer s H E hr => d_is_passed_by T hr)
  | .is_climbing => by
    obtain ⟨fd, F⟩ := fun_of c .is_climbing
    exact (FT.of (N := N_is_climbing) (b := b_is_climbing (callF n)) F sc_is_climbing (bind_of .is_climbing fd F) fun cdv A outer s H E hr => d_is_climbing T hr)
  | .is_guarded => by
    obtain ⟨fd, F⟩ := fun_of c .is_guarded
    exact (FT.of (N := N_is_guarded) (b := b_is_guarded (callF n)) F sc_is_guarded (bind_of .is_guarded fd F) fun cdv A outer s H E hr => d_is_guarded T hr)
  | .rest_holds => by
    obtain ⟨fd, F⟩ := fun_of c .rest_holds
    exact (FT.of (N := N_rest_holds) (b := b_rest_holds (callF n)) F sc_rest_holds (bind_of .rest_holds fd F) fun cdv A outer s H E hr => d_rest_holds T hr)
  | .fresh_holds => by
    obtain ⟨fd, F⟩ := fun_of c .fresh_holds
    exact (FT.of (N := N_fresh_holds) (b := b_fresh_holds (callF n)) F sc_fresh_holds (bind_of .fresh_holds fd F) fun cdv A outer s H E hr => d_fresh_holds T hr)
  | .forward_holds => by
    obtain ⟨fd, F⟩ := fun_of c .forward_holds
    exact (FT.of (N := N_forward_holds) (b := b_forward_holds (callF n)) F sc_forward_holds (bind_of .forward_holds fd F) fun cdv A outer s H E hr => d_forward_holds T hr)
  | .filled_holds => by
    obtain ⟨fd, F⟩ := fun_of c .filled_holds
    exact (FT.of (N := N_filled_holds) (b := b_filled_holds (callF n)) F sc_filled_holds (bind_of .filled_holds fd F) fun cdv A outer s H E hr => d_filled_holds T hr)
  | .quiet_holds => by
    obtain ⟨fd, F⟩ := fun_of c .quiet_holds
    exact (FT.of (N := N_quiet_holds) (b := b_quiet_holds (callF n)) F sc_quiet_holds (bind_of .quiet_holds fd F) fun cdv A outer s H E hr => d_quiet_holds T hr)
  | .does_hold => by
    obtain ⟨fd, F⟩ := fun_of c .does_hold
    exact (FT.of (N := N_does_hold) (b := b_does_hold (callF n)) F sc_does_hold (bind_of .does_hold fd F) fun cdv A outer s H E hr => d_does_hold T hr)
  | .kept_in => by
    obtain ⟨fd, F⟩ := fun_of c .kept_in
    exact (FT.of (N := N_kept_in) (b := b_kept_in (callF n)) F sc_kept_in (bind_of .kept_in fd F) fun cdv A outer s H E hr => d_kept_in T hr)
  | .keeps => by
    obtain ⟨fd, F⟩ := fun_of c .keeps
    exact (FT.of (N := N_keeps) (b := b_keeps (callF n)) F sc_keeps (bind_of .keeps fd F) fun cdv A outer s H E hr => d_keeps T hr)
  | .keepers => by
    obtain ⟨fd, F⟩ := fun_of c .keepers
    exact (FT.of (N := N_keepers) (b := b_keepers (callF n)) F sc_keepers (bind_of .keepers fd F) fun cdv A outer s H E hr => d_keepers T hr)
  | .worlds_for => by
    obtain ⟨fd, F⟩ := fun_of c .worlds_for
    exact (FT.of (N := N_worlds_for) (b := b_worlds_for (callF n)) F sc_worlds_for (bind_of .worlds_for fd F) fun cdv A outer s H E hr => d_worlds_for T hr)
  | .changes => by
    obtain ⟨fd, F⟩ := fun_of c .changes
    exact (FT.of (N := N_changes) (b := b_changes (callF n)) F sc_changes (bind_of .changes fd F) fun cdv A outer s H E hr => d_changes T hr)
  | .nearest => by
    obtain ⟨fd, F⟩ := fun_of c .nearest
    exact (FT.of (N := N_nearest) (b := b_nearest (callF n)) F sc_nearest (bind_of .nearest fd F) fun cdv A outer s H E hr => d_nearest T hr)
  | .strongest => by
    obtain ⟨fd, F⟩ := fun_of c .strongest
    exact (FT.of (N := N_strongest) (b := b_strongest (callF n)) F sc_strongest (bind_of .strongest fd F) fun cdv A outer s H E hr => d_strongest T hr)
  | .harmless => by
    obtain ⟨fd, F⟩ := fun_of c .harmless
    exact (FT.of (N := N_harmless) (b := b_harmless (callF n)) F sc_harmless (bind_of .harmless fd F) fun cdv A outer s H E hr => d_harmless T hr)
  | .l_taken => by
    obtain ⟨fd, F⟩ := fun_of c .l_taken
    exact (FT.of (N := N_l_taken) (b := b_l_taken (callF n)) F sc_l_taken (bind_of .l_taken fd F) fun cdv A outer s H E hr => d_l_taken T hr)
  | .l_pick => by
    obtain ⟨fd, F⟩ := fun_of c .l_pick
    exact (FT.of (N := N_l_pick) (b := b_l_pick (callF n)) F sc_l_pick (bind_of .l_pick fd F) fun cdv A outer s H E hr => d_l_pick T hr)
  | .l_alike => by
    obtain ⟨fd, F⟩ := fun_of c .l_alike
    exact (FT.of (N := N_l_alike) (b := b_l_alike (callF n)) F sc_l_alike (bind_of .l_alike fd F) fun cdv A outer s H E hr => d_l_alike T hr)
  | .l_paths => by
    obtain ⟨fd, F⟩ := fun_of c .l_paths
    exact (FT.of (N := N_l_paths) (b := b_l_paths (callF n)) F sc_l_paths (bind_of .l_paths fd F) fun cdv A outer s H E hr => d_l_paths T hr)
  | .l_promises => by
    obtain ⟨fd, F⟩ := fun_of c .l_promises
    exact (FT.of (N := N_l_promises) (b := b_l_promises (callF n)) F sc_l_promises (bind_of .l_promises fd F) fun cdv A outer s H E hr => d_l_promises T hr)
  | .l_holds => by
    obtain ⟨fd, F⟩ := fun_of c .l_holds
    exact FT.iso (FT.of (N := N_l_holds) (b := b_l_holds (callF n)) F sc_l_holds (bind_of .l_holds fd F) fun cdv A outer s H E hr => d_l_holds T hr)
  | .l_words => by
    obtain ⟨fd, F⟩ := fun_of c .l_words
    exact (FT.of (N := N_l_words) (b := b_l_words (callF n)) F sc_l_words (bind_of .l_words fd F) fun cdv A outer s H E hr => d_l_words T hr)
  | .l_designs => by
    obtain ⟨fd, F⟩ := fun_of c .l_designs
    exact (FT.of (N := N_l_designs) (b := b_l_designs (callF n)) F sc_l_designs (bind_of .l_designs fd F) fun cdv A outer s H E hr => d_l_designs T hr)
  | .l_worlds => by
    obtain ⟨fd, F⟩ := fun_of c .l_worlds
    exact (FT.of (N := N_l_worlds) (b := b_l_worlds (callF n)) F sc_l_worlds (bind_of .l_worlds fd F) fun cdv A outer s H E hr => d_l_worlds T hr)
  | .l_kept => by
    obtain ⟨fd, F⟩ := fun_of c .l_kept
    exact (FT.of (N := N_l_kept) (b := b_l_kept (callF n)) F sc_l_kept (bind_of .l_kept fd F) fun cdv A outer s H E hr => d_l_kept T hr)
  | .l_keeps => by
    obtain ⟨fd, F⟩ := fun_of c .l_keeps
    exact (FT.of (N := N_l_keeps) (b := b_l_keeps (callF n)) F sc_l_keeps (bind_of .l_keeps fd F) fun cdv A outer s H E hr => d_l_keeps T hr)
  | .law_ => by
    obtain ⟨fd, F⟩ := fun_of c .law_
    exact (FT.of (N := N_law_) (b := b_law_ (callF n)) F sc_law_ (bind_of .law_ fd F) fun cdv A outer s H E hr => d_law_ T hr)
theorem all_of (X : K.In h) (G : h.Ns mainGlobals mg) (c : He.SaysD faL fnL K) (ce : exL K = true) {base : Heap} : ∀ (n : Nat) (f : Fid), FT P w K mg base (2 * n) (psOf f) (callF n f) (He.fAd K (atOf f))
  | 0, f => by
    obtain ⟨fd, F⟩ := fun_of c f
    exact FT.bad (bind_of f fd F) F.kp
  | n + 1, f => step_of (tab_of X G c ce (all_of X G c ce n)) c f
theorem law_ok {base : Heap} {n : Nat} (T : Tab P w K mg base n) {fd : FuncData} (F : FnP K (dOf .law_).name (dOf .law_).qual s_law_ (He.fAd K (atOf .law_)) fd) : FnOk P w K mg base (L2.CX P w) (2 * (n + 1)) (He.fAd K (atOf .law_)) fd (psOf .law_) (spD ⟨K, mg⟩ 1 (callF (n + 1) .law_)) :=
  FT.of_ok (N := N_law_) (b := b_law_ (callF n)) F sc_law_ fun cdv A outer s H E hr => d_law_ T hr
end
def loose0 : List Str := ["__name__", "is_integer", "is_in", "is_list", "CacheError", "BadDesign", "BadWorld", "BadPromises", "BadNumber", "PATHS", "GUARDS", "FLIGHTS"]
def loose1 : List Str := ["DESIGNS", "WORLDS", "is_choice", "all_choices", "is_design", "is_world", "need_design", "need_world", "need_both", "all_designs", "all_worlds", "PROMISES"]
def loose2 : List Str := ["need_promises", "DROPS_LAST", "VERSIONED", "is_passed_by", "is_climbing", "is_guarded", "rest_holds", "fresh_holds", "forward_holds", "filled_holds", "quiet_holds", "does_hold"]
def loose3 : List Str := ["kept_in", "keeps", "keepers", "worlds_for", "changes", "nearest", "strongest", "harmless", "_law_taken", "_law_pick", "_law_alike", "_law_paths"]
def loose4 : List Str := ["_law_promises", "_law_holds", "_law_words", "_law_designs", "_law_worlds", "_law_kept", "_law_keeps"]
def looseL : List Str := loose0 ++ loose1 ++ loose2 ++ loose3 ++ loose4
abbrev RR : PySem.W.OpenRow := PySem.W.OpenLaw.row PySem.Challenge.rw_cacheheld_k07_whole_choices
abbrev hkL : PySem.W.Hook := hookF (PySem.Challenge.rw_cacheheld_k07_whole_choices).prog.main.file faL fnL exL xdL
def obL (s : PySem.W.SharedT) : AlE := obsF (PySem.Challenge.rw_cacheheld_k07_whole_choices).prog.main.file faL fnL exL xdL (HandSHeadRun.getT s)
theorem obL_eq (s : PySem.W.SharedT) : obL s = hkL.obs s.abs := obsF_eq (HandSHeadRun.getT_eq s)
theorem runL (w : World) : HandSHeadRun.RunEq RR (PySem.W.view RR.prog [61]) hkL obL 6000 looseL w := by
  intro os
  kernel_rfl
end CH
open PySem PySem.W PySem.Calls PyProof.Rows
theorem CH.law_red (hlaw : ∀ ns : List Int, ns.length ≤ 63 → ∃ h', CH.callF 40 .law_ [.scr ns] [] = .ok (.bl true) h') : PySem.Challenge.rw_cacheheld_k07_whole_choices.Holds := by
  w_on; o_law
  refine HandSHeadRun.head_any (r := OpenLaw.row PySem.Challenge.rw_cacheheld_k07_whole_choices) (q := view (OpenLaw.row PySem.Challenge.rw_cacheheld_k07_whole_choices).prog [61]) (H := CH.hkL) (ob := CH.obL) (M := 6000) (loose := CH.looseL) (d := HandSHeadRun.topDef (OpenLaw.row PySem.Challenge.rw_cacheheld_k07_whole_choices).prog 61) (kwd := []) CH.obL_eq
    (by kernel_rfl) (fun s => by kernel_rfl) CH.runL (by kernel_rfl) (by kernel_rfl) (by kernel_rfl) (by rfl) (by first | assumption | decide +kernel) (by decide +kernel) ⟨rfl, rfl, rfl, rfl, rfl, by decide +kernel⟩ ?hw ?hc
  case hw => w_witness2
  case hc =>
    refine CH.walk_ofW (l := PySem.Challenge.rw_cacheheld_k07_whole_choices) (n := 63) (k := 80) (x := "_law_script") (CX := fun w => L2.CX (PySem.Challenge.rw_cacheheld_k07_whole_choices).prog w) rfl (by decide) (by kernel_rfl) ⟨rfl, by decide, by decide⟩ ?F (fun w => CH.cx_no)
    intro w mg fa h Y G hmg0
    obtain ⟨K, KX, c, cx⟩ := Y
    have hmg : mg ("law" : PySem.Str) = some (.ref fa) := by
      have e : (HandSHeadRun.topDef (OpenLaw.row PySem.Challenge.rw_cacheheld_k07_whole_choices).prog 61).name = ("law" : PySem.Str) := by kernel_rfl
      rw [← e]
      exact hmg0
    have cd : He.SaysD CH.faL CH.fnL K := c.t.d
    have e := hmg.symm.trans (He.glo_ok KX G (cd.fact 41 (f := .glo "law") rfl))
    cases e
    obtain ⟨fd, F⟩ := CH.fun_of cd .law_
    refine ⟨K, fd, CH.spD ⟨K, mg⟩ 1 (CH.callF 40 .law_), KX, fun s u => (CH.bind_of .law_ fd F).2 s [u] rfl, fun H a ns hl hO hS => CH.sp_law hO hS (hlaw ns hl), fun base hb hg => ?_⟩
    exact CH.law_ok (CH.tab_of KX G cd c.more (CH.all_of (P := (PySem.Challenge.rw_cacheheld_k07_whole_choices).prog) (w := w) KX G cd c.more (base := base) 39)) F

/-! P0: rules for reckoning with mirrors. -/
namespace CH
open PySem L2
theorem ofString_inj {a b : String} : (Str.ofString a = Str.ofString b) = (a = b) := by
  apply propext
  constructor
  · intro h
    rw [Str.ofString_eq_toList, Str.ofString_eq_toList] at h
    injection h with h
    have h := congrArg Array.toList h
    exact String.toList_inj.mp ((List.map_inj_right (f := Char.toNat) (fun a b e => Char.toNat_inj.mp e)).mp h)
  · rintro rfl; rfl
theorem atI0 {α : Type} {a : α} {xs : List α} : atI (a :: xs) 0 = some a := by
  have := atI_nat (xs := a :: xs) (j := 0) (v := a) rfl
  simpa using this
theorem atI1 {α : Type} {a b : α} {xs : List α} : atI (a :: b :: xs) 1 = some b := by
  have := atI_nat (xs := a :: b :: xs) (j := 1) (v := b) rfl
  simpa using this
theorem atI2 {α : Type} {a b c : α} {xs : List α} : atI (a :: b :: c :: xs) 2 = some c := by
  have := atI_nat (xs := a :: b :: c :: xs) (j := 2) (v := c) rfl
  simpa using this
theorem atI3 {α : Type} {a b c d : α} {xs : List α} : atI (a :: b :: c :: d :: xs) 3 = some d := by
  have := atI_nat (xs := a :: b :: c :: d :: xs) (j := 3) (v := d) rfl
  simpa using this
/-! shaped texts -/
theorem char_lt (c : Char) : c.toNat < 0x110000 := by
  have h := c.valid
  rcases h with h | ⟨_, h⟩
  · exact Nat.lt_of_lt_of_le h (by decide)
  · exact h
theorem strOk_of (x : String) : PyData.strOk (Str.ofString x) = true := by
  unfold PyData.strOk
  rw [Str.ofString_eq_toList]
  rw [← Array.all_toList, List.all_eq_true]
  intro n hn
  obtain ⟨c, _, rfl⟩ := List.mem_map.mp hn
  exact decide_eq_true (char_lt c)
theorem pyOk_str {n : Nat} {x : String} : pyOk n (.str (Str.ofString x)) = true := by
  have h : SeqAt.shaped (.str (Str.ofString x)) = true := by
    unfold SeqAt.shaped PyData.canLay0
    rw [strOk_of]
    rfl
  cases n <;> exact h
theorem pyOk_non {n : Nat} : pyOk n .non = true := by cases n <;> rfl
theorem pyOk_bl {n : Nat} {b : Bool} : pyOk n (.bl b) = true := by cases n <;> rfl
theorem pyOk_int {n : Nat} {i : Int} : pyOk n (.int i) = true := by cases n <;> rfl
theorem pyOk_tup {n : Nat} {xs : List D} : pyOk (n + 1) (.tup xs) = pyOkL n xs := rfl
theorem pyOk_lst {n : Nat} {xs : List D} : pyOk (n + 1) (.lst xs) = pyOkL n xs := rfl
theorem pyOkL_nil {n : Nat} : pyOkL n [] = true := by cases n <;> rfl
theorem pyOkL_cons {n : Nat} {d : D} {ds : List D} : pyOkL n (d :: ds) = (pyOk n d && pyOkL n ds) := by cases n <;> rfl
/-! ### one step of a mirror, applied -/
@[simp] theorem bindR_ok {α β : Type} {a : α} {h : MH} {k : α → MH → Res β} : bindR (.ok a h) k = k a h := rfl
@[simp] theorem bindR_exc {α β : Type} {c : Str} {a : Option (Str × D)} {h : MH} {k : α → MH → Res β} : bindR (.exc c a h) k = .exc c a h := rfl
@[simp] theorem bindR_bad {α β : Type} {k : α → MH → Res β} : bindR .bad k = .bad := rfl
@[simp] theorem optR_some {α : Type} {a : α} {h : MH} : optR (some a) h = .ok a h := rfl
@[simp] theorem bindS_ok {α : Type} {sl : Sl} {a : α} {h : MH} {k : α → MH → SRes} : bindS sl (.ok a h) k = k a h := rfl
@[simp] theorem bindS_exc {α : Type} {sl : Sl} {c : Str} {a : Option (Str × D)} {h : MH} {k : α → MH → SRes} : bindS sl (.exc c a h) k = .exc c a sl h := rfl
@[simp] theorem seqR_nx {sl : Sl} {h : MH} {k : Ms} : seqR (.nx sl h) k = k sl h := rfl
@[simp] theorem seqR_rt {d : D} {h : MH} {k : Ms} : seqR (.rt d h) k = .rt d h := rfl
@[simp] theorem seqR_exc {c : Str} {a : Option (Str × D)} {sl : Sl} {h : MH} {k : Ms} : seqR (.exc c a sl h) k = .exc c a sl h := rfl
@[simp] theorem seqR_ite {P : Prop} [Decidable P] {a b : SRes} {k : Ms} : seqR (if P then a else b) k = if P then seqR a k else seqR b k := by split <;> rfl
@[simp] theorem bindR_ite {α β : Type} {P : Prop} [Decidable P] {a b : Res α} {k : α → MH → Res β} : bindR (if P then a else b) k = if P then bindR a k else bindR b k := by split <;> rfl
@[simp] theorem bindS_ite {α : Type} {sl : Sl} {P : Prop} [Decidable P] {a b : Res α} {k : α → MH → SRes} : bindS sl (if P then a else b) k = if P then bindS sl a k else bindS sl b k := by split <;> rfl
@[simp] theorem endB_nx {sl : Sl} {h : MH} : endB (.nx sl h) = .ok .non h := rfl
@[simp] theorem endB_rt {d : D} {h : MH} : endB (.rt d h) = .ok d h := rfl
@[simp] theorem endB_exc {c : Str} {a : Option (Str × D)} {sl : Sl} {h : MH} : endB (.exc c a sl h) = .exc c a h := rfl
@[simp] theorem endB_ite {P : Prop} [Decidable P] {a b : SRes} : endB (if P then a else b) = if P then endB a else endB b := by split <;> rfl
@[simp] theorem ite_ok {α : Type} {P : Prop} [Decidable P] {a b : α} {h : MH} : (if P then Res.ok a h else Res.ok b h) = Res.ok (if P then a else b) h := by split <;> rfl
@[simp] theorem ite_blD {P : Prop} [Decidable P] {a b : Bool} : (if P then D.bl a else D.bl b) = D.bl (if P then a else b) := by split <;> rfl
theorem runB_ap {n : Nat} {b : Ms} {ds : List D} {h : MH} : runB n b ds h = endB (b (slots0 n ds) h) := rfl
@[simp] theorem slots0_ap {n : Nat} {ds : List D} : slots0 n ds = ds.map some ++ List.replicate (n - ds.length) none := rfl
@[simp] theorem mVar_ap {i : Nat} {sl : Sl} {h : MH} : mVar i sl h = optR (sl[i]?.join) h := rfl
@[simp] theorem mC_ap {d : D} {sl : Sl} {h : MH} : mC d sl h = .ok d h := rfl
@[simp] theorem mBind_ap {α β : Type} {m : Mo α} {k : α → Mo β} {sl : Sl} {h : MH} : mBind m k sl h = bindR (m sl h) fun a h1 => k a sl h1 := rfl
@[simp] theorem mNil_ap {sl : Sl} {h : MH} : mNil sl h = .ok [] h := rfl
@[simp] theorem mCons_ap {a : Mo D} {b : Mo (List D)} {sl : Sl} {h : MH} : mCons a b sl h = bindR (a sl h) fun x h1 => bindR (b sl h1) fun xs h2 => .ok (x :: xs) h2 := rfl
@[simp] theorem mOp_ap {g : D → D → MH → Res D} {a b : Mo D} {sl : Sl} {h : MH} : mOp g a b sl h = bindR (a sl h) fun x h1 => bindR (b sl h1) fun y h2 => g x y h2 := rfl
def andK (b : Mo D) (sl : Sl) : D → MH → Res D
  | .bl c, h => if c = true then b sl h else .ok (.bl false) h
  | _, _ => .bad
def orK (b : Mo D) (sl : Sl) : D → MH → Res D
  | .bl c, h => if c = true then .ok (.bl true) h else b sl h
  | _, _ => .bad
@[simp] theorem mAnd_ap {a b : Mo D} {sl : Sl} {h : MH} : mAnd a b sl h = bindR (a sl h) fun x h1 => andK b sl x h1 := by
  show bindR (a sl h) _ = _
  refine congrArg _ (funext fun x => funext fun h1 => ?_)
  cases x with
  | bl c => cases c <;> rfl
  | _ => rfl
@[simp] theorem mOr_ap {a b : Mo D} {sl : Sl} {h : MH} : mOr a b sl h = bindR (a sl h) fun x h1 => orK b sl x h1 := by
  show bindR (a sl h) _ = _
  refine congrArg _ (funext fun x => funext fun h1 => ?_)
  cases x with
  | bl c => cases c <;> rfl
  | _ => rfl
@[simp] theorem andK_bl {b : Mo D} {sl : Sl} {c : Bool} {h : MH} : andK b sl (.bl c) h = if c = true then b sl h else .ok (.bl false) h := rfl
@[simp] theorem orK_bl {b : Mo D} {sl : Sl} {c : Bool} {h : MH} : orK b sl (.bl c) h = if c = true then .ok (.bl true) h else b sl h := rfl
def notK : D → MH → Res D
  | .bl c, h => .ok (.bl (!c)) h
  | _, _ => .bad
@[simp] theorem mNot_ap {a : Mo D} {sl : Sl} {h : MH} : mNot a sl h = bindR (a sl h) fun x h1 => notK x h1 := by
  show bindR (a sl h) _ = _
  refine congrArg _ (funext fun x => funext fun h1 => ?_)
  cases x <;> rfl
@[simp] theorem notK_bl {c : Bool} {h : MH} : notK (.bl c) h = .ok (.bl (!c)) h := rfl
@[simp] theorem mTest_ap {a : Mo D} {sl : Sl} {h : MH} : mTest a sl h = bindR (a sl h) fun x h1 => optR (truthD x) h1 := rfl
@[simp] theorem truthD_bl {b : Bool} : truthD (.bl b) = some b := rfl
@[simp] theorem mAndT_ap {a b : Mo Bool} {sl : Sl} {h : MH} : mAndT a b sl h = bindR (a sl h) fun x h1 => if x = true then b sl h1 else .ok false h1 := by
  show bindR (a sl h) _ = _
  refine congrArg _ (funext fun x => funext fun h1 => ?_)
  cases x <;> rfl
@[simp] theorem mOrT_ap {a b : Mo Bool} {sl : Sl} {h : MH} : mOrT a b sl h = bindR (a sl h) fun x h1 => if x = true then .ok true h1 else b sl h1 := by
  show bindR (a sl h) _ = _
  refine congrArg _ (funext fun x => funext fun h1 => ?_)
  cases x <;> rfl
@[simp] theorem mNotT_ap {a : Mo Bool} {sl : Sl} {h : MH} : mNotT a sl h = bindR (a sl h) fun x h1 => .ok (!x) h1 := rfl
@[simp] theorem mIf_ap {c : Mo Bool} {a b : Mo D} {sl : Sl} {h : MH} : mIf c a b sl h = bindR (c sl h) fun x h1 => if x = true then a sl h1 else b sl h1 := by
  show bindR (c sl h) _ = _
  refine congrArg _ (funext fun x => funext fun h1 => ?_)
  cases x <;> rfl
@[simp] theorem mTup_ap {a : Mo (List D)} {sl : Sl} {h : MH} : mTup a sl h = bindR (a sl h) fun ds h1 => tupR ds h1 := rfl
@[simp] theorem mLst_ap {a : Mo (List D)} {sl : Sl} {h : MH} : mLst a sl h = bindR (a sl h) fun ds h1 => lstR ds h1 := rfl
@[simp] theorem mFn_ap {g : List D → MH → Res D} {fl : Mo (List D)} {sl : Sl} {h : MH} : mFn g fl sl h = bindR (fl sl h) fun ds h1 => g ds h1 := rfl
@[simp] theorem mCall_ap {n : Nat} {c : Fn} {fl : Mo (List D)} {sl : Sl} {h : MH} : mCall n c fl sl h = bindR (fl sl h) fun ds h1 => ckN n c ds h1 := rfl
@[simp] theorem sRet_ap {f : Mo D} {sl : Sl} {h : MH} : sRet f sl h = bindS sl (f sl h) fun d h1 => .rt d h1 := rfl
@[simp] theorem sExpr_ap {f : Mo D} {sl : Sl} {h : MH} : sExpr f sl h = bindS sl (f sl h) fun _ h1 => .nx sl h1 := rfl
@[simp] theorem sSkip_ap {sl : Sl} {h : MH} : sSkip sl h = .nx sl h := rfl
@[simp] theorem sSeq_ap {a b : Ms} {sl : Sl} {h : MH} : sSeq a b sl h = seqR (a sl h) b := rfl
@[simp] theorem sSet_ap {i : Nat} {f : Mo D} {sl : Sl} {h : MH} : sSet i f sl h = bindS sl (f sl h) fun d h1 => .nx (sl.set i (some d)) h1 := rfl
@[simp] theorem sIf_ap {c : Mo Bool} {a b : Ms} {sl : Sl} {h : MH} : sIf c a b sl h = bindS sl (c sl h) fun x h1 => if x = true then a sl h1 else b sl h1 := by
  show bindS sl (c sl h) _ = _
  refine congrArg _ (funext fun x => funext fun h1 => ?_)
  cases x <;> rfl
@[simp] theorem eqD_str {a b : Str} : eqD (.str a) (.str b) = some (decide (a = b)) := rfl
@[simp] theorem eqD_int {a b : Int} : eqD (.int a) (.int b) = some (decide (a = b)) := rfl
@[simp] theorem eqD_bl {a b : Bool} : eqD (.bl a) (.bl b) = some (decide (a = b)) := rfl
@[simp] theorem blR_some {b : Bool} {h : MH} : blR (some b) h = .ok (.bl b) h := rfl
@[simp] theorem oEq_ap {x y : D} {h : MH} : oEq x y h = blR (eqD x y) h := rfl
@[simp] theorem oNe_ap {x y : D} {h : MH} : oNe x y h = blR ((eqD x y).map not) h := rfl
@[simp] theorem oIx_int {x : D} {i : Int} {h : MH} : oIx x (.int i) h = optR (ixD h i x) h := rfl
@[simp] theorem ixD_tup {xs : List D} {i : Int} {h : MH} : ixD h i (.tup xs) = atI xs i := rfl
@[simp] theorem ixD_lst {xs : List D} {i : Int} {h : MH} : ixD h i (.lst xs) = atI xs i := rfl
@[simp] theorem ckN_ap {n : Nat} {c : Fn} {ds : List D} {h : MH} : ckN n c ds h = if ds.length = n then c ds h else .bad := rfl
@[simp] theorem eqv_str {a b : Str} : PyData.eqv (.str a) (.str b) = decide (b = a) := by
  simp only [PyData.eqv]
  by_cases h : b = a
  · subst h; simp
  · have h' : ¬ a = b := fun e => h e.symm
    simp [h, h']
@[simp] theorem inD_tup {x : D} {ys : List D} : inD x (.tup ys) = if (pyOk 40 x && pyOkL 39 ys) = true then some ((toPyL ys).any fun z => PyData.eqv z (toPy x)) else none := rfl
@[simp] theorem inD_lst {x : D} {ys : List D} : inD x (.lst ys) = if (pyOk 40 x && pyOkL 39 ys) = true then some ((toPyL ys).any fun z => PyData.eqv z (toPy x)) else none := rfl
@[simp] theorem toPy_str {x : Str} : toPy (.str x) = .str x := rfl
@[simp] theorem toPy_int {x : Int} : toPy (.int x) = .int x := rfl
@[simp] theorem toPyL_nil : toPyL [] = [] := rfl
@[simp] theorem toPyL_cons {d : D} {ds : List D} : toPyL (d :: ds) = toPy d :: toPyL ds := rfl
@[simp] theorem oIn_ap {x y : D} {h : MH} : oIn x y h = blR (inD x y) h := rfl
@[simp] theorem oNi_ap {x y : D} {h : MH} : oNi x y h = blR ((inD x y).map not) h := rfl
@[simp] theorem tupR_ap {ds : List D} {h : MH} : tupR ds h = if ds.length ≤ lim then .ok (.tup ds) h else .bad := rfl
@[simp] theorem lstR_ap {ds : List D} {h : MH} : lstR ds h = if ds.length ≤ lim then .ok (.lst ds) h else .bad := rfl
theorem lim_eq : lim = 100000 := rfl
@[simp] theorem le_lim {n : Nat} (h : n ≤ 100000) : (n ≤ lim) = True := eq_true h
@[simp] theorem lt_lim {n : Nat} (h : n < 100000) : (n < lim) = True := eq_true h
@[simp] theorem mDic_ap {ps : List (Mo D × Mo D)} {sl : Sl} {h : MH} : mDic ps sl h = bindR (mPairs ps sl h) fun kds h1 => if kds.length ≤ 15 then .ok (.dic (mergeD kds [] []).1 (mergeD kds [] []).2) h1 else .bad := rfl
@[simp] theorem mNewD_ap {ps : List (Mo D × Mo D)} {sl : Sl} {h : MH} : mNewD ps sl h = bindR (mPairs ps sl h) fun kds h1 => if kds.length ≤ 15 then .ok (.ref h1.length) (h1 ++ [.dic (mergeD kds [] []).1 (mergeD kds [] []).2]) else .bad := rfl
@[simp] theorem mPairs_nil {sl : Sl} {h : MH} : mPairs [] sl h = .ok [] h := rfl
def pairK (fs : List (Mo D × Mo D)) (sl : Sl) (y : D) (h : MH) : Option Key → Res (List (Key × D))
  | some k => bindR (mPairs fs sl h) fun rest h3 => .ok ((k, y) :: rest) h3
  | none => .bad
@[simp] theorem pairK_some {fs : List (Mo D × Mo D)} {sl : Sl} {y : D} {h : MH} {k : Key} : pairK fs sl y h (some k) = bindR (mPairs fs sl h) fun rest h3 => .ok ((k, y) :: rest) h3 := rfl
@[simp] theorem mPairs_cons {fk fv : Mo D} {ps : List (Mo D × Mo D)} {sl : Sl} {h : MH} : mPairs ((fk, fv) :: ps) sl h = bindR (fk sl h) fun x h1 => bindR (fv sl h1) fun y h2 => pairK ps sl y h2 (keyD x) := by
  show bindR _ _ = _
  refine congrArg _ (funext fun x => funext fun h1 => congrArg _ (funext fun y => funext fun h2 => ?_))
  cases keyD x <;> rfl
@[simp] theorem keyD_str {x : Str} : keyD (.str x) = some (.inr x) := rfl
@[simp] theorem keyD_int {x : Int} : keyD (.int x) = some (.inl x) := rfl
@[simp] theorem mergeD_nil {ks : List Key} {vs : List D} : mergeD [] ks vs = (ks, vs) := rfl
@[simp] theorem mergeD_cons {k : Key} {d : D} {ps : List (Key × D)} {ks : List Key} {vs : List D} : mergeD ((k, d) :: ps) ks vs = mergeD ps (dputK k ks) (dputV k d ks vs) := rfl
@[simp] theorem mDGet2_ap {fo fk fx : Mo D} {sl : Sl} {h : MH} : mDGet2 fo fk fx sl h = bindR (fo sl h) fun x h0 => if (dicD h0 x).isSome = true then bindR (fk sl h0) fun y h1 => bindR (fx sl h1) fun z h2 => optR (getOr h2 x y z) h2 else .bad := rfl
@[simp] theorem dicD_dic {ks : List Key} {vs : List D} {h : MH} : dicD h (.dic ks vs) = some (ks, vs) := rfl
@[simp] theorem mItT_ap {f : Mo D} {sl : Sl} {h : MH} : mItT f sl h = bindR (f sl h) fun d h1 => optR (itemsT d) h1 := rfl
@[simp] theorem mItL_ap {f : Mo D} {sl : Sl} {h : MH} : mItL f sl h = bindR (f sl h) fun d h1 => optR (itemsL d) h1 := rfl
@[simp] theorem itemsT_tup {ds : List D} : itemsT (.tup ds) = some ds := rfl
@[simp] theorem itemsL_lst {ds : List D} : itemsL (.lst ds) = some ds := rfl
def zipK (h : MH) : List D → Res (List D)
  | [.tup xs, .tup ys] => .ok (zipD xs ys) h
  | _ => .bad
@[simp] theorem mItZ_ap {f : Mo (List D)} {sl : Sl} {h : MH} : mItZ f sl h = bindR (f sl h) fun d h1 => zipK h1 d := by
  show bindR _ _ = _
  refine congrArg _ (funext fun x => funext fun h1 => ?_)
  unfold zipK
  rfl
@[simp] theorem zipK_two {xs ys : List D} {h : MH} : zipK h [.tup xs, .tup ys] = .ok (zipD xs ys) h := rfl
@[simp] theorem mLc_ap {vs : List Nat} {fi : Mo (List D)} {tg : Tg} {c : Mo Bool} {f : Mo D} {sl : Sl} {h : MH} : mLc vs fi tg c f sl h = bindR (fi sl h) fun ds h1 => bindR (lcD tg c f (wipeD sl vs) [] ds h1) fun xs h2 => .ok (.lst xs) h2 := rfl
@[simp] theorem mYes_ap {sl : Sl} {h : MH} : mYes sl h = .ok true h := rfl
@[simp] theorem fIsi_ap {x c : D} {h : MH} : fIsi [x, c] h = (match tyD h x with
    | some t => blR (isiV t c) h
    | none => .bad) := rfl
@[simp] theorem tyD_str {x : Str} {h : MH} : tyD h (.str x) = some "str" := rfl
@[simp] theorem tyD_tup {x : List D} {h : MH} : tyD h (.tup x) = some "tuple" := rfl
@[simp] theorem tyD_lst {x : List D} {h : MH} : tyD h (.lst x) = some "list" := rfl
@[simp] theorem tyD_bl {x : Bool} {h : MH} : tyD h (.bl x) = some "bool" := rfl
@[simp] theorem tyD_int {x : Int} {h : MH} : tyD h (.int x) = some "int" := rfl
@[simp] theorem isiV_ty {t n : String} : isiV t (.ty n) = isiT t n := rfl
@[simp] theorem isiV_tup {t : String} {cs : List D} : isiV t (.tup cs) = isiL t cs := rfl
@[simp] theorem fLen_ap {x : D} {h : MH} : fLen [x] h = optR ((lenD h x).map fun n => .int (n : Nat)) h := rfl
@[simp] theorem lenD_tup {xs : List D} {h : MH} : lenD h (.tup xs) = some xs.length := rfl
@[simp] theorem lenD_lst {xs : List D} {h : MH} : lenD h (.lst xs) = some xs.length := rfl
@[simp] theorem fAll_ap {xs : List D} {h : MH} : fAll [.lst xs] h = optR ((blsD xs).map fun bs => .bl (bs.all id)) h := rfl
@[simp] theorem fTuple_ap {x : D} {h : MH} : fTuple [x] h = optR ((seqD h x).map D.tup) h := rfl
@[simp] theorem seqD_lst {xs : List D} {h : MH} : seqD h (.lst xs) = some xs := rfl
@[simp] theorem oLe_int {i j : Int} {h : MH} : oLe (.int i) (.int j) h = .ok (.bl (decide (i ≤ j))) h := rfl
def chK (g' : D → D → MH → Res D) (y : D) (c : Mo D) (sl : Sl) : D → MH → Res D
  | .bl true, h1 => bindR (c sl h1) fun w h2 => g' y w h2
  | .bl false, h1 => .ok (.bl false) h1
  | _, _ => .bad
@[simp] theorem mChain_ap {g g' : D → D → MH → Res D} {a b c : Mo D} {sl : Sl} {h : MH} : mChain g g' a b c sl h = bindR (a sl h) fun x h0 => bindR (b sl h0) fun y h1 => bindR (g x y h1) fun z h2 => chK g' y c sl z h2 := by
  show bindR _ _ = _
  refine congrArg _ (funext fun x => funext fun h1 => ?_)
  show bindR _ _ = _
  refine congrArg _ (funext fun y => funext fun h2 => ?_)
  show bindR _ _ = _
  refine congrArg _ (funext fun z => funext fun h3 => ?_)
  cases z with
  | bl b => cases b <;> rfl
  | _ => rfl
@[simp] theorem chK_t {g' : D → D → MH → Res D} {y : D} {c : Mo D} {sl : Sl} {h1 : MH} : chK g' y c sl (.bl true) h1 = bindR (c sl h1) fun w h2 => g' y w h2 := rfl
@[simp] theorem chK_f {g' : D → D → MH → Res D} {y : D} {c : Mo D} {sl : Sl} {h1 : MH} : chK g' y c sl (.bl false) h1 = .ok (.bl false) h1 := rfl
@[simp] theorem mCallV_ap {tab : VTab} {fe : Mo D} {fl : Mo (List D)} {sl : Sl} {h : MH} : mCallV tab fe fl sl h = bindR (fe sl h) fun d h1 => (match vFn tab d with
  | some p => bindR (fl sl h1) fun ds h2 => ckN p.1 p.2 ds h2
  | none => .bad) := by
  show bindR _ _ = _
  refine congrArg _ (funext fun x => funext fun h1 => ?_)
  show (match vFn tab x with
  | some p => mBind fl fun ds => fun _ h => ckN p.1 p.2 ds h
  | none => fun _ _ => .bad : Mo D) sl h1 = _
  cases vFn tab x <;> rfl
@[simp] theorem vFn_gl {tab : VTab} {x : Str} : vFn tab (.gl x) = tab.lookup x := rfl
@[simp] theorem mMt_ap {rc : MH → D → Bool} {g : D → List D → MH → Res D} {fo : Mo D} {fl : Mo (List D)} {sl : Sl} {h : MH} : mMt rc g fo fl sl h = bindR (fo sl h) fun x h0 => if rc h0 x = true then bindR (fl sl h0) fun ds h1 => g x ds h1 else .bad := rfl
@[simp] theorem isStr_str {x : Str} : isStr (.str x) = true := rfl
@[simp] theorem gEnds_ap {a b : Str} {h : MH} : gEnds (.str a) [.str b] h = .ok (.bl (Txt.endswith a b)) h := rfl
/-! comprehensions -/
@[simp] theorem lcD_nil {tg : Tg} {c : Mo Bool} {f : Mo D} {sl : Sl} {acc : List D} {h : MH} : lcD tg c f sl acc [] h = .ok acc h := by unfold lcD; rfl
@[simp] theorem noX_ok {α : Type} {a : α} {h : MH} : noX (.ok a h) = .ok a h := rfl
theorem lcD_cons {tg : Tg} {c : Mo Bool} {f : Mo D} {sl : Sl} {acc ds : List D} {d : D} {h : MH} : lcD tg c f sl acc (d :: ds) h = (match tgD tg d sl with
    | none => .bad
    | some sl1 => bindR (noX (c sl1 h)) fun b h1 => if b then (if acc.length < lim then bindR (noX (f sl1 h1)) fun x h2 => lcD tg c f sl (acc ++ [x]) ds h2 else .bad) else lcD tg c f sl acc ds h1) := by rw [lcD]; try rfl
@[simp] theorem tgD_nm {i : Nat} {d : D} {sl : Sl} : tgD (.nm i) d sl = some (sl.set i (some d)) := rfl
@[simp] theorem tgD_tp {is : List Nat} {ds : List D} {sl : Sl} : tgD (.tp is) (.tup ds) sl = setAll is ds sl := rfl
/-- a comprehension whose parts change no heap -/
theorem lcD_pure {i : Nat} {c : Mo Bool} {f : Mo D} {sl : Sl} {h : MH} {p : D → Bool} {g : D → D} : ∀ (ds acc : List D), (∀ d ∈ ds, c (sl.set i (some d)) h = .ok (p d) h ∧ f (sl.set i (some d)) h = .ok (g d) h) → acc.length + ds.length < lim →
    lcD (.nm i) c f sl acc ds h = .ok (acc ++ (ds.filter p).map g) h := by
  intro ds
  induction ds with
  | nil => intro acc _ _; simp
  | cons d ds ih =>
    intro acc hd hl
    have h1 := hd d (by simp)
    rw [lcD_cons]
    simp only [tgD_nm, h1.1, noX_ok, bindR_ok]
    simp only [List.length_cons] at hl
    cases e : p d with
    | true =>
      simp only [if_true]
      rw [if_pos (by omega), h1.2]
      simp only [noX_ok, bindR_ok]
      rw [ih _ (fun d' hd' => hd d' (by simp [hd'])) (by simp only [List.length_append, List.length_cons, List.length_nil]; omega)]
      simp [e]
    | false =>
      simp only [Bool.false_eq_true, if_false]
      rw [ih _ (fun d' hd' => hd d' (by simp [hd'])) (by omega)]
      simp [e]
abbrev S (a : String) : D := .str (Str.ofString a)
abbrev St3 (a b c : String) : D := .tup [S a, S b, S c]
@[simp] theorem pyOk_str' {n : Nat} {x : String} : pyOk n (.str (Str.ofString x)) = true := pyOk_str
@[simp] theorem pyOkL_nil' {n : Nat} : pyOkL n [] = true := pyOkL_nil
@[simp] theorem pyOkL_cons' {n : Nat} {d : D} {ds : List D} : pyOkL n (d :: ds) = (pyOk n d && pyOkL n ds) := pyOkL_cons
@[simp] theorem ofString_inj' {a b : String} : (Str.ofString a = Str.ofString b) = (a = b) := ofString_inj
@[simp] theorem atI0' {α : Type} {a : α} {xs : List α} : atI (a :: xs) 0 = some a := atI0
@[simp] theorem atI1' {α : Type} {a b : α} {xs : List α} : atI (a :: b :: xs) 1 = some b := atI1
@[simp] theorem atI2' {α : Type} {a b c : α} {xs : List α} : atI (a :: b :: c :: xs) 2 = some c := atI2
@[simp] theorem atI3' {α : Type} {a b c d : α} {xs : List α} : atI (a :: b :: c :: d :: xs) 3 = some d := atI3
@[simp] theorem runB_ap' {n : Nat} {b : Ms} {ds : List D} {h : MH} : runB n b ds h = endB (b (slots0 n ds) h) := rfl
@[simp] theorem dget_nil {α : Type} {k : Key} {vs : List α} : dget k [] vs = none := by cases vs <;> rfl
@[simp] theorem dget_cons {α : Type} {k k' : Key} {ks : List Key} {v : α} {vs : List α} : dget k (k' :: ks) (v :: vs) = if k' = k then some v else dget k ks vs := rfl
@[simp] theorem dhas_nil {k : Key} : dhas k [] = false := rfl
@[simp] theorem dhas_cons {k k' : Key} {ks : List Key} : dhas k (k' :: ks) = if k' = k then true else dhas k ks := rfl
@[simp] theorem drep_nil {α : Type} {k : Key} {x : α} {vs : List α} : drep k x [] vs = vs := by cases vs <;> rfl
@[simp] theorem drep_cons {α : Type} {k k' : Key} {ks : List Key} {x v : α} {vs : List α} : drep k x (k' :: ks) (v :: vs) = (if k' = k then x else v) :: drep k x ks vs := rfl
@[simp] theorem dputK_ap {k : Key} {ks : List Key} : dputK k ks = if dhas k ks = true then ks else ks ++ [k] := rfl
@[simp] theorem dputV_ap {α : Type} {k : Key} {x : α} {ks : List Key} {vs : List α} : dputV k x ks vs = if dhas k ks = true then drep k x ks vs else vs ++ [x] := rfl
@[simp] theorem str_beq {a b : String} : (Str.ofString a == Str.ofString b) = decide (a = b) := by
  by_cases h : a = b
  · subst h; simp
  · have h' : ¬ (Str.ofString a = Str.ofString b) := fun e => h (ofString_inj.mp e)
    simp [h]
@[simp] theorem getOr_ap {h : MH} {x y z : D} : getOr h x y z = (dicD h x).bind fun p => (keyD y).map fun k => (dget k p.1 p.2).getD z := rfl
@[simp] theorem optR_none {α : Type} {h : MH} : optR (none : Option α) h = .bad := rfl
@[simp] theorem sDSet_ap {fo fi fv : Mo D} {sl : Sl} {h : MH} : sDSet fo fi fv sl h = bindS sl (fv sl h) fun v h1 => bindS sl (fo sl h1) fun x h2 => bindS sl (fi sl h2) fun y h3 => match dSet h3 x y v with
  | some h4 => .nx sl h4
  | none => .bad := rfl
@[simp] theorem sLSet_ap {fo fi fv : Mo D} {sl : Sl} {h : MH} : sLSet fo fi fv sl h = bindS sl (fv sl h) fun v h1 => bindS sl (fo sl h1) fun x h2 => bindS sl (fi sl h2) fun y h3 => match lSet h3 x y v with
  | some h4 => .nx sl h4
  | none => .bad := rfl
@[simp] theorem oDGet_ap {x y : D} {h : MH} : oDGet x y h = optR (atKeyD h x y) h := rfl
@[simp] theorem lookS {β : Type} {a b : String} {v : β} {l : List (Str × β)} : List.lookup (Str.ofString a) ((Str.ofString b, v) :: l) = if a = b then some v else List.lookup (Str.ofString a) l := by
  rw [List.lookup_cons, str_beq]
  by_cases h : a = b
  · simp [h]
  · simp [h]
theorem lcD_map {α : Type} {to : α → D} {i : Nat} {c : Mo Bool} {f : Mo D} {sl : Sl} {h : MH} {p : α → Bool} {g : α → D} : ∀ (xs : List α) (acc : List D), (∀ x ∈ xs, c (sl.set i (some (to x))) h = .ok (p x) h ∧ (p x = true → f (sl.set i (some (to x))) h = .ok (g x) h)) → acc.length + xs.length < lim →
    lcD (.nm i) c f sl acc (xs.map to) h = .ok (acc ++ (xs.filter p).map g) h := by
  intro xs
  induction xs with
  | nil => intro acc _ _; simp
  | cons d ds ih =>
    intro acc hd hl
    have h1 := hd d (by simp)
    rw [List.map_cons, lcD_cons]
    simp only [tgD_nm, h1.1, noX_ok, bindR_ok]
    simp only [List.length_cons] at hl
    cases e : p d with
    | true =>
      simp only [if_true]
      rw [if_pos (by omega), h1.2 e]
      simp only [noX_ok, bindR_ok]
      rw [ih _ (fun d' hd' => hd d' (by simp [hd'])) (by simp only [List.length_append, List.length_cons, List.length_nil]; omega)]
      simp [e]
    | false =>
      simp only [Bool.false_eq_true, if_false]
      rw [ih _ (fun d' hd' => hd d' (by simp [hd'])) (by omega)]
      simp [e]
theorem lcD_map0 {α : Type} {to : α → D} {i : Nat} {c : Mo Bool} {f : Mo D} {sl : Sl} {h : MH} {p : α → Bool} {g : α → D} (xs : List α) (H : ∀ x ∈ xs, c (sl.set i (some (to x))) h = .ok (p x) h ∧ (p x = true → f (sl.set i (some (to x))) h = .ok (g x) h)) (hl : xs.length < lim) :
    lcD (.nm i) c f sl [] (xs.map to) h = .ok ((xs.filter p).map g) h := by
  have := lcD_map (to := to) xs [] H (by simpa using hl)
  simpa using this
@[simp] theorem oSub_int {i j : Int} {h : MH} : oSub (.int i) (.int j) h = .ok (.int (i - j)) h := rfl
@[simp] theorem oLt_int {i j : Int} {h : MH} : oLt (.int i) (.int j) h = .ok (.bl (decide (i < j))) h := rfl
@[simp] theorem oGt_int {i j : Int} {h : MH} : oGt (.int i) (.int j) h = .ok (.bl (decide (j < i))) h := rfl
@[simp] theorem oGe_int {i j : Int} {h : MH} : oGe (.int i) (.int j) h = .ok (.bl (decide (j ≤ i))) h := rfl
@[simp] theorem oAdd_int {i j : Int} {h : MH} : oAdd (.int i) (.int j) h = .ok (.int (i + j)) h := rfl
@[simp] theorem oDiv_int {i j : Int} {h : MH} : oDiv (.int i) (.int j) h = if cDiv i j = true then .ok (.int (i / j)) h else .bad := rfl
@[simp] theorem oMod_int {i j : Int} {h : MH} : oMod (.int i) (.int j) h = if decide (0 < j) = true then .ok (.int (i % j)) h else .bad := rfl
@[simp] theorem oPow_int {i j : Int} {h : MH} : oPow (.int i) (.int j) h = if cPow i j = true then .ok (.int (i ^ j.toNat)) h else .bad := rfl
@[simp] theorem oMul_int {i j : Int} {h : MH} : oMul (.int i) (.int j) h = if cMul i j = true then .ok (.int (i * j)) h else .bad := rfl
@[simp] theorem fInt_int {i : Int} {h : MH} : fInt [.int i] h = .ok (.int i) h := rfl
@[simp] theorem ixD_ref {k : Nat} {i : Int} {h : MH} : ixD h i (.ref k) = (oLst h[k]?).bind fun xs => atI xs i := rfl
@[simp] theorem ixD_scr {ns : List Int} {i : Int} {h : MH} : ixD h i (.scr ns) = (atI ns i).map D.int := rfl
@[simp] theorem lenD_scr {xs : List Int} {h : MH} : lenD h (.scr xs) = some xs.length := rfl
@[simp] theorem oLst_lst {xs : List D} : oLst (some (.lst xs)) = some xs := rfl
theorem seq_set {i : Nat} {f : Mo D} {rest : Ms} {sl : Sl} {h h1 : MH} (d : D) (e : f sl h = .ok d h1) : sSeq (sSet i f) rest sl h = rest (sl.set i (some d)) h1 := by
  simp [e]
theorem seq_nx {a b : Ms} {sl sl1 : Sl} {h h1 : MH} (e : a sl h = .nx sl1 h1) : sSeq a b sl h = b sl1 h1 := by
  simp [e]
theorem dSet_ref {h : MH} {k : Nat} {key : Key} {y v : D} {ks : List Key} {vs : List D} (hk : h[k]? = some (.dic ks vs)) (hy : keyD y = some key) (hl : ks.length < lim) : dSet h (.ref k) y v = some (h.set k (.dic (dputK key ks) (dputV key v ks vs))) := by
  simp [dSet, hk, oDic, hy, hl]
theorem seq_dset {fo fi fv : Mo D} {rest : Ms} {sl : Sl} {h : MH} {k : Nat} {key : Key} {y v : D} {ks : List Key} {vs : List D} (e1 : fv sl h = .ok v h) (e2 : fo sl h = .ok (.ref k) h) (e3 : fi sl h = .ok y h) (hk : h[k]? = some (.dic ks vs)) (hy : keyD y = some key) (hl : ks.length < lim) :
    sSeq (sDSet fo fi fv) rest sl h = rest sl (h.set k (.dic (dputK key ks) (dputV key v ks vs))) := by
  simp [e1, e2, e3, dSet_ref hk hy hl]
def r1K (h : MH) : List D → Res (List D)
  | [.int j] => if -big ≤ j ∧ j ≤ big then .ok (rangeD 0 j.toNat) h else .bad
  | _ => .bad
@[simp] theorem r1K_int {j : Int} {h : MH} : r1K h [.int j] = if -big ≤ j ∧ j ≤ big then .ok (rangeD 0 j.toNat) h else .bad := rfl
@[simp] theorem mItR1_ap {f : Mo (List D)} {sl : Sl} {h : MH} : mItR1 f sl h = bindR (f sl h) fun d h1 => r1K h1 d := by
  show bindR _ _ = _
  refine congrArg _ (funext fun x => funext fun h1 => ?_)
  unfold r1K
  rfl
theorem forD_inv {i : Nat} {body : Ms} {Inv : Sl → MH → Prop} : ∀ (ds : List D) (sl : Sl) (h : MH), (∀ d ∈ ds, ∀ sl h, Inv sl h → ∃ sl' h', body (sl.set i (some d)) h = .nx sl' h' ∧ Inv sl' h') → Inv sl h → ∃ sl' h', forD (.nm i) body ds sl h = .nx sl' h' ∧ Inv sl' h' := by
  intro ds
  induction ds with
  | nil => intro sl h _ hi; exact ⟨sl, h, by unfold forD; rfl, hi⟩
  | cons d ds ih =>
    intro sl h hb hi
    obtain ⟨sl1, h1, e1, hi1⟩ := hb d (by simp) sl h hi
    obtain ⟨sl2, h2, e2, hi2⟩ := ih sl1 h1 (fun d' hd' => hb d' (by simp [hd'])) hi1
    refine ⟨sl2, h2, ?_, hi2⟩
    rw [forD]
    simp only [tgD_nm, e1]
    exact e2
@[simp] theorem sFor_ap {fi : Mo (List D)} {tg : Tg} {body : Ms} {sl : Sl} {h : MH} : sFor fi tg body sl h = bindS sl (fi sl h) fun ds h1 => forD tg body ds sl h1 := rfl
@[simp] theorem newLst_ap {ds : List D} {h : MH} : newLst ds h = if ds.length ≤ lim then .ok (.ref h.length) (h ++ [.lst ds]) else .bad := rfl
@[simp] theorem mNewL_ap {a : Mo (List D)} {sl : Sl} {h : MH} : mNewL a sl h = bindR (a sl h) fun ds h1 => newLst ds h1 := rfl
theorem forD_ex {i : Nat} {body : Ms} {Inv : Sl → MH → Prop} {ds : List D} {sl : Sl} {h : MH} (hi : Inv sl h) (hb : ∀ d ∈ ds, ∀ sl h, Inv sl h → ∃ sl' h', body (sl.set i (some d)) h = .nx sl' h' ∧ Inv sl' h') : ∃ sl' h', forD (.nm i) body ds sl h = .nx sl' h' ∧ True := by
  obtain ⟨sl', h', e, _⟩ := forD_inv ds sl h hb hi
  exact ⟨sl', h', e, trivial⟩
theorem rangeD_eq {lo : Int} {m : Nat} : rangeD lo m = (List.range m).map fun (i : Nat) => D.int (lo + i) := by
  induction m generalizing lo with
  | zero => rfl
  | succ m ih =>
    rw [rangeD, ih, List.range_succ_eq_map]
    simp
    intro a _
    omega
theorem range0_eq {m : Nat} : rangeD 0 m = (List.range m).map fun (i : Nat) => D.int i := by
  rw [rangeD_eq]; simp
@[simp] theorem toPy_tup {xs : List D} : toPy (.tup xs) = .tuple (toPyL xs) := rfl
@[simp] theorem toPy_lst {xs : List D} : toPy (.lst xs) = .list (toPyL xs) := rfl
theorem pyOkL_S {m : Nat} {xs : List String} : pyOkL m (xs.map S) = true := by
  induction xs with
  | nil => exact pyOkL_nil
  | cons x xs ih => rw [List.map_cons, pyOkL_cons, ih, pyOk_str]; rfl
theorem toPyL_S {xs : List String} : toPyL (xs.map S) = xs.map fun x => PyData.str (Str.ofString x) := by
  induction xs with
  | nil => rfl
  | cons x xs ih => simp [ih]
theorem inD_S {xs : List String} {q : String} : inD (S q) (.lst (xs.map S)) = some (decide (q ∈ xs)) := by
  rw [inD_lst, pyOkL_S, pyOk_str, toPyL_S]
  simp only [Bool.and_true, if_true, Option.some.injEq]
  induction xs with
  | nil => simp
  | cons x xs ih => simp at ih ⊢; rw [ih]
theorem inD_ST {xs : List String} {q : String} : inD (S q) (.tup (xs.map S)) = some (decide (q ∈ xs)) := inD_S (xs := xs) (q := q)
theorem blsD_map : ∀ (bs : List Bool), blsD (bs.map D.bl) = some bs
  | [] => rfl
  | b :: bs => by simp [blsD, blsD_map bs]
theorem lcD_mapT {α : Type} {to : α → D} {tg : Tg} {c : Mo Bool} {f : Mo D} {sl : Sl} {h : MH} {p : α → Bool} {g : α → D} : ∀ (xs : List α) (acc : List D), (∀ x ∈ xs, ∃ sl1, tgD tg (to x) sl = some sl1 ∧ c sl1 h = .ok (p x) h ∧ (p x = true → f sl1 h = .ok (g x) h)) → acc.length + xs.length < lim →
    lcD tg c f sl acc (xs.map to) h = .ok (acc ++ (xs.filter p).map g) h := by
  intro xs
  induction xs with
  | nil => intro acc _ _; simp
  | cons d ds ih =>
    intro acc hd hl
    obtain ⟨sl1, h0, h1, h2⟩ := hd d (by simp)
    rw [List.map_cons, lcD_cons]
    simp only [h0, h1, noX_ok, bindR_ok]
    simp only [List.length_cons] at hl
    cases e : p d with
    | true =>
      simp only [if_true]
      rw [if_pos (by omega), h2 e]
      simp only [noX_ok, bindR_ok]
      rw [ih _ (fun d' hd' => hd d' (by simp [hd'])) (by simp only [List.length_append, List.length_cons, List.length_nil]; omega)]
      simp [e]
    | false =>
      simp only [Bool.false_eq_true, if_false]
      rw [ih _ (fun d' hd' => hd d' (by simp [hd'])) (by omega)]
      simp [e]
theorem lcD_mapT0 {α : Type} {to : α → D} {tg : Tg} {c : Mo Bool} {f : Mo D} {sl : Sl} {h : MH} {p : α → Bool} {g : α → D} (xs : List α) (H : ∀ x ∈ xs, ∃ sl1, tgD tg (to x) sl = some sl1 ∧ c sl1 h = .ok (p x) h ∧ (p x = true → f sl1 h = .ok (g x) h)) (hl : xs.length < lim) :
    lcD tg c f sl [] (xs.map to) h = .ok ((xs.filter p).map g) h := by
  have := lcD_mapT (to := to) xs [] H (by simpa using hl)
  simpa using this
/-- a loop that is left at the first find -/
theorem forD_find {α : Type} {to : α → D} {i : Nat} {body : Ms} {h : MH} {P : α → Bool} {r : α → D} {Inv : Sl → Prop} : ∀ (xs : List α) (sl : Sl), (∀ x ∈ xs, ∀ sl, Inv sl → (P x = true → body (sl.set i (some (to x))) h = .rt (r x) h) ∧ (P x = false → ∃ sl', body (sl.set i (some (to x))) h = .nx sl' h ∧ Inv sl')) → Inv sl →
    (∀ x, xs.find? P = some x → forD (.nm i) body (xs.map to) sl h = .rt (r x) h) ∧ (xs.find? P = none → ∃ sl', forD (.nm i) body (xs.map to) sl h = .nx sl' h ∧ Inv sl') := by
  intro xs
  induction xs with
  | nil => intro sl _ hi; exact ⟨fun x e => by simp at e, fun _ => ⟨sl, by rw [List.map_nil]; unfold forD; rfl, hi⟩⟩
  | cons d ds ih =>
    intro sl hb hi
    obtain ⟨h1, h2⟩ := hb d (by simp) sl hi
    rw [List.map_cons, forD]
    simp only [tgD_nm]
    cases e : P d with
    | true =>
      rw [h1 e]
      refine ⟨fun x ex => ?_, fun ex => by simp [e] at ex⟩
      simp [e] at ex
      subst ex
      rfl
    | false =>
      obtain ⟨sl', e', hi'⟩ := h2 e
      rw [e']
      have := ih sl' (fun x hx => hb x (by simp [hx])) hi'
      refine ⟨fun x ex => ?_, fun ex => ?_⟩
      · exact this.1 x (by simpa [e] using ex)
      · exact this.2 (by simpa [e] using ex)
/-- a loop as a fold -/
theorem forD_fold {α σ : Type} {to : α → D} {i : Nat} {body : Ms} {step : σ → α → σ} {Inv : σ → Sl → MH → Prop} : ∀ (xs : List α) (s : σ) (sl : Sl) (h : MH), (∀ x ∈ xs, ∀ s sl h, Inv s sl h → ∃ sl' h', body (sl.set i (some (to x))) h = .nx sl' h' ∧ Inv (step s x) sl' h') → Inv s sl h →
    ∃ sl' h', forD (.nm i) body (xs.map to) sl h = .nx sl' h' ∧ Inv (xs.foldl step s) sl' h' := by
  intro xs
  induction xs with
  | nil => intro s sl h _ hi; exact ⟨sl, h, by rw [List.map_nil]; unfold forD; rfl, hi⟩
  | cons d ds ih =>
    intro s sl h hb hi
    obtain ⟨sl1, h1, e1, hi1⟩ := hb d (by simp) s sl h hi
    obtain ⟨sl2, h2, e2, hi2⟩ := ih (step s d) sl1 h1 (fun x hx => hb x (by simp [hx])) hi1
    refine ⟨sl2, h2, ?_, hi2⟩
    rw [List.map_cons, forD]
    simp only [tgD_nm, e1]
    exact e2
theorem foldl_find {α : Type} {P : α → Bool} : ∀ (xs : List α) (o : Option α), xs.foldl (fun o x => if (o.isNone && P x) = true then some x else o) o = (o.or (xs.find? P)) := by
  intro xs
  induction xs with
  | nil => intro o; simp
  | cons d ds ih =>
    intro o
    rw [List.foldl_cons, ih]
    cases o with
    | some y => simp
    | none => cases e : P d <;> simp [e]
@[simp] theorem filter_tt {α : Type} (xs : List α) : xs.filter (fun _ => true) = xs := List.filter_eq_self.mpr (by simp)
@[simp] theorem filter_ff {α : Type} (xs : List α) : xs.filter (fun _ => false) = [] := List.filter_eq_nil_iff.mpr (by simp)
theorem forD_some {α β : Type} {to : α → D} {i : Nat} {body : Ms} {h : MH} {G : α → Option β} {r : β → D} {Inv : Sl → Prop} : ∀ (xs : List α) (sl : Sl), (∀ x ∈ xs, ∀ sl, Inv sl → (∀ b, G x = some b → body (sl.set i (some (to x))) h = .rt (r b) h) ∧ (G x = none → ∃ sl', body (sl.set i (some (to x))) h = .nx sl' h ∧ Inv sl')) → Inv sl →
    (∀ b, xs.findSome? G = some b → forD (.nm i) body (xs.map to) sl h = .rt (r b) h) ∧ (xs.findSome? G = none → ∃ sl', forD (.nm i) body (xs.map to) sl h = .nx sl' h ∧ Inv sl') := by
  intro xs
  induction xs with
  | nil => intro sl _ hi; exact ⟨fun x e => by simp at e, fun _ => ⟨sl, by rw [List.map_nil]; unfold forD; rfl, hi⟩⟩
  | cons d ds ih =>
    intro sl hb hi
    obtain ⟨h1, h2⟩ := hb d (by simp) sl hi
    rw [List.map_cons, forD]
    simp only [tgD_nm]
    cases e : G d with
    | some b =>
      rw [h1 b e]
      refine ⟨fun x ex => ?_, fun ex => by simp [e] at ex⟩
      simp [e] at ex
      subst ex
      rfl
    | none =>
      obtain ⟨sl', e', hi'⟩ := h2 e
      rw [e']
      have := ih sl' (fun x hx => hb x (by simp [hx])) hi'
      refine ⟨fun x ex => ?_, fun ex => ?_⟩
      · exact this.1 x (by simpa [e] using ex)
      · exact this.2 (by simpa [e] using ex)
theorem foldl_or {α β : Type} {G : α → Option β} : ∀ (xs : List α) (o : Option β), xs.foldl (fun o x => o.or (G x)) o = o.or (xs.findSome? G) := by
  intro xs
  induction xs with
  | nil => intro o; simp
  | cons d ds ih =>
    intro o
    rw [List.foldl_cons, ih]
    cases o with
    | some y => simp
    | none => cases e : G d <;> simp [e]
theorem all_map {α : Type} (xs : List α) (f : α → Bool) {h : MH} : fAll [.lst (xs.map fun x => D.bl (f x))] h = .ok (.bl (xs.all f)) h := by
  have : (xs.map fun x => D.bl (f x)) = ((xs.map f).map D.bl) := by simp
  rw [this, fAll_ap, blsD_map]
  simp [List.all_map]
/-- goes on, with P -/
def NxP (P : Sl → MH → Prop) (R : SRes) : Prop := ∃ sl' h', R = .nx sl' h' ∧ P sl' h'
/-- gives a value -/
def RtP (d : D) (R : SRes) : Prop := ∃ h', endB R = .ok d h'
theorem seq_g (G : SRes → Prop) {a b : Ms} {sl : Sl} {h : MH} (P : Sl → MH → Prop) (h1 : NxP P (a sl h)) (h2 : ∀ sl1 h1, P sl1 h1 → G (b sl1 h1)) : G (sSeq a b sl h) := by
  obtain ⟨sl1, h1, e, p⟩ := h1
  rw [seq_nx e]
  exact h2 sl1 h1 p
theorem seq_np {a b : Ms} {sl : Sl} {h : MH} {Q : Sl → MH → Prop} (P : Sl → MH → Prop) (h1 : NxP P (a sl h)) (h2 : ∀ sl1 h1, P sl1 h1 → NxP Q (b sl1 h1)) : NxP Q (sSeq a b sl h) := seq_g (NxP Q) P h1 h2
theorem seq_rp {a b : Ms} {sl : Sl} {h : MH} {d : D} (P : Sl → MH → Prop) (h1 : NxP P (a sl h)) (h2 : ∀ sl1 h1, P sl1 h1 → RtP d (b sl1 h1)) : RtP d (sSeq a b sl h) := seq_g (RtP d) P h1 h2
theorem nxp_of {P : Sl → MH → Prop} {R : SRes} (sl : Sl) (h : MH) (e : R = .nx sl h) (p : P sl h) : NxP P R := ⟨sl, h, e, p⟩
theorem for_fold {α σ : Type} {fi : Mo (List D)} {i : Nat} {body : Ms} {sl : Sl} {h : MH} {P : Sl → MH → Prop} (to : α → D) (xs : List α) (step : σ → α → σ) (Inv : σ → Sl → MH → Prop) (s0 : σ) (hfi : fi sl h = .ok (xs.map to) h) (h0 : Inv s0 sl h)
    (hb : ∀ x ∈ xs, ∀ s sl h, Inv s sl h → NxP (Inv (step s x)) (body (sl.set i (some (to x))) h)) (hP : ∀ sl h, Inv (xs.foldl step s0) sl h → P sl h) : NxP P (sFor fi (.nm i) body sl h) := by
  obtain ⟨sl', h', e, p⟩ := forD_fold (to := to) (i := i) (body := body) (step := step) (Inv := Inv) xs s0 sl h hb h0
  exact ⟨sl', h', by simp [hfi, e], hP _ _ p⟩
/-- a loop whose state is not told -/
theorem for_inv {fi : Mo (List D)} {i : Nat} {body : Ms} {sl : Sl} {h : MH} {P : Sl → MH → Prop} (ds : List D) (Inv : Sl → MH → Prop) (hfi : fi sl h = .ok ds h) (h0 : Inv sl h)
    (hb : ∀ x ∈ ds, ∀ sl h, Inv sl h → NxP Inv (body (sl.set i (some x)) h)) (hP : ∀ sl h, Inv sl h → P sl h) : NxP P (sFor fi (.nm i) body sl h) := by
  obtain ⟨sl', h', e, p⟩ := forD_inv (i := i) (body := body) (Inv := Inv) ds sl h hb h0
  exact ⟨sl', h', by simp [hfi, e], hP _ _ p⟩
@[simp] theorem sPar_ap {i j : Nat} {f : Mo (List D)} {sl : Sl} {h : MH} : sPar i j f sl h = bindS sl (f sl h) fun ds h1 => (match ds with
  | [d, e] => .nx ((sl.set i (some d)).set j (some e)) h1
  | _ => .bad) := rfl
end CH

/-! P2: rules for reckoning with objects. -/
namespace CH
open PySem L2
@[simp] theorem mFld_ap {cs : List Str} {f : Str} {fo : Mo D} {sl : Sl} {h : MH} : mFld cs f fo sl h = bindR (fo sl h) fun x h1 => optR (fldD h1 cs f x) h1 := rfl
def nxO (sl : Sl) : Option MH → SRes
  | some h => .nx sl h
  | none => .bad
@[simp] theorem nxO_some {sl : Sl} {h : MH} : nxO sl (some h) = .nx sl h := rfl
@[simp] theorem sFldSet_ap {cs : List Str} {f : Str} {fo fv : Mo D} {sl : Sl} {h : MH} : sFldSet cs f fo fv sl h = bindS sl (fv sl h) fun v h1 => bindS sl (fo sl h1) fun x h2 => nxO sl (fldS h2 cs f x v) := by
  show bindS sl _ _ = _
  refine congrArg _ (funext fun v => funext fun h1 => ?_)
  show bindS sl _ _ = _
  refine congrArg _ (funext fun x => funext fun h2 => ?_)
  show (match fldS h2 cs f x v with
    | some h3 => SRes.nx sl h3
    | none => .bad) = _
  cases fldS h2 cs f x v <;> rfl
@[simp] theorem kFld_ap {cs : List Str} {f : Str} {fo : Mo D} {v : D} {sl : Sl} {h : MH} : kFld cs f fo v sl h = bindS sl (fo sl h) fun x h2 => nxO sl (fldS h2 cs f x v) := by
  show bindS sl _ _ = _
  refine congrArg _ (funext fun x => funext fun h2 => ?_)
  show (match fldS h2 cs f x v with
    | some h3 => SRes.nx sl h3
    | none => .bad) = _
  cases fldS h2 cs f x v <;> rfl
def addK (sl : Sl) (c f : Str) (x : D) (fv : Mo D) (h1 : MH) : Option D → SRes
  | none => .bad
  | some v => bindS sl (fv sl h1) fun y h2 => match addI v y with
    | none => .bad
    | some z => nxO sl (fldS h2 [c] f x z)
@[simp] theorem addK_int {sl : Sl} {c f : Str} {x : D} {fv : Mo D} {h1 : MH} {i : Int} : addK sl c f x fv h1 (some (.int i)) = bindS sl (fv sl h1) fun y h2 => match addI (.int i) y with
    | none => .bad
    | some z => nxO sl (fldS h2 [c] f x z) := rfl
@[simp] theorem addI_int {i j : Int} : addI (.int i) (.int j) = some (.int (i + j)) := rfl
@[simp] theorem sFldAdd_ap {c f : Str} {fo fv : Mo D} {sl : Sl} {h : MH} : sFldAdd c f fo fv sl h = bindS sl (fo sl h) fun x h1 => addK sl c f x fv h1 (fldD h1 [c] f x) := by
  show bindS sl _ _ = _
  refine congrArg _ (funext fun x => funext fun h1 => ?_)
  show (match fldD h1 [c] f x with
    | none => SRes.bad
    | some v => bindS sl (fv sl h1) fun y h2 => match addI v y with
      | none => .bad
      | some z => match fldS h2 [c] f x z with
        | some h3 => .nx sl h3
        | none => .bad) = _
  cases fldD h1 [c] f x with
  | none => rfl
  | some v =>
    show bindS sl _ _ = bindS sl _ _
    refine congrArg _ (funext fun y => funext fun h2 => ?_)
    show (match addI v y with
      | none => SRes.bad
      | some z => match fldS h2 [c] f x z with
        | some h3 => .nx sl h3
        | none => .bad) = (match addI v y with
      | none => SRes.bad
      | some z => nxO sl (fldS h2 [c] f x z))
    cases addI v y with
    | none => rfl
    | some z =>
      show (match fldS h2 [c] f x z with
        | some h3 => SRes.nx sl h3
        | none => .bad) = nxO sl (fldS h2 [c] f x z)
      cases fldS h2 [c] f x z <;> rfl
def methK (m : Str) (r : Res D) : Option (Str × List Str × List D) → Res D
  | some p => if fhas m p.2.1 = false then r else .bad
  | none => .bad
@[simp] theorem methK_some {m : Str} {r : Res D} {c : Str} {ks : List Str} {vs : List D} : methK m r (some (c, ks, vs)) = if fhas m ks = false then r else .bad := rfl
@[simp] theorem mMeth_ap {c m : Str} {n : Nat} {g : Fn} {fo : Mo D} {fl : Mo (List D)} {sl : Sl} {h : MH} : mMeth c m n g fo fl sl h = bindR (fo sl h) fun x h1 => methK m (bindR (fl sl h1) fun ds h2 => ckN n g (x :: ds) h2) (insD h1 [c] x) := by
  show bindR _ _ = _
  refine congrArg _ (funext fun x => funext fun h1 => ?_)
  show (match insD h1 [c] x with
    | some p => if fhas m p.2.1 = false then bindR (fl sl h1) fun ds h2 => ckN n g (x :: ds) h2 else .bad
    | none => .bad) = _
  cases insD h1 [c] x <;> rfl
@[simp] theorem mMake_ap {c : Str} {n : Nat} {g : Fn} {fl : Mo (List D)} {sl : Sl} {h : MH} : mMake c n g fl sl h = bindR (fl sl h) fun ds h1 => makK h1.length (ckN n g (.ref h1.length :: ds) (h1 ++ [.ins c [] []])) := rfl
@[simp] theorem makK_non {i : Nat} {h : MH} : makK i (.ok .non h) = .ok (.ref i) h := rfl
@[simp] theorem sAsgT_ap {f : Mo D} {k : Tgt} {sl : Sl} {h : MH} : sAsgT f k sl h = bindS sl (f sl h) fun d h1 => onlyNx (k d sl h1) := rfl
@[simp] theorem onlyNx_nx {sl : Sl} {h : MH} : onlyNx (.nx sl h) = .nx sl h := rfl
@[simp] theorem kTup_ap {fs : List Tgt} {ds : List D} {sl : Sl} {h : MH} : kTup fs (.tup ds) sl h = if ds.length = fs.length then runT fs ds sl h else .bad := rfl
@[simp] theorem runT_nil {sl : Sl} {h : MH} : runT [] [] sl h = .nx sl h := rfl
@[simp] theorem runT_cons {f : Tgt} {fs : List Tgt} {d : D} {ds : List D} {sl : Sl} {h : MH} : runT (f :: fs) (d :: ds) sl h = seqR (f d sl h) (runT fs ds) := rfl
@[simp] theorem kName_ap {i : Nat} {d : D} {sl : Sl} {h : MH} : kName i d sl h = .nx (sl.set i (some d)) h := rfl
@[simp] theorem isLst_ref {h : MH} {k : Nat} : isLst h (.ref k) = (oLst h[k]?).isSome := rfl
@[simp] theorem gApp_ref {h : MH} {k : Nat} {d : D} : gApp (.ref k) [d] h = appD h k d (oLst h[k]?) := rfl
@[simp] theorem appD_some {h : MH} {k : Nat} {d : D} {xs : List D} : appD h k d (some xs) = if xs.length < lim then .ok .non (h.set k (.lst (xs ++ [d]))) else .bad := rfl
@[simp] theorem fMax2_int {i j : Int} {h : MH} : fMax2 [.int i, .int j] h = .ok (.int (if j > i then j else i)) h := rfl
@[simp] theorem fAny_ap {xs : List D} {h : MH} : fAny [.lst xs] h = optR ((blsD xs).map fun bs => .bl (bs.any id)) h := rfl
@[simp] theorem lenD_ref {h : MH} {k : Nat} : lenD h (.ref k) = (oLst h[k]?).map List.length := rfl
@[simp] theorem mItL_ap' {f : Mo D} {sl : Sl} {h : MH} : mItL f sl h = bindR (f sl h) fun d h1 => optR (itemsL d) h1 := rfl
theorem any_map {α : Type} (xs : List α) (f : α → Bool) {h : MH} : fAny [.lst (xs.map fun x => D.bl (f x))] h = .ok (.bl (xs.any f)) h := by
  have : (xs.map fun x => D.bl (f x)) = ((xs.map f).map D.bl) := by simp
  rw [this, fAny_ap, blsD_map]
  simp [List.any_map]
/-- a comprehension over a list that stays -/
theorem lcH_map {α : Type} {to : α → D} {k i : Nat} {c : Mo Bool} {f : Mo D} {sl : Sl} {h : MH} {p : α → Bool} {g : α → D} {xs : List α} (hx : oLst h[k]? = some (xs.map to)) (hl : xs.length < lim) (H : ∀ x ∈ xs, c (sl.set i (some (to x))) h = .ok (p x) h ∧ (p x = true → f (sl.set i (some (to x))) h = .ok (g x) h)) :
    ∀ (n a : Nat) (acc : List D), n = xs.length - a → a ≤ xs.length → acc.length ≤ a → lcH k (.nm i) c f sl n a acc h = .ok (acc ++ ((xs.drop a).filter p).map g) h := by
  intro n
  induction n with
  | zero =>
    intro a acc hn ha _
    have : a = xs.length := by omega
    subst this
    unfold lcH
    rw [hx]
    simp
  | succ n ih =>
    intro a acc hn ha hac
    have hlt : a < xs.length := by omega
    unfold lcH
    rw [hx]
    have hg : (xs.map to)[a]? = some (to xs[a]) := by simp [hlt]
    simp only [hg, tgD_nm]
    obtain ⟨h1, h2⟩ := H xs[a] (List.getElem_mem _)
    simp only [h1, noX_ok, bindR_ok]
    rw [List.drop_eq_getElem_cons hlt]
    cases e : p xs[a] with
    | true =>
      simp only [if_true]
      rw [if_pos (by omega), h2 e]
      simp only [noX_ok, bindR_ok]
      rw [ih (a + 1) _ (by omega) hlt (by simp; omega)]
      simp only [List.filter_cons, e, if_true, List.map_cons, List.append_assoc, List.cons_append, List.nil_append]
    | false =>
      simp only [Bool.false_eq_true, if_false]
      rw [ih (a + 1) _ (by omega) hlt (by omega)]
      simp only [List.filter_cons, e, Bool.false_eq_true, if_false]
@[simp] theorem mLcH_ap {vs : List Nat} {fo : Mo D} {tg : Tg} {c : Mo Bool} {f : Mo D} {sl : Sl} {h : MH} : mLcH vs fo tg c f sl h = bindR (fo sl h) fun x h1 => match refD x with
  | some k => if (oLst h1[k]?).isSome = true then bindR (lcH k tg c f (wipeD sl vs) (lenH h1 k) 0 [] h1) fun xs h2 => .ok (.lst xs) h2 else .bad
  | none => .bad := rfl
@[simp] theorem refD_ref {k : Nat} : refD (.ref k) = some k := rfl
theorem lcH_map0 {α : Type} {to : α → D} {k i : Nat} {c : Mo Bool} {f : Mo D} {sl : Sl} {h : MH} {p : α → Bool} {g : α → D} {xs : List α} (hx : oLst h[k]? = some (xs.map to)) (hl : xs.length < lim) (H : ∀ x ∈ xs, c (sl.set i (some (to x))) h = .ok (p x) h ∧ (p x = true → f (sl.set i (some (to x))) h = .ok (g x) h)) :
    lcH k (.nm i) c f sl (lenH h k) 0 [] h = .ok ((xs.filter p).map g) h := by
  have e : lenH h k = xs.length := by simp [lenH, hx]
  rw [e]
  have := lcH_map hx hl H xs.length 0 [] (by omega) (by omega) (by simp)
  simpa using this
@[simp] theorem oNotN_non {h : MH} : oNotN .non .non h = .ok (.bl false) h := rfl
@[simp] theorem oNotN_int {i : Int} {h : MH} : oNotN (.int i) .non h = .ok (.bl true) h := rfl
@[simp] theorem oNotN_str {i : Str} {h : MH} : oNotN (.str i) .non h = .ok (.bl true) h := rfl
@[simp] theorem oNotN_ref {i : Nat} {h : MH} : oNotN (.ref i) .non h = .ok (.bl true) h := rfl
@[simp] theorem oIsN_non {h : MH} : oIsN .non .non h = .ok (.bl true) h := rfl
@[simp] theorem oIsN_int {i : Int} {h : MH} : oIsN (.int i) .non h = .ok (.bl false) h := rfl
@[simp] theorem oIsN_str {i : Str} {h : MH} : oIsN (.str i) .non h = .ok (.bl false) h := rfl
@[simp] theorem oIsN_ref {i : Nat} {h : MH} : oIsN (.ref i) .non h = .ok (.bl false) h := rfl
@[simp] theorem oIsN_tup {i : List D} {h : MH} : oIsN (.tup i) .non h = .ok (.bl false) h := rfl
/-- a loop, told by what has been walked -/
theorem forD_pre {α : Type} {to : α → D} {i : Nat} {body : Ms} {Inv : List α → Sl → MH → Prop} : ∀ (rest done : List α) (sl : Sl) (h : MH), (∀ a x b, a ++ x :: b = done ++ rest → ∀ sl h, Inv a sl h → ∃ sl' h', body (sl.set i (some (to x))) h = .nx sl' h' ∧ Inv (a ++ [x]) sl' h') → Inv done sl h →
    ∃ sl' h', forD (.nm i) body (rest.map to) sl h = .nx sl' h' ∧ Inv (done ++ rest) sl' h' := by
  intro rest
  induction rest with
  | nil => intro done sl h _ hi; exact ⟨sl, h, by rw [List.map_nil]; unfold forD; rfl, by simpa using hi⟩
  | cons x rest ih =>
    intro done sl h hb hi
    obtain ⟨sl1, h1, e1, hi1⟩ := hb done x rest rfl sl h hi
    obtain ⟨sl2, h2, e2, hi2⟩ := ih (done ++ [x]) sl1 h1 (fun a y b e => hb a y b (by rw [e]; simp)) hi1
    refine ⟨sl2, h2, ?_, by simpa using hi2⟩
    rw [List.map_cons, forD]
    simp only [tgD_nm, e1]
    exact e2
theorem for_pre {α : Type} {fi : Mo (List D)} {i : Nat} {body : Ms} {sl : Sl} {h : MH} {P : Sl → MH → Prop} (to : α → D) (xs : List α) (Inv : List α → Sl → MH → Prop) (hfi : fi sl h = .ok (xs.map to) h) (h0 : Inv [] sl h)
    (hb : ∀ a x b, a ++ x :: b = xs → ∀ sl h, Inv a sl h → NxP (Inv (a ++ [x])) (body (sl.set i (some (to x))) h)) (hP : ∀ sl h, Inv xs sl h → P sl h) : NxP P (sFor fi (.nm i) body sl h) := by
  obtain ⟨sl', h', e, p⟩ := forD_pre (to := to) (i := i) (body := body) (Inv := Inv) xs [] sl h (fun a x b e => hb a x b (by simpa using e)) h0
  exact ⟨sl', h', by simp [hfi, e], hP _ _ (by simpa using p)⟩
end CH

namespace CH
open PySem L2
theorem callF_s {n : Nat} {h : MH} {f : Fid} {ds : List D} : callF (n + 1) f ds h = bodyOf (callF n) f ds h := rfl

end CH

namespace CH
open PySem L2
@[simp] theorem fInt_bl {b : Bool} {h : MH} : fInt [.bl b] h = .ok (.int (if b = true then 1 else 0)) h := by cases b <;> rfl
@[simp] theorem oEqE_ap {xs : List D} {h : MH} : oEqE (.lst xs) (.lst []) h = .ok (.bl xs.isEmpty) h := rfl
@[simp] theorem oNeE_ap {xs : List D} {h : MH} : oNeE (.lst xs) (.lst []) h = .ok (.bl (!xs.isEmpty)) h := rfl

end CH

namespace CH
open PySem L2
section
variable {n : Nat} {p g f s e k q : String} {h : MH}
/-! the program's conditions -/
def bPassed (p g : String) : Bool := decide (g = "never") && !decide (p = "store set")
def bClimb (p g e : String) : Bool := decide (p = "store set") && ((decide (g = "mark") || decide (g = "newer")) && decide (e = "keeps"))
def bLast (p : String) : Bool := decide (p = "drop store drop") || decide (p = "store drop")
def bGuarded (p g e : String) : Bool := bLast p && (decide (g = "token") || (decide (g = "mark") && decide (e = "keeps")))
def bRest (p g s e k : String) : Bool := bPassed p g || (!decide (k = "stops") && (bClimb p g e || (bGuarded p g e && !(decide (g = "token") && decide (s = "replica")))))
def bFresh (p g f s e : String) : Bool := bClimb p g e || (!decide (s = "replica") && (bPassed p g || (bGuarded p g e && decide (f = "alone"))))
def bForward (p g f e : String) : Bool := (bPassed p g || (decide (f = "shared") && !decide (p = "store set"))) || (!decide (e = "evicts") && (decide (g = "mark") || (decide (g = "newer") && (decide (p = "store") || decide (p = "store set")))))
def bFilled (p g f s k : String) : Bool := !(decide (g = "never") || (decide (f = "shared") && decide (k = "stops"))) && (!decide (g = "mark") || (decide (s = "primary") || !bLast p))
def bQuiet (p g f s e k : String) : Bool := if bPassed p g = true then decide (s = "primary") else decide (k = "finishes") && bFresh p g f s e
def bDoes (p g f s e k q : String) : Bool :=
  if q = "ending" then decide (f = "alone") || decide (k = "finishes")
  else if q = "mended" then !decide (p = "store") || decide (g = "never")
  else if q = "moving" then decide (f = "alone")
  else if q = "single" then decide (f = "shared")
  else if q = "linear" then bFresh p g f s e && bForward p g f e
  else if q = "filled" then bFilled p g f s k
  else if q = "forward" then bForward p g f e
  else if q = "fresh" then bFresh p g f s e
  else if q = "quiet" then bQuiet p g f s e k
  else bRest p g s e k
@[simp] theorem e_passed : callF (n + 1) .is_passed_by [St3 p g f] h = .ok (.bl (bPassed p g)) h := by
  simp [callF_s, bodyOf, b_is_passed_by, bPassed]
@[simp] theorem e_climb : callF (n + 1) .is_climbing [St3 p g f, St3 s e k] h = .ok (.bl (bClimb p g e)) h := by
  simp [callF_s, bodyOf, b_is_climbing, k_VERSIONED, bClimb]
@[simp] theorem e_guarded : callF (n + 1) .is_guarded [St3 p g f, St3 s e k] h = .ok (.bl (bGuarded p g e)) h := by
  simp [callF_s, bodyOf, b_is_guarded, k_DROPS_LAST, bGuarded, bLast]
@[simp] theorem e_rest : callF (n + 2) .rest_holds [St3 p g f, St3 s e k] h = .ok (.bl (bRest p g s e k)) h := by
  rw [callF_s]
  simp [bodyOf, b_rest_holds, bRest]
@[simp] theorem e_fresh : callF (n + 2) .fresh_holds [St3 p g f, St3 s e k] h = .ok (.bl (bFresh p g f s e)) h := by
  rw [callF_s]
  simp [bodyOf, b_fresh_holds, bFresh]
@[simp] theorem e_forward : callF (n + 2) .forward_holds [St3 p g f, St3 s e k] h = .ok (.bl (bForward p g f e)) h := by
  rw [callF_s]
  simp [bodyOf, b_forward_holds, bForward]
@[simp] theorem e_filled : callF (n + 2) .filled_holds [St3 p g f, St3 s e k] h = .ok (.bl (bFilled p g f s k)) h := by
  rw [callF_s]
  simp [bodyOf, b_filled_holds, bFilled, k_DROPS_LAST, bLast]
@[simp] theorem e_quiet : callF (n + 3) .quiet_holds [St3 p g f, St3 s e k] h = .ok (.bl (bQuiet p g f s e k)) h := by
  rw [callF_s]
  simp [bodyOf, b_quiet_holds, bQuiet]
@[simp] theorem e_does : callF (n + 4) .does_hold [St3 p g f, St3 s e k, S q] h = .ok (.bl (bDoes p g f s e k q)) h := by
  rw [callF_s]
  by_cases h1 : q = "ending"
  · subst h1; simp [bodyOf, b_does_hold, bDoes]
  by_cases h2 : q = "mended"
  · subst h2; simp [bodyOf, b_does_hold, bDoes]
  by_cases h3 : q = "moving"
  · subst h3; simp [bodyOf, b_does_hold, bDoes]
  by_cases h4 : q = "single"
  · subst h4; simp [bodyOf, b_does_hold, bDoes]
  by_cases h5 : q = "linear"
  · subst h5; simp [bodyOf, b_does_hold, bDoes]
  by_cases h6 : q = "filled"
  · subst h6; simp [bodyOf, b_does_hold, bDoes, vt_does_hold]
  by_cases h7 : q = "forward"
  · subst h7; simp [bodyOf, b_does_hold, bDoes, vt_does_hold]
  by_cases h8 : q = "fresh"
  · subst h8; simp [bodyOf, b_does_hold, bDoes, vt_does_hold]
  by_cases h9 : q = "quiet"
  · subst h9; simp [bodyOf, b_does_hold, bDoes, vt_does_hold]
  simp [bodyOf, b_does_hold, bDoes, vt_does_hold, h1, h2, h3, h4, h5, h6, h7, h8, h9, Ne.symm h6, Ne.symm h7, Ne.symm h8, Ne.symm h9]
  done
end

end CH

namespace CH
open PySem L2
section
variable {n : Nat} {p g f s e k q : String} {h : MH}
def okP (p : String) : Bool := decide (p = "drop store") || (decide (p = "drop store drop") || (decide (p = "store") || (decide (p = "store drop") || decide (p = "store set"))))
def okG (g : String) : Bool := decide (g = "always") || (decide (g = "empty") || (decide (g = "mark") || (decide (g = "never") || (decide (g = "newer") || decide (g = "token")))))
def okF (f : String) : Bool := decide (f = "alone") || decide (f = "shared")
def okD (p g f : String) : Bool := okP p && (okG g && okF f)
def okW (s e k : String) : Bool := (decide (s = "primary") || decide (s = "replica")) && ((decide (e = "evicts") || decide (e = "keeps")) && (decide (k = "finishes") || decide (k = "stops")))
def okQ (q : String) : Bool := decide (q = "ending") || (decide (q = "filled") || (decide (q = "forward") || (decide (q = "fresh") || (decide (q = "linear") || (decide (q = "mended") || (decide (q = "moving") || (decide (q = "quiet") || (decide (q = "rest") || decide (q = "single")))))))))
end

end CH

namespace CH
open PySem L2
section
variable {n : Nat} {p g f s e k q : String} {h : MH}
theorem e_chd : callF (n + 2) .is_choice [St3 p g f, k_DESIGNS] h = .ok (.bl (okD p g f)) h := by
  rw [callF_s]
  simp [bodyOf, b_is_choice, k_DESIGNS, k_PATHS, k_GUARDS, k_FLIGHTS, lcD_cons, isiT, callF_s, b_is_list, zipD, setAll, wipeD, blsD, okD, okP, okG, okF]
  done
theorem e_chw : callF (n + 2) .is_choice [St3 s e k, k_WORLDS] h = .ok (.bl (okW s e k)) h := by
  rw [callF_s]
  simp [bodyOf, b_is_choice, k_WORLDS, lcD_cons, isiT, callF_s, b_is_list, zipD, setAll, wipeD, blsD, okW]
  done
theorem e_isd : callF (n + 3) .is_design [St3 p g f] h = .ok (.bl (okD p g f)) h := by
  rw [callF_s]
  simp [bodyOf, b_is_design, e_chd]
theorem e_isw : callF (n + 3) .is_world [St3 p g f] h = .ok (.bl (okW p g f)) h := by
  rw [callF_s]
  simp [bodyOf, b_is_world, e_chw]
theorem e_need_both (hd : okD p g f = true) (hw : okW s e k = true) : callF (n + 5) .need_both [St3 p g f, St3 s e k] h = .ok .non h := by
  have h1 : callF (n + 4) .need_design [St3 p g f] h = .ok .non h := by
    rw [callF_s]
    simp [bodyOf, b_need_design, e_isd, hd]
  have h2 : callF (n + 4) .need_world [St3 s e k] h = .ok .non h := by
    rw [callF_s]
    simp [bodyOf, b_need_world, e_isw, hw]
  rw [callF_s]
  simp [bodyOf, b_need_both, h1, h2]
end

end CH

namespace CH
open PySem L2
section
variable {n : Nat} {p g f s e k q : String} {h : MH}
def QS : List String := ["ending", "filled", "forward", "fresh", "linear", "mended", "moving", "quiet", "rest", "single"]
theorem k_PROMISES_eq : k_PROMISES = .tup (QS.map S) := by rfl
theorem e_kept : callF (n + 5) .kept_in [St3 p g f, St3 s e k] h = .ok (.tup ((QS.filter fun q => bDoes p g f s e k q).map S)) h := by
  rw [callF_s]
  have e1 := lcD_map0 (to := S) (i := 2) (c := mTest (mCall 3 (callF (n + 4) .does_hold) (mCons (mVar 0) (mCons (mVar 1) (mCons (mVar 2) mNil))))) (f := mVar 2) (sl := wipeD [some (St3 p g f), some (St3 s e k), none] [2]) (h := h)
    (p := fun q => bDoes p g f s e k q) (g := S) QS (by
      intro q hq
      simp [wipeD]) (by simp [QS])
  simp only [wipeD] at e1
  simp [bodyOf, b_kept_in, k_PROMISES_eq, wipeD] 
  simp at e1
  simp [e1]
  done
theorem pureS {xs : List String} : pureL (xs.map S) = true := by
  induction xs with
  | nil => rfl
  | cons x xs ih => simp [pureL, pureD, ih]
end

end CH

namespace CH
open PySem L2
section
variable {h : MH}
def plainD : Nat → D → Bool
  | _, .non => true
  | _, .bl _ => true
  | _, .int _ => true
  | _, .str _ => true
  | n + 1, .tup xs => decide (xs.length < 100000) && xs.all (plainD n)
  | n + 1, .lst xs => decide (xs.length < 100000) && xs.all (plainD n)
  | _, _ => false
theorem eqD_non : eqD .non .non = some true := by rfl
theorem tyD_non : tyD h .non = some "NoneType" := rfl
theorem eqD_nil : eqD (.lst []) (.lst []) = some true := by rfl
theorem alike_seq {m : Nat} {c : List D → D} {xs : List D} (hl : xs.length < 100000) (hc : (c = D.tup) ∨ (c = D.lst)) (ih : ∀ d ∈ xs, callF m .l_alike [d, d] h = .ok (.bl true) h) : callF (m + 1) .l_alike [c xs, c xs] h = .ok (.bl true) h := by
  rw [callF_s]
  have hr : ((xs.length : Int) ≤ 1000000000) := by omega
  have hr2 : (-1000000000 ≤ (xs.length : Int)) := by omega
  have e1 : ∀ c0 : D, (∀ i, ixD h i c0 = atI xs i) → lcD (.nm 2) (mNotT (mTest (mCall 2 (callF m .l_alike) (mCons (mOp oIx (mVar 0) (mVar 2)) (mCons (mOp oIx (mVar 1) (mVar 2)) mNil))))) (mVar 2) [some c0, some c0, none] [] ((List.range xs.length).map fun (i : Nat) => D.int i) h = .ok [] h := by
    intro c0 h0
    have e1 := lcD_map0 (to := fun (i : Nat) => D.int i) (i := 2) (c := mNotT (mTest (mCall 2 (callF m .l_alike) (mCons (mOp oIx (mVar 0) (mVar 2)) (mCons (mOp oIx (mVar 1) (mVar 2)) mNil))))) (f := mVar 2) (sl := [some c0, some c0, none]) (h := h)
      (p := fun q => false) (g := fun _ => D.non) (List.range xs.length) (by
        intro q hq
        have hq' : q < xs.length := by simpa using hq
        have ha : atI xs (q : Int) = some (xs[q]) := atI_nat (by simp [hq'])
        simp [h0, ha, ih xs[q] (List.getElem_mem _)]) (by rw [List.length_range, lim_eq]; exact hl)
    have e0 : (List.range xs.length).filter (fun _ => false) = [] := by simp
    rw [e0] at e1
    exact e1
  rcases hc with rfl | rfl
  · have e1 := e1 (.tup xs) (fun _ => rfl)
    simp [bodyOf, b_l_alike, isiL, isiT, range0_eq, big, hr, hr2, wipeD]
    rw [e1]
    simp [eqD_nil]
  · have e1 := e1 (.lst xs) (fun _ => rfl)
    simp [bodyOf, b_l_alike, isiL, isiT, range0_eq, big, hr, hr2, wipeD]
    rw [e1]
    simp [eqD_nil]
theorem alike_refl {m : Nat} : ∀ (n : Nat) (d : D), plainD n d = true → callF (m + n + 1) .l_alike [d, d] h = .ok (.bl true) h
  | n, .non, _ => by rw [callF_s]; simp [bodyOf, b_l_alike, isiL, isiT, oIsN, eqD_non, tyD_non]
  | n, .bl _, _ => by rw [callF_s]; simp [bodyOf, b_l_alike, isiL, isiT, oIsN]
  | n, .int _, _ => by rw [callF_s]; simp [bodyOf, b_l_alike, isiL, isiT, oIsN]
  | n, .str _, _ => by rw [callF_s]; simp [bodyOf, b_l_alike, isiL, isiT, oIsN]
  | n + 1, .tup xs, hp => by
    simp only [plainD, Bool.and_eq_true, decide_eq_true_eq, List.all_eq_true] at hp
    exact alike_seq (c := D.tup) hp.1 (.inl rfl) fun d hd => alike_refl n d (hp.2 d hd)
  | n + 1, .lst xs, hp => by
    simp only [plainD, Bool.and_eq_true, decide_eq_true_eq, List.all_eq_true] at hp
    exact alike_seq (c := D.lst) hp.1 (.inr rfl) fun d hd => alike_refl n d (hp.2 d hd)
  | 0, .tup _, hp => by simp [plainD] at hp
  | 0, .lst _, hp => by simp [plainD] at hp
  | n, .dic _ _, hp => by cases n <;> simp [plainD] at hp
  | n, .ref _, hp => by cases n <;> simp [plainD] at hp
  | n, .gl _, hp => by cases n <;> simp [plainD] at hp
  | n, .ty _, hp => by cases n <;> simp [plainD] at hp
  | n, .scr _, hp => by cases n <;> simp [plainD] at hp
  | n, .dct _ _, hp => by cases n <;> simp [plainD] at hp
end

end CH

namespace CH
open PySem L2
section
variable {n : Nat} {h : MH}
abbrev Row (ns : List Int) (i s r : Int) : O := .lst [.scr ns, .int i, .int s, .int r]
theorem e_taken {k : Nat} {ns : List Int} {i s r m : Int} (hk : h[k]? = some (Row ns i s r)) (hi : 0 ≤ i) (hm : 0 < m) (hm2 : m < 1073741824) :
    ∃ x i' s' r', 0 ≤ x ∧ x < m ∧ 0 ≤ i' ∧ callF (n + 1) .l_taken [.ref k, .int m] h = .ok (.int x) (h.set k (Row ns i' s' r')) := by
  have hlt : k < h.length := by
    rcases Nat.lt_or_ge k h.length with e | e
    · exact e
    · rw [List.getElem?_eq_none e] at hk; cases hk
  have hg : h[k] = Row ns i s r := by rw [List.getElem?_eq_getElem hlt] at hk; exact Option.some.inj hk
  by_cases h1 : 0 < r
  · refine ⟨r % m, i, s, r / m, Int.emod_nonneg _ (by omega), Int.emod_lt_of_pos _ hm, hi, ?_⟩
    rw [callF_s]
    simp [bodyOf, b_l_taken, hk, h1, hm, cDiv, hm2, lSet, ixN, hlt, hg]
  by_cases h2 : (ns.length : Int) < i + 1
  · refine ⟨(((s * 48271 + 11) % 2147483647) / 7) % m, i + 1, (s * 48271 + 11) % 2147483647, r, Int.emod_nonneg _ (by omega), Int.emod_lt_of_pos _ hm, by omega, ?_⟩
    rw [callF_s]
    simp [bodyOf, b_l_taken, hk, h1, h2, hm, cDiv, hm2, lSet, ixN, hlt, hg, cMul]
    done
  obtain ⟨c, hc⟩ : ∃ c, ns[i.toNat]? = some c := ⟨ns[i.toNat]'(by omega), List.getElem?_eq_getElem _⟩
  have hat : atI ns i = some c := by
    have := atI_nat hc
    rw [show i = ((i.toNat : Nat) : Int) by omega]
    exact this
  refine ⟨c % m, i + 1, (s * 48271 + c + 11) % 2147483647, if 1000000000000000000 ≤ c then c / m else r, Int.emod_nonneg _ (by omega), Int.emod_lt_of_pos _ hm, by omega, ?_⟩
  rw [callF_s]
  by_cases h3 : 1000000000000000000 ≤ c
  · simp [bodyOf, b_l_taken, hk, h1, h2, hm, cDiv, hm2, lSet, ixN, hlt, hg, cMul, hat, cPow, h3]
    done
  · simp [bodyOf, b_l_taken, hk, h1, h2, hm, cDiv, hm2, lSet, ixN, hlt, hg, cMul, hat, cPow, h3]
    done
end

end CH

namespace CH
open PySem L2
section
variable {n : Nat} {p g f s e k q : String} {h : MH}
end

end CH

namespace CH
open PySem L2
section
variable {n : Nat} {p g f s e k q : String} {h : MH}
def dropE (p : String) : Bool := Txt.endswith (Str.ofString p) (Str.ofString "drop")
def lGuards (p g e : String) : Bool := dropE p && (decide (g = "token") || (decide (g = "mark") && decide (e = "keeps")))
def lFresh (p g f s e : String) : Bool := bClimb p g e || (decide (s = "primary") && (bPassed p g || (lGuards p g e && decide (f = "alone"))))
def lLow (p g : String) : Bool := decide (g = "mark") || (decide (g = "newer") && (decide (p = "store") || decide (p = "store set")))
def lForward (p g f e : String) : Bool := bPassed p g || ((decide (f = "shared") && !decide (p = "store set")) || (decide (e = "keeps") && lLow p g))
def lLate (g s : String) : Bool := decide (g = "token") && decide (s = "replica")
def lWhole (k : String) : Bool := decide (k = "finishes")
def lEnding (f k : String) : Bool := decide (f = "alone") || lWhole k
def lFilled0 (g f k : String) : Bool := !decide (g = "never") && (lWhole k || decide (f = "alone"))
def lFilled (p g f s k : String) : Bool := lFilled0 g f k && !(decide (g = "mark") && (decide (s = "replica") && dropE p))
def lMended (p g : String) : Bool := !decide (p = "store") || decide (g = "never")
def lQuiet (p g f s e k : String) : Bool := if bPassed p g = true then decide (s = "primary") else lWhole k && lFresh p g f s e
def lRest (p g s e k : String) : Bool := bPassed p g || (lWhole k && (bClimb p g e || (lGuards p g e && !lLate g s)))
def lLinear (p g f s e : String) : Bool := lFresh p g f s e && lForward p g f e
def lDoes (p g f s e k q : String) : Bool :=
  if q = "ending" then lEnding f k
  else if q = "mended" then lMended p g
  else if q = "moving" then decide (f = "alone")
  else if q = "single" then decide (f = "shared")
  else if q = "linear" then lLinear p g f s e
  else if q = "filled" then lFilled p g f s k
  else if q = "forward" then lForward p g f e
  else if q = "fresh" then lFresh p g f s e
  else if q = "quiet" then lQuiet p g f s e k
  else lRest p g s e k
theorem sAsgT_two {f1 f2 fo1 fi1 fo2 fi2 : Mo D} {sl : Sl} {h : MH} {k : Nat} {key1 key2 : Key} {y1 y2 v1 v2 : D} {ks : List Key} {vs : List D} (e1 : f1 sl h = .ok v1 h) (e2 : f2 sl h = .ok v2 h) (e3 : ∀ h, fo1 sl h = .ok (.ref k) h) (e4 : ∀ h, fi1 sl h = .ok y1 h) (e5 : ∀ h, fo2 sl h = .ok (.ref k) h) (e6 : ∀ h, fi2 sl h = .ok y2 h) (hk : h[k]? = some (.dic ks vs)) (hy1 : keyD y1 = some key1) (hy2 : keyD y2 = some key2) (hl : ks.length < lim) (hl2 : (dputK key1 ks).length < lim) :
    sAsgT (mTup (mCons f1 (mCons f2 mNil))) (kTup [kDSub fo1 fi1, kDSub fo2 fi2]) sl h = .nx sl ((h.set k (.dic (dputK key1 ks) (dputV key1 v1 ks vs))).set k (.dic (dputK key2 (dputK key1 ks)) (dputV key2 v2 (dputK key1 ks) (dputV key1 v1 ks vs)))) := by
  have hlt : k < h.length := by
    rcases Nat.lt_or_ge k h.length with e | e
    · exact e
    · rw [List.getElem?_eq_none e] at hk; cases hk
  have hk2 : (h.set k (.dic (dputK key1 ks) (dputV key1 v1 ks vs)))[k]? = some (.dic (dputK key1 ks) (dputV key1 v1 ks vs)) := by
    rw [List.getElem?_set_self hlt]
  have d1 := dSet_ref (y := y1) (v := v1) hk hy1 hl
  have d2 := dSet_ref (y := y2) (v := v2) hk2 hy2 hl2
  have hr : runT [kDSub fo1 fi1, kDSub fo2 fi2] [v1, v2] sl h = .nx sl ((h.set k (.dic (dputK key1 ks) (dputV key1 v1 ks vs))).set k (.dic (dputK key2 (dputK key1 ks)) (dputV key2 v2 (dputK key1 ks) (dputV key1 v1 ks vs)))) := by
    simp only [runT, kDSub, e3, e4, e5, e6, bindS_ok, d1, d2, seqR_nx, sSkip_ap]
  have ht : mTup (mCons f1 (mCons f2 mNil)) sl h = .ok (.tup [v1, v2]) h := by
    simp [e1, e2]
  simp only [sAsgT, ht, bindS_ok, kTup, List.length_cons, List.length_nil, if_true, hr]
  rfl
theorem l_holds1 {c : Fid → Fn} (hq : okQ q = true) : ∃ h', runB 15 (b_l_holds c) [St3 p g f, St3 s e k, S q] [] = .ok (.bl (lDoes p g f s e k q)) h' := by
  simp only [runB_ap', slots0_ap, List.map, List.length_cons, List.length_nil, Nat.reduceAdd, Nat.reduceSub, List.replicate, List.cons_append, List.nil_append]
  unfold b_l_holds
  rw [seq_nx (sl1 := [some (St3 p g f), some (St3 s e k), some (S q), none, none, none, none, none, none, none, none, none, some (S p), some (S g), some (S f)]) (h1 := []) (by simp [sAsgT, kTup, runT, kName, onlyNx])]
  rw [seq_set (h1 := []) (.bl (bPassed p g)) (by simp [bPassed])]
  simp only [List.set_cons_succ, List.set_cons_zero]
  rw [seq_set (h1 := []) (.bl (bClimb p g e)) (by simp [bClimb])]
  simp only [List.set_cons_succ, List.set_cons_zero]
  rw [seq_set (h1 := []) (.bl (lGuards p g e)) (by simp [lGuards, dropE])]
  simp only [List.set_cons_succ, List.set_cons_zero]
  rw [seq_set (h1 := []) (.bl (lFresh p g f s e)) (by simp [lFresh])]
  simp only [List.set_cons_succ, List.set_cons_zero]
  rw [seq_set (h1 := []) (.bl (lLow p g)) (by simp [lLow])]
  simp only [List.set_cons_succ, List.set_cons_zero]
  rw [seq_set (h1 := []) (.bl (lForward p g f e)) (by simp [lForward])]
  simp only [List.set_cons_succ, List.set_cons_zero]
  rw [seq_set (h1 := []) (.bl (lLate g s)) (by simp [lLate])]
  simp only [List.set_cons_succ, List.set_cons_zero]
  rw [seq_set (h1 := []) (.bl (lWhole k)) (by simp [lWhole])]
  simp only [List.set_cons_succ, List.set_cons_zero]
  rw [seq_set (h1 := [.dic [.inr (Str.ofString "ending"), .inr (Str.ofString "fresh"), .inr (Str.ofString "forward"), .inr (Str.ofString "linear")] [.bl (lEnding f k), .bl (lFresh p g f s e), .bl (lForward p g f e), .bl (lLinear p g f s e)]]) (.ref 0) (by simp [lLinear, lEnding])]
  simp only [List.set_cons_succ, List.set_cons_zero]
  rw [seq_dset (k := 0) (key := .inr (Str.ofString "filled")) (v := .bl (lFilled0 g f k)) (y := S "filled") (by simp [lFilled0]) (by simp) (by simp) rfl rfl (by simp)]
  simp only [List.set_cons_succ, List.set_cons_zero, dputK_ap, dputV_ap, dhas_cons, dhas_nil, drep_cons, drep_nil, Sum.inr.injEq, ofString_inj', String.reduceEq, ↓reduceIte, Bool.false_eq_true, List.cons_append, List.nil_append]
  rw [seq_dset (k := 0) (key := .inr (Str.ofString "filled")) (v := .bl (lFilled p g f s k)) (y := S "filled") (by simp [lFilled, dropE, atKeyD, dicD, oDic]) (by simp) (by simp) rfl rfl (by simp)]
  simp only [List.set_cons_succ, List.set_cons_zero, dputK_ap, dputV_ap, dhas_cons, dhas_nil, drep_cons, drep_nil, Sum.inr.injEq, ofString_inj', String.reduceEq, ↓reduceIte, Bool.false_eq_true, List.cons_append, List.nil_append]
  rw [seq_nx (sl1 := _) (h1 := _) (sAsgT_two (v1 := .bl (lMended p g)) (v2 := .bl (decide (f = "alone"))) (k := 0) (key1 := .inr (Str.ofString "mended")) (key2 := .inr (Str.ofString "moving")) (y1 := S "mended") (y2 := S "moving") (by simp [lMended]) (by simp) (fun h => by simp) (fun h => by simp) (fun h => by simp) (fun h => by simp) rfl rfl rfl (by simp) (by simp))]
  simp only [List.set_cons_succ, List.set_cons_zero, dputK_ap, dputV_ap, dhas_cons, dhas_nil, drep_cons, drep_nil, Sum.inr.injEq, ofString_inj', String.reduceEq, ↓reduceIte, Bool.false_eq_true, List.cons_append, List.nil_append]
  rw [seq_dset (k := 0) (key := .inr (Str.ofString "quiet")) (v := .bl (lQuiet p g f s e k)) (y := S "quiet") (by simp [lQuiet]) (by simp) (by simp) rfl rfl (by simp)]
  simp only [List.set_cons_succ, List.set_cons_zero, dputK_ap, dputV_ap, dhas_cons, dhas_nil, drep_cons, drep_nil, Sum.inr.injEq, ofString_inj', String.reduceEq, ↓reduceIte, Bool.false_eq_true, List.cons_append, List.nil_append]
  rw [seq_dset (k := 0) (key := .inr (Str.ofString "rest")) (v := .bl (lRest p g s e k)) (y := S "rest") (by simp [lRest]) (by simp) (by simp) rfl rfl (by simp)]
  simp only [List.set_cons_succ, List.set_cons_zero, dputK_ap, dputV_ap, dhas_cons, dhas_nil, drep_cons, drep_nil, Sum.inr.injEq, ofString_inj', String.reduceEq, ↓reduceIte, Bool.false_eq_true, List.cons_append, List.nil_append]
  rw [seq_dset (k := 0) (key := .inr (Str.ofString "single")) (v := .bl (decide (f = "shared"))) (y := S "single") (by simp []) (by simp) (by simp) rfl rfl (by simp)]
  simp only [List.set_cons_succ, List.set_cons_zero, dputK_ap, dputV_ap, dhas_cons, dhas_nil, drep_cons, drep_nil, Sum.inr.injEq, ofString_inj', String.reduceEq, ↓reduceIte, Bool.false_eq_true, List.cons_append, List.nil_append]
  simp [okQ] at hq
  rcases hq with rfl | rfl | rfl | rfl | rfl | rfl | rfl | rfl | rfl | rfl <;> simp [atKeyD, dicD, oDic, lDoes]
  done
end
section
variable {n : Nat} {p g f s e k q : String} {h : MH}
theorem drop_last (hp : okP p = true) : dropE p = bLast p := by
  simp [okP] at hp
  rcases hp with rfl | rfl | rfl | rfl | rfl
  · simp [bLast]; exact (by decide +kernel : dropE "drop store" = false)
  · simp [bLast]; exact (by decide +kernel : dropE "drop store drop" = true)
  · simp [bLast]; exact (by decide +kernel : dropE "store" = false)
  · simp [bLast]; exact (by decide +kernel : dropE "store drop" = true)
  · simp [bLast]; exact (by decide +kernel : dropE "store set" = false)
theorem two_s {a b x : String} (hab : a ≠ b) (h : (decide (x = a) || decide (x = b)) = true) : decide (x = a) = !decide (x = b) := by
  simp at h
  rcases h with rfl | rfl
  · simp [hab]
  · simp [Ne.symm hab]
theorem lDoes_eq (hd : okD p g f = true) (hw : okW s e k = true) : lDoes p g f s e k q = bDoes p g f s e k q := by
  simp only [okD, okW, Bool.and_eq_true] at hd hw
  obtain ⟨hp, hg, hf⟩ := hd
  obtain ⟨hs, he, hk⟩ := hw
  have e1 : dropE p = bLast p := drop_last hp
  have e2 := two_s (by simp) hf
  have e3 := two_s (by simp) hs
  have e4 : decide (e = "evicts") = !decide (e = "keeps") := two_s (by simp) he
  have e5 := two_s (by simp) hk
  have f1 : lGuards p g e = bGuarded p g e := by simp only [lGuards, bGuarded, e1]
  have f2 : lFresh p g f s e = bFresh p g f s e := by simp only [lFresh, bFresh, f1, e3]
  have f3 : lForward p g f e = bForward p g f e := by simp only [lForward, bForward, e4, lLow, Bool.or_assoc, Bool.not_not]
  have f4 : lFilled p g f s k = bFilled p g f s k := by
    simp only [lFilled, bFilled, lFilled0, lWhole, e1, e2, e3, e5]
    cases decide (g = "never") <;> cases decide (f = "shared") <;> cases decide (k = "stops") <;> cases decide (g = "mark") <;> cases decide (s = "replica") <;> cases bLast p <;> rfl
  have f5 : lQuiet p g f s e k = bQuiet p g f s e k := by simp only [lQuiet, bQuiet, f2, lWhole]
  have f6 : lRest p g s e k = bRest p g s e k := by simp only [lRest, bRest, f1, lWhole, lLate, e5]
  simp only [lDoes, bDoes, f2, f3, f4, f5, f6, lEnding, lWhole, lMended, lLinear]
theorem l_holds_e (hd : okD p g f = true) (hw : okW s e k = true) (hq : okQ q = true) : callF (n + 1) .l_holds [St3 p g f, St3 s e k, S q] h = .ok (.bl (bDoes p g f s e k q)) h := by
  rw [callF_s]
  obtain ⟨h', e1⟩ := l_holds1 (p := p) (g := g) (f := f) (s := s) (e := e) (k := k) (c := callF n) hq
  rw [lDoes_eq hd hw] at e1
  simp only [bodyOf, isoR, pureL, pureD, Bool.and_true, if_true, e1]
end

end CH

namespace CH
open PySem L2
section
variable {n : Nat} {h : MH}
theorem e_pick {k : Nat} {ns : List Int} {i s r : Int} {xs : List D} (hk : h[k]? = some (Row ns i s r)) (hi : 0 ≤ i) (h0 : xs ≠ []) (h1 : xs.length ≤ 100000) :
    ∃ d i' s' r', d ∈ xs ∧ 0 ≤ i' ∧ callF (n + 2) .l_pick [.ref k, .lst xs] h = .ok d (h.set k (Row ns i' s' r')) := by
  have hl : 0 < xs.length := List.length_pos_iff.mpr h0
  obtain ⟨x, i', s', r', hx0, hx1, hi', e⟩ := e_taken (n := n) (m := (xs.length : Int)) hk hi (by omega) (by omega)
  have hx : x.toNat < xs.length := by omega
  have hat : atI xs x = some xs[x.toNat] := by
    have := atI_nat (List.getElem?_eq_getElem hx)
    rw [show ((x.toNat : Nat) : Int) = x by omega] at this
    exact this
  refine ⟨xs[x.toNat], i', s', r', List.getElem_mem _, hi', ?_⟩
  rw [callF_s]
  simp [bodyOf, b_l_pick, e, hat]
end

end CH

namespace CH
open PySem L2
section
variable {n : Nat} {p g f s e k q : String} {h : MH} {ws : List String}
/-! the promises asked for -/
theorem QS_lt : QS.Pairwise fun a b => ltS (Str.ofString a) (Str.ofString b) = true := by decide +kernel
theorem need_all (hs : ws.Sublist QS) : lcD (.nm 1) mYes (mAnd (mFn fIsi (mCons (mVar 1) (mCons (mC (.ty "str")) mNil))) (mOp oIn (mVar 1) (mC k_PROMISES))) [some (.tup (ws.map S)), none, none] [] (ws.map S) h = .ok (ws.map fun _ => D.bl true) h := by
  have e1 := lcD_map0 (to := S) (i := 1) (c := mYes) (f := mAnd (mFn fIsi (mCons (mVar 1) (mCons (mC (.ty "str")) mNil))) (mOp oIn (mVar 1) (mC k_PROMISES))) (sl := [some (.tup (ws.map S)), none, none]) (h := h) (p := fun _ => true) (g := fun _ => D.bl true) ws (by
    intro q hq
    have hq' : q ∈ QS := hs.subset hq
    simp [isiT, k_PROMISES_eq, inD_ST, hq', -inD_tup]) (Nat.lt_of_le_of_lt hs.length_le (by decide))
  simpa using e1
def pairsS : List String → List (String × String)
  | a :: b :: xs => (a, b) :: pairsS (b :: xs)
  | _ => []
theorem zip_pairs : ∀ ws : List String, zipD (ws.map S) ((ws.map S).drop 1) = (pairsS ws).map fun p => D.tup [S p.1, S p.2]
  | [] => rfl
  | [_] => rfl
  | a :: b :: xs => by
    have ih := zip_pairs (b :: xs)
    simp only [List.map_cons, List.drop_succ_cons, List.drop_zero] at ih ⊢
    show D.tup [S a, S b] :: zipD (S b :: xs.map S) (xs.map S) = _
    rw [ih]
    rfl
theorem pairs_lt : ∀ ws : List String, ws.Pairwise (fun a b => ltS (Str.ofString a) (Str.ofString b) = true) → ∀ x ∈ pairsS ws, ltS (Str.ofString x.1) (Str.ofString x.2) = true
  | [], _, x, hx => by simp [pairsS] at hx
  | [_], _, x, hx => by simp [pairsS] at hx
  | a :: b :: xs, hp, x, hx => by
    simp only [pairsS, List.mem_cons] at hx
    rcases hx with rfl | hx
    · exact (List.pairwise_cons.mp hp).1 b (by simp)
    · exact pairs_lt (b :: xs) (List.pairwise_cons.mp hp).2 x hx
theorem pairs_len : ∀ ws : List String, (pairsS ws).length ≤ ws.length
  | [] => by simp [pairsS]
  | [_] => by simp [pairsS]
  | a :: b :: xs => by have := pairs_len (b :: xs); simp [pairsS] at this ⊢; omega
theorem need_zip (hs : ws.Sublist QS) : lcD (.tp [1, 2]) mYes (mOp oLtS (mVar 1) (mVar 2)) [some (.tup (ws.map S)), none, none] [] (zipD (ws.map S) ((ws.map S).drop 1)) h = .ok ((pairsS ws).map fun _ => D.bl true) h := by
  rw [zip_pairs]
  have e1 := lcD_mapT0 (to := fun p : String × String => D.tup [S p.1, S p.2]) (tg := .tp [1, 2]) (c := mYes) (f := mOp oLtS (mVar 1) (mVar 2)) (sl := [some (.tup (ws.map S)), none, none]) (h := h) (p := fun _ => true) (g := fun _ => D.bl true) (pairsS ws) (by
    intro x hx
    have := pairs_lt ws (QS_lt.sublist hs) x hx
    refine ⟨[some (.tup (ws.map S)), some (S x.1), some (S x.2)], by simp [setAll], by simp, fun _ => ?_⟩
    simp [oLtS, this]) (Nat.lt_of_le_of_lt (Nat.le_trans (pairs_len ws) hs.length_le) (by decide))
  simpa using e1
theorem all_true {α : Type} (xs : List α) : fAll [.lst (xs.map fun _ => D.bl true)] h = .ok (.bl true) h := by
  have : (xs.map fun _ => D.bl true) = ((xs.map fun _ => true).map D.bl) := by simp
  rw [this, fAll_ap, blsD_map]
  simp
theorem e_need_promises (hs : ws.Sublist QS) : callF (n + 1) .need_promises [.tup (ws.map S)] h = .ok .non h := by
  rw [callF_s]
  have c1 : cutD (ws.map S) (some 1) none = (ws.map S).drop 1 := by
    unfold cutD HT.sIx
    simp
    cases ws with
    | nil => simp
    | cons a xs => simp; exact List.take_of_length_le (by simp)
  have h1 := need_all (h := h) hs
  have h2 := need_zip (h := h) hs
  simp only [List.drop_one] at c1 h2
  simp only [bodyOf, b_need_promises, runB_ap', slots0_ap, List.map, List.length_cons, List.length_nil, Nat.reduceAdd, Nat.reduceSub, List.replicate, List.cons_append, List.nil_append]
  rw [seq_nx (sl1 := [some (.tup (ws.map S)), none, none]) (h1 := h) (by
    simp [isiT, wipeD, h1, all_true, -fAll_ap])]
  simp [mSl, mPart, mNoPart, gSl, c1, wipeD, h2, all_true, -fAll_ap]
end

end CH

namespace CH
open PySem L2
section
variable {n : Nat} {q : String} {h : MH} {ws : List String}
def PS : List String := ["drop store", "drop store drop", "store", "store drop", "store set"]
def GS : List String := ["always", "empty", "mark", "never", "newer", "token"]
abbrev Dz := String × String × String
def toZ (d : Dz) : D := St3 d.1 d.2.1 d.2.2
def designsZ : List Dz := PS.flatMap fun p => GS.flatMap fun g => [(p, g, "alone"), (p, g, "shared")]
def worldsZ : List Dz := ["primary", "replica"].flatMap fun p => ["evicts", "keeps"].flatMap fun g => [(p, g, "finishes"), (p, g, "stops")]
theorem ok_designsZ {d : Dz} (hd : d ∈ designsZ) : okD d.1 d.2.1 d.2.2 = true := by
  unfold designsZ at hd
  obtain ⟨p, hp, hd⟩ := List.mem_flatMap.mp hd
  obtain ⟨g, hg, hd⟩ := List.mem_flatMap.mp hd
  have h1 : okP p = true := by simpa [PS, okP] using hp
  have h2 : okG g = true := by simpa [GS, okG] using hg
  simp only [List.mem_cons, List.not_mem_nil, or_false] at hd
  rcases hd with rfl | rfl
  · simp [okD, h1, h2, okF]
  · simp [okD, h1, h2, okF]
theorem ok_worldsZ {d : Dz} (hd : d ∈ worldsZ) : okW d.1 d.2.1 d.2.2 = true := by
  unfold worldsZ at hd
  obtain ⟨p, hp, hd⟩ := List.mem_flatMap.mp hd
  obtain ⟨g, hg, hd⟩ := List.mem_flatMap.mp hd
  simp only [List.mem_cons, List.not_mem_nil, or_false] at hd hp hg
  rcases hd with rfl | rfl
  · simp [okW, hp, hg]
  · simp [okW, hp, hg]
def doesZ (d w : Dz) (q : String) : Bool := bDoes d.1 d.2.1 d.2.2 w.1 w.2.1 w.2.2 q
theorem e_kept_z {d w : Dz} : callF (n + 5) .kept_in [toZ d, toZ w] h = .ok (.tup ((QS.filter fun q => doesZ d w q).map S)) h := e_kept
theorem e_keeps {d w : Dz} (hs : ∀ x ∈ ws, x ∈ QS) (hl : ws.length < 100000) : callF (n + 6) .keeps [toZ d, toZ w, .tup (ws.map S)] h = .ok (.bl (ws.all (doesZ d w))) h := by
  rw [callF_s]
  have e1 := lcD_map0 (to := S) (i := 4) (c := mYes) (f := mOp oIn (mVar 4) (mVar 3)) (sl := [some (toZ d), some (toZ w), some (.tup (ws.map S)), some (.tup ((QS.filter fun q => doesZ d w q).map S)), none]) (h := h) (p := fun _ => true) (g := fun x => D.bl (doesZ d w x)) ws (by
    intro x hx
    have hq' : x ∈ QS := hs x hx
    simp [inD_ST, hq', -inD_tup]) (by rw [lim_eq]; exact hl)
  simp only [filter_tt] at e1
  simp [bodyOf, b_keeps, e_kept_z, wipeD, e1, all_map, -fAll_ap]
theorem e_all_designs : callF (n + 2) .all_designs [] h = .ok (.tup (designsZ.map toZ)) h := by rfl
theorem e_all_worlds : callF (n + 2) .all_worlds [] h = .ok (.tup (worldsZ.map toZ)) h := by rfl

/-! which designs keep what -/
variable {d w : Dz}
theorem sub_QS (hs : ws.Sublist QS) : ∀ x ∈ ws, x ∈ QS := fun x hx => hs.subset hx
theorem sub_len (hs : ws.Sublist QS) : ws.length < 100000 := Nat.lt_of_le_of_lt hs.length_le (by decide)
theorem e_need_world (hw : okW w.1 w.2.1 w.2.2 = true) : callF (n + 4) .need_world [toZ w] h = .ok .non h := by
  rw [callF_s]
  have := e_isw (n := n) (p := w.1) (g := w.2.1) (f := w.2.2) (h := h)
  simp [bodyOf, b_need_world, toZ, this, hw]
theorem e_need_design (hw : okD d.1 d.2.1 d.2.2 = true) : callF (n + 4) .need_design [toZ d] h = .ok .non h := by
  rw [callF_s]
  have := e_isd (n := n) (p := d.1) (g := d.2.1) (f := d.2.2) (h := h)
  simp [bodyOf, b_need_design, toZ, this, hw]
theorem e_keepers (hw : okW w.1 w.2.1 w.2.2 = true) (hs : ws.Sublist QS) : callF (n + 7) .keepers [toZ w, .tup (ws.map S)] h = .ok (.tup ((designsZ.filter fun d => ws.all (doesZ d w)).map toZ)) h := by
  rw [callF_s]
  have e1 := lcD_map0 (to := toZ) (i := 2) (c := mTest (mCall 3 (callF (n + 6) .keeps) (mCons (mVar 2) (mCons (mVar 0) (mCons (mVar 1) (mNil)))))) (f := mVar 2) (sl := [some (toZ w), some (.tup (ws.map S)), none]) (h := h) (p := fun d => ws.all (doesZ d w)) (g := toZ) designsZ (by
    intro d hd
    have hk := e_keeps (n := n) (d := d) (w := w) (h := h) (sub_QS hs) (sub_len hs)
    generalize ws.map S = W at *
    simp [hk]) (by rw [lim_eq]; decide)
  have h1 := e_need_world (n := n + 2) (h := h) hw
  have h2 := e_need_promises (n := n + 5) (h := h) hs
  have h3 := e_all_designs (n := n + 4) (h := h)
  generalize ws.map S = W at *
  generalize hL : designsZ = L at *
  simp [bodyOf, b_keepers, h1, h2, h3, wipeD, e1]
theorem e_worlds_for (hd : okD d.1 d.2.1 d.2.2 = true) (hs : ws.Sublist QS) : callF (n + 7) .worlds_for [toZ d, .tup (ws.map S)] h = .ok (.tup ((worldsZ.filter fun w => ws.all (doesZ d w)).map toZ)) h := by
  rw [callF_s]
  have e1 := lcD_map0 (to := toZ) (i := 2) (c := mTest (mCall 3 (callF (n + 6) .keeps) (mCons (mVar 0) (mCons (mVar 2) (mCons (mVar 1) (mNil)))))) (f := mVar 2) (sl := [some (toZ d), some (.tup (ws.map S)), none]) (h := h) (p := fun w => ws.all (doesZ d w)) (g := toZ) worldsZ (by
    intro w hw
    have hk := e_keeps (n := n) (d := d) (w := w) (h := h) (sub_QS hs) (sub_len hs)
    generalize ws.map S = W at *
    simp [hk]) (by rw [lim_eq]; decide)
  have h1 := e_need_design (n := n + 2) (h := h) hd
  have h2 := e_need_promises (n := n + 5) (h := h) hs
  have h3 := e_all_worlds (n := n + 4) (h := h)
  generalize ws.map S = W at *
  generalize hL : worldsZ = L at *
  simp [bodyOf, b_worlds_for, h1, h2, h3, wipeD, e1]
/-- the number of places at which two differ -/
def chZ (a b : Dz) : Nat := (if a.1 = b.1 then 0 else 1) + ((if a.2.1 = b.2.1 then 0 else 1) + if a.2.2 = b.2.2 then 0 else 1)
theorem e_changes {a b : Dz} : callF (n + 1) .changes [toZ a, toZ b] h = .ok (.int (chZ a b)) h := by
  rw [callF_s]
  obtain ⟨a1, a2, a3⟩ := a
  obtain ⟨b1, b2, b3⟩ := b
  unfold chZ
  by_cases h1 : a1 = b1 <;> by_cases h2 : a2 = b2 <;> by_cases h3 : a3 = b3 <;> simp [bodyOf, b_changes, toZ, wipeD, lcD_cons, zipD, setAll, h1, h2, h3]
def rankD (a b : Dz) : D := .tup [.int (chZ a b), toZ b]
def nearD (d : Dz) : List Dz → D
  | [] => .non
  | x :: xs => match minDD (rankD d x) (xs.map (rankD d)) with
    | .tup [_, e] => e
    | _ => .non
theorem e_nearest (hd : okD d.1 d.2.1 d.2.2 = true) (hw : okW w.1 w.2.1 w.2.2 = true) (hs : ws.Sublist QS) {ks : List Dz} (hk : (designsZ.filter fun d => ws.all (doesZ d w)) = ks) (ho : ks ≠ [] → okSort (ks.map (rankD d)) = true) : callF (n + 8) .nearest [toZ d, toZ w, .tup (ws.map S)] h = .ok (nearD d ks) h := by
  rw [callF_s]
  have h1 := e_need_both (n := n + 2) (h := h) hd hw
  have h1 : callF (n + 7) .need_both [toZ d, toZ w] h = .ok .non h := h1
  have h2 := e_need_promises (n := n + 6) (h := h) hs
  have h3 := e_keepers (n := n) (h := h) hw hs
  rw [hk] at h3
  have hkl : ks.length ≤ 60 := by
    rw [← hk]
    exact Nat.le_trans (List.length_filter_le _ _) (by decide)
  have e1 := lcD_map0 (to := toZ) (i := 4) (c := mYes) (f := mTup (mCons (mCall 2 (callF (n + 7) .changes) (mCons (mVar 0) (mCons (mVar 4) (mNil)))) (mCons (mVar 4) (mNil)))) (sl := [some (toZ d), some (toZ w), some (.tup (ws.map S)), none, none]) (h := h) (p := fun _ => true) (g := rankD d) ks (by
    intro a ha
    have hc := e_changes (n := n + 6) (h := h) (a := d) (b := a)
    generalize ws.map S = W at *
    simp [hc, rankD]) (by rw [lim_eq]; omega)
  simp only [filter_tt] at e1
  generalize ws.map S = W at *
  cases ks with
  | nil =>
    simp only [List.map_nil] at e1 h3
    simp [bodyOf, b_nearest, h1, h2, h3, wipeD, e1, nearD]
  | cons x xs =>
    have ho := ho (by simp)
    have hm := minDD_mem (xs.map (rankD d)) (rankD d x)
    obtain ⟨b, hb⟩ : ∃ b, minDD (rankD d x) (xs.map (rankD d)) = rankD d b := by
      rw [← List.map_cons] at hm
      obtain ⟨b, _, e⟩ := List.mem_map.mp hm
      exact ⟨b, e.symm⟩
    have hmin : fMinD [.lst ((x :: xs).map (rankD d))] h = .ok (rankD d b) h := by
      show (if okSort ((x :: xs).map (rankD d)) = true then Res.ok (minDD (rankD d x) (xs.map (rankD d))) h else .bad) = _
      rw [if_pos ho, hb]
    have hne : ((x :: xs).map (rankD d)).isEmpty = false := rfl
    have hat : atI [D.int (chZ d b : Int), toZ b] 1 = some (toZ b) := atI_nat (j := 1) rfl
    have hnd : nearD d (x :: xs) = toZ b := by
      show (match minDD (rankD d x) (xs.map (rankD d)) with
        | .tup [_, e] => e
        | _ => .non) = toZ b
      rw [hb]
      rfl
    rw [hnd]
    generalize (x :: xs).map (rankD d) = L at *
    generalize (x :: xs).map toZ = L2 at *
    simp [bodyOf, b_nearest, h1, h2, h3, wipeD, e1, hne, hmin, rankD, hat]
end

end CH

namespace CH
open PySem L2
section
open PySem.W (dataLt dataLe TotalLe sameRank alike)
/-! the least of a list: the head of the sorted list -/
theorem leMin (a b : D) : dataLe false toPy a b = !dataLt (toPy b) (toPy a) := rfl
theorem totalM : TotalLe (dataLe false toPy) := PySem.W.sortLe_total _ _ _
theorem min_first : ∀ (xs : List D) (x : D), (∀ y ∈ x :: xs, dataLe false toPy (minDD x xs) y = true) ∧ ((x :: xs).filter (sameRank (dataLe false toPy) (minDD x xs))).head? = some (minDD x xs)
  | [], x => by
    have hr : dataLe false toPy x x = true := totalM.refl x
    refine ⟨fun y hy => ?_, ?_⟩
    · rw [List.mem_singleton.mp hy]; exact hr
    · have e : minDD x [] = x := rfl
      rw [e]
      simp [sameRank, hr]
  | y :: ys, x => by
    have e : minDD x (y :: ys) = minDD (if dataLt (toPy y) (toPy x) then y else x) ys := rfl
    cases c : dataLt (toPy y) (toPy x) with
    | true =>
      rw [c] at e
      simp only [if_true] at e
      obtain ⟨h1, h2⟩ := min_first ys y
      rw [e]
      generalize minDD y ys = m at *
      have n1 : dataLe false toPy x y = false := by rw [leMin, c]; rfl
      have n2 : dataLe false toPy y x = true := by
        rcases totalM.total x y with e | e
        · rw [n1] at e; cases e
        · exact e
      have hy := h1 y (by simp)
      refine ⟨fun z hz => ?_, ?_⟩
      · rcases List.mem_cons.mp hz with rfl | hz
        · exact totalM.trans _ _ _ hy n2
        · exact h1 z hz
      · have nx : sameRank (dataLe false toPy) m x = false := by
          cases q : sameRank (dataLe false toPy) m x with
          | false => rfl
          | true =>
            unfold sameRank at q
            rw [Bool.and_eq_true] at q
            have := totalM.trans _ _ _ q.2 hy
            rw [n1] at this
            cases this
        rw [List.filter_cons_of_neg (by simp [nx])]
        exact h2
    | false =>
      rw [c] at e
      simp only [Bool.false_eq_true, if_false] at e
      obtain ⟨h1, h2⟩ := min_first ys x
      rw [e]
      generalize minDD x ys = m at *
      have n2 : dataLe false toPy x y = true := by rw [leMin, c]; rfl
      have hx := h1 x (by simp)
      refine ⟨fun z hz => ?_, ?_⟩
      · rcases List.mem_cons.mp hz with rfl | hz
        · exact hx
        · rcases List.mem_cons.mp hz with rfl | hz
          · exact totalM.trans _ _ _ hx n2
          · exact h1 z (by simp [hz])
      · cases q : sameRank (dataLe false toPy) m x with
        | true =>
          rw [List.filter_cons_of_pos q] at h2 ⊢
          simpa using h2
        | false =>
          have ny : sameRank (dataLe false toPy) m y = false := by
            cases q2 : sameRank (dataLe false toPy) m y with
            | false => rfl
            | true =>
              unfold sameRank at q q2
              rw [Bool.and_eq_true] at q2
              rw [hx, Bool.true_and] at q
              have := totalM.trans _ _ _ n2 q2.2
              rw [q] at this
              cases this
          rw [List.filter_cons_of_neg (by simp [q])] at h2
          rw [List.filter_cons_of_neg (by simp [q]), List.filter_cons_of_neg (by simp [ny])]
          exact h2
theorem sort_head (x : D) (xs : List D) : ∃ t, sortD (x :: xs) = minDD x xs :: t := by
  obtain ⟨h1, h2⟩ := min_first xs x
  have hm := minDD_mem xs x
  generalize minDD x xs = m at *
  have st := PySem.W.sort_stable totalM (x :: xs) m
  have pw := PySem.W.sort_pairwise totalM (x :: xs)
  have hp : (sortD (x :: xs)).Perm (x :: xs) := List.mergeSort_perm _ _
  change (sortD (x :: xs)).filter _ = _ at st
  change (sortD (x :: xs)).Pairwise _ at pw
  cases hs : sortD (x :: xs) with
  | nil => rw [hs] at hp; cases hp.nil_eq
  | cons s t =>
    rw [hs] at st pw hp
    have l1 : dataLe false toPy m s = true := h1 s (hp.mem_iff.mp (by simp))
    have l2 : dataLe false toPy s m = true := by
      rcases List.mem_cons.mp (hp.mem_iff.mpr hm) with e | e
      · rw [e]
        exact totalM.refl s
      · exact (List.pairwise_cons.mp pw).1 m e
    have q : sameRank (dataLe false toPy) m s = true := by unfold sameRank; rw [l1, l2]; rfl
    rw [List.filter_cons_of_pos q] at st
    rw [← st] at h2
    simp only [List.head?_cons, Option.some.injEq] at h2
    exact ⟨t, by rw [h2]⟩
end

end CH

namespace CH
open PySem L2
section
variable {n : Nat} {h : MH} {ws : List String} {d w : Dz} {q : String}
@[simp] theorem oAdd_tup {xs ys : List D} {h : MH} : oAdd (.tup xs) (.tup ys) h = if xs.length + ys.length ≤ lim then .ok (.tup (xs ++ ys)) h else .bad := rfl
theorem cut0a {a b c : D} : cutD [a, b, c] none (some 0) = [] := rfl
theorem cut0b {a b c : D} : cutD [a, b, c] (some 1) none = [b, c] := rfl
theorem cut1a {a b c : D} : cutD [a, b, c] none (some 1) = [a] := rfl
theorem cut1b {a b c : D} : cutD [a, b, c] (some 2) none = [c] := rfl
theorem cut2a {a b c : D} : cutD [a, b, c] none (some 2) = [a, b] := rfl
theorem cut2b {a b c : D} : cutD [a, b, c] (some 3) none = [] := rfl
theorem e_is_in {j a b : Int} (h1 : a ≤ j) (h2 : j ≤ b) : callF (n + 2) .is_in [.int j, .int a, .int b] h = .ok (.bl true) h := by
  rw [callF_s]
  have h3 : callF (n + 1) .is_integer [.int j] h = .ok (.bl true) h := by
    rw [callF_s]
    simp [bodyOf, b_is_integer, isiT]
  simp [bodyOf, b_is_in, h3, h1, h2]
/-! the words at a place -/
def FS : List String := ["alone", "shared"]
def wordsAt : Nat → List String
  | 0 => PS
  | 1 => GS
  | _ => FS
def putZ (i : Nat) (d : Dz) (x : String) : Dz := match i with
  | 0 => (x, d.2.1, d.2.2)
  | 1 => (d.1, x, d.2.2)
  | _ => (d.1, d.2.1, x)
def atZ (i : Nat) (d : Dz) : String := match i with
  | 0 => d.1
  | 1 => d.2.1
  | _ => d.2.2
def ownZ (w d : Dz) : List String := QS.filter fun q => doesZ d w q
theorem own_sub : ∀ x ∈ ownZ w d, x ∈ QS := fun x hx => (List.mem_filter.mp hx).1
theorem own_len : (ownZ w d).length < 100000 := Nat.lt_of_le_of_lt (List.length_filter_le _ _) (by decide)
def harmL (d w : Dz) (i : Nat) : List String := (wordsAt i).filter fun x => (ownZ w d).all (doesZ (putZ i d x) w)
theorem harm_core {j : Int} {W : List String} {pt : String → Dz} (hj : 0 ≤ j) (hj2 : j ≤ 2) (hWl : W.length < 100000) (hix : ixD h j k_DESIGNS = some (.tup (W.map S))) (hln : lenD h k_DESIGNS = some 3) (hd : okD d.1 d.2.1 d.2.2 = true) (hw : okW w.1 w.2.1 w.2.2 = true)
    (hc : ∀ x ∈ W, ∀ a b, mOp oAdd (mOp oAdd (mSl (mVar 0) mNoPart (mPart (mVar 2))) (mTup (mCons (mVar 4) mNil))) (mSl (mVar 0) (mPart (mOp oAdd (mVar 2) (mC (.int 1)))) mNoPart) [some (toZ d), some (toZ w), some (.int j), a, some (S x), b] h = .ok (toZ (pt x)) h)
    (hat : ∀ x, ixD h j (toZ (pt x)) = some (S x)) :
    callF (n + 7) .harmless [toZ d, toZ w, .int j] h = .ok (.tup ((W.filter fun x => (ownZ w d).all (doesZ (pt x) w)).map S)) h := by
  rw [callF_s]
  have h1 : callF (n + 6) .need_both [toZ d, toZ w] h = .ok .non h := e_need_both (n := n + 1) (h := h) hd hw
  have h2 := e_is_in (n := n + 4) (h := h) (j := j) (a := 0) (b := 2) hj hj2
  have h3 : callF (n + 6) .kept_in [toZ d, toZ w] h = .ok (.tup ((ownZ w d).map S)) h := e_kept_z (n := n + 1) (h := h) (d := d) (w := w)
  have key := lcD_map0 (to := fun x => toZ (pt x)) (i := 5) (c := mTest (mCall 3 (callF (n + 6) .keeps) (mCons (mVar 5) (mCons (mVar 1) (mCons (mCall 2 (callF (n + 6) .kept_in) (mCons (mVar 0) (mCons (mVar 1) mNil))) mNil))))) (f := mOp oIx (mVar 5) (mVar 2)) (sl := [some (toZ d), some (toZ w), some (.int j), some (.lst (W.map fun x => toZ (pt x))), none, none]) (h := h) (p := fun x => (ownZ w d).all (doesZ (pt x) w)) (g := S) W (by
    intro x hx
    have hk := e_keeps (n := n) (h := h) (d := pt x) (w := w) (own_sub (w := w) (d := d)) own_len
    refine ⟨?_, fun _ => ?_⟩
    · generalize (ownZ w d).map S = V at *
      generalize toZ (pt x) = tx at *
      generalize toZ d = td at *
      generalize toZ w = tw at *
      simp [h3, hk]
    · have := hat x
      generalize toZ (pt x) = tx at *
      simp [this]) (by rw [lim_eq]; exact hWl)
  have some_e := lcD_map0 (to := S) (i := 4) (c := mYes) (f := mOp oAdd (mOp oAdd (mSl (mVar 0) mNoPart (mPart (mVar 2))) (mTup (mCons (mVar 4) mNil))) (mSl (mVar 0) (mPart (mOp oAdd (mVar 2) (mC (.int 1)))) mNoPart)) (sl := [some (toZ d), some (toZ w), some (.int j), none, none, none]) (h := h) (p := fun _ => true) (g := fun x => toZ (pt x)) W (by
      intro x hx
      exact ⟨rfl, fun _ => hc x hx none none⟩) (by rw [lim_eq]; exact hWl)
  simp only [filter_tt] at some_e
  generalize hA : (W.map fun x => toZ (pt x)) = A at *
  generalize hB : W.map S = B at *
  generalize (List.filter (fun x => (ownZ w d).all (doesZ (pt x) w)) W).map S = C at *
  generalize toZ d = td at *
  generalize toZ w = tw at *
  simp [bodyOf, b_harmless, h1, h2, hix, hln, wipeD, some_e, key]
theorem k_DESIGNS_eq : k_DESIGNS = .tup [.tup (PS.map S), .tup (GS.map S), .tup (FS.map S)] := by rfl
theorem e_harmless {i : Nat} (hi : i < 3) (hd : okD d.1 d.2.1 d.2.2 = true) (hw : okW w.1 w.2.1 w.2.2 = true) : callF (n + 7) .harmless [toZ d, toZ w, .int i] h = .ok (.tup ((harmL d w i).map S)) h := by
  have hln : lenD h k_DESIGNS = some 3 := by rw [k_DESIGNS_eq]; rfl
  match i, hi with
  | 0, _ => exact harm_core (j := 0) (W := PS) (pt := putZ 0 d) (by decide) (by decide) (by decide) (by rw [k_DESIGNS_eq]; simp) hln hd hw (fun x _ a b => by simp [mSl, mPart, mNoPart, gSl, toZ, cut0a, cut0b, putZ]) fun x => by simp [toZ, putZ]
  | 1, _ => exact harm_core (j := 1) (W := GS) (pt := putZ 1 d) (by decide) (by decide) (by decide) (by rw [k_DESIGNS_eq]; simp) hln hd hw (fun x _ a b => by simp [mSl, mPart, mNoPart, gSl, toZ, cut1a, cut1b, putZ]) fun x => by simp [toZ, putZ]
  | 2, _ => exact harm_core (j := 2) (W := FS) (pt := putZ 2 d) (by decide) (by decide) (by decide) (by rw [k_DESIGNS_eq]; simp) hln hd hw (fun x _ a b => by simp [mSl, mPart, mNoPart, gSl, toZ, cut2a, cut2b, putZ]) fun x => by simp [toZ, putZ]
end
section
variable {n : Nat} {h : MH} {ws : List String} {d w : Dz} {q : String}
/-! strongest -/
def keyZ (d : Dz) : List Key := [.inr (Str.ofString d.1), .inr (Str.ofString d.2.1), .inr (Str.ofString d.2.2)]
theorem keyTD_Z : keyTD (toZ d) = some (keyZ d) := rfl
theorem keyV_Z : keyV (keyZ d) = toZ d := rfl
theorem keyZ_inj {a b : Dz} (e : keyZ a = keyZ b) : a = b := by
  obtain ⟨a1, a2, a3⟩ := a
  obtain ⟨b1, b2, b3⟩ := b
  simp [keyZ] at e
  obtain ⟨rfl, rfl, rfl⟩ := e
  rfl
theorem designs_nodup : designsZ.Nodup := by decide +kernel
theorem keys_nodup : (designsZ.map keyZ).Nodup := by
  unfold List.Nodup
  rw [List.pairwise_map]
  exact designs_nodup.imp fun hn e => hn (keyZ_inj e)
theorem dcDT_map {α : Type} {to : α → D} {key : α → List Key} {g : α → D} {i : Nat} {fk fv : Mo D} {sl : Sl} : ∀ (xs : List α) (ks : List (List Key)) (vs : List D), (∀ x ∈ xs, keyTD (to x) = some (key x) ∧ fk (sl.set i (some (to x))) h = .ok (to x) h ∧ fv (sl.set i (some (to x))) h = .ok (g x) h) → (ks ++ xs.map key).Nodup → ks.length + xs.length < lim →
    dcDT (.nm i) mYes fk fv sl ks vs (xs.map to) h = .ok (ks ++ xs.map key, vs ++ xs.map g) h
  | [], ks, vs, _, _, _ => by unfold dcDT; simp
  | x :: xs, ks, vs, H, hn, hl => by
    obtain ⟨e1, e2, e3⟩ := H x (by simp)
    have hk : tHas (key x) ks = false := by
      unfold tHas
      rw [List.any_eq_false]
      intro a ha
      simp only [decide_eq_true_eq]
      intro e
      rw [List.nodup_append] at hn
      exact hn.2.2 a ha (key x) (by simp) e
    simp only [List.length_cons] at hl
    have hl2 : ks.length < lim := by omega
    rw [List.map_cons]
    unfold dcDT
    simp only [tgD_nm, mYes_ap, noX_ok, bindR_ok, if_true, e2, e3, e1]
    rw [if_pos ⟨hk, hl2⟩]
    have ih := dcDT_map xs (ks ++ [key x]) (vs ++ [g x]) (fun y hy => H y (by simp [hy])) (by simpa using hn) (by simp; omega)
    rw [ih]
    simp
theorem getT_map {g : Dz → D} : ∀ (xs : List Dz), d ∈ xs → getT (keyZ d) (xs.map keyZ) (xs.map g) = some (g d)
  | [], hm => by cases hm
  | x :: xs, hm => by
    show (if keyZ x = keyZ d then some (g x) else getT (keyZ d) (xs.map keyZ) (xs.map g)) = _
    by_cases e : keyZ x = keyZ d
    · rw [if_pos e, keyZ_inj e]
    · rw [if_neg e]
      rcases List.mem_cons.mp hm with rfl | hm
      · exact (e rfl).elim
      · exact getT_map xs hm
def ownT (w d : Dz) : D := .tup ((ownZ w d).map S)
def moreB (w d e : Dz) : Bool := decide ((ownZ w d).length < (ownZ w e).length) && (ownZ w d).all fun q => decide (q ∈ ownZ w e)
def bestB (w d : Dz) : Bool := !designsZ.any (moreB w d)
theorem any_e {w d : Dz} {a0 a1 a2 a3 : Option D} (hd : d ∈ designsZ) : lcD (.nm 5) mYes (mAnd (mOp oGt (mFn fLen (mCons (mVar 5) mNil)) (mFn fLen (mCons (mVar 4) mNil))) (mFn fAll (mCons (mLc [6] (mItT (mVar 4)) (.nm 6) mYes (mOp oIn (mVar 6) (mVar 5))) mNil))) [a0, a1, a2, a3, some (ownT w d), none, none] [] (designsZ.map (ownT w)) h = .ok (designsZ.map fun e => D.bl (moreB w d e)) h := by
  have e1 := lcD_map0 (to := ownT w) (i := 5) (c := mYes) (f := mAnd (mOp oGt (mFn fLen (mCons (mVar 5) mNil)) (mFn fLen (mCons (mVar 4) mNil))) (mFn fAll (mCons (mLc [6] (mItT (mVar 4)) (.nm 6) mYes (mOp oIn (mVar 6) (mVar 5))) mNil))) (sl := [a0, a1, a2, a3, some (ownT w d), none, none]) (h := h) (p := fun _ => true) (g := fun e => D.bl (moreB w d e)) designsZ (by
    intro e he
    have e2 := lcD_map0 (to := S) (i := 6) (c := mYes) (f := mOp oIn (mVar 6) (mVar 5)) (sl := [a0, a1, a2, a3, some (ownT w d), some (ownT w e), none]) (h := h) (p := fun _ => true) (g := fun q => D.bl (decide (q ∈ ownZ w e))) (ownZ w d) (by
      intro q hq
      simp [ownT, inD_ST, -inD_tup]) (by rw [lim_eq]; exact own_len)
    simp only [filter_tt] at e2
    refine ⟨by simp, fun _ => ?_⟩
    unfold moreB
    by_cases hlt : (ownZ w d).length < (ownZ w e).length
    · simp [ownT] at e2 ⊢
      simp [hlt, wipeD, e2, all_map, -fAll_ap]
    · simp [ownT, hlt]) (by rw [lim_eq]; decide)
  simpa using e1
theorem e_strongest (hw : okW w.1 w.2.1 w.2.2 = true) : ∃ z, callF (n + 6) .strongest [toZ w] h = .ok (.tup ((designsZ.filter (bestB w)).map toZ)) (h ++ [z]) := by
  rw [callF_s]
  show (fun R => ∃ z, endB R = .ok (.tup ((designsZ.filter (bestB w)).map toZ)) (h ++ [z])) (b_strongest (callF (n + 5)) (slots0 7 [toZ w]) h)
  unfold b_strongest
  simp only [slots0_ap, List.map_cons, List.map_nil, List.length_cons, List.length_nil, Nat.reduceAdd, Nat.reduceSub, List.replicate, List.cons_append, List.nil_append]
  have h1 := e_need_world (n := n + 1) (h := h) hw
  have h3 := e_all_designs (n := n + 3) (h := h)
  have e1 := dcDT_map (h := h) (to := toZ) (key := keyZ) (g := ownT w) (i := 3) (fk := mVar 3) (fv := mCall 2 (callF (n + 5) .kept_in) (mCons (mVar 3) (mCons (mVar 0) mNil))) (sl := [some (toZ w), none, none, none, none, none, none]) designsZ [] [] (by
    intro d hd
    have hk := e_kept_z (n := n) (h := h) (d := d) (w := w)
    exact ⟨keyTD_Z, by simp, by simp [hk]; rfl⟩) (by simpa using keys_nodup) (by rw [lim_eq]; decide)
  simp only [List.nil_append] at e1
  rw [seq_nx (sl1 := [some (toZ w), none, none, none, none, none, none]) (h1 := h) (by simp [h1])]
  rw [seq_nx (sl1 := [some (toZ w), some (.dct (designsZ.map keyZ) (designsZ.map (ownT w))), none, none, none, none, none]) (h1 := h) (by simp [mDcT, h3, wipeD, e1])]
  rw [seq_nx (sl1 := [some (toZ w), some (.dct (designsZ.map keyZ) (designsZ.map (ownT w))), some (.ref h.length), none, none, none, none]) (h1 := h ++ [.lst []]) (by simp)]
  refine seq_g (fun R => ∃ z, endB R = .ok (.tup ((designsZ.filter (bestB w)).map toZ)) (h ++ [z])) (fun sl h' => (∃ a b, sl = [some (toZ w), some (.dct (designsZ.map keyZ) (designsZ.map (ownT w))), some (.ref h.length), a, b, none, none]) ∧ h' = h ++ [.lst ((designsZ.filter (bestB w)).map toZ)]) ?_ ?_
  · refine for_pre toZ designsZ (fun done sl h' => (∃ a b, sl = [some (toZ w), some (.dct (designsZ.map keyZ) (designsZ.map (ownT w))), some (.ref h.length), a, b, none, none]) ∧ h' = h ++ [.lst ((done.filter (bestB w)).map toZ)]) ?_ ⟨⟨_, _, rfl⟩, rfl⟩ ?_ fun _ _ p => p
    · simp only [mItK, mBind_ap, mVar_ap, List.getElem?_cons_succ, List.getElem?_cons_zero, Option.join_some, optR_some, bindR_ok, List.map_map]
      rfl
    · rintro a d b hab _ _ ⟨⟨x, y, rfl⟩, rfl⟩
      have hd : d ∈ designsZ := by rw [← hab]; simp
      have hl : a.length < 60 := by
        have := congrArg List.length hab
        simp at this
        have e60 : designsZ.length = 60 := by decide
        omega
      have hg := getT_map (g := ownT w) designsZ hd
      have ha := any_e (h := h ++ [.lst ((a.filter (bestB w)).map toZ)]) (w := w) (d := d) (a0 := some (toZ w)) (a1 := some (.dct (designsZ.map keyZ) (designsZ.map (ownT w)))) (a2 := some (.ref h.length)) (a3 := some (toZ d)) hd
      have hlen : ((a.filter (bestB w)).map toZ).length < lim := by
        rw [List.length_map, lim_eq]
        exact Nat.lt_of_le_of_lt (List.length_filter_le _ _) (by omega)
      simp only [List.set_cons_succ, List.set_cons_zero]
      rw [seq_nx (sl1 := [some (toZ w), some (.dct (designsZ.map keyZ) (designsZ.map (ownT w))), some (.ref h.length), some (toZ d), some (ownT w d), none, none]) (h1 := h ++ [.lst ((a.filter (bestB w)).map toZ)]) (by simp [oTGet, keyTD_Z, hg])]
      refine ⟨[some (toZ w), some (.dct (designsZ.map keyZ) (designsZ.map (ownT w))), some (.ref h.length), some (toZ d), some (ownT w d), none, none], h ++ [.lst (((a ++ [d]).filter (bestB w)).map toZ)], ?_, ⟨_, _, rfl⟩, rfl⟩
      generalize hK : designsZ.map keyZ = K at *
      generalize hV : designsZ.map (ownT w) = V at *
      cases hb : bestB w d with
      | true =>
        have hany : designsZ.any (moreB w d) = false := by simpa [bestB] using hb
        have e2 : (a ++ [d]).filter (bestB w) = a.filter (bestB w) ++ [d] := by simp [hb]
        rw [e2, List.map_append]
        generalize (a.filter (bestB w)).map toZ = A at *
        simp [mItV, wipeD, ha, any_map, hany, -fAny_ap, hlen]
      | false =>
        have hany : designsZ.any (moreB w d) = true := by simpa [bestB] using hb
        have e2 : (a ++ [d]).filter (bestB w) = a.filter (bestB w) := by simp [hb]
        rw [e2]
        generalize (a.filter (bestB w)).map toZ = A at *
        simp [mItV, wipeD, ha, any_map, hany, -fAny_ap]
  · rintro _ _ ⟨⟨a, b, rfl⟩, rfl⟩
    refine ⟨.lst ((designsZ.filter (bestB w)).map toZ), ?_⟩
    generalize (designsZ.filter (bestB w)).map toZ = A at *
    simp [seqD]
end

end CH

namespace CH
open PySem L2
section
variable {n : Nat} {q : String} {h : MH} {ws : List String} {d w : Dz}
theorem e_promises : callF (n + 1) .l_promises [] h = .ok (.lst (QS.map S)) h := by rfl
theorem okQ_of (h : q ∈ QS) : okQ q = true := by simpa [QS, okQ] using h
theorem QS_of (h : okQ q = true) : q ∈ QS := by simpa [QS, okQ] using h
theorem l_holds_z {d w : Dz} (hd : d ∈ designsZ) (hw : w ∈ worldsZ) (hq : q ∈ QS) : callF (n + 1) .l_holds [toZ d, toZ w, S q] h = .ok (.bl (doesZ d w q)) h := l_holds_e (ok_designsZ hd) (ok_worldsZ hw) (okQ_of hq)
theorem words_loop {ns : List Int} {m : Int} {a2 a3 : Option D} (hm : 0 < m) (hm2 : m < 1073741824) : ∀ (xs : List String) (acc : List D) (i s r : Int), 0 ≤ i → acc.length + xs.length < 1000 → ∃ ws i' s' r', List.Sublist ws xs ∧ 0 ≤ i' ∧
    lcD (.nm 3) (mTest (mOp oEq (mCall 2 (callF (n + 1) .l_taken) (mCons (mVar 0) (mCons (mVar 1) mNil))) (mC (.int 0)))) (mVar 3) [some (.ref 0), some (.int m), a2, a3] acc (xs.map S) [Row ns i s r] = .ok (acc ++ ws.map S) [Row ns i' s' r']
  | [], acc, i, s, r, hi, _ => ⟨[], i, s, r, .refl _, hi, by simp⟩
  | x :: xs, acc, i, s, r, hi, hl => by
    obtain ⟨y, i1, s1, r1, _, _, hi1, e⟩ := e_taken (n := n) (h := [Row ns i s r]) (k := 0) (m := m) rfl hi hm hm2
    simp only [List.length_cons] at hl
    simp only [List.set_cons_zero] at e
    by_cases hy : y = 0
    · obtain ⟨ws, i2, s2, r2, hs, hi2, e2⟩ := words_loop (ns := ns) (a2 := a2) (a3 := a3) hm hm2 xs (acc ++ [S x]) i1 s1 r1 hi1 (by simp; omega)
      refine ⟨x :: ws, i2, s2, r2, hs.cons_cons x, hi2, ?_⟩
      rw [List.map_cons, lcD_cons]
      have hla : acc.length < lim := by rw [lim_eq]; omega
      simp [e, hy, hla]
      simpa using e2
    · obtain ⟨ws, i2, s2, r2, hs, hi2, e2⟩ := words_loop (ns := ns) (a2 := a2) (a3 := a3) hm hm2 xs acc i1 s1 r1 hi1 (by omega)
      refine ⟨ws, i2, s2, r2, hs.cons x, hi2, ?_⟩
      rw [List.map_cons, lcD_cons]
      simp [e, hy, e2]
theorem e_words {ns : List Int} {m i s r : Int} (hi : 0 ≤ i) (hm : 0 < m) (hm2 : m < 1073741824) : ∃ ws i' s' r', List.Sublist ws QS ∧ 0 ≤ i' ∧ callF (n + 2) .l_words [.ref 0, .int m] [Row ns i s r] = .ok (.tup (ws.map S)) [Row ns i' s' r'] := by
  obtain ⟨ws, i1, s1, r1, hs, hi1, e⟩ := words_loop (n := n) (a2 := none) (a3 := none) (ns := ns) hm hm2 QS [] i s r hi (by decide)
  refine ⟨ws, i1, s1, r1, hs, hi1, ?_⟩
  rw [callF_s]
  simp only [List.nil_append] at e
  simp [bodyOf, b_l_words, e_promises, wipeD, e]
theorem e_ldes : callF (n + 2) .l_designs [] h = .ok (.lst (designsZ.map toZ)) h := by rfl
theorem e_lwor : callF (n + 2) .l_worlds [] h = .ok (.lst (worldsZ.map toZ)) h := by rfl
theorem pick_d {ns : List Int} {i s r : Int} {xs : List Dz} (hi : 0 ≤ i) (hne : xs ≠ []) (hl : xs.length ≤ 100000) : ∃ d ∈ xs, ∃ i' s' r', 0 ≤ i' ∧ callF (n + 2) .l_pick [.ref 0, .lst (xs.map toZ)] [Row ns i s r] = .ok (toZ d) [Row ns i' s' r'] := by
  obtain ⟨x, i1, s1, r1, hd, hi1, e⟩ := e_pick (n := n) (h := [Row ns i s r]) (k := 0) (xs := xs.map toZ) rfl hi (by simpa using hne) (by simpa using hl)
  obtain ⟨d, hm, rfl⟩ := List.mem_map.mp hd
  exact ⟨d, hm, i1, s1, r1, hi1, e⟩
theorem miss_lst {d w : Dz} (hd : d ∈ designsZ) (hw : w ∈ worldsZ) (hs : ∀ x ∈ ws, x ∈ QS) (hl : ws.length < 100000) (a : D) : lcD (.nm 3) (mNotT (mTest (mCall 3 (callF (n + 1) .l_holds) (mCons (mVar 0) (mCons (mVar 1) (mCons (mVar 3) mNil)))))) (mVar 3) [some (toZ d), some (toZ w), some a, none] [] (ws.map S) h = .ok ((ws.filter fun x => !doesZ d w x).map S) h :=
  lcD_map0 (to := S) (i := 3) (c := mNotT (mTest (mCall 3 (callF (n + 1) .l_holds) (mCons (mVar 0) (mCons (mVar 1) (mCons (mVar 3) mNil)))))) (f := mVar 3) (sl := [some (toZ d), some (toZ w), some a, none]) (h := h) (p := fun x => !doesZ d w x) (g := S) ws (by
    intro x hx
    simp [l_holds_z hd hw (hs x hx)]) (by rw [lim_eq]; exact hl)
theorem miss_none {d w : Dz} : ∀ ws : List String, (ws.filter fun x => !doesZ d w x).isEmpty = ws.all (doesZ d w)
  | [] => rfl
  | a :: xs => by
    have := miss_none (d := d) (w := w) xs
    cases c : doesZ d w a <;> simp [c] <;> simpa using this
@[simp] theorem mItE2_ap {f : Mo D} {sl : Sl} {h : MH} : mItE2 f sl h = bindR (f sl h) fun d h1 => optR (itemsE d) h1 := rfl
@[simp] theorem itemsE_tup {ds : List D} : itemsE (.tup ds) = some ds := rfl
@[simp] theorem itemsE_lst {ds : List D} : itemsE (.lst ds) = some ds := rfl
theorem e_l_keeps {d w : Dz} (hd : d ∈ designsZ) (hw : w ∈ worldsZ) (hs : ∀ x ∈ ws, x ∈ QS) (hl : ws.length < 100000) : callF (n + 2) .l_keeps [toZ d, toZ w, .tup (ws.map S)] h = .ok (.bl (ws.all (doesZ d w))) h := by
  rw [callF_s]
  have e1 := miss_lst (n := n) (h := h) hd hw hs hl (.tup (ws.map S))
  have e2 := miss_none (d := d) (w := w) ws
  simp [bodyOf, b_l_keeps, wipeD, e1, -List.isEmpty_iff, e2]
theorem e_l_keepsL {d w : Dz} (hd : d ∈ designsZ) (hw : w ∈ worldsZ) (hs : ∀ x ∈ ws, x ∈ QS) (hl : ws.length < 100000) : callF (n + 2) .l_keeps [toZ d, toZ w, .lst (ws.map S)] h = .ok (.bl (ws.all (doesZ d w))) h := by
  rw [callF_s]
  have e1 := miss_lst (n := n) (h := h) hd hw hs hl (.lst (ws.map S))
  have e2 := miss_none (d := d) (w := w) ws
  simp [bodyOf, b_l_keeps, wipeD, e1, -List.isEmpty_iff, e2]
theorem e_l_kept {d w : Dz} (hd : d ∈ designsZ) (hw : w ∈ worldsZ) : callF (n + 2) .l_kept [toZ d, toZ w] h = .ok (.lst ((ownZ w d).map S)) h := by
  rw [callF_s]
  have e1 := lcD_map0 (to := S) (i := 2) (c := mTest (mCall 3 (callF (n + 1) .l_holds) (mCons (mVar 0) (mCons (mVar 1) (mCons (mVar 2) mNil))))) (f := mVar 2) (sl := [some (toZ d), some (toZ w), none]) (h := h) (p := fun x => doesZ d w x) (g := S) QS (by
    intro x hx
    simp [l_holds_z hd hw hx]) (by rw [lim_eq]; decide)
  simp [bodyOf, b_l_kept, wipeD, e_promises, e1, ownZ]
end
section
variable {n : Nat} {q : String} {h : MH} {ws : List String} {d w : Dz}
open PySem.W (alike)
/-! the ranked list -/
theorem rank_alike (a b : Dz) : alike (toPy (rankD d a)) (toPy (rankD d b)) = true := rfl
theorem rank_pyOk {m : Nat} : ∀ ks : List Dz, pyOkL (m + 3) (ks.map (rankD d)) = true
  | [] => pyOkL_nil
  | k :: ks => by
    rw [List.map_cons, pyOkL_cons, rank_pyOk ks]
    show (pyOkL (m + 2) [D.int (chZ d k), toZ k] && true) = true
    rw [pyOkL_cons, pyOkL_cons, pyOkL_nil, pyOk_int]
    show (true && (pyOkL (m + 1) [S k.1, S k.2.1, S k.2.2] && true) && true) = true
    simp
theorem ok_rank {ks : List Dz} (hl : ks.length ≤ 60) : okSort (ks.map (rankD d)) = true := by
  unfold okSort
  rw [rank_pyOk (m := 37) ks]
  have h1 : decide ((ks.map (rankD d)).length ≤ 10000) = true := by
    rw [List.length_map]
    exact decide_eq_true (by omega)
  have h2 : ((ks.map (rankD d)).all fun a => (ks.map (rankD d)).all fun b => alike (toPy a) (toPy b)) = true := by
    rw [List.all_eq_true]
    intro a ha
    obtain ⟨a, _, rfl⟩ := List.mem_map.mp ha
    rw [List.all_eq_true]
    intro b hb
    obtain ⟨b, _, rfl⟩ := List.mem_map.mp hb
    exact rank_alike a b
  have h3 : (ks.map (rankD d)).all isTupNE = true := by
    rw [List.all_eq_true]
    intro a ha
    obtain ⟨a, _, rfl⟩ := List.mem_map.mp ha
    rfl
  rw [h1, h2, h3]
  rfl
/-- nearest is the head of the ranked ones -/
theorem near_sort (x : Dz) (xs : List Dz) : ∃ (b : Dz) (t : List D), sortD ((x :: xs).map (rankD d)) = rankD d b :: t ∧ nearD d (x :: xs) = toZ b := by
  have hm := minDD_mem (xs.map (rankD d)) (rankD d x)
  obtain ⟨t, ht⟩ := sort_head (rankD d x) (xs.map (rankD d))
  rw [← List.map_cons] at hm ht
  obtain ⟨b, _, e⟩ := List.mem_map.mp hm
  refine ⟨b, t, by rw [ht, ← e], ?_⟩
  show (match minDD (rankD d x) (xs.map (rankD d)) with
    | .tup [_, e] => e
    | _ => .non) = toZ b
  rw [← e]
  rfl
theorem near_plain (ks : List Dz) : plainD 1 (nearD d ks) = true := by
  cases ks with
  | nil => rfl
  | cons x xs =>
    obtain ⟨b, _, _, e⟩ := near_sort (d := d) x xs
    rw [e]
    rfl
theorem designs_plain : ∀ ks : List Dz, ks.length ≤ 60 → plainD 2 (.tup (ks.map toZ)) = true := by
  intro ks hl
  have h1 : (decide ((ks.map toZ).length < 100000) && (ks.map toZ).all (plainD 1)) = true := by
    rw [Bool.and_eq_true, List.all_eq_true, List.length_map]
    refine ⟨decide_eq_true (by omega), fun x hx => ?_⟩
    obtain ⟨a, _, rfl⟩ := List.mem_map.mp hx
    rfl
  exact h1
theorem words_plain : ∀ ks : List String, ks.length ≤ 60 → plainD 1 (.tup (ks.map S)) = true := by
  intro ks hl
  have h1 : (decide ((ks.map S).length < 100000) && (ks.map S).all (plainD 0)) = true := by
    rw [Bool.and_eq_true, List.all_eq_true, List.length_map]
    refine ⟨decide_eq_true (by omega), fun x hx => ?_⟩
    obtain ⟨a, _, rfl⟩ := List.mem_map.mp hx
    rfl
  exact h1
/-! the designs alike but for a place -/
def cutZ (i : Nat) (d : Dz) : String × String := match i with
  | 0 => (d.2.1, d.2.2)
  | 1 => (d.1, d.2.2)
  | _ => (d.1, d.2.1)
def cutT (i : Nat) (d : Dz) : D := .tup [S (cutZ i d).1, S (cutZ i d).2]
theorem near_eq0 : ∀ d ∈ designsZ, designsZ.filter (fun a => decide (cutZ 0 a = cutZ 0 d)) = (wordsAt 0).map (putZ 0 d) := by decide +kernel
theorem near_eq1 : ∀ d ∈ designsZ, designsZ.filter (fun a => decide (cutZ 1 a = cutZ 1 d)) = (wordsAt 1).map (putZ 1 d) := by decide +kernel
theorem near_eq2 : ∀ d ∈ designsZ, designsZ.filter (fun a => decide (cutZ 2 a = cutZ 2 d)) = (wordsAt 2).map (putZ 2 d) := by decide +kernel
theorem put_mem0 : ∀ d ∈ designsZ, ∀ x ∈ wordsAt 0, putZ 0 d x ∈ designsZ := by decide +kernel
theorem put_mem1 : ∀ d ∈ designsZ, ∀ x ∈ wordsAt 1, putZ 1 d x ∈ designsZ := by decide +kernel
theorem put_mem2 : ∀ d ∈ designsZ, ∀ x ∈ wordsAt 2, putZ 2 d x ∈ designsZ := by decide +kernel
theorem near_eq {i : Nat} (hi : i < 3) (hd : d ∈ designsZ) : designsZ.filter (fun a => decide (cutZ i a = cutZ i d)) = (wordsAt i).map (putZ i d) := by
  match i, hi with
  | 0, _ => exact near_eq0 d hd
  | 1, _ => exact near_eq1 d hd
  | 2, _ => exact near_eq2 d hd
theorem put_mem {i : Nat} {x : String} (hi : i < 3) (hd : d ∈ designsZ) (hx : x ∈ wordsAt i) : putZ i d x ∈ designsZ := by
  match i, hi with
  | 0, _ => exact put_mem0 d hd x hx
  | 1, _ => exact put_mem1 d hd x hx
  | 2, _ => exact put_mem2 d hd x hx
theorem at_put {i : Nat} {x : String} (hi : i < 3) : atZ i (putZ i d x) = x := by
  match i, hi with
  | 0, _ => rfl
  | 1, _ => rfl
  | 2, _ => rfl
theorem eqD_two (a1 a2 b1 b2 : String) : eqD (.tup [S a1, S a2]) (.tup [S b1, S b2]) = some (decide ((a1, a2) = (b1, b2))) := by
  have h1 : pyOk 40 (.tup [S a1, S a2]) = true := by
    show pyOkL 39 [S a1, S a2] = true
    simp
  have h2 : pyOk 40 (.tup [S b1, S b2]) = true := by
    show pyOkL 39 [S b1, S b2] = true
    simp
  simp only [eqD, sclD, h1, h2, Bool.and_self, if_true, toPy_tup, toPyL_cons, toPyL_nil, PyData.eqv, PyData.eqvAll]
  have c1 : (b1 = a1) = (a1 = b1) := propext eq_comm
  have c2 : (b2 = a2) = (a2 = b2) := propext eq_comm
  by_cases e1 : a1 = b1 <;> by_cases e2 : a2 = b2 <;> simp [c1, c2, e1, e2]
theorem eqD_cut {i : Nat} (a b : Dz) : eqD (cutT i a) (cutT i b) = some (decide (cutZ i a = cutZ i b)) := eqD_two _ _ _ _
theorem ix_at {i : Nat} (hi : i < 3) (a : Dz) : ixD h (i : Int) (toZ a) = some (S (atZ i a)) := by
  match i, hi with
  | 0, _ => simp [toZ, atZ]
  | 1, _ => simp [toZ, atZ]
  | 2, _ => simp [toZ, atZ]
theorem cut_e {i : Nat} (hi : i < 3) {sl : Sl} {k p : Nat} {a : Dz} (h1 : sl[k]? = some (some (toZ a))) (h2 : sl[p]? = some (some (.int i))) : mOp oAdd (mSl (mVar k) mNoPart (mPart (mVar p))) (mSl (mVar k) (mPart (mOp oAdd (mVar p) (mC (.int 1)))) mNoPart) sl h = .ok (cutT i a) h := by
  match i, hi with
  | 0, _ => simp [mSl, mPart, mNoPart, gSl, h1, h2, toZ, cut0a, cut0b, cutT, cutZ]
  | 1, _ => simp [mSl, mPart, mNoPart, gSl, h1, h2, toZ, cut1a, cut1b, cutT, cutZ]
  | 2, _ => simp [mSl, mPart, mNoPart, gSl, h1, h2, toZ, cut2a, cut2b, cutT, cutZ]
end
section
variable {n : Nat} {q : String} {h : MH} {ws : List String} {d w : Dz}
/-- a loop over pairs, told by what has been walked -/
theorem forT_pre {α : Type} {to : α → D} {tg : Tg} {body : Ms} {Inv : List α → Sl → MH → Prop} : ∀ (rest done : List α) (sl : Sl) (h : MH), (∀ a x b, a ++ x :: b = done ++ rest → ∀ sl h, Inv a sl h → ∃ sl1, tgD tg (to x) sl = some sl1 ∧ ∃ sl' h', body sl1 h = .nx sl' h' ∧ Inv (a ++ [x]) sl' h') → Inv done sl h →
    ∃ sl' h', forD tg body (rest.map to) sl h = .nx sl' h' ∧ Inv (done ++ rest) sl' h' := by
  intro rest
  induction rest with
  | nil => intro done sl h _ hi; exact ⟨sl, h, by rw [List.map_nil]; unfold forD; rfl, by simpa using hi⟩
  | cons x rest ih =>
    intro done sl h hb hi
    obtain ⟨sl0, e0, sl1, h1, e1, hi1⟩ := hb done x rest rfl sl h hi
    obtain ⟨sl2, h2, e2, hi2⟩ := ih (done ++ [x]) sl1 h1 (fun a y b e => hb a y b (by rw [e]; simp)) hi1
    refine ⟨sl2, h2, ?_, by simpa using hi2⟩
    rw [List.map_cons, forD]
    simp only [e0, e1]
    exact e2
theorem forT_np {α : Type} {fi : Mo (List D)} {tg : Tg} {body : Ms} {sl : Sl} {h : MH} {P : Sl → MH → Prop} (to : α → D) (xs : List α) (Inv : List α → Sl → MH → Prop) (hfi : fi sl h = .ok (xs.map to) h) (h0 : Inv [] sl h)
    (hb : ∀ a x b, a ++ x :: b = xs → ∀ sl h, Inv a sl h → ∃ sl1, tgD tg (to x) sl = some sl1 ∧ NxP (Inv (a ++ [x])) (body sl1 h)) (hP : ∀ sl h, Inv xs sl h → P sl h) : NxP P (sFor fi tg body sl h) := by
  obtain ⟨sl', h', e, p⟩ := forT_pre (to := to) (tg := tg) (body := body) (Inv := Inv) xs [] sl h (fun a x b e => hb a x b (by simpa using e)) h0
  exact ⟨sl', h', by simp [hfi, e], hP _ _ (by simpa using p)⟩
def rowT (w d : Dz) : D := .tup [toZ d, .lst ((ownZ w d).map S)]
def sl18 (l : Sl) : Sl := l
theorem count_e {d : Dz} {x : Dz} {sl : Sl} {h : MH} (h9 : sl[9]? = some (some (toZ d))) (h12 : sl[12]? = some (some (toZ x))) (hl : sl.length = 18) :
    mFn fLen (mCons (mLc [16] (mItR1 (mCons (mC (.int 3)) mNil)) (.nm 16) (mTest (mOp oNe (mOp oIx (mVar 12) (mVar 16)) (mOp oIx (mVar 9) (mVar 16)))) (mVar 16)) mNil) sl h = .ok (.int (chZ d x)) h := by
  obtain ⟨a1, a2, a3⟩ := d
  obtain ⟨b1, b2, b3⟩ := x
  match sl, hl with
  | [s0, s1, s2, s3, s4, s5, s6, s7, s8, s9, s10, s11, s12, s13, s14, s15, s16, s17], _ =>
    simp at h9 h12
    subst h9 h12
    unfold chZ
    have c1 : (b1 = a1) = (a1 = b1) := propext eq_comm
    have c2 : (b2 = a2) = (a2 = b2) := propext eq_comm
    have c3 : (b3 = a3) = (a3 = b3) := propext eq_comm
    have hr : rangeD 0 3 = [.int 0, .int 1, .int 2] := rfl
    by_cases e1 : a1 = b1 <;> by_cases e2 : a2 = b2 <;> by_cases e3 : a3 = b3 <;> simp [big, hr, toZ, wipeD, lcD_cons, c1, c2, c3, e1, e2, e3]
end

end CH

namespace CH
open PySem L2
section
variable {n : Nat} {q : String} {h : MH} {ws : List String} {d w : Dz}
theorem own_sub' (w d : Dz) : ∀ x ∈ ownZ w d, x ∈ QS := own_sub
theorem best_law {w : Dz} : ∀ d, ((designsZ.filter (moreB w d)).map fun _ => D.int 1).isEmpty = bestB w d := by
  intro d
  unfold bestB
  rw [List.isEmpty_map]
  cases c : designsZ.any (moreB w d) with
  | true =>
    obtain ⟨x, hx, hx2⟩ := List.any_eq_true.mp c
    have : x ∈ designsZ.filter (moreB w d) := List.mem_filter.mpr ⟨hx, hx2⟩
    cases hf : designsZ.filter (moreB w d) with
    | nil => rw [hf] at this; cases this
    | cons _ _ => rfl
  | false =>
    have : designsZ.filter (moreB w d) = [] := by
      rw [List.filter_eq_nil_iff]
      intro a ha
      have := List.any_eq_false.mp c a ha
      exact this
    rw [this]
    rfl
theorem law_true {ns : List Int} : ∃ h', callF (n + 14) .law_ [.scr ns] [] = .ok (.bl true) h' := by
  rw [callF_s]
  show RtP (.bl true) (b_law_ (callF (n + 13)) (slots0 18 [.scr ns]) [])
  unfold b_law_
  simp only [slots0_ap, List.map_cons, List.map_nil, List.length_cons, List.length_nil, Nat.reduceAdd, Nat.reduceSub, List.replicate, List.cons_append, List.nil_append]
  rw [seq_nx (sl1 := [some (.scr ns), some (.ref 0), none, none, none, none, none, none, none, none, none, none, none, none, none, none, none, none]) (h1 := [Row ns 0 15554 0]) (by simp)]
  obtain ⟨d, hd, i1, s1, r1, hi1, e1⟩ := pick_d (n := n + 11) (ns := ns) (i := 0) (s := 15554) (r := 0) (xs := designsZ) (by decide) (by decide) (by decide)
  obtain ⟨w, hw, i2, s2, r2, hi2, e2⟩ := pick_d (n := n + 11) (ns := ns) (i := i1) (s := s1) (r := r1) (xs := worldsZ) hi1 (by decide) (by decide)
  obtain ⟨ws, i3, s3, r3, hs, hi3, e3⟩ := e_words (n := n + 11) (ns := ns) (m := 4) (s := s2) (r := r2) hi2 (by decide) (by decide)
  have hws : ∀ x ∈ ws, x ∈ QS := fun x hx => hs.subset hx
  have hwl : ws.length < 100000 := sub_len hs
  have od := ok_designsZ hd
  have ow := ok_worldsZ hw
  have g1 : ∀ h : MH, callF (n + 13) .l_designs [] h = .ok (.lst (designsZ.map toZ)) h := fun h => e_ldes (n := n + 11)
  have g2 : ∀ h : MH, callF (n + 13) .l_worlds [] h = .ok (.lst (worldsZ.map toZ)) h := fun h => e_lwor (n := n + 11)
  rw [seq_nx (sl1 := [some (.scr ns), some (.ref 0), none, none, none, none, none, none, none, some (toZ d), some (toZ w), some (.tup (ws.map S)), none, none, none, none, none, none]) (h1 := [Row ns i3 s3 r3]) (by
    generalize toZ d = td at *
    generalize toZ w = tw at *
    generalize ws.map S = W at *
    generalize designsZ.map toZ = L1 at *
    generalize worldsZ.map toZ = L2 at *
    simp [g1, g2, e1, e2, e3])]
  generalize hH : ([Row ns i3 s3 r3] : MH) = H at *
  -- what is due
  have keepsD : ∀ x ∈ designsZ, callF (n + 13) .l_keeps [toZ x, toZ w, .tup (ws.map S)] H = .ok (.bl (ws.all (doesZ x w))) H := fun x hx => e_l_keeps (n := n + 11) hx hw hws hwl
  have due : ∀ s2 s12 : Option D, lcD (.nm 12) (mTest (mCall 3 (callF (n + 13) .l_keeps) (mCons (mVar 12) (mCons (mVar 10) (mCons (mVar 11) mNil))))) (mVar 12) [some (.scr ns), some (.ref 0), s2, none, none, none, none, none, none, some (toZ d), some (toZ w), some (.tup (ws.map S)), s12, none, none, none, none, none] [] (designsZ.map toZ) H = .ok ((designsZ.filter fun x => ws.all (doesZ x w)).map toZ) H := fun s2 s12 =>
    lcD_map0 (to := toZ) (i := 12) (c := mTest (mCall 3 (callF (n + 13) .l_keeps) (mCons (mVar 12) (mCons (mVar 10) (mCons (mVar 11) mNil))))) (f := mVar 12) (h := H) (p := fun x => ws.all (doesZ x w)) (g := toZ) designsZ (by
      intro x hx
      have := keepsD x hx
      generalize ws.map S = W at *
      generalize toZ x = tx at *
      generalize toZ w = tw at *
      generalize toZ d = td at *
      simp [this]) (by rw [lim_eq]; decide)
  generalize hks : (designsZ.filter fun x => ws.all (doesZ x w)) = ks at *
  have hkl : ks.length ≤ 60 := by
    rw [← hks]
    exact Nat.le_trans (List.length_filter_le _ _) (by decide)
  rw [seq_nx (sl1 := [some (.scr ns), some (.ref 0), some (.lst (ks.map toZ)), none, none, none, none, none, none, some (toZ d), some (toZ w), some (.tup (ws.map S)), none, none, none, none, none, none]) (h1 := H) (by
    have := due none none
    generalize toZ d = td at *
    generalize toZ w = tw at *
    generalize ws.map S = W at *
    generalize ks.map toZ = KS at *
    generalize designsZ.map toZ = L1 at *
    simp [g1, this, wipeD])]
  -- keepers
  have k1 : callF (n + 13) .keepers [toZ w, .tup (ws.map S)] H = .ok (.tup (ks.map toZ)) H := by
    have := e_keepers (n := n + 6) (h := H) (w := w) ow hs
    rw [hks] at this
    exact this
  have k2 : callF (n + 13) .l_alike [.tup (ks.map toZ), .tup (ks.map toZ)] H = .ok (.bl true) H := alike_refl (m := n + 10) 2 _ (designs_plain ks hkl)
  rw [seq_nx (sl1 := [some (.scr ns), some (.ref 0), some (.lst (ks.map toZ)), none, none, none, none, none, none, some (toZ d), some (toZ w), some (.tup (ws.map S)), none, none, none, none, none, none]) (h1 := H) (by
    generalize toZ d = td at *
    generalize toZ w = tw at *
    generalize ws.map S = W at *
    generalize ks.map toZ = KS at *
    simp [k1, k2])]
  -- worlds_for
  have wl : lcD (.nm 12) (mTest (mCall 3 (callF (n + 13) .l_keeps) (mCons (mVar 9) (mCons (mVar 12) (mCons (mVar 11) mNil))))) (mVar 12) [some (.scr ns), some (.ref 0), some (.lst (ks.map toZ)), none, none, none, none, none, none, some (toZ d), some (toZ w), some (.tup (ws.map S)), none, none, none, none, none, none] [] (worldsZ.map toZ) H = .ok ((worldsZ.filter fun x => ws.all (doesZ d x)).map toZ) H :=
    lcD_map0 (to := toZ) (i := 12) (c := mTest (mCall 3 (callF (n + 13) .l_keeps) (mCons (mVar 9) (mCons (mVar 12) (mCons (mVar 11) mNil))))) (f := mVar 12) (h := H) (p := fun x => ws.all (doesZ d x)) (g := toZ) worldsZ (by
      intro x hx
      have := e_l_keeps (n := n + 11) (h := H) hd hx hws hwl
      generalize ws.map S = W at *
      generalize toZ x = tx at *
      generalize toZ w = tw at *
      generalize toZ d = td at *
      simp [this]) (by rw [lim_eq]; decide)
  have w1 := e_worlds_for (n := n + 6) (h := H) (d := d) (ws := ws) od hs
  have hwz : (worldsZ.filter fun x => ws.all (doesZ d x)).length ≤ 60 := Nat.le_trans (List.length_filter_le _ _) (by decide)
  have w2 : callF (n + 13) .l_alike [.tup ((worldsZ.filter fun x => ws.all (doesZ d x)).map toZ), .tup ((worldsZ.filter fun x => ws.all (doesZ d x)).map toZ)] H = .ok (.bl true) H := alike_refl (m := n + 10) 2 _ (designs_plain _ hwz)
  rw [seq_nx (sl1 := [some (.scr ns), some (.ref 0), some (.lst (ks.map toZ)), none, none, none, none, none, none, some (toZ d), some (toZ w), some (.tup (ws.map S)), none, none, none, none, none, none]) (h1 := H) (by
    generalize (worldsZ.filter fun x => ws.all (doesZ d x)).map toZ = WF at *
    generalize toZ d = td at *
    generalize toZ w = tw at *
    generalize ws.map S = W at *
    generalize ks.map toZ = KS at *
    generalize worldsZ.map toZ = L2 at *
    simp [g2, w1, w2, wl, wipeD])]
  -- ranked
  have rk : lcD (.nm 12) mYes (mTup (mCons (mFn fLen (mCons (mLc [16] (mItR1 (mCons (mC (.int 3)) mNil)) (.nm 16) (mTest (mOp oNe (mOp oIx (mVar 12) (mVar 16)) (mOp oIx (mVar 9) (mVar 16)))) (mVar 16)) mNil)) (mCons (mVar 12) mNil))) [some (.scr ns), some (.ref 0), some (.lst (ks.map toZ)), none, none, none, none, none, none, some (toZ d), some (toZ w), some (.tup (ws.map S)), none, none, none, none, none, none] [] (ks.map toZ) H = .ok (ks.map (rankD d)) H := by
    have := lcD_map0 (to := toZ) (i := 12) (c := mYes) (f := mTup (mCons (mFn fLen (mCons (mLc [16] (mItR1 (mCons (mC (.int 3)) mNil)) (.nm 16) (mTest (mOp oNe (mOp oIx (mVar 12) (mVar 16)) (mOp oIx (mVar 9) (mVar 16)))) (mVar 16)) mNil)) (mCons (mVar 12) mNil))) (sl := [some (.scr ns), some (.ref 0), some (.lst (ks.map toZ)), none, none, none, none, none, none, some (toZ d), some (toZ w), some (.tup (ws.map S)), none, none, none, none, none, none]) (h := H) (p := fun _ => true) (g := rankD d) ks (by
      intro x hx
      have hc := count_e (d := d) (x := x) (h := H) (sl := [some (.scr ns), some (.ref 0), some (.lst (ks.map toZ)), none, none, none, none, none, none, some (toZ d), some (toZ w), some (.tup (ws.map S)), some (toZ x), none, none, none, none, none]) rfl rfl rfl
      refine ⟨rfl, fun _ => ?_⟩
      simp only [List.set_cons_succ, List.set_cons_zero]
      rw [mTup_ap, mCons_ap, hc]
      simp [rankD]) (by rw [lim_eq]; omega)
    simpa using this
  have hsr : fSorted [.lst (ks.map (rankD d))] H = .ok (.lst (sortD (ks.map (rankD d)))) H := by
    show (if okSort (ks.map (rankD d)) = true then Res.ok (D.lst (sortD (ks.map (rankD d)))) H else .bad) = _
    rw [if_pos (ok_rank hkl)]
  rw [seq_nx (sl1 := [some (.scr ns), some (.ref 0), some (.lst (ks.map toZ)), some (.lst (sortD (ks.map (rankD d)))), none, none, none, none, none, some (toZ d), some (toZ w), some (.tup (ws.map S)), none, none, none, none, none, none]) (h1 := H) (by
    generalize sortD (ks.map (rankD d)) = SR at *
    generalize ks.map (rankD d) = R at *
    generalize toZ d = td at *
    generalize toZ w = tw at *
    generalize ws.map S = W at *
    generalize ks.map toZ = KS at *
    rw [sSet_ap, mFn_ap, mCons_ap, mLc_ap]
    simp [hsr, wipeD] at rk ⊢
    simp [rk, hsr])]
  -- nearest
  have n1 : callF (n + 13) .nearest [toZ d, toZ w, .tup (ws.map S)] H = .ok (nearD d ks) H := e_nearest (n := n + 5) (h := H) od ow hs hks fun _ => ok_rank hkl
  have n2 : callF (n + 13) .l_alike [nearD d ks, nearD d ks] H = .ok (.bl true) H := alike_refl (m := n + 11) 1 _ (near_plain ks)
  have n3 : mIf (mTest (mOp oNeE (mVar 3) (mLst mNil))) (mOp oIx (mOp oIx (mVar 3) (mC (.int 0))) (mC (.int 1))) (mC .non) [some (.scr ns), some (.ref 0), some (.lst (ks.map toZ)), some (.lst (sortD (ks.map (rankD d)))), none, none, none, none, none, some (toZ d), some (toZ w), some (.tup (ws.map S)), none, none, none, none, none, none] H = .ok (nearD d ks) H := by
    cases ks with
    | nil => simp [sortD, nearD]
    | cons x xs =>
      obtain ⟨b, t, e4, e5⟩ := near_sort (d := d) x xs
      rw [e4, e5]
      have hat : atI [D.int (chZ d b : Int), toZ b] 1 = some (toZ b) := atI_nat (j := 1) rfl
      simp [rankD, hat]
  rw [seq_nx (sl1 := [some (.scr ns), some (.ref 0), some (.lst (ks.map toZ)), some (.lst (sortD (ks.map (rankD d)))), none, none, none, none, none, some (toZ d), some (toZ w), some (.tup (ws.map S)), none, none, none, none, none, none]) (h1 := H) (by
    have nc : mCall 3 (callF (n + 13) .nearest) (mCons (mVar 9) (mCons (mVar 10) (mCons (mVar 11) mNil))) [some (.scr ns), some (.ref 0), some (.lst (ks.map toZ)), some (.lst (sortD (ks.map (rankD d)))), none, none, none, none, none, some (toZ d), some (toZ w), some (.tup (ws.map S)), none, none, none, none, none, none] H = .ok (nearD d ks) H := by
      generalize sortD (ks.map (rankD d)) = SR at *
      generalize nearD d ks = ND at *
      generalize toZ d = td at *
      generalize toZ w = tw at *
      generalize ws.map S = W at *
      generalize ks.map toZ = KS at *
      simp [n1]
    rw [sIf_ap, mNotT_ap, mTest_ap, mCall_ap, mCons_ap, nc, bindR_ok, mCons_ap, n3]
    generalize sortD (ks.map (rankD d)) = SR at *
    generalize nearD d ks = ND at *
    generalize toZ d = td at *
    generalize toZ w = tw at *
    generalize ws.map S = W at *
    generalize ks.map toZ = KS at *
    simp [n1, n2])]
  generalize sortD (ks.map (rankD d)) = SR at *
  generalize hKS : ks.map toZ = KS at *
  clear n1 n2 n3 hsr rk w1 w2 wl k1 k2 due keepsD e1 e2 e3
  -- the place
  subst hH
  obtain ⟨x, i4, s4, r4, hx0, hx1, hi4, e4⟩ := e_taken (n := n + 12) (h := [Row ns i3 s3 r3]) (k := 0) (m := 3) rfl hi3 (by decide) (by decide)
  obtain ⟨i, rfl⟩ := Int.eq_ofNat_of_zero_le hx0
  have hi : i < 3 := by omega
  simp only [List.set_cons_zero] at e4
  rw [seq_nx (sl1 := [some (.scr ns), some (.ref 0), some (.lst KS), some (.lst SR), some (.int i), none, none, none, none, some (toZ d), some (toZ w), some (.tup (ws.map S)), none, none, none, none, none, none]) (h1 := [Row ns i4 s4 r4]) (by
    generalize toZ d = td at *
    generalize toZ w = tw at *
    generalize ws.map S = W at *
    simp [e4])]
  generalize hH : ([Row ns i4 s4 r4] : MH) = H at *
  have q1 := e_l_kept (n := n + 11) (h := H) hd hw
  generalize ho : ownZ w d = os at *
  have hos : ∀ x ∈ os, x ∈ QS := by rw [← ho]; exact own_sub
  have hol : os.length < 100000 := by rw [← ho]; exact own_len
  rw [seq_nx (sl1 := [some (.scr ns), some (.ref 0), some (.lst KS), some (.lst SR), some (.int i), some (.lst (os.map S)), none, none, none, some (toZ d), some (toZ w), some (.tup (ws.map S)), none, none, none, none, none, none]) (h1 := H) (by
    generalize toZ d = td at *
    generalize toZ w = tw at *
    generalize ws.map S = W at *
    simp [q1])]
  -- near
  have nl : lcD (.nm 12) (mTest (mOp oEq (mOp oAdd (mSl (mVar 12) mNoPart (mPart (mVar 4))) (mSl (mVar 12) (mPart (mOp oAdd (mVar 4) (mC (.int 1)))) mNoPart)) (mOp oAdd (mSl (mVar 9) mNoPart (mPart (mVar 4))) (mSl (mVar 9) (mPart (mOp oAdd (mVar 4) (mC (.int 1)))) mNoPart)))) (mVar 12) [some (.scr ns), some (.ref 0), some (.lst KS), some (.lst SR), some (.int i), some (.lst (os.map S)), none, none, none, some (toZ d), some (toZ w), some (.tup (ws.map S)), none, none, none, none, none, none] [] (designsZ.map toZ) H = .ok ((designsZ.filter fun a => decide (cutZ i a = cutZ i d)).map toZ) H :=
    lcD_map0 (to := toZ) (i := 12) (f := mVar 12) (h := H) (p := fun a => decide (cutZ i a = cutZ i d)) (g := toZ) designsZ (by
      intro x hx
      simp only [List.set_cons_succ, List.set_cons_zero]
      refine ⟨?_, fun _ => by simp⟩
      rw [mTest_ap, mOp_ap, cut_e (i := i) (a := x) hi (by rfl) (by rfl), bindR_ok, cut_e (i := i) (a := d) hi (by rfl) (by rfl), bindR_ok, oEq_ap, eqD_cut]
      simp) (by rw [lim_eq]; decide)
  rw [near_eq hi hd] at nl
  rw [seq_nx (sl1 := [some (.scr ns), some (.ref 0), some (.lst KS), some (.lst SR), some (.int i), some (.lst (os.map S)), some (.lst (((wordsAt i).map (putZ i d)).map toZ)), none, none, some (toZ d), some (toZ w), some (.tup (ws.map S)), none, none, none, none, none, none]) (h1 := H) (by
    generalize ((wordsAt i).map (putZ i d)).map toZ = NR at *
    generalize toZ d = td at *
    generalize toZ w = tw at *
    generalize ws.map S = W at *
    generalize designsZ.map toZ = L1 at *
    rw [sSet_ap, mLc_ap]
    simp [g1, wipeD] at nl ⊢
    simp [nl])]
  -- harmless
  have hwn : (wordsAt i).length ≤ 60 := by
    match i, hi with
    | 0, _ => exact (by decide)
    | 1, _ => exact (by decide)
    | 2, _ => exact (by decide)
  have hl1 : lcD (.nm 12) (mTest (mCall 3 (callF (n + 13) .l_keeps) (mCons (mVar 12) (mCons (mVar 10) (mCons (mVar 5) mNil))))) (mOp oIx (mVar 12) (mVar 4)) [some (.scr ns), some (.ref 0), some (.lst KS), some (.lst SR), some (.int i), some (.lst (os.map S)), some (.lst (((wordsAt i).map (putZ i d)).map toZ)), none, none, some (toZ d), some (toZ w), some (.tup (ws.map S)), none, none, none, none, none, none] [] (((wordsAt i).map (putZ i d)).map toZ) H = .ok ((harmL d w i).map S) H := by
    rw [List.map_map]
    have := lcD_map0 (to := toZ ∘ putZ i d) (i := 12) (c := mTest (mCall 3 (callF (n + 13) .l_keeps) (mCons (mVar 12) (mCons (mVar 10) (mCons (mVar 5) mNil))))) (f := mOp oIx (mVar 12) (mVar 4)) (sl := [some (.scr ns), some (.ref 0), some (.lst KS), some (.lst SR), some (.int i), some (.lst (os.map S)), some (.lst ((wordsAt i).map (toZ ∘ putZ i d))), none, none, some (toZ d), some (toZ w), some (.tup (ws.map S)), none, none, none, none, none, none]) (h := H) (p := fun x => os.all (doesZ (putZ i d x) w)) (g := S) (wordsAt i) (by
      intro x hx
      have hk := e_l_keepsL (n := n + 11) (h := H) (put_mem hi hd hx) hw hos hol
      have ha := ix_at (h := H) hi (putZ i d x)
      rw [at_put hi] at ha
      simp only [Function.comp_apply]
      generalize toZ (putZ i d x) = tx at *
      generalize os.map S = OS at *
      generalize toZ d = td at *
      generalize toZ w = tw at *
      generalize ws.map S = W at *
      simp [hk, ha]) (by rw [lim_eq]; omega)
    rw [this]
    unfold harmL
    rw [ho]
  have hm1 := e_harmless (n := n + 6) (h := H) hi od ow
  have hhl : (harmL d w i).length ≤ 60 := Nat.le_trans (List.length_filter_le _ _) hwn
  have hm2 : callF (n + 13) .l_alike [.tup ((harmL d w i).map S), .tup ((harmL d w i).map S)] H = .ok (.bl true) H := alike_refl (m := n + 11) 1 _ (words_plain _ hhl)
  generalize hNR : ((wordsAt i).map (putZ i d)).map toZ = NR at *
  rw [seq_nx (sl1 := [some (.scr ns), some (.ref 0), some (.lst KS), some (.lst SR), some (.int i), some (.lst (os.map S)), some (.lst NR), none, none, some (toZ d), some (toZ w), some (.tup (ws.map S)), none, none, none, none, none, none]) (h1 := H) (by
    generalize (harmL d w i).map S = HL at *
    generalize os.map S = OS at *
    generalize toZ d = td at *
    generalize toZ w = tw at *
    generalize ws.map S = W at *
    simp [hm1, hm2, hl1, wipeD])]
  generalize os.map S = OS at *
  generalize hWS : ws.map S = WS at *
  clear hm1 hm2 hl1 nl
  -- strongest
  have sm : lcD (.nm 12) mYes (mTup (mCons (mVar 12) (mCons (mCall 2 (callF (n + 13) .l_kept) (mCons (mVar 12) (mCons (mVar 10) mNil))) mNil))) [some (.scr ns), some (.ref 0), some (.lst KS), some (.lst SR), some (.int i), some (.lst OS), some (.lst NR), none, none, some (toZ d), some (toZ w), some (.tup WS), none, none, none, none, none, none] [] (designsZ.map toZ) H = .ok (designsZ.map (rowT w)) H := by
    have := lcD_map0 (to := toZ) (i := 12) (c := mYes) (f := mTup (mCons (mVar 12) (mCons (mCall 2 (callF (n + 13) .l_kept) (mCons (mVar 12) (mCons (mVar 10) mNil))) mNil))) (sl := [some (.scr ns), some (.ref 0), some (.lst KS), some (.lst SR), some (.int i), some (.lst OS), some (.lst NR), none, none, some (toZ d), some (toZ w), some (.tup WS), none, none, none, none, none, none]) (h := H) (p := fun _ => true) (g := rowT w) designsZ (by
      intro x hx
      have hk := e_l_kept (n := n + 11) (h := H) hx hw
      refine ⟨rfl, fun _ => ?_⟩
      unfold rowT
      generalize toZ x = tx at *
      generalize toZ d = td at *
      generalize toZ w = tw at *
      simp [hk]) (by rw [lim_eq]; decide)
    simpa using this
  rw [seq_nx (sl1 := [some (.scr ns), some (.ref 0), some (.lst KS), some (.lst SR), some (.int i), some (.lst OS), some (.lst NR), some (.lst (designsZ.map (rowT w))), none, some (toZ d), some (toZ w), some (.tup WS), none, none, none, none, none, none]) (h1 := H) (by
    generalize designsZ.map (rowT w) = RT at *
    generalize toZ d = td at *
    generalize toZ w = tw at *
    generalize designsZ.map toZ = L1 at *
    simp [g1, sm, wipeD])]
  rw [seq_nx (sl1 := [some (.scr ns), some (.ref 0), some (.lst KS), some (.lst SR), some (.int i), some (.lst OS), some (.lst NR), some (.lst (designsZ.map (rowT w))), some (.ref 1), some (toZ d), some (toZ w), some (.tup WS), none, none, none, none, none, none]) (h1 := H ++ [.lst []]) (by subst hH; simp)]
  have hH1 : H.length = 1 := by rw [← hH]; rfl
  refine seq_rp (fun sl h => (∃ a b, sl = [some (.scr ns), some (.ref 0), some (.lst KS), some (.lst SR), some (.int i), some (.lst OS), some (.lst NR), some (.lst (designsZ.map (rowT w))), some (.ref 1), some (toZ d), some (toZ w), some (.tup WS), a, b, none, none, none, none]) ∧ h = H ++ [.lst ((designsZ.filter (bestB w)).map toZ)]) ?_ ?_
  · refine forT_np (rowT w) designsZ (fun done sl h => (∃ a b, sl = [some (.scr ns), some (.ref 0), some (.lst KS), some (.lst SR), some (.int i), some (.lst OS), some (.lst NR), some (.lst (designsZ.map (rowT w))), some (.ref 1), some (toZ d), some (toZ w), some (.tup WS), a, b, none, none, none, none]) ∧ h = H ++ [.lst ((done.filter (bestB w)).map toZ)]) (by
      generalize designsZ.map (rowT w) = RT at *
      simp) ⟨⟨_, _, rfl⟩, by simp⟩ ?_ fun _ _ p => p
    rintro a y b hab _ _ ⟨⟨z1, z2, rfl⟩, rfl⟩
    have hy : y ∈ designsZ := by rw [← hab]; simp
    have hl : a.length < 60 := by
      have := congrArg List.length hab
      simp at this
      have e60 : designsZ.length = 60 := by decide
      omega
    have hlen : ((a.filter (bestB w)).map toZ).length < lim := by
      rw [List.length_map, lim_eq]
      exact Nat.lt_of_le_of_lt (List.length_filter_le _ _) (by omega)
    refine ⟨[some (.scr ns), some (.ref 0), some (.lst KS), some (.lst SR), some (.int i), some (.lst OS), some (.lst NR), some (.lst (designsZ.map (rowT w))), some (.ref 1), some (toZ d), some (toZ w), some (.tup WS), some (toZ y), some (.lst ((ownZ w y).map S)), none, none, none, none], by simp [rowT, setAll], ?_⟩
    refine ⟨[some (.scr ns), some (.ref 0), some (.lst KS), some (.lst SR), some (.int i), some (.lst OS), some (.lst NR), some (.lst (designsZ.map (rowT w))), some (.ref 1), some (toZ d), some (toZ w), some (.tup WS), some (toZ y), some (.lst ((ownZ w y).map S)), none, none, none, none], H ++ [.lst (((a ++ [y]).filter (bestB w)).map toZ)], ?_, ⟨_, _, rfl⟩, rfl⟩
    have hmh : H ++ [O.lst ((a.filter (bestB w)).map toZ)] = H ++ [O.lst ((a.filter (bestB w)).map toZ)] := rfl
    generalize hA : (a.filter (bestB w)).map toZ = A at *
    have inner : lcD (.tp [14, 15]) (mAndT (mTest (mOp oGt (mFn fLen (mCons (mVar 15) mNil)) (mFn fLen (mCons (mVar 13) mNil)))) (mTest (mOp oEqE (mLc [17] (mItL (mVar 13)) (.nm 17) (mTest (mOp oNi (mVar 17) (mVar 15))) (mVar 17)) (mLst mNil)))) (mC (.int 1)) [some (.scr ns), some (.ref 0), some (.lst KS), some (.lst SR), some (.int i), some (.lst OS), some (.lst NR), some (.lst (designsZ.map (rowT w))), some (.ref 1), some (toZ d), some (toZ w), some (.tup WS), some (toZ y), some (.lst ((ownZ w y).map S)), none, none, none, none] [] (designsZ.map (rowT w)) (H ++ [.lst A]) = .ok ((designsZ.filter (moreB w y)).map fun _ => D.int 1) (H ++ [.lst A]) :=
      lcD_mapT0 (to := rowT w) (tg := .tp [14, 15]) (h := H ++ [.lst A]) (p := moreB w y) (g := fun _ => D.int 1) designsZ (by
        intro x hx
        refine ⟨[some (.scr ns), some (.ref 0), some (.lst KS), some (.lst SR), some (.int i), some (.lst OS), some (.lst NR), some (.lst (designsZ.map (rowT w))), some (.ref 1), some (toZ d), some (toZ w), some (.tup WS), some (toZ y), some (.lst ((ownZ w y).map S)), some (toZ x), some (.lst ((ownZ w x).map S)), none, none], by simp [rowT, setAll], ?_, fun _ => rfl⟩
        have e7 := lcD_map0 (to := S) (i := 17) (c := mTest (mOp oNi (mVar 17) (mVar 15))) (f := mVar 17) (sl := [some (.scr ns), some (.ref 0), some (.lst KS), some (.lst SR), some (.int i), some (.lst OS), some (.lst NR), some (.lst (designsZ.map (rowT w))), some (.ref 1), some (toZ d), some (toZ w), some (.tup WS), some (toZ y), some (.lst ((ownZ w y).map S)), some (toZ x), some (.lst ((ownZ w x).map S)), none, none]) (h := H ++ [.lst A]) (p := fun q => !decide (q ∈ ownZ w x)) (g := S) (ownZ w y) (by
          intro q hq
          simp [inD_S, -inD_lst]) (by rw [lim_eq]; exact own_len)
        have e8 : ((ownZ w y).filter fun q => !decide (q ∈ ownZ w x)).isEmpty = (ownZ w y).all fun q => decide (q ∈ ownZ w x) := by
          generalize ownZ w y = L
          induction L with
          | nil => rfl
          | cons q L ih => cases c : decide (q ∈ ownZ w x) <;> simp [c, ih] <;> simpa using ih
        have h1l : ((ownZ w x).map S).length = (ownZ w x).length := List.length_map _
        have h2l : ((ownZ w y).map S).length = (ownZ w y).length := List.length_map _
        have e9 : (((ownZ w y).filter fun q => !decide (q ∈ ownZ w x)).map S).isEmpty = (ownZ w y).all fun q => decide (q ∈ ownZ w x) := by rw [List.isEmpty_map, e8]
        unfold moreB
        generalize ((ownZ w y).filter fun q => !decide (q ∈ ownZ w x)).map S = R at *
        generalize (ownZ w y).map S = OY at *
        generalize (ownZ w x).map S = OX at *
        generalize designsZ.map (rowT w) = RT at *
        generalize (ownZ w y).all (fun q => decide (q ∈ ownZ w x)) = bb at *
        by_cases hlt : (ownZ w y).length < (ownZ w x).length
        · simp [h1l, h2l, hlt, wipeD, e7, e9, -List.isEmpty_iff]
        · simp [h1l, h2l, hlt]) (by rw [lim_eq]; decide)
    have bl := best_law (w := w) y
    generalize hRT : designsZ.map (rowT w) = RT at *
    generalize ((designsZ.filter (moreB w y)).map fun _ => D.int 1) = ON at *
    generalize (ownZ w y).map S = OY at *
    cases hb : bestB w y with
    | true =>
      have e2 : ((a ++ [y]).filter (bestB w)).map toZ = A ++ [toZ y] := by rw [← hA]; simp [hb]
      rw [e2]
      rw [hb] at bl
      have hg : (H ++ [O.lst A])[1]? = some (.lst A) := by rw [← hH1]; simp
      have hst : (H ++ [O.lst A]).set 1 (.lst (A ++ [toZ y])) = H ++ [.lst (A ++ [toZ y])] := by rw [← hH1]; simp
      simp [wipeD, inner, bl, -List.isEmpty_iff, hg, hlen, hst]
    | false =>
      have e2 : ((a ++ [y]).filter (bestB w)).map toZ = A := by rw [← hA]; simp [hb]
      rw [e2]
      rw [hb] at bl
      simp [wipeD, inner, bl, -List.isEmpty_iff]
  · rintro _ _ ⟨⟨z1, z2, rfl⟩, rfl⟩
    obtain ⟨z, hs1⟩ := e_strongest (n := n + 7) (w := w) (h := H ++ [.lst ((designsZ.filter (bestB w)).map toZ)]) ow
    have hb60 : (designsZ.filter (bestB w)).length ≤ 60 := Nat.le_trans (List.length_filter_le _ _) (by decide)
    generalize hBL : designsZ.filter (bestB w) = BL at *
    have hg : ((H ++ [O.lst (BL.map toZ)]) ++ [z])[1]? = some (.lst (BL.map toZ)) := by
      rw [List.append_assoc, ← hH1]
      simp
    have ha2 : callF (n + 13) .l_alike [.tup (BL.map toZ), .tup (BL.map toZ)] ((H ++ [O.lst (BL.map toZ)]) ++ [z]) = .ok (.bl true) ((H ++ [O.lst (BL.map toZ)]) ++ [z]) := alike_refl (m := n + 10) 2 _ (designs_plain _ hb60)
    refine ⟨(H ++ [O.lst (BL.map toZ)]) ++ [z], ?_⟩
    generalize (H ++ [O.lst (BL.map toZ)]) ++ [z] = H2 at *
    generalize H ++ [O.lst (BL.map toZ)] = H3 at *
    generalize BL.map toZ = BT at *
    generalize designsZ.map (rowT w) = RT at *
    simp [hs1, seqD, hg, ha2]
end

end CH

theorem PySem.Challenge.cw_cacheheld_k07_whole_choices_holds : PySem.Challenge.rw_cacheheld_k07_whole_choices.Holds := by
  exact CH.law_red fun ns _ => CH.law_true (n := 26)
