import PyProof.Rows.All
import Wide.All
import OpenK.AllK
import Wide.FinOn
import HandS.ForMost
import HandS.Deep
import HandS.TupAny
import HandS.Zip
import HandS.IsInst
import HandS.Exc
import HandS.Lambda
import HandS.HeadHook4
import HandS.ExcOwn
import HandS.CallSlots
import HandS.WordsExc
import HandS.Style
import HandS.Defaults
import HandS.TupMul
import HandS.Head0
import HandS.Head1
import HandS.Head2
import HandS.HeadEnd
import HandS.HeadHook1
import HandS.HeadHook2
import HandS.HeadHook3
import KE.SortData
import KE.DataMinMax
import HandS.ListItems
import PyProof.SeqI3
import PyProof.WalkInts
import PyProof.EqAt
import PyProof.NeKinds
import HandS.More
import HandS.Iter
import HandS.Conv
import HandS.Text
import HandS.ExcInit
import HandS.Nested
import KE.KExcSuper
import HandS.TryOnly
import HandS.ExcIs
import HandS.EndTab
import HandS.HeadWalk
import PySem.Challenge.RW_cacheheld_k06_whole_behind
set_option Elab.async false
set_option linter.all false
set_option maxRecDepth 100000
set_option maxHeartbeats 4000000
/-! CH0: deep values, the mirror heap, their relation to the hand layer's abstract heap. -/
namespace CH
open PySem PySem.Spec PyProof.Rows L2

/-- a deep value -/
inductive D where
  | non | bl (b : Bool) | int (i : Int) | str (x : Str)
  | tup (xs : List D) | lst (xs : List D) | dic (ks : List Key) (vs : List D)
  | ref (i : Nat) | gl (x : Str) | ty (n : String) | scr (ns : List Int)
/-- a mutable object -/
inductive O where
  | lst (xs : List D) | dic (ks : List Key) (vs : List D) | ins (c : Str) (ks : List Str) (vs : List D)
  | tbl
abbrev MH := List O
abbrev Sl := List (Option D)
inductive Res (α : Type) where
  | ok (a : α) (h : MH) | exc (c : Str) (a : Option (Str × D)) (h : MH) | bad

/-! ### what stands for what -/
structure Ev where
  K : PySem.W.Frag
  mg : Str → Option Value
/-- the law's script: locked, written, or a list that nobody writes -/
def ScrA (K : PySem.W.Frag) (r F : List Addr) (H : Hp) (a : Addr) (vs : List V) : Prop := ((∃ o, H a = some (.frz o (.lst vs))) ∨ SqL K (fun _ => none) a vs) ∨ (H a = some (.lst vs) ∧ a ∉ r ∧ a ∉ F)
def TuA (K : PySem.W.Frag) (H : Hp) (a : Addr) (vs : List V) : Prop := H a = some (.tup vs) ∨ SqT K (fun _ => none) a vs
theorem TuA.sq {K : PySem.W.Frag} {H : Hp} {a : Addr} {vs : List V} (h : TuA K H a vs) : SqT K H a vs := by
  rcases h with h | h
  · exact SqT.of h
  · rcases h with (h | ⟨o, h⟩) | h
    · cases h
    · cases h
    · exact .inr h
section
variable (G : Ev) (r : List Addr) (F : List Addr) (H : Hp)
mutual
inductive Den : D → V → Prop
  | non : Den .non .non
  | bl (b : Bool) : Den (.bl b) (.bl b)
  | int (i : Int) : Den (.int i) (.int i)
  | str (x : Str) : Den (.str x) (.str x)
  | ty (n : String) : Den (.ty n) (.ty n)
  | tup {a : Addr} {ds : List D} {vs : List V} : TuA G.K H a vs → DenL ds vs → Den (.tup ds) (.ref a)
  | lst {a : Addr} {ds : List D} {vs : List V} : H a = some (.lst vs) → a ∉ r ∧ a ∉ F → DenL ds vs → Den (.lst ds) (.ref a)
  | scr {a : Addr} {ns : List Int} : ScrA G.K r F H a (ns.map V.int) → Den (.scr ns) (.ref a)
  | dic {a : Addr} {ks : List Key} {ds : List D} {vs : List V} : H a = some (.dK (ks.zip vs)) → a ∉ r ∧ a ∉ F → ks.length = vs.length → DenL ds vs → Den (.dic ks ds) (.ref a)
  | ref {i : Nat} {a : Addr} : r[i]? = some a → Den (.ref i) (.ref a)
  | gl {x : Str} {a : Addr} : G.mg x = some (.ref a) → Den (.gl x) (.ref a)
inductive DenL : List D → List V → Prop
  | nil : DenL [] []
  | cons {d : D} {v : V} {ds : List D} {vs : List V} : Den d v → DenL ds vs → DenL (d :: ds) (v :: vs)
end
end

/-- the heap has grown: new addresses d, what was not ours is kept -/
def Nw (H : Hp) (a : Addr) : Prop := H a = none ∨ ∃ ps, H a = some (.tbl ps)
theorem Nw.no {H : Hp} {a : Addr} {o : HO} (n : Nw H a) (h : H a = some o) (t : ∀ ps, o ≠ .tbl ps) : False := by
  rcases n with n | ⟨ps, n⟩
  · rw [n] at h; cases h
  · rw [n] at h; cases h; exact t ps rfl
structure Ext (r : List Addr) (H : Hp) (r' : List Addr) (H' : Hp) : Prop where
  pre : ∃ d, r' = r ++ d ∧ ∀ a ∈ d, Nw H a ∧ a ∉ r
  keep0 : ∀ a o, H a = some o → a ∉ r → (∀ ps, o ≠ .tbl ps) → H' a = some o
theorem Ext.keep {r : List Addr} {H : Hp} {r' : List Addr} {H' : Hp} (e : Ext r H r' H') (a : Addr) (o : HO) (h : H a = some o) (n : a ∉ r) (t : ∀ ps, o ≠ .tbl ps := by intro _ z; cases z) : H' a = some o := e.keep0 a o h n t

section
variable {G : Ev} {r r' r2 F : List Addr} {H H' H2 : Hp}
theorem Ext.refl : Ext r H r H := ⟨⟨[], by simp, fun _ h => by cases h⟩, fun _ _ e _ _ => e⟩
theorem Ext.same (s : Same H H') : Ext r H r H' := ⟨⟨[], by simp, fun _ h => by cases h⟩, fun _ _ e _ _ => s _ _ e⟩
theorem Ext.notin (e : Ext r H r' H') {a : Addr} {o : HO} (h : H a = some o) (n : a ∉ r) (t : ∀ ps, o ≠ .tbl ps := by intro _ z; cases z) : a ∉ r' := by
  obtain ⟨d, rfl, hd⟩ := e.pre
  intro hm
  rcases List.mem_append.mp hm with hm | hm
  · exact n hm
  · exact (hd a hm).1.no h t
theorem Ext.get (e : Ext r H r' H') {i : Nat} {a : Addr} (h : r[i]? = some a) : r'[i]? = some a := by
  obtain ⟨d, rfl, _⟩ := e.pre
  have hl : i < r.length := (List.getElem?_eq_some_iff.mp h).1
  rw [List.getElem?_append_left hl]; exact h
theorem Ext.rd (e : Ext r H r' H') {a : Addr} {u : HO} (h : Rd H a u) (n : a ∉ r) (t : ∀ ps, u ≠ .tbl ps := by intro _ z; cases z) : Rd H' a u := by
  rcases h with h | ⟨o, h⟩
  · exact .inl (e.keep _ _ h n t)
  · exact .inr ⟨o, e.keep _ _ h n⟩
theorem rd_some {a : Addr} {u : HO} (h : Rd H a u) : ∃ o, H a = some o := by
  rcases h with h | ⟨o, h⟩
  · exact ⟨_, h⟩
  · exact ⟨_, h⟩

/-- what is ours to write: no table of another's, no code object -/
def MutT : Option HO → Prop
  | some (.tbl _) => True
  | some (.ext _) => False
  | o => Mut o
/-- the law's table of code objects, the name of a lambda of the law -/
def lawT (K : PySem.W.Frag) : Addr := (He.cT K (("law" : Str), none)).2
def lamQ : Str := (("law" : Str) ++ ".<locals>.") ++ "<lambda>"
/-- what another may write: of tables the law's alone -/
def MutF (K : PySem.W.Frag) (a : Addr) : HO → Prop
  | .tbl _ => a = lawT K
  | .ext _ => False
  | o => Mut (some o)
theorem mutFT {K : PySem.W.Frag} {a : Addr} {o : HO} (h : MutF K a o) : MutT (some o) := by cases o <;> first | exact h | trivial
/-- an object of ours -/
def ODen (G : Ev) (r F : List Addr) (H : Hp) (a : Addr) : O → Prop
  | .lst ds => ∃ vs, H a = some (.lst vs) ∧ DenL G r F H ds vs
  | .dic ks ds => ∃ vs, H a = some (.dK (ks.zip vs)) ∧ ks.length = vs.length ∧ DenL G r F H ds vs
  | .ins c ks ds => ∃ C dx vs, G.mg c = some (.ref C) ∧ H a = some (.ins C dx (ks.zip vs)) ∧ ks.length = vs.length ∧ H dx = some (.own a) ∧ DenL G r F H ds vs
  | .tbl => a = lawT G.K ∧ LamX.TabS H a lamQ
structure GoodH (G : Ev) (r F : List Addr) (h : MH) (H : Hp) : Prop where
  len : r.length = h.length
  nd : r.Nodup
  fd : ∀ a ∈ F, (∃ o, H a = some o ∧ MutF G.K a o) ∧ a ∉ r
  ob : ∀ (i : Nat) (o : O), h[i]? = some o → ∃ a, r[i]? = some a ∧ ODen G r F H a o

/-- tuples stand whatever is written -/
def KeepT (H H' : Hp) : Prop := ∀ a xs, H a = some (.tup xs) → H' a = some (.tup xs)
end

/-- no tuple, no locked thing is ours -/
def Mine (r : List Addr) (H : Hp) : Prop := ∀ a ∈ r, ∃ o, H a = some o ∧ MutT (some o) 
theorem GoodH.mine {G : Ev} {r F : List Addr} {h : MH} {H : Hp} (g : GoodH G r F h H) : Mine r H := by
  intro a ha
  obtain ⟨i, hi, e⟩ := List.mem_iff_getElem.mp ha
  have hl : i < h.length := by rw [← g.len]; exact hi
  obtain ⟨b, e2, q⟩ := g.ob i h[i] (List.getElem?_eq_getElem hl)
  have e3 : r[i]? = some a := by rw [List.getElem?_eq_getElem hi, e]
  rw [e3] at e2; cases e2
  cases hh : h[i] with
  | lst ds => rw [hh] at q; obtain ⟨vs, q, _⟩ := q; exact ⟨_, q, trivial⟩
  | dic ks ds => rw [hh] at q; obtain ⟨vs, q, _⟩ := q; exact ⟨_, q, trivial⟩
  | ins c ks ds => rw [hh] at q; obtain ⟨C, dx, vs, _, q, _⟩ := q; exact ⟨_, q, trivial⟩
  | tbl => rw [hh] at q; obtain ⟨_, ps, q, _⟩ := q; exact ⟨_, q, trivial⟩
theorem GoodH.mineA {G : Ev} {r F : List Addr} {h : MH} {H : Hp} (g : GoodH G r F h H) : ∀ a ∈ r, ∃ o, H a = some o ∧ MutF G.K a o := by
  intro a ha
  obtain ⟨i, hi, e⟩ := List.mem_iff_getElem.mp ha
  have hl : i < h.length := by rw [← g.len]; exact hi
  obtain ⟨b, e2, q⟩ := g.ob i h[i] (List.getElem?_eq_getElem hl)
  have e3 : r[i]? = some a := by rw [List.getElem?_eq_getElem hi, e]
  rw [e3] at e2; cases e2
  cases hh : h[i] with
  | lst ds => rw [hh] at q; obtain ⟨vs, q, _⟩ := q; exact ⟨_, q, trivial⟩
  | dic ks ds => rw [hh] at q; obtain ⟨vs, q, _⟩ := q; exact ⟨_, q, trivial⟩
  | ins c ks ds => rw [hh] at q; obtain ⟨C, dx, vs, _, q, _⟩ := q; exact ⟨_, q, trivial⟩
  | tbl => rw [hh] at q; obtain ⟨q0, ps, q, _⟩ := q; exact ⟨_, q, q0⟩
theorem Mine.out {r : List Addr} {H : Hp} (m : Mine r H) {a : Addr} {o : HO} (h : H a = some o) (n : ¬ MutT (some o)) : a ∉ r := fun hm => by
  obtain ⟨o', e, q⟩ := m a hm
  rw [h] at e; cases e; exact n q
theorem Mine.seqT {K : PySem.W.Frag} {r r' : List Addr} {H H' : Hp} (m : Mine r H) (e : Ext r H r' H') {a : Addr} {vs : List V} (h : TuA K H a vs) : TuA K H' a vs := by
  rcases h with h | h
  · exact .inl (e.keep _ _ h (m.out h id))
  · exact .inr h
theorem Mine.frz {r r' : List Addr} {H H' : Hp} (m : Mine r H) (e : Ext r H r' H') {a : Addr} {o : Obj} {u : HO} (h : H a = some (.frz o u)) : H' a = some (.frz o u) := e.keep _ _ h (m.out h id)

/-- foreign things: those of before, or new ones -/
def Foe (F : List Addr) (H : Hp) (F' : List Addr) : Prop := ∀ a ∈ F', a ∈ F ∨ Nw H a
theorem Foe.refl {F : List Addr} {H : Hp} : Foe F H F := fun _ h => .inl h
theorem Foe.out {F F' : List Addr} {H : Hp} (f : Foe F H F') {a : Addr} {o : HO} (h : H a = some o) (n : a ∉ F) (t : ∀ ps, o ≠ .tbl ps := by intro _ z; cases z) : a ∉ F' := fun hm => by
  rcases f a hm with q | q
  · exact n q
  · exact q.no h t
section
variable {G : Ev} {r r' r2 F F' : List Addr} {H H' H2 : Hp}
mutual
theorem Den.monoF (m : Mine r H) (e : Ext r H r' H') (f : Foe F H F') : ∀ (d : D) (v : V), Den G r F H d v → Den G r' F' H' d v
  | .non, _, .non => .non
  | .bl _, _, .bl b => .bl b
  | .int _, _, .int b => .int b
  | .str _, _, .str b => .str b
  | .ty _, _, .ty b => .ty b
  | .tup ds, _, .tup h l => .tup (m.seqT e h) (DenL.monoF m e f ds _ l)
  | .lst ds, _, .lst h n l => .lst (e.keep _ _ h n.1) ⟨e.notin h n.1, f.out h n.2⟩ (DenL.monoF m e f ds _ l)
  | .scr _, _, .scr h => .scr (h.imp (fun h => h.imp (fun ⟨o, h⟩ => ⟨o, m.frz e h⟩) id) fun ⟨h, n⟩ => ⟨e.keep _ _ h n.1, e.notin h n.1, f.out h n.2⟩)
  | .dic ks ds, _, .dic h n hl l => .dic (e.keep _ _ h n.1) ⟨e.notin h n.1, f.out h n.2⟩ hl (DenL.monoF m e f ds _ l)
  | .ref _, _, .ref h => .ref (e.get h)
  | .gl _, _, .gl h => .gl h
theorem DenL.monoF (m : Mine r H) (e : Ext r H r' H') (f : Foe F H F') : ∀ (ds : List D) (vs : List V), DenL G r F H ds vs → DenL G r' F' H' ds vs
  | [], _, .nil => .nil
  | d :: ds, _, .cons h t => .cons (Den.monoF m e f d _ h) (DenL.monoF m e f ds _ t)
end
/-- the heap has grown, foreign things may have changed -/
structure ExtF (r F : List Addr) (H : Hp) (r' : List Addr) (H' : Hp) : Prop where
  pre : ∃ d, r' = r ++ d ∧ ∀ a ∈ d, (Nw H a ∨ a ∈ F) ∧ a ∉ r
  keep0 : ∀ a o, H a = some o → a ∉ r → a ∉ F → (∀ ps, o ≠ .tbl ps) → H' a = some o
theorem ExtF.keep (e : ExtF r F H r' H') (a : Addr) (o : HO) (h : H a = some o) (n : a ∉ r) (n2 : a ∉ F) (t : ∀ ps, o ≠ .tbl ps := by intro _ z; cases z) : H' a = some o := e.keep0 a o h n n2 t
theorem Ext.toF (e : Ext r H r' H') : ExtF r F H r' H' := ⟨let ⟨d, e1, e2⟩ := e.pre; ⟨d, e1, fun a ha => ⟨.inl (e2 a ha).1, (e2 a ha).2⟩⟩, fun a o h n _ t => e.keep0 a o h n t⟩
theorem ExtF.notin (e : ExtF r F H r' H') {a : Addr} {o : HO} (h : H a = some o) (n : a ∉ r) (nF : a ∉ F) (t : ∀ ps, o ≠ .tbl ps := by intro _ z; cases z) : a ∉ r' := by
  obtain ⟨d, rfl, hd⟩ := e.pre
  simp only [List.mem_append, not_or]
  exact ⟨n, fun hm => (hd a hm).1.elim (fun w => w.no h t) nF⟩
theorem ExtF.get (e : ExtF r F H r' H') {i : Nat} {a : Addr} (h : r[i]? = some a) : r'[i]? = some a := by
  obtain ⟨d, rfl, _⟩ := e.pre
  obtain ⟨hl, _⟩ := List.getElem?_eq_some_iff.mp h
  rw [List.getElem?_append_left hl]; exact h
theorem GoodH.mineF {h : MH} (g : GoodH G r F h H) : Mine F H := fun a ha => by
  obtain ⟨o, q, mu⟩ := (g.fd a ha).1
  exact ⟨o, q, mutFT mu⟩
theorem ExtF.seqT {K : PySem.W.Frag} (m : Mine r H) (mf : Mine F H) (e : ExtF r F H r' H') {a : Addr} {vs : List V} (h : TuA K H a vs) : TuA K H' a vs := by
  rcases h with h | h
  · exact .inl (e.keep _ _ h (m.out h id) (mf.out h id))
  · exact .inr h
mutual
theorem Den.monoX (m : Mine r H) (mf : Mine F H) (e : ExtF r F H r' H') (f : Foe F H F') : ∀ (d : D) (v : V), Den G r F H d v → Den G r' F' H' d v
  | .non, _, .non => .non
  | .bl _, _, .bl b => .bl b
  | .int _, _, .int b => .int b
  | .str _, _, .str b => .str b
  | .ty _, _, .ty b => .ty b
  | .tup ds, _, .tup h l => .tup (e.seqT m mf h) (DenL.monoX m mf e f ds _ l)
  | .lst ds, _, .lst h n l => .lst (e.keep _ _ h n.1 n.2) ⟨e.notin h n.1 n.2, f.out h n.2⟩ (DenL.monoX m mf e f ds _ l)
  | .scr _, _, .scr h => .scr (h.imp (fun h => h.imp (fun ⟨o, h⟩ => ⟨o, e.keep _ _ h (m.out h id) (mf.out h id)⟩) id) fun ⟨h, n⟩ => ⟨e.keep _ _ h n.1 n.2, e.notin h n.1 n.2, f.out h n.2⟩)
  | .dic ks ds, _, .dic h n hl l => .dic (e.keep _ _ h n.1 n.2) ⟨e.notin h n.1 n.2, f.out h n.2⟩ hl (DenL.monoX m mf e f ds _ l)
  | .ref _, _, .ref h => .ref (e.get h)
  | .gl _, _, .gl h => .gl h
theorem DenL.monoX (m : Mine r H) (mf : Mine F H) (e : ExtF r F H r' H') (f : Foe F H F') : ∀ (ds : List D) (vs : List V), DenL G r F H ds vs → DenL G r' F' H' ds vs
  | [], _, .nil => .nil
  | d :: ds, _, .cons h t => .cons (Den.monoX m mf e f d _ h) (DenL.monoX m mf e f ds _ t)
end
theorem Den.mono (m : Mine r H) (e : Ext r H r' H') (d : D) (v : V) (h : Den G r F H d v) : Den G r' F H' d v := Den.monoF m e .refl d v h
theorem DenL.mono (m : Mine r H) (e : Ext r H r' H') (d : List D) (v : List V) (h : DenL G r F H d v) : DenL G r' F H' d v := DenL.monoF m e .refl d v h
/-- a foreign list is written -/
theorem mut_ne {H : Hp} {D a : Addr} {acc o : HO} (hD : H D = some acc) (mu : MutT (some acc)) (h : H a = some o) (n : ¬ MutT (some o)) : a ≠ D := fun e => by
  subst e
  rw [h] at hD
  cases hD
  exact n mu
theorem seqT_upd {K : PySem.W.Frag} {H : Hp} {D a : Addr} {acc acc' : HO} {vs : List V} (hD : H D = some acc) (mu : MutT (some acc)) (h : TuA K H a vs) : TuA K (upd H D acc') a vs := by
  rcases h with h | h
  · exact .inl (by rw [upd_ne (mut_ne hD mu h id)]; exact h)
  · exact .inr h
mutual
theorem Den.updF {D0 : Addr} {acc acc' : HO} (hD : H D0 = some acc) (mu : MutT (some acc)) (hF : D0 ∈ F) : ∀ (d : D) (v : V), Den G r F H d v → Den G r F (upd H D0 acc') d v
  | .non, _, .non => .non
  | .bl _, _, .bl b => .bl b
  | .int _, _, .int b => .int b
  | .str _, _, .str b => .str b
  | .ty _, _, .ty b => .ty b
  | .tup ds, _, .tup h l => .tup (seqT_upd hD mu h) (DenL.updF hD mu hF ds _ l)
  | .lst ds, _, .lst h n l => .lst (by rw [upd_ne (fun e => n.2 (by rw [e]; exact hF))]; exact h) n (DenL.updF hD mu hF ds _ l)
  | .scr _, _, .scr h => .scr (h.imp (fun h => h.imp (fun ⟨o, h⟩ => ⟨o, by rw [upd_ne (mut_ne hD mu h id)]; exact h⟩) id) fun ⟨h, n⟩ => ⟨by rw [upd_ne (fun e => n.2 (by rw [e]; exact hF))]; exact h, n⟩)
  | .dic ks ds, _, .dic h n hl l => .dic (by rw [upd_ne (fun e => n.2 (by rw [e]; exact hF))]; exact h) n hl (DenL.updF hD mu hF ds _ l)
  | .ref _, _, .ref h => .ref h
  | .gl _, _, .gl h => .gl h
theorem DenL.updF {D0 : Addr} {acc acc' : HO} (hD : H D0 = some acc) (mu : MutT (some acc)) (hF : D0 ∈ F) : ∀ (ds : List D) (vs : List V), DenL G r F H ds vs → DenL G r F (upd H D0 acc') ds vs
  | [], _, .nil => .nil
  | d :: ds, _, .cons h t => .cons (Den.updF hD mu hF d _ h) (DenL.updF hD mu hF ds _ t)
end
theorem GoodH.updF {h : MH} {D0 : Addr} {acc acc' : HO} (g : GoodH G r F h H) (hD : H D0 = some acc) (mu : MutT (some acc)) (mu' : MutF G.K D0 acc') (hF : D0 ∈ F) : GoodH G r F h (upd H D0 acc') := by
  refine ⟨g.len, g.nd, fun a ha => ⟨?_, (g.fd a ha).2⟩, fun i o hi => ?_⟩
  · by_cases e : a = D0
    · exact ⟨acc', by rw [e]; exact upd_same, by rw [e]; exact mu'⟩
    · rw [upd_ne e]; exact (g.fd a ha).1
  · obtain ⟨a, ea, q⟩ := g.ob i o hi
    have ne : a ≠ D0 := fun e => (g.fd D0 hF).2 (by rw [← e]; exact List.mem_of_getElem? ea)
    refine ⟨a, ea, ?_⟩
    cases o with
    | lst ds =>
      obtain ⟨vs, q1, q2⟩ := q
      exact ⟨vs, by rw [upd_ne ne]; exact q1, DenL.updF hD mu hF _ _ q2⟩
    | dic ks ds =>
      obtain ⟨vs, q1, ql, q2⟩ := q
      exact ⟨vs, by rw [upd_ne ne]; exact q1, ql, DenL.updF hD mu hF _ _ q2⟩
    | ins c ks ds =>
      obtain ⟨C, dx, vs, q0, q1, ql, q3, q2⟩ := q
      exact ⟨C, dx, vs, q0, by rw [upd_ne ne]; exact q1, ql, by rw [upd_ne (mut_ne hD mu q3 id)]; exact q3, DenL.updF hD mu hF _ _ q2⟩
    | tbl =>
      obtain ⟨q0, ps, q1, q2, q3⟩ := q
      exact ⟨q0, ps, by rw [upd_ne ne]; exact q1, q2, fun pos cv hc => by
        obtain ⟨c, e1, e2⟩ := q3 pos cv hc
        exact ⟨c, e1, by rw [upd_ne (mut_ne hD mu e2 id)]; exact e2⟩⟩
theorem ODen.monoF (m : Mine r H) (e : Ext r H r' H') (f : Foe F H F') {a : Addr} {o : O} (q : ODen G r F H a o) (ha : H' a = H a) : ODen G r' F' H' a o := by
  cases o with
  | lst ds =>
    obtain ⟨vs, q1, q2⟩ := q
    exact ⟨vs, by rw [ha]; exact q1, DenL.monoF m e f _ _ q2⟩
  | dic ks ds =>
    obtain ⟨vs, q1, ql, q2⟩ := q
    exact ⟨vs, by rw [ha]; exact q1, ql, DenL.monoF m e f _ _ q2⟩
  | ins c ks ds =>
    obtain ⟨C, dx, vs, q0, q1, ql, q3, q2⟩ := q
    exact ⟨C, dx, vs, q0, by rw [ha]; exact q1, ql, e.keep _ _ q3 (m.out q3 id), DenL.monoF m e f _ _ q2⟩
  | tbl =>
    obtain ⟨q0, ps, q1, q2, q3⟩ := q
    exact ⟨q0, ps, by rw [ha]; exact q1, q2, fun pos cv hc => by
      obtain ⟨c, e1, e2⟩ := q3 pos cv hc
      exact ⟨c, e1, e.keep _ _ e2 (m.out e2 id)⟩⟩
/-- other foreign things -/
theorem GoodH.foe {h : MH} (g : GoodH G r F h H) (s : ∀ a o, H a = some o → H' a = some o) (f : Foe F H F') (k : ∀ a ∈ F', (∃ o, H' a = some o ∧ MutF G.K a o) ∧ a ∉ r) : GoodH G r F' h H' := by
  refine ⟨g.len, g.nd, k, fun i o hi => ?_⟩
  obtain ⟨a, ea, q⟩ := g.ob i o hi
  refine ⟨a, ea, ODen.monoF g.mine (.same s) f q ?_⟩
  obtain ⟨o2, e2, _⟩ := g.mine a (List.mem_of_getElem? ea)
  rw [e2]; exact s _ _ e2
/-- a new foreign thing -/
theorem GoodH.newF {h : MH} {D0 : Addr} {o : HO} (g : GoodH G r F h H) (hD : H D0 = none) (mu : MutF G.K D0 o) : GoodH G r (D0 :: F) h (upd H D0 o) := by
  have s : ∀ a o', H a = some o' → upd H D0 o a = some o' := fun a o' e => by rw [upd_ne (ne_of_none e hD)]; exact e
  refine g.foe s (fun a ha => ?_) fun a ha => ?_
  · rcases List.mem_cons.mp ha with e | e
    · exact .inr (by rw [e]; exact (.inl hD))
    · exact .inl e
  · rcases List.mem_cons.mp ha with e | e
    · refine ⟨⟨o, by rw [e]; exact upd_same, by rw [e]; exact mu⟩, fun hm => ?_⟩
      obtain ⟨o', q, _⟩ := g.mine a hm
      rw [e, hD] at q; cases q
    · obtain ⟨⟨o', q, m⟩, n⟩ := g.fd a e
      exact ⟨⟨o', s _ _ q, m⟩, n⟩
/-- the foreign thing forgotten -/
theorem GoodH.dropF {h : MH} {D0 : Addr} (g : GoodH G r (D0 :: F) h H) : GoodH G r F h H :=
  g.foe (fun _ _ e => e) (fun a ha => .inl (List.mem_cons_of_mem _ ha)) fun a ha => g.fd a (List.mem_cons_of_mem _ ha)
theorem Den.dropF {D0 : Addr} {d : D} {v : V} (m : Mine r H) (h : Den G r (D0 :: F) H d v) : Den G r F H d v := Den.monoF m .refl (fun a ha => .inl (List.mem_cons_of_mem _ ha)) d v h
theorem DenL.dropF {D0 : Addr} {d : List D} {v : List V} (m : Mine r H) (h : DenL G r (D0 :: F) H d v) : DenL G r F H d v := DenL.monoF m .refl (fun a ha => .inl (List.mem_cons_of_mem _ ha)) d v h
/-! the same heap, other names -/
section
mutual
theorem Den.re (hp : ∀ a, a ∉ r ∧ a ∉ F → a ∉ r' ∧ a ∉ F') (hr : ∀ (i : Nat) a, r[i]? = some a → r'[i]? = some a) : ∀ (d : D) (v : V), Den G r F H d v → Den G r' F' H d v
  | .non, _, .non => .non
  | .bl _, _, .bl b => .bl b
  | .int _, _, .int b => .int b
  | .str _, _, .str b => .str b
  | .ty _, _, .ty b => .ty b
  | .tup ds, _, .tup h l => .tup h (DenL.re hp hr ds _ l)
  | .lst ds, _, .lst h n l => .lst h (hp _ n) (DenL.re hp hr ds _ l)
  | .scr _, _, .scr h => .scr (h.imp id fun ⟨h, n⟩ => ⟨h, hp _ n⟩)
  | .dic ks ds, _, .dic h n hl l => .dic h (hp _ n) hl (DenL.re hp hr ds _ l)
  | .ref _, _, .ref h => .ref (hr _ _ h)
  | .gl _, _, .gl h => .gl h
theorem DenL.re (hp : ∀ a, a ∉ r ∧ a ∉ F → a ∉ r' ∧ a ∉ F') (hr : ∀ (i : Nat) a, r[i]? = some a → r'[i]? = some a) : ∀ (ds : List D) (vs : List V), DenL G r F H ds vs → DenL G r' F' H ds vs
  | [], _, .nil => .nil
  | d :: ds, _, .cons h t => .cons (Den.re hp hr d _ h) (DenL.re hp hr ds _ t)
end
theorem ODen.re (hp : ∀ a, a ∉ r ∧ a ∉ F → a ∉ r' ∧ a ∉ F') (hr : ∀ (i : Nat) a, r[i]? = some a → r'[i]? = some a) {a : Addr} {o : O} (q : ODen G r F H a o) : ODen G r' F' H a o := by
  cases o with
  | lst ds =>
    obtain ⟨vs, q1, q2⟩ := q
    exact ⟨vs, q1, DenL.re hp hr _ _ q2⟩
  | dic ks ds =>
    obtain ⟨vs, q1, ql, q2⟩ := q
    exact ⟨vs, q1, ql, DenL.re hp hr _ _ q2⟩
  | ins c ks ds =>
    obtain ⟨C, dx, vs, q0, q1, ql, q3, q2⟩ := q
    exact ⟨C, dx, vs, q0, q1, ql, q3, DenL.re hp hr _ _ q2⟩
  | tbl => exact q
theorem adopt_hp {D0 : Addr} : ∀ a, a ∉ r ∧ a ∉ D0 :: F → a ∉ r ++ [D0] ∧ a ∉ F := fun a ⟨h1, h2⟩ => by
  rw [List.mem_cons, not_or] at h2
  exact ⟨fun hm => by
    rcases List.mem_append.mp hm with hm | hm
    · exact h1 hm
    · exact h2.1 (by simpa using hm), h2.2⟩
theorem adopt_hr {D0 : Addr} : ∀ (i : Nat) a, r[i]? = some a → (r ++ [D0])[i]? = some a := fun i a h => by
  rw [List.getElem?_append_left (List.getElem?_eq_some_iff.mp h).1]
  exact h
/-- a foreign thing becomes one of ours -/
theorem GoodH.adopt {h : MH} {D0 : Addr} {o : O} (g : GoodH G r (D0 :: F) h H) (n : D0 ∉ F) (q : ODen G (r ++ [D0]) F H D0 o) : GoodH G (r ++ [D0]) F (h ++ [o]) H := by
  refine ⟨by simp [g.len], ?_, fun a ha => ⟨(g.fd a (List.mem_cons_of_mem _ ha)).1, fun hm => ?_⟩, fun i o' hi => ?_⟩
  · rw [List.nodup_append]
    refine ⟨g.nd, by simp, fun a ha b hb => ?_⟩
    simp at hb
    subst hb
    intro e
    subst e
    exact (g.fd a List.mem_cons_self).2 ha
  · rcases List.mem_append.mp hm with hm | hm
    · exact (g.fd a (List.mem_cons_of_mem _ ha)).2 hm
    · simp at hm
      subst hm
      exact n ha
  · by_cases hl : i < h.length
    · rw [List.getElem?_append_left hl] at hi
      obtain ⟨a, ea, qa⟩ := g.ob i o' hi
      exact ⟨a, adopt_hr i a ea, ODen.re adopt_hp adopt_hr qa⟩
    · have hl2 : i = h.length := by
        have := (List.getElem?_eq_some_iff.mp hi).1
        simp at this
        omega
      subst hl2
      rw [List.getElem?_append_right (Nat.le_refl _)] at hi
      simp at hi
      subst hi
      refine ⟨D0, ?_, q⟩
      rw [← g.len, List.getElem?_append_right (Nat.le_refl _)]
      simp
end
end
section
variable {G : Ev} {r F : List Addr} {H H1 : Hp}
-- all but the tables is kept
mutual
theorem Den.extN (e : LamX.ExtN H H1) : ∀ (d : D) (v : V), Den G r F H d v → Den G r F H1 d v
  | .non, _, .non => .non
  | .bl _, _, .bl b => .bl b
  | .int _, _, .int b => .int b
  | .str _, _, .str b => .str b
  | .ty _, _, .ty b => .ty b
  | .tup ds, _, .tup h l => .tup (by
      rcases h with h | h
      · exact .inl (e _ _ h fun ps z => by cases z)
      · exact .inr h) (DenL.extN e ds _ l)
  | .lst ds, _, .lst h n l => .lst (e _ _ h fun ps z => by cases z) n (DenL.extN e ds _ l)
  | .scr _, _, .scr h => .scr (h.imp (fun h => h.imp (fun ⟨o, h⟩ => ⟨o, e _ _ h fun ps z => by cases z⟩) id) fun ⟨h, n⟩ => ⟨e _ _ h fun ps z => (by cases z), n⟩)
  | .dic ks ds, _, .dic h n hl l => .dic (e _ _ h fun ps z => by cases z) n hl (DenL.extN e ds _ l)
  | .ref _, _, .ref h => .ref h
  | .gl _, _, .gl h => .gl h
theorem DenL.extN (e : LamX.ExtN H H1) : ∀ (ds : List D) (vs : List V), DenL G r F H ds vs → DenL G r F H1 ds vs
  | [], _, .nil => .nil
  | d :: ds, _, .cons h t => .cons (Den.extN e d _ h) (DenL.extN e ds _ t)
end
theorem GoodH.extN {h : MH} (g : GoodH G r F h H) (e : LamX.ExtN H H1) (t : LamX.TabS H1 (lawT G.K) lamQ) : GoodH G r F h H1 := by
  refine ⟨g.len, g.nd, fun a ha => ?_, fun i o hi => ?_⟩
  · obtain ⟨⟨o, q, mu⟩, n⟩ := g.fd a ha
    cases o with
    | tbl ps =>
      have mu : a = lawT G.K := mu
      obtain ⟨ps2, t1, _⟩ := t
      rw [← mu] at t1
      exact ⟨⟨_, t1, mu⟩, n⟩
    | _ => exact ⟨⟨_, e _ _ q fun ps z => (by cases z), mu⟩, n⟩
  · obtain ⟨a, ea, q⟩ := g.ob i o hi
    refine ⟨a, ea, ?_⟩
    cases o with
    | lst ds =>
      obtain ⟨vs, q1, q2⟩ := q
      exact ⟨vs, e _ _ q1 fun ps z => (by cases z), DenL.extN e _ _ q2⟩
    | dic ks ds =>
      obtain ⟨vs, q1, ql, q2⟩ := q
      exact ⟨vs, e _ _ q1 fun ps z => (by cases z), ql, DenL.extN e _ _ q2⟩
    | ins c ks ds =>
      obtain ⟨C, dx, vs, q0, q1, ql, q3, q2⟩ := q
      exact ⟨C, dx, vs, q0, e _ _ q1 fun ps z => (by cases z), ql, e _ _ q3 fun ps z => (by cases z), DenL.extN e _ _ q2⟩
    | tbl =>
      refine ⟨q.1, ?_⟩
      rw [q.1]
      exact t
end
end CH

/-! CH1: mirror functions and their readings. -/
namespace CH
open PySem PySem.Spec PyProof.Rows L2

abbrev Mo (α : Type) := Sl → MH → Res α
def bindR {α β : Type} (m : Res α) (k : α → MH → Res β) : Res β := match m with
  | .ok a h => k a h
  | .exc c a h => .exc c a h
  | .bad => .bad
def mBind {α β : Type} (m : Mo α) (k : α → Mo β) : Mo β := fun sl h => bindR (m sl h) fun a h1 => k a sl h1
def optR {α : Type} (o : Option α) (h : MH) : Res α := match o with
  | some a => .ok a h
  | none => .bad

section
variable {G : Ev} {r r' r1 F : List Addr} {H H' H1 : Hp} {h h' h1 : MH}
theorem Ext.trans {r1 : List Addr} {H1 : Hp} {r2 : List Addr} {H2 : Hp} (a : Ext r H r1 H1) (m : Mine r1 H1) (b : Ext r1 H1 r2 H2) : Ext r H r2 H2 := by
  obtain ⟨d1, e1, f1⟩ := a.pre
  obtain ⟨d2, e2, f2⟩ := b.pre
  refine ⟨⟨d1 ++ d2, by rw [e2, e1, List.append_assoc], fun x hx => ?_⟩, fun x o e n t => b.keep x o (a.keep x o e n t) (a.notin e n t) t⟩
  rcases List.mem_append.mp hx with hx | hx
  · exact f1 x hx
  · have hn : x ∉ r := fun hr => (f2 x hx).2 (by rw [e1]; exact List.mem_append_left _ hr)
    refine ⟨?_, hn⟩
    cases q : H x with
    | none => exact .inl q
    | some o =>
      cases o with
      | tbl ps => exact .inr ⟨ps, q⟩
      | _ =>
        exfalso
        have e3 := a.keep x _ q hn
        exact (f2 x hx).1.no e3 fun ps z => by cases z
/-- all is kept -/
theorem GoodH.same (g : GoodH G r F h H) (s : Same H H') : GoodH G r F h H' := by
  have e : Ext r H r H' := .same s
  refine ⟨g.len, g.nd, fun a ha => ?_, fun i o hi => ?_⟩
  · obtain ⟨⟨o, q, mu⟩, n⟩ := g.fd a ha
    exact ⟨⟨o, s _ _ q, mu⟩, n⟩
  · obtain ⟨a, ea, q⟩ := g.ob i o hi
    refine ⟨a, ea, ?_⟩
    cases o with
    | lst ds =>
      obtain ⟨vs, q1, q2⟩ := q
      exact ⟨vs, s _ _ q1, DenL.mono g.mine e _ _ q2⟩
    | dic ks ds =>
      obtain ⟨vs, q1, ql, q2⟩ := q
      exact ⟨vs, s _ _ q1, ql, DenL.mono g.mine e _ _ q2⟩
    | ins c ks ds =>
      obtain ⟨C, dx, vs, q0, q1, ql, q3, q2⟩ := q
      exact ⟨C, dx, vs, q0, s _ _ q1, ql, s _ _ q3, DenL.mono g.mine e _ _ q2⟩
    | tbl => exact ⟨q.1, q.2.ext s⟩
theorem ODen.mono (m : Mine r H) (e : Ext r H r' H') {a : Addr} {o : O} (q : ODen G r F H a o) (ha : H' a = H a) : ODen G r' F H' a o := by
  cases o with
  | lst ds =>
    obtain ⟨vs, q1, q2⟩ := q
    exact ⟨vs, by rw [ha]; exact q1, DenL.mono m e _ _ q2⟩
  | dic ks ds =>
    obtain ⟨vs, q1, ql, q2⟩ := q
    exact ⟨vs, by rw [ha]; exact q1, ql, DenL.mono m e _ _ q2⟩
  | ins c ks ds =>
    obtain ⟨C, dx, vs, q0, q1, ql, q3, q2⟩ := q
    exact ⟨C, dx, vs, q0, by rw [ha]; exact q1, ql, e.keep _ _ q3 (m.out q3 id), DenL.mono m e _ _ q2⟩
  | tbl =>
    obtain ⟨q0, ps, q1, q2, q3⟩ := q
    exact ⟨q0, ps, by rw [ha]; exact q1, q2, fun pos cv hc => by
      obtain ⟨c, e1, e2⟩ := q3 pos cv hc
      exact ⟨c, e1, e.keep _ _ e2 (m.out e2 id)⟩⟩

def SlR (G : Ev) (r F : List Addr) (H : Hp) (sl : Sl) (σ : L2.St) : Prop := sl.length = σ.length ∧ ∀ (i : Nat) (d : D), sl[i]? = some (some d) → ∃ v, σ[i]? = some (some v) ∧ Den G r F H d v
theorem SlR.mono (m : Mine r H) (e : Ext r H r' H') {sl : Sl} {σ : L2.St} (s : SlR G r F H sl σ) : SlR G r' F H' sl σ := ⟨s.1, fun i d hd => by
  obtain ⟨v, h1, h2⟩ := s.2 i d hd
  exact ⟨v, h1, Den.mono m e _ _ h2⟩⟩
theorem SlR.set {sl : Sl} {σ : L2.St} (s : SlR G r F H sl σ) {i : Nat} {d : D} {v : V} (q : Den G r F H d v) : SlR G r F H (sl.set i (some d)) (σ.set i (some v)) := by
  refine ⟨by simp [s.1], fun j d' hd => ?_⟩
  by_cases hj : j = i
  · subst hj
    have hl : j < sl.length := by
      have := (List.getElem?_eq_some_iff.mp hd).1
      simpa using this
    rw [List.getElem?_set_self hl] at hd
    cases hd
    exact ⟨v, by rw [List.getElem?_set_self (by rw [← s.1]; exact hl)], q⟩
  · rw [List.getElem?_set_ne (Ne.symm hj)] at hd
    obtain ⟨w, h1, h2⟩ := s.2 j d' hd
    exact ⟨w, by rw [List.getElem?_set_ne (Ne.symm hj)]; exact h1, h2⟩

/-- an exception of ours: its class by name, its one field -/
def XDen (G : Ev) (r F : List Addr) (H : Hp) (c : Str) (a : Option (Str × D)) (cls : Value) (d : Option Addr) : Prop :=
  ∃ C, G.mg c = some (.ref C) ∧ cls = .ref C ∧ match a with
    | none => d = none
    | some (f, x) => ∃ dx v, d = some dx ∧ H dx = some (.xd [(f, v)]) ∧ Den G r F H x v

/-- what holds behind a mirror's answer -/
def Aft (G : Ev) (W : WX) (F : List Addr) (σ : L2.St) {α : Type} (r : List Addr) (H : Hp) (R : Res α) (Q : List Addr → Hp → α → MH → Prop) : Prop := match R with
  | .ok a h' => ∀ r' H', Ext r H r' H' → GoodH G r' F h' H' → Q r' H' a h'
  | .exc c a h' => ∀ r' H' cls x, Ext r H r' H' → GoodH G r' F h' H' → XDen G r' F H' c a cls x → W cls x σ H'
  | .bad => False
section
variable {W : WX} {σ : L2.St} {α β : Type}
theorem Aft.later {R : Res α} {Q : List Addr → Hp → α → MH → Prop} (a : Aft G W F σ r H R Q) (e : Ext r H r1 H1) (g : GoodH G r1 F h1 H1) : Aft G W F σ r1 H1 R Q := by
  cases R with
  | ok x h' => exact fun r' H' e' g' => a r' H' (e.trans g.mine e') g'
  | exc c x h' => exact fun r' H' cls y e' g' q => a r' H' cls y (e.trans g.mine e') g' q
  | bad => exact a
theorem Aft.imp {R : Res α} {Q Q' : List Addr → Hp → α → MH → Prop} (a : Aft G W F σ r H R Q) (f : ∀ r' H' x h', Ext r H r' H' → GoodH G r' F h' H' → Q r' H' x h' → Q' r' H' x h') : Aft G W F σ r H R Q' := by
  cases R with
  | ok x h' => exact fun r' H' e' g' => f r' H' x h' e' g' (a r' H' e' g')
  | exc c x h' => exact a
  | bad => exact a
theorem Aft.bind {R : Res α} {k : α → MH → Res β} {Q : List Addr → Hp → β → MH → Prop} (a : Aft G W F σ r H (bindR R k) Q) : Aft G W F σ r H R (fun r1 H1 x h1 => Aft G W F σ r1 H1 (k x h1) Q) := by
  cases R with
  | ok x h' =>
    intro r' H' e g
    exact Aft.later (h1 := h') a e g
  | exc c x h' => exact a
  | bad => exact a
theorem Aft.here {x : α} {Q : List Addr → Hp → α → MH → Prop} (a : Aft G W F σ r H (.ok x h) Q) (g : GoodH G r F h H) : Q r H x h := a r H .refl g
theorem Aft.hereS {x : α} {Q : List Addr → Hp → α → MH → Prop} (a : Aft G W F σ r H (.ok x h) Q) (g : GoodH G r F h H) (s : Same H H') : Q r H' x h := a r H' (.same s) (g.same s)
end

def tE (G : Ev) (W : WX) (f : Mo D) : TE := fun σ H Q => ∃ r F sl h, SlR G r F H sl σ ∧ GoodH G r F h H ∧ Aft G W F σ r H (f sl h) fun r' H' d _ => ∀ v, Den G r' F H' d v → Q v H'
def tT (G : Ev) (W : WX) (f : Mo Bool) : TT := fun σ H Q => ∃ r F sl h, SlR G r F H sl σ ∧ GoodH G r F h H ∧ Aft G W F σ r H (f sl h) fun r' H' b _ => Q b H'
def tA (G : Ev) (W : WX) (f : Mo (List D)) : TA := fun σ H Q => ∃ r F sl h, SlR G r F H sl σ ∧ GoodH G r F h H ∧ Aft G W F σ r H (f sl h) fun r' H' ds _ => ∀ vs, DenL G r' F H' ds vs → Q vs H'
end

/-! ### a weaker reading -/
section
variable {X : Cx} {e : Expr} {es : List Expr} {st : Stmt} {sts : List Stmt}
theorem _root_.L2.PE.imp {t t' : TE} (p : PE X e t) (f : ∀ σ H Q, t' σ H Q → t σ H Q) : PE X e t' := ⟨fun pins s σ H Q I q => p.run pins s σ H Q I (f _ _ _ q)⟩
theorem _root_.L2.PT.imp {t t' : TT} (p : PT X e t) (f : ∀ σ H Q, t' σ H Q → t σ H Q) : PT X e t' := ⟨fun pins s σ H Q I q => p.run pins s σ H Q I (f _ _ _ q)⟩
theorem _root_.L2.PW.imp {t t' : TT} (p : PW X e t) (f : ∀ σ H Q, t' σ H Q → t σ H Q) : PW X e t' := ⟨fun w pins s σ H Q I q => p.run w pins s σ H Q I (f _ _ _ q)⟩
theorem _root_.L2.PA.imp {t t' : TA} (p : PA X es t) (f : ∀ σ H Q, t' σ H Q → t σ H Q) : PA X es t' := ⟨fun pos pins s σ H Q I q => p.run pos pins s σ H Q I (f _ _ _ q)⟩
theorem _root_.L2.PS.imp {t t' : TS} (p : PS X st t) (f : ∀ D σ H, t' D σ H → t D σ H) : PS X st t' := ⟨fun pins s σ H D I q => p.run pins s σ H D I (f _ _ _ q)⟩
theorem _root_.L2.PSs.imp {t t' : TS} (p : PSs X sts t) (f : ∀ D σ H, t' D σ H → t D σ H) : PSs X sts t' := ⟨fun pins s σ H D I q => p.run pins s σ H D I (f _ _ _ q)⟩
end

abbrev evOf (X : Cx) : Ev := ⟨X.K, X.mg⟩

/-! ### expressions -/
def mVar (i : Nat) : Mo D := fun sl h => optR (sl[i]?.join) h
def mC (d : D) : Mo D := fun _ h => .ok d h
def mNil : Mo (List D) := fun _ h => .ok [] h
def mCons (a : Mo D) (b : Mo (List D)) : Mo (List D) := mBind a fun x => mBind b fun xs => fun _ h => .ok (x :: xs) h
/-- a two-place operation -/
def mOp (g : D → D → MH → Res D) (a b : Mo D) : Mo D := mBind a fun x => mBind b fun y => fun _ h => g x y h
def mUn (g : D → MH → Res D) (a : Mo D) : Mo D := mBind a fun x => fun _ h => g x h
def truthD : D → Option Bool
  | .bl b => some b
  | _ => none
def mTest (a : Mo D) : Mo Bool := mBind a fun x => fun _ h => optR (truthD x) h
def mAndT (a b : Mo Bool) : Mo Bool := mBind a fun x => if x then b else fun _ h => .ok false h
def mOrT (a b : Mo Bool) : Mo Bool := mBind a fun x => if x then fun _ h => .ok true h else b
def mNotT (a : Mo Bool) : Mo Bool := mBind a fun x => fun _ h => .ok (!x) h
def mAnd (a b : Mo D) : Mo D := mBind a fun x => match x with
  | .bl true => b
  | .bl false => fun _ h => .ok (.bl false) h
  | _ => fun _ _ => .bad
def mOr (a b : Mo D) : Mo D := mBind a fun x => match x with
  | .bl true => fun _ h => .ok (.bl true) h
  | .bl false => b
  | _ => fun _ _ => .bad
def mNot (a : Mo D) : Mo D := mBind a fun x => match x with
  | .bl b => fun _ h => .ok (.bl (!b)) h
  | _ => fun _ _ => .bad
def mIf (c : Mo Bool) (a b : Mo D) : Mo D := mBind c fun x => if x then a else b
def lim : Nat := 100000
theorem lim_ok {n : Nat} (h : n ≤ lim) : n ≤ sizeLine := Nat.le_trans h (by decide)
theorem lim_lt {n : Nat} (h : n < lim) : n < sizeLine := Nat.lt_of_lt_of_le h (by decide)
def tupR (ds : List D) (h : MH) : Res D := if ds.length ≤ lim then .ok (.tup ds) h else .bad
def lstR (ds : List D) (h : MH) : Res D := if ds.length ≤ lim then .ok (.lst ds) h else .bad
def mTup (a : Mo (List D)) : Mo D := mBind a fun ds => fun _ h => tupR ds h
def mLst (a : Mo (List D)) : Mo D := mBind a fun ds => fun _ h => lstR ds h
/-- a new list that will change -/
def newLst (ds : List D) (h : MH) : Res D := if ds.length ≤ lim then .ok (.ref h.length) (h ++ [.lst ds]) else .bad
def mNewL (a : Mo (List D)) : Mo D := mBind a fun ds => fun _ h => newLst ds h

section
variable {G : Ev} {r r' r1 F : List Addr} {H H' H1 : Hp} {h h' h1 : MH} {W : WX} {σ : L2.St}
theorem tE.of {f : Mo D} {sl : Sl} {Q : VK} (s : SlR G r F H sl σ) (g : GoodH G r F h H) (a : Aft G W F σ r H (f sl h) fun r' H' d _ => ∀ v, Den G r' F H' d v → Q v H') : tE G W f σ H Q := ⟨r, F, sl, h, s, g, a⟩
theorem tT.of {f : Mo Bool} {sl : Sl} {Q : Bool → Hp → Prop} (s : SlR G r F H sl σ) (g : GoodH G r F h H) (a : Aft G W F σ r H (f sl h) fun r' H' b _ => Q b H') : tT G W f σ H Q := ⟨r, F, sl, h, s, g, a⟩
theorem tA.of {f : Mo (List D)} {sl : Sl} {Q : List V → Hp → Prop} (s : SlR G r F H sl σ) (g : GoodH G r F h H) (a : Aft G W F σ r H (f sl h) fun r' H' ds _ => ∀ vs, DenL G r' F H' ds vs → Q vs H') : tA G W f σ H Q := ⟨r, F, sl, h, s, g, a⟩
theorem DenL.len : ∀ {ds : List D} {vs : List V}, DenL G r F H ds vs → ds.length = vs.length
  | _, _, .nil => rfl
  | _, _, .cons _ t => by simp [DenL.len t]
theorem DenL.get : ∀ {ds : List D} {vs : List V} {i : Nat} {d : D}, DenL G r F H ds vs → ds[i]? = some d → ∃ v, vs[i]? = some v ∧ Den G r F H d v
  | _, _, 0, d, .cons h _, e => by simp at e; subst e; exact ⟨_, rfl, h⟩
  | _, _, i + 1, d, .cons _ t, e => by
    obtain ⟨v, h1, h2⟩ := DenL.get (i := i) (d := d) t (by simpa using e)
    exact ⟨v, by simpa using h1, h2⟩
  | _, _, _, _, .nil, e => by simp at e
theorem DenL.app : ∀ {ds es : List D} {vs us : List V}, DenL G r F H ds vs → DenL G r F H es us → DenL G r F H (ds ++ es) (vs ++ us)
  | _, _, _, _, .nil, q => q
  | _, _, _, _, .cons a t, q => .cons a (DenL.app t q)
theorem same_new {p : Addr} {o : HO} (hp : H p = none) : Same H (upd H p o) := fun b o' e => by rw [upd_ne (ne_of_none e hp)]; exact e
theorem GoodH.fresh (g : GoodH G r F h H) {p : Addr} (hp : H p = none) : p ∉ r ∧ p ∉ F := by
  refine ⟨fun hm => ?_, fun hm => ?_⟩
  · obtain ⟨o, e, _⟩ := g.mine p hm
    rw [hp] at e; cases e
  · obtain ⟨⟨o, e, _⟩, _⟩ := g.fd p hm
    rw [hp] at e; cases e
/-- a new tuple -/
theorem new_tup {ds : List D} {vs : List V} {p : Addr} (g : GoodH G r F h H) (q : DenL G r F H ds vs) (hp : H p = none) : Den G r F (upd H p (.tup vs)) (.tup ds) (.ref p) :=
  .tup (.inl upd_same) (DenL.mono g.mine (.same (same_new hp)) _ _ q)
theorem new_lst {ds : List D} {vs : List V} {p : Addr} (g : GoodH G r F h H) (q : DenL G r F H ds vs) (hp : H p = none) : Den G r F (upd H p (.lst vs)) (.lst ds) (.ref p) :=
  .lst upd_same (g.fresh hp) (DenL.mono g.mine (.same (same_new hp)) _ _ q)
/-- a new object of ours -/
theorem grow_ext {p : Addr} (hp : H p = none) (hn : p ∉ r) (s : Same H H') : Ext r H (r ++ [p]) H' := ⟨⟨[p], rfl, fun a ha => by simp at ha; rw [ha]; exact ⟨.inl hp, hn⟩⟩, fun a o e _ _ => s a o e⟩
theorem GoodH.grow (g : GoodH G r F h H) {p : Addr} {o : O} (hp : H p = none) (s : Same H H') (q : ODen G (r ++ [p]) F H' p o) : GoodH G (r ++ [p]) F (h ++ [o]) H' := by
  have e : Ext r H (r ++ [p]) H' := grow_ext hp (g.fresh hp).1 s
  refine ⟨by simp [g.len], ?_, fun a ha => ?_, fun i o' hi => ?_⟩
  · rw [List.nodup_append]
    refine ⟨g.nd, by simp, fun a ha b hb => ?_⟩
    simp at hb
    subst hb
    intro e
    subst e
    exact (g.fresh hp).1 ha
  · obtain ⟨⟨o, q2, mu⟩, n⟩ := g.fd a ha
    refine ⟨⟨o, s _ _ q2, mu⟩, ?_⟩
    intro hm
    rcases List.mem_append.mp hm with hm | hm
    · exact n hm
    · simp at hm
      subst hm
      rw [hp] at q2; cases q2
  · by_cases hl : i < h.length
    · rw [List.getElem?_append_left hl] at hi
      obtain ⟨a, ea, qa⟩ := g.ob i o' hi
      refine ⟨a, e.get ea, ODen.mono g.mine e qa ?_⟩
      obtain ⟨o2, e2, _⟩ := g.mine a (List.mem_of_getElem? ea)
      rw [e2]; exact s _ _ e2
    · have hl2 : i = h.length := by
        have := (List.getElem?_eq_some_iff.mp hi).1
        simp at this
        omega
      subst hl2
      rw [List.getElem?_append_right (Nat.le_refl _)] at hi
      simp at hi
      subst hi
      refine ⟨p, ?_, q⟩
      rw [← g.len, List.getElem?_append_right (Nat.le_refl _)]
      simp
end

section
variable {X : Cx} {W : WX} {pos : Pos} {a b c : Expr} {es : List Expr} {fa fb : Mo D} {fl : Mo (List D)} {ta tb : Mo Bool}
theorem de_var {i : Nat} {x : Str} (p : PE X (.Name x pos) (tVar i)) : PE X (.Name x pos) (tE (evOf X) W (mVar i)) := p.imp fun σ H Q ⟨r, F, sl, h, s, g, q⟩ => by
  unfold mVar at q
  cases e : sl[i]? with
  | none => rw [e] at q; exact False.elim q
  | some o =>
    rw [e] at q
    cases o with
    | none => exact False.elim q
    | some d =>
      obtain ⟨v, h1, h2⟩ := s.2 i d e
      exact ⟨v, h1, q.here g v h2⟩
theorem de_c {v : V} {d : D} (p : PE X a (tC v)) (hd : ∀ r F H, Den (evOf X) r F H d v) : PE X a (tE (evOf X) W (mC d)) := p.imp fun σ H Q ⟨r, F, sl, h, s, g, q⟩ => q.here g v (hd _ _ _)
theorem de_int {i : Int} {j : Nat} : PE X (.Constant (.int i) j pos) (tE (evOf X) W (mC (.int i))) := de_c pe_int fun _ _ _ => .int i
theorem de_bl {i : Bool} {j : Nat} : PE X (.Constant (.bool i) j pos) (tE (evOf X) W (mC (.bl i))) := de_c pe_bl fun _ _ _ => .bl i
theorem de_non {j : Nat} : PE X (.Constant .none j pos) (tE (evOf X) W (mC .non)) := de_c pe_non fun _ _ _ => .non
theorem de_str {i : Str} {j : Nat} : PE X (.Constant (.str i) j pos) (tE (evOf X) W (mC (.str i))) := de_c pe_str fun _ _ _ => .str i
theorem da_nil : PA X [] (tA (evOf X) W mNil) := pa_nil.imp fun σ H Q ⟨r, F, sl, h, s, g, q⟩ => q.here g [] .nil
theorem da_cons (ha : PE X a (tE (evOf X) W fa)) (hr : PA X es (tA (evOf X) W fl)) (hs : starEach (a :: es) X.env = (false, eval a X.env) :: starEach es X.env := by rfl) : PA X (a :: es) (tA (evOf X) W (mCons fa fl)) :=
  (pa_cons ha hr hs).imp fun σ H Q ⟨r, F, sl, h, s, g, q⟩ => by
    refine tE.of s g (q.bind.imp fun r1 H1 x h1 e1 g1 q1 v hv => ?_)
    refine tA.of (s.mono g.mine e1) g1 (q1.bind.imp fun r2 H2 xs h2 e2 g2 q2 vs hvs => ?_)
    exact q2.here g2 _ (.cons (Den.mono g1.mine e2 _ _ hv) hvs)
/-- an operation's mirror -/
def OpS (G : Ev) (rr : R2) (g : D → D → MH → Res D) : Prop := ∀ (W : WX) (σ : L2.St) (r F : List Addr) (H : Hp) (h : MH) (x y : D) (v u : V) (Q : VK), GoodH G r F h H → Den G r F H x v → Den G r F H y u →
  Aft G W F σ r H (g x y h) (fun r' H' d _ => ∀ z, Den G r' F H' d z → Q z H') → rr v u H Q
theorem de_op {op : Operator} {rr : R2} {g : D → D → MH → Res D} (ho : OpR X (binaryOp op) rr) (hs : OpS (evOf X) rr g) (ha : PE X a (tE (evOf X) W fa)) (hb : PE X b (tE (evOf X) W fb)) : PE X (.BinOp a op b pos) (tE (evOf X) W (mOp g fa fb)) :=
  (pe_op ho ha hb).imp fun σ H Q ⟨r, F, sl, h, s, g, q⟩ => by
    refine tE.of s g (q.bind.imp fun r1 H1 x h1 e1 g1 q1 v hv => ?_)
    refine tE.of (s.mono g.mine e1) g1 (q1.bind.imp fun r2 H2 y h2 e2 g2 q2 u hu => ?_)
    exact hs W σ r2 F H2 h2 x y v u Q g2 (Den.mono g1.mine e2 _ _ hv) hu q2
theorem de_cmp {op : CmpOp} {rr : R2} {g : D → D → MH → Res D} (ho : OpR X (compareOp op) rr) (hs : OpS (evOf X) rr g) (ha : PE X a (tE (evOf X) W fa)) (hb : PE X b (tE (evOf X) W fb)) (hm : behindInMarks op b = false) : PE X (.Compare a [op] [b] pos) (tE (evOf X) W (mOp g fa fb)) :=
  (pe_cmpR ho ha hb hm).imp fun σ H Q ⟨r, F, sl, h, s, g, q⟩ => by
    refine tE.of s g (q.bind.imp fun r1 H1 x h1 e1 g1 q1 v hv => ?_)
    refine tE.of (s.mono g.mine e1) g1 (q1.bind.imp fun r2 H2 y h2 e2 g2 q2 u hu => ?_)
    exact hs W σ r2 F H2 h2 x y v u Q g2 (Den.mono g1.mine e2 _ _ hv) hu q2
theorem test_of {G : Ev} {r F : List Addr} {H : Hp} {h : MH} {σ : L2.St} {x : D} {v : V} {Q : Bool → Hp → Prop} (g : GoodH G r F h H) (hv : Den G r F H x v) (q : Aft G W F σ r H (optR (truthD x) h) fun r' H' b _ => Q b H') : ∃ k, v = .bl k ∧ Q k H := by
  cases x with
  | bl b => cases hv; exact ⟨b, rfl, q.here g⟩
  | non => exact False.elim q
  | int _ => exact False.elim q
  | str _ => exact False.elim q
  | tup _ => exact False.elim q
  | lst _ => exact False.elim q
  | dic _ _ => exact False.elim q
  | ref _ => exact False.elim q
  | gl _ => exact False.elim q
  | ty _ => exact False.elim q
  | scr _ => exact False.elim q
theorem dt_cmp {op : CmpOp} {rr : R2} {g : D → D → MH → Res D} (ho : OpR X (compareOp op) rr) (hs : OpS (evOf X) rr g) (ha : PE X a (tE (evOf X) W fa)) (hb : PE X b (tE (evOf X) W fb)) (hm : behindInMarks op b = false) : PT X (.Compare a [op] [b] pos) (tT (evOf X) W (mTest (mOp g fa fb))) :=
  (pt_cmpR ho ha hb hm).imp fun σ H Q ⟨r, F, sl, h, s, g, q⟩ => by
    have q := q.bind
    have q := q.bind
    refine tE.of s g (q.imp fun r1 H1 x h1 e1 g1 q1 v hv => ?_)
    refine tE.of (s.mono g.mine e1) g1 (q1.bind.imp fun r2 H2 y h2 e2 g2 q2 u hu => ?_)
    refine hs W σ r2 F H2 h2 x y v u _ g2 (Den.mono g1.mine e2 _ _ hv) hu (q2.imp fun r3 H3 z h3 e3 g3 q3 w hw => ?_)
    exact test_of g3 hw q3
theorem dt_val (he : PE X a (tE (evOf X) W fa)) (hh : ∀ whole, isTrue a X.env whole = (do let v ← whole; standAt a.pos; holding [v] (truthy v)) := by intro _; rfl) : PT X a (tT (evOf X) W (mTest fa)) :=
  (pt_val he hh).imp fun σ H Q ⟨r, F, sl, h, s, g, q⟩ => by
    refine tE.of s g (q.bind.imp fun r1 H1 x h1 e1 g1 q1 v hv => ?_)
    exact test_of g1 hv q1
theorem dw_and1 (ha : PT X a (tT (evOf X) W ta)) : PW X (.BoolOp .And [a] pos) (tT (evOf X) W ta) := pw_and1 ha
theorem dw_or1 (ha : PT X a (tT (evOf X) W ta)) : PW X (.BoolOp .Or [a] pos) (tT (evOf X) W ta) := pw_or1 ha
theorem dw_and (ha : PT X a (tT (evOf X) W ta)) (hb : PW X (.BoolOp .And (b :: es) pos) (tT (evOf X) W tb)) : PW X (.BoolOp .And (a :: b :: es) pos) (tT (evOf X) W (mAndT ta tb)) :=
  (pw_and ha hb).imp fun σ H Q ⟨r, F, sl, h, s, g, q⟩ => by
    refine tT.of s g (q.bind.imp fun r1 H1 x h1 e1 g1 q1 => ?_)
    cases x with
    | true => exact tT.of (s.mono g.mine e1) g1 q1
    | false => exact q1.here g1
theorem dw_or (ha : PT X a (tT (evOf X) W ta)) (hb : PW X (.BoolOp .Or (b :: es) pos) (tT (evOf X) W tb)) : PW X (.BoolOp .Or (a :: b :: es) pos) (tT (evOf X) W (mOrT ta tb)) :=
  (pw_or ha hb).imp fun σ H Q ⟨r, F, sl, h, s, g, q⟩ => by
    refine tT.of s g (q.bind.imp fun r1 H1 x h1 e1 g1 q1 => ?_)
    cases x with
    | true => exact q1.here g1
    | false => exact tT.of (s.mono g.mine e1) g1 q1
theorem dt_not (ha : PT X a (tT (evOf X) W ta)) : PT X (.UnaryOp .Not a pos) (tT (evOf X) W (mNotT ta)) :=
  (pt_not ha).imp fun σ H Q ⟨r, F, sl, h, s, g, q⟩ => by
    refine tT.of s g (q.bind.imp fun r1 H1 x h1 e1 g1 q1 => ?_)
    exact q1.here g1
theorem de_one {op : BoolOp} (ha : PE X a (tE (evOf X) W fa)) : PE X (.BoolOp op [a] pos) (tE (evOf X) W fa) := pe_one ha
theorem de_and (ha : PE X a (tE (evOf X) W fa)) (hb : PE X (.BoolOp .And (b :: es) pos) (tE (evOf X) W fb)) : PE X (.BoolOp .And (a :: b :: es) pos) (tE (evOf X) W (mAnd fa fb)) :=
  (pe_and ha hb).imp fun σ H Q ⟨r, F, sl, h, s, g, q⟩ => by
    refine tE.of s g (q.bind.imp fun r1 H1 x h1 e1 g1 q1 v hv => ?_)
    cases hv with
    | bl k => cases k with
      | true => exact ⟨true, rfl, tE.of (s.mono g.mine e1) g1 q1⟩
      | false => exact ⟨false, rfl, q1.here g1 _ (.bl false)⟩
    | _ => exact False.elim q1
theorem de_or (ha : PE X a (tE (evOf X) W fa)) (hb : PE X (.BoolOp .Or (b :: es) pos) (tE (evOf X) W fb)) : PE X (.BoolOp .Or (a :: b :: es) pos) (tE (evOf X) W (mOr fa fb)) :=
  (pe_or ha hb).imp fun σ H Q ⟨r, F, sl, h, s, g, q⟩ => by
    refine tE.of s g (q.bind.imp fun r1 H1 x h1 e1 g1 q1 v hv => ?_)
    cases hv with
    | bl k => cases k with
      | true => exact ⟨true, rfl, q1.here g1 _ (.bl true)⟩
      | false => exact ⟨false, rfl, tE.of (s.mono g.mine e1) g1 q1⟩
    | _ => exact False.elim q1
theorem de_not (ha : PE X a (tE (evOf X) W fa)) : PE X (.UnaryOp .Not a pos) (tE (evOf X) W (mNot fa)) :=
  (pe_not ha).imp fun σ H Q ⟨r, F, sl, h, s, g, q⟩ => by
    refine tE.of s g (q.bind.imp fun r1 H1 x h1 e1 g1 q1 v hv => ?_)
    cases hv with
    | bl k => exact ⟨k, rfl, q1.here g1 _ (.bl _)⟩
    | _ => exact False.elim q1
theorem de_if (hc : PT X c (tT (evOf X) W ta)) (ha : PE X a (tE (evOf X) W fa)) (hb : PE X b (tE (evOf X) W fb)) : PE X (.IfExp c a b pos) (tE (evOf X) W (mIf ta fa fb)) :=
  (pe_ifExp hc ha hb).imp fun σ H Q ⟨r, F, sl, h, s, g, q⟩ => by
    refine tT.of s g (q.bind.imp fun r1 H1 x h1 e1 g1 q1 => ?_)
    cases x with
    | true => exact tE.of (s.mono g.mine e1) g1 q1
    | false => exact tE.of (s.mono g.mine e1) g1 q1
theorem tupR_ok {ds : List D} {h : MH} (z : ds.length ≤ lim) : tupR ds h = .ok (.tup ds) h := by unfold tupR; rw [if_pos z]
theorem de_tup {k : Nat} (hl : PA X es (tA (evOf X) W fl)) : PE X (.Tuple es k pos) (tE (evOf X) W (mTup fl)) :=
  (pe_tup hl).imp fun σ H Q ⟨r, F, sl, h, s, g, q⟩ => by
    refine tA.of s g (q.bind.imp fun r1 H1 ds h1 e1 g1 q1 vs hvs => ?_)
    have q1 : Aft (evOf X) W F σ r1 H1 (tupR ds h1) _ := q1
    by_cases z : ds.length ≤ lim
    · rw [tupR_ok z] at q1
      refine ⟨by rw [← hvs.len]; exact lim_ok z, fun p hp => ?_⟩
      exact q1.hereS g1 (same_new hp) _ (new_tup g1 hvs hp)
    · unfold tupR at q1; rw [if_neg z] at q1; exact False.elim q1
theorem de_lst (hl : PA X es (tA (evOf X) W fl)) : PE X (.List es pos) (tE (evOf X) W (mLst fl)) :=
  (pe_lst hl).imp fun σ H Q ⟨r, F, sl, h, s, g, q⟩ => by
    refine tA.of s g (q.bind.imp fun r1 H1 ds h1 e1 g1 q1 vs hvs => ?_)
    have q1 : Aft (evOf X) W F σ r1 H1 (lstR ds h1) _ := q1
    unfold lstR at q1
    by_cases z : ds.length ≤ lim
    · rw [if_pos z] at q1
      refine ⟨by rw [← hvs.len]; exact lim_ok z, fun p hp => ?_⟩
      exact q1.hereS g1 (same_new hp) _ (new_lst g1 hvs hp)
    · rw [if_neg z] at q1; exact False.elim q1
theorem de_newL (hl : PA X es (tA (evOf X) W fl)) : PE X (.List es pos) (tE (evOf X) W (mNewL fl)) :=
  (pe_lst hl).imp fun σ H Q ⟨r, F, sl, h, s, g, q⟩ => by
    refine tA.of s g (q.bind.imp fun r1 H1 ds h1 e1 g1 q1 vs hvs => ?_)
    have q1 : Aft (evOf X) W F σ r1 H1 (newLst ds h1) _ := q1
    unfold newLst at q1
    by_cases z : ds.length ≤ lim
    · rw [if_pos z] at q1
      refine ⟨by rw [← hvs.len]; exact lim_ok z, fun p hp => ?_⟩
      have e2 : Ext r1 H1 (r1 ++ [p]) (upd H1 p (.lst vs)) := grow_ext hp (g1.fresh hp).1 (same_new hp)
      refine q1 (r1 ++ [p]) _ e2 (g1.grow hp (same_new hp) ⟨vs, upd_same, DenL.mono g1.mine e2 _ _ hvs⟩) _ (.ref ?_)
      rw [← g1.len, List.getElem?_append_right (Nat.le_refl _)]
      simp
    · rw [if_neg z] at q1; exact False.elim q1
end
end CH

/-! CH2: statements, targets, loops, comprehensions, calls. -/
namespace CH
open PySem PySem.Spec PyProof.Rows L2

inductive SRes where
  | nx (sl : Sl) (h : MH) | rt (d : D) (h : MH) | bk (sl : Sl) (h : MH) | ct (sl : Sl) (h : MH)
  | exc (c : Str) (a : Option (Str × D)) (sl : Sl) (h : MH) | bad
abbrev Ms := Sl → MH → SRes
/-- an expression's answer, then a statement's end -/
def bindS {α : Type} (sl : Sl) (m : Res α) (k : α → MH → SRes) : SRes := match m with
  | .ok a h => k a h
  | .exc c a h => .exc c a sl h
  | .bad => .bad
def sSkip : Ms := fun sl h => .nx sl h
def seqR (m : SRes) (k : Ms) : SRes := match m with
  | .nx sl h => k sl h
  | x => x
def sSeq (a b : Ms) : Ms := fun sl h => seqR (a sl h) b
def sExpr (f : Mo D) : Ms := fun sl h => bindS sl (f sl h) fun _ h1 => .nx sl h1
def sRet (f : Mo D) : Ms := fun sl h => bindS sl (f sl h) fun d h1 => .rt d h1
def sRetN : Ms := fun _ h => .rt .non h
def sIf (c : Mo Bool) (a b : Ms) : Ms := fun sl h => bindS sl (c sl h) fun x h1 => if x then a sl h1 else b sl h1
def sNever : Ms := fun _ _ => .bad
def sSet (i : Nat) (f : Mo D) : Ms := fun sl h => bindS sl (f sl h) fun d h1 => .nx (sl.set i (some d)) h1
def sPar (i j : Nat) (f : Mo (List D)) : Ms := fun sl h => bindS sl (f sl h) fun ds h1 => match ds with
  | [d, e] => .nx ((sl.set i (some d)).set j (some e)) h1
  | _ => .bad

section
variable (G : Ev) (W : WX) (F : List Addr)
def SAft (r : List Addr) (H : Hp) (R : SRes) (E : Ends) : Prop := match R with
  | .nx sl h' => ∀ r' H' σ', Ext r H r' H' → GoodH G r' F h' H' → SlR G r' F H' sl σ' → E.nx σ' H'
  | .ct sl h' => ∀ r' H' σ', Ext r H r' H' → GoodH G r' F h' H' → SlR G r' F H' sl σ' → E.ct σ' H'
  | .bk sl h' => ∀ r' H' σ', Ext r H r' H' → GoodH G r' F h' H' → SlR G r' F H' sl σ' → E.bk σ' H'
  | .rt d h' => ∀ r' H' v, Ext r H r' H' → GoodH G r' F h' H' → Den G r' F H' d v → E.rt v H'
  | .exc c a sl h' => ∀ r' H' σ' cls x, Ext r H r' H' → GoodH G r' F h' H' → SlR G r' F H' sl σ' → XDen G r' F H' c a cls x → W cls x σ' H'
  | .bad => False
end
def tS (G : Ev) (W : WX) (f : Ms) : TS := fun E σ H => ∃ r F sl h, SlR G r F H sl σ ∧ GoodH G r F h H ∧ SAft G W F r H (f sl h) E

section
variable {G : Ev} {r r' r1 F : List Addr} {H H' H1 : Hp} {h h' h1 : MH} {W : WX} {σ : L2.St} {α : Type} {sl : Sl} {E E' : Ends}
theorem SAft.later {R : SRes} (a : SAft G W F r H R E) (e : Ext r H r1 H1) (g : GoodH G r1 F h1 H1) : SAft G W F r1 H1 R E := by
  cases R with
  | nx s h' => exact fun r' H' σ' e' g' => a r' H' σ' (e.trans g.mine e') g'
  | ct s h' => exact fun r' H' σ' e' g' => a r' H' σ' (e.trans g.mine e') g'
  | bk s h' => exact fun r' H' σ' e' g' => a r' H' σ' (e.trans g.mine e') g'
  | rt d h' => exact fun r' H' v e' g' => a r' H' v (e.trans g.mine e') g'
  | exc c x s h' => exact fun r' H' σ' cls y e' g' => a r' H' σ' cls y (e.trans g.mine e') g'
  | bad => exact a
theorem SAft.bindS {R : Res α} {k : α → MH → SRes} (s : SlR G r F H sl σ) (g : GoodH G r F h H) (a : SAft G W F r H (bindS sl R k) E) : Aft G W F σ r H R (fun r1 H1 x h1 => SAft G W F r1 H1 (k x h1) E) := by
  cases R with
  | ok x h' =>
    intro r' H' e g'
    exact SAft.later (h1 := h') a e g'
  | exc c x h' =>
    intro r' H' cls y e g' q
    exact a r' H' σ cls y e g' (s.mono g.mine e) q
  | bad => exact a
theorem tS.of {f : Ms} (s : SlR G r F H sl σ) (g : GoodH G r F h H) (a : SAft G W F r H (f sl h) E) : tS G W f E σ H := ⟨r, F, sl, h, s, g, a⟩
theorem SAft.nxh (a : SAft G W F r H (.nx sl h) E) (s : SlR G r F H sl σ) (g : GoodH G r F h H) : E.nx σ H := a r H σ .refl g s
theorem SAft.seq {R : SRes} {k : Ms} (a : SAft G W F r H (seqR R k) E) : SAft G W F r H R { E with nx := tS G W k E } := by
  cases R with
  | nx s h' =>
    intro r' H' σ' e g' s'
    exact tS.of s' g' (SAft.later (h1 := h') a e g')
  | ct s h' => exact a
  | bk s h' => exact a
  | rt d h' => exact a
  | exc c x s h' => exact a
  | bad => exact a
end

section
variable {X : Cx} {W : WX} {pos : Pos} {e c : Expr} {es : List Expr} {st : Stmt} {rest a b : List Stmt} {f : Mo D} {fl : Mo (List D)} {fc : Mo Bool} {s t : Ms}
theorem dss_nil : PSs X [] (tS (evOf X) W sSkip) := pss_nil.imp fun E σ H ⟨r, F, sl, h, s, g, q⟩ => q.nxh s g
theorem dss_cons (h1 : PS X st (tS (evOf X) W s)) (h2 : PSs X rest (tS (evOf X) W t)) : PSs X (st :: rest) (tS (evOf X) W (sSeq s t)) :=
  (pss_cons h1 h2).imp fun E σ H ⟨r, F, sl, h, s, g, q⟩ => tS.of s g q.seq
theorem dss_one (h1 : PS X st (tS (evOf X) W s)) : PSs X [st] (tS (evOf X) W s) := pss_one h1
theorem ds_pass : PS X (.Pass pos) (tS (evOf X) W sSkip) := ps_pass.imp fun E σ H ⟨r, F, sl, h, s, g, q⟩ => q.nxh s g
theorem ds_doc {x : Str} {j : Nat} {pos' : Pos} : PS X (.Expr (.Constant (.str x) j pos) pos') (tS (evOf X) W sSkip) := ps_doc.imp fun E σ H ⟨r, F, sl, h, s, g, q⟩ => q.nxh s g
theorem ds_expr (he : PE X e (tE (evOf X) W f)) (hs : swapsWith e none pos.line X.env = pure false := by rfl) : PS X (.Expr e pos) (tS (evOf X) W (sExpr f)) :=
  (ps_expr he hs).imp fun E σ H ⟨r, F, sl, h, s, g, q⟩ => tE.of s g ((q.bindS s g).imp fun r1 H1 x h1 e1 g1 q1 v hv => q1.nxh (s.mono g.mine e1) g1)
theorem ds_ret (he : PE X e (tE (evOf X) W f)) : PS X (.Return (some e) pos) (tS (evOf X) W (sRet f)) :=
  (ps_ret he).imp fun E σ H ⟨r, F, sl, h, s, g, q⟩ => tE.of s g ((q.bindS s g).imp fun r1 H1 x h1 e1 g1 q1 v hv => q1 r1 H1 v .refl g1 hv)
theorem ds_retN : PS X (.Return none pos) (tS (evOf X) W sRetN) := ps_retN.imp fun E σ H ⟨r, F, sl, h, s, g, q⟩ => q r H .non .refl g .non
theorem ds_never : PS X st (tS (evOf X) W sNever) := ps_never.imp fun E σ H ⟨r, F, sl, h, s, g, q⟩ => q
theorem ds_if (hc : PT X c (tT (evOf X) W fc)) (ha : PSs X a (tS (evOf X) W s)) (hb : PSs X b (tS (evOf X) W t)) : PS X (.If c a b pos) (tS (evOf X) W (sIf fc s t)) :=
  (ps_if hc ha hb).imp fun E σ H ⟨r, F, sl, h, s, g, q⟩ => tT.of s g ((q.bindS s g).imp fun r1 H1 x h1 e1 g1 q1 => by
    cases x with
    | true => exact tS.of (s.mono g.mine e1) g1 q1
    | false => exact tS.of (s.mono g.mine e1) g1 q1)
theorem ds_set {i : Nat} {x : Str} {pos' : Pos} (hN : X.N.Nodup) (hi : X.N[i]? = some x) (hx : Loc X.env.scope x) (he : PE X e (tE (evOf X) W f)) (hs : swapsWith e (some (.Name x pos')) pos.line X.env = pure false := by rfl)
    (hf : X.fn x = true ∨ X.env.scope.names.lookup x = some .local := by first | exact .inl rfl | exact .inr rfl | assumption) : PS X (.Assign [.Name x pos'] e pos) (tS (evOf X) W (sSet i f)) :=
  (ps_set hN hi hx he hs hf).imp fun E σ H ⟨r, F, sl, h, s, g, q⟩ => tE.of s g ((q.bindS s g).imp fun r1 H1 x h1 e1 g1 q1 v hv => q1.nxh ((s.mono g.mine e1).set hv) g1)
theorem ds_par {i j : Nat} {x y : Str} {a b : Expr} {px py pt : Pos} {kt k2 : Nat} {pt2 : Pos} (hc : X.calm = true) (hN : X.N.Nodup) (hi : X.N[i]? = some x) (hj : X.N[j]? = some y) (hij : i ≠ j)
    (p : PS X (.Assign [.Tuple [.Name x px, .Name y py] kt pt] (.Tuple [a, b] k2 pt2) pos) (tPar i j (tA (evOf X) W fl))) : PS X (.Assign [.Tuple [.Name x px, .Name y py] kt pt] (.Tuple [a, b] k2 pt2) pos) (tS (evOf X) W (sPar i j fl)) :=
  p.imp fun E σ H ⟨r, F, sl, h, s, g, q⟩ => tA.of s g ((q.bindS s g).imp fun r1 H1 ds h1 e1 g1 q1 vs hv => by
    cases hv with
    | nil => exact False.elim q1
    | cons h1 t1 => cases t1 with
      | nil => exact False.elim q1
      | cons h2 t2 => cases t2 with
        | nil => exact ⟨_, _, rfl, q1.nxh (((s.mono g.mine e1).set h1).set h2) g1⟩
        | cons _ _ => exact False.elim q1)
end

/-! ### targets that are names -/
inductive Tg where
  | nm (i : Nat) | tp (is : List Nat)
def setAll : List Nat → List D → Sl → Option Sl
  | [], [], sl => some sl
  | i :: is, d :: ds, sl => setAll is ds (sl.set i (some d))
  | _, _, _ => none
def tgD : Tg → D → Sl → Option Sl
  | .nm i, d, sl => some (sl.set i (some d))
  | .tp is, .tup ds, sl => setAll is ds sl
  | .tp _, _, _ => none
def gNames : List Nat → TGs
  | [] => gNil
  | i :: is => gCons (gName i) (gNames is)
def tgV (K : PySem.W.Frag) : Tg → TG
  | .nm i => gName i
  | .tp is => gTup K is.length (gNames is)
def Tg.slots : Tg → List Nat
  | .nm i => [i]
  | .tp is => is
section
variable {G : Ev} {r r' r1 F : List Addr} {H H' H1 : Hp} {h h' h1 : MH} {W : WX} {σ : L2.St}
/-- the slots at vs may have changed, no other -/
def Only (vs : List Nat) (σ σ' : L2.St) : Prop := wipe σ' vs = wipe σ vs
theorem wipe_set {σ : L2.St} {i : Nat} {x : Option V} : ∀ {vs : List Nat}, i ∈ vs → wipe (σ.set i x) vs = wipe σ vs
  | [], hm => by cases hm
  | v :: vs, hm => by
    unfold wipe
    by_cases hi : i ∈ vs
    · rw [wipe_set hi]
    · rcases List.mem_cons.mp hm with e | e
      · subst e
        have comm : ∀ (ws : List Nat), i ∉ ws → wipe (σ.set i x) ws = (wipe σ ws).set i x := by
          intro ws
          induction ws with
          | nil => intro _; rfl
          | cons w ws ih =>
            intro hn
            unfold wipe
            rw [ih (fun z => hn (List.mem_cons_of_mem _ z)), List.set_comm]
            intro e
            exact hn (by rw [e]; exact List.mem_cons_self)
        rw [comm vs hi, List.set_set]
      · exact absurd e hi
theorem gNames_of : ∀ {is : List Nat} {ds : List D} {vs : List V} {sl sl' : Sl} {σ : L2.St} {Q : L2.St → Hp → Prop} {own : List Nat}, DenL G r F H ds vs → setAll is ds sl = some sl' → SlR G r F H sl σ → (∀ i ∈ is, i ∈ own) →
    (∀ σ', SlR G r F H sl' σ' → Only own σ σ' → Q σ' H) → gNames is vs σ H Q
  | [], [], _, sl, sl', σ, Q, own, .nil, e, s, _, q => by
    cases e
    exact ⟨rfl, q σ s rfl⟩
  | i :: is, d :: ds, _, sl, sl', σ, Q, own, .cons hd tl, e, s, ho, q => by
    refine ⟨_, _, rfl, ?_⟩
    exact gNames_of (is := is) tl e (s.set hd) (fun j hj => ho j (List.mem_cons_of_mem _ hj)) fun σ' s' o' => q σ' s' (Eq.trans o' (wipe_set (ho i List.mem_cons_self)))
  | [], _ :: _, _, _, _, _, _, _, .cons _ _, e, _, _, _ => by cases e
  | _ :: _, [], _, _, _, _, _, _, .nil, e, _, _, _ => by cases e
theorem setAll_len : ∀ {is : List Nat} {ds : List D} {sl sl' : Sl}, setAll is ds sl = some sl' → ds.length = is.length
  | [], [], _, _, _ => rfl
  | _ :: is, _ :: ds, _, _, e => by simp [setAll_len (is := is) (ds := ds) e]
  | [], _ :: _, _, _, e => by cases e
  | _ :: _, [], _, _, e => by cases e
theorem tgV_of {tg : Tg} {d : D} {v : V} {sl sl' : Sl} {Q : L2.St → Hp → Prop} (hd : Den G r F H d v) (e : tgD tg d sl = some sl') (s : SlR G r F H sl σ) (q : ∀ σ', SlR G r F H sl' σ' → Only tg.slots σ σ' → Q σ' H) : tgV G.K tg v σ H Q := by
  cases tg with
  | nm i =>
    cases e
    exact q _ (s.set hd) (wipe_set (by simp [Tg.slots]))
  | tp is =>
    cases d with
    | tup ds =>
      cases hd with
      | tup hq hl =>
        refine ⟨_, _, rfl, hq.sq, by rw [← hl.len]; exact setAll_len e, gNames_of hl e s (fun i hi => hi) q⟩
    | _ => cases e
end

/-! ### what is walked -/
/-- at every later state turn i gives the i-th item -/
def ItD (G : Ev) (r F : List Addr) (H : Hp) (J : It) (xs : List D) : Prop := ∀ r' F' H', ExtF r F H r' H' → Mine r' H' → Foe F H F' → ∀ i,
  (∀ d, xs[i]? = some d → J.go i H' ∧ ∀ x H'', J.yld i H' x H'' → Same H' H'' ∧ Den G r' F' H'' d x) ∧ (xs[i]? = none → J.stop i H')
def tI (G : Ev) (W : WX) (f : Mo (List D)) : TI := fun σ H R => ∃ r F sl h, SlR G r F H sl σ ∧ GoodH G r F h H ∧ Aft G W F σ r H (f sl h) fun r' H' xs _ => ∀ J, ItD G r' F H' J xs → R J H'
theorem tI.of {G : Ev} {r F : List Addr} {H : Hp} {h : MH} {W : WX} {σ : L2.St} {f : Mo (List D)} {sl : Sl} {R : It → Hp → Prop} (s : SlR G r F H sl σ) (g : GoodH G r F h H)
    (a : Aft G W F σ r H (f sl h) fun r' H' xs _ => ∀ J, ItD G r' F H' J xs → R J H') : tI G W f σ H R := ⟨r, F, sl, h, s, g, a⟩
theorem _root_.L2.PI.imp {X : Cx} {tg iter : Expr} {t t' : TI} (p : PI X tg iter t) (f : ∀ σ H R, t' σ H R → t σ H R) : PI X tg iter t' := ⟨fun pins s σ H R I q => p.run pins s σ H R I (f _ _ _ q)⟩
def itemsL : D → Option (List D)
  | .lst xs => some xs
  | _ => none
def itemsT : D → Option (List D)
  | .tup xs => some xs
  | _ => none
def mItL (f : Mo D) : Mo (List D) := mBind f fun d => fun _ h => optR (itemsL d) h
def mItT (f : Mo D) : Mo (List D) := mBind f fun d => fun _ h => optR (itemsT d) h
def zipD : List D → List D → List D
  | x :: xs, y :: ys => .tup [x, y] :: zipD xs ys
  | _, _ => []
def mItZ (f : Mo (List D)) : Mo (List D) := mBind f fun ds => fun _ h => match ds with
  | [.tup xs, .tup ys] => .ok (zipD xs ys) h
  | _ => .bad
def rangeD (lo : Int) : Nat → List D
  | 0 => []
  | n + 1 => .int lo :: rangeD (lo + 1) n
def big : Int := 1000000000
def mItR1 (f : Mo (List D)) : Mo (List D) := mBind f fun ds => fun _ h => match ds with
  | [.int j] => if -big ≤ j ∧ j ≤ big then .ok (rangeD 0 j.toNat) h else .bad
  | _ => .bad
def mItR2 (f : Mo (List D)) : Mo (List D) := mBind f fun ds => fun _ h => match ds with
  | [.int i, .int j] => if (-big ≤ i ∧ i ≤ big) ∧ -big ≤ j ∧ j ≤ big then .ok (rangeD i (j - i).toNat) h else .bad
  | _ => .bad
section
variable {G : Ev} {r r' r1 F : List Addr} {H H' H1 : Hp} {h h' h1 : MH} {W : WX} {σ : L2.St}
theorem DenL.none {ds : List D} {vs : List V} {i : Nat} (q : DenL G r F H ds vs) (e : ds[i]? = none) : vs.length ≤ i := by
  rw [← q.len]; exact List.getElem?_eq_none_iff.mp e
theorem itd_tup {a : Addr} {xs : List D} {vs : List V} (m : Mine r H) (mf : Mine F H) (hq : TuA G.K H a vs) (hl : DenL G r F H xs vs) : ItD G r F H (Itt G.K a) xs := by
  intro r' F' H' e m' fo i
  have hq' := (e.seqT m mf hq).sq
  refine ⟨fun d hd => ?_, fun hd => ⟨vs, hq', hl.none hd⟩⟩
  obtain ⟨v, h1, h2⟩ := hl.get hd
  refine ⟨⟨vs, v, hq', h1⟩, fun x H'' ⟨e1, y⟩ => ?_⟩
  subst e1
  have := y vs hq'
  rw [h1] at this; cases this
  exact ⟨Same.refl _, Den.monoX m mf e fo _ _ h2⟩
theorem itd_lst {a : Addr} {xs : List D} {vs : List V} (m : Mine r H) (mf : Mine F H) (hq : H a = some (.lst vs)) (hn : a ∉ r ∧ a ∉ F) (hl : DenL G r F H xs vs) : ItD G r F H (Itl G.K a) xs := by
  intro r' F' H' e m' fo i
  have hq' : SqL G.K H' a vs := SqL.of (e.keep _ _ hq hn.1 hn.2)
  refine ⟨fun d hd => ?_, fun hd => ⟨vs, hq', hl.none hd⟩⟩
  obtain ⟨v, h1, h2⟩ := hl.get hd
  refine ⟨⟨vs, v, hq', h1⟩, fun x H'' ⟨e1, y⟩ => ?_⟩
  subst e1
  have := y vs hq'
  rw [h1] at this; cases this
  exact ⟨Same.refl _, Den.monoX m mf e fo _ _ h2⟩
theorem rangeD_get : ∀ {n : Nat} {lo : Int} {i : Nat}, (i < n → (rangeD lo n)[i]? = some (.int (lo + i))) ∧ (n ≤ i → (rangeD lo n)[i]? = none)
  | 0, lo, i => ⟨fun h => absurd h (Nat.not_lt_zero _), fun _ => rfl⟩
  | n + 1, lo, 0 => ⟨fun _ => by simp [rangeD], fun h => by omega⟩
  | n + 1, lo, i + 1 => by
    have ih := rangeD_get (n := n) (lo := lo + 1) (i := i)
    refine ⟨fun h => ?_, fun h => ?_⟩
    · show (rangeD (lo + 1) n)[i]? = _
      rw [ih.1 (by omega)]
      congr 2
      push_cast
      omega
    · show (rangeD (lo + 1) n)[i]? = _
      exact ih.2 (by omega)
theorem itd_range {lo : Int} {n : Nat} : ItD G r F H (Itr lo n) (rangeD lo n) := by
  intro r' F' H' e m' fo i
  by_cases hi : i < n
  · have h1 := (rangeD_get (lo := lo)).1 hi
    refine ⟨fun d hd => ⟨hi, fun x H'' ⟨e1, e2⟩ => ?_⟩, fun hd => by rw [h1] at hd; cases hd⟩
    rw [h1] at hd; cases hd
    subst e1 e2
    exact ⟨Same.refl _, .int _⟩
  · have h1 := (rangeD_get (lo := lo)).2 (Nat.not_lt.mp hi)
    exact ⟨fun d hd => by (rw [h1] at hd; cases hd), fun _ => Nat.not_lt.mp hi⟩
theorem zipD_get : ∀ {xs ys : List D} {i : Nat}, (∀ d, (zipD xs ys)[i]? = some d → ∃ x y, xs[i]? = some x ∧ ys[i]? = some y ∧ d = .tup [x, y]) ∧ ((zipD xs ys)[i]? = none → xs[i]? = none ∨ ys[i]? = none)
  | [], ys, i => ⟨fun d h => by simp [zipD] at h, fun _ => .inl (by simp)⟩
  | x :: xs, [], i => ⟨fun d h => by simp [zipD] at h, fun _ => .inr (by simp)⟩
  | x :: xs, y :: ys, 0 => ⟨fun d h => by simp [zipD] at h; exact ⟨x, y, rfl, rfl, h.symm⟩, fun h => by simp [zipD] at h⟩
  | x :: xs, y :: ys, i + 1 => by
    have ih := zipD_get (xs := xs) (ys := ys) (i := i)
    exact ⟨fun d h => by simpa using ih.1 d (by simpa [zipD] using h), fun h => by simpa using ih.2 (by simpa [zipD] using h)⟩
theorem itd_zipT {a b : Addr} {xs ys : List D} {vs us : List V} (m : Mine r H) (mf : Mine F H) (hq : TuA G.K H a vs) (hl : DenL G r F H xs vs) (hq2 : TuA G.K H b us) (hl2 : DenL G r F H ys us) : ItD G r F H (RZ.ItzT G.K a b) (zipD xs ys) := by
  intro r' F' H' e m' fo i
  have p1 := (e.seqT m mf hq).sq
  have p2 := (e.seqT m mf hq2).sq
  refine ⟨fun d hd => ?_, fun hd => ?_⟩
  · obtain ⟨x, y, hx, hy, rfl⟩ := zipD_get.1 d hd
    obtain ⟨v, h1, h2⟩ := hl.get hx
    obtain ⟨u, h3, h4⟩ := hl2.get hy
    refine ⟨⟨vs, us, v, u, p1, p2, h1, h3⟩, fun z H'' ⟨T, x', y', ez, hT, eH, f1, f2⟩ => ?_⟩
    have e1 := f1 vs p1
    have e2 := f2 us p2
    rw [h1] at e1; cases e1
    rw [h3] at e2; cases e2
    subst ez eH
    have sm : Same H' (upd H' T (.tup [v, u])) := same_new hT
    have q1 := Den.monoX m mf e fo _ _ h2
    have q2 := Den.monoX m mf e fo _ _ h4
    refine ⟨sm, .tup (.inl upd_same) ?_⟩
    exact .cons (Den.mono m' (.same sm) _ _ q1) (.cons (Den.mono m' (.same sm) _ _ q2) .nil)
  · rcases zipD_get.2 hd with q | q
    · exact ⟨vs, us, p1, p2, .inl (hl.none q)⟩
    · exact ⟨vs, us, p1, p2, .inr (hl2.none q)⟩
end
end CH

/-! CH3: loops, comprehensions, calls. -/
namespace CH
open PySem PySem.Spec PyProof.Rows L2

/-! ### what is walked, as expressions -/
section
variable {X : Cx} {W : WX} {pos : Pos} {e e2 : Expr} {tg : Expr} {f : Mo D} {fl : Mo (List D)}
theorem di_tup (he : PE X e (tE (evOf X) W f)) : PI X tg e (tI (evOf X) W (mItT f)) := (pi_tup he).imp fun σ H R ⟨r, F, sl, h, s, g, q⟩ =>
  tE.of s g (q.bind.imp fun r1 H1 x h1 e1 g1 q1 v hv => by
    cases hv with
    | tup hq hl => exact ⟨_, rfl, ⟨_, hq.sq⟩, q1.here g1 _ (itd_tup g1.mine g1.mineF hq hl)⟩
    | _ => exact False.elim q1)
theorem di_lst (he : PE X e (tE (evOf X) W f)) : PI X tg e (tI (evOf X) W (mItL f)) := (pi_list he).imp fun σ H R ⟨r, F, sl, h, s, g, q⟩ =>
  tE.of s g (q.bind.imp fun r1 H1 x h1 e1 g1 q1 v hv => by
    cases hv with
    | lst hq hn hl => exact ⟨_, rfl, ⟨_, SqL.of hq⟩, q1.here g1 _ (itd_lst g1.mine g1.mineF hq hn hl)⟩
    | _ => exact False.elim q1)
theorem den_inv_int {G : Ev} {r F : List Addr} {H : Hp} {i : Int} {v : V} (h : Den G r F H (.int i) v) : v = .int i := by cases h; rfl
theorem di_range1 {p : Pos} (hg : Gl X "range") (hm : X.mg "range" = none) (ha : PA X [e] (tA (evOf X) W fl)) (hs : starEach [e] X.env = [(false, eval e X.env)] := by rfl) : PI X tg (.Call (.Name "range" p) [e] [] pos) (tI (evOf X) W (mItR1 fl)) :=
  (pi_range1 hg hm ha hs).imp fun σ H R ⟨r, F, sl, h, s, g, q⟩ => tA.of s g (q.bind.imp fun r1 H1 ds h1 e1 g1 q1 vs hv => by
    match ds, hv with
    | [], _ => exact False.elim q1
    | [d], .cons hd .nil =>
      cases hd with
      | int j =>
        have q1 : Aft (evOf X) W F σ r1 H1 (if -big ≤ j ∧ j ≤ big then Res.ok (rangeD 0 j.toNat) h1 else .bad) _ := q1
        by_cases z : -big ≤ j ∧ j ≤ big
        · rw [if_pos z] at q1
          unfold big at z
          exact ⟨j, rfl, by omega, by omega, q1.here g1 _ itd_range⟩
        · rw [if_neg z] at q1; exact False.elim q1
      | _ => exact False.elim q1
    | d :: _ :: _, hv => cases d <;> exact False.elim q1)
theorem di_range2 {p : Pos} (hg : Gl X "range") (hm : X.mg "range" = none) (ha : PA X [e, e2] (tA (evOf X) W fl)) (hs : starEach [e, e2] X.env = [(false, eval e X.env), (false, eval e2 X.env)] := by rfl) (hs2 : starEach [e2] X.env = [(false, eval e2 X.env)] := by rfl) :
    PI X tg (.Call (.Name "range" p) [e, e2] [] pos) (tI (evOf X) W (mItR2 fl)) :=
  (pi_range2 hg hm ha hs hs2).imp fun σ H R ⟨r, F, sl, h, s, g, q⟩ => tA.of s g (q.bind.imp fun r1 H1 ds h1 e1 g1 q1 vs hv => by
    match ds, hv with
    | [], _ => exact False.elim q1
    | [d], _ => cases d <;> exact False.elim q1
    | [d, d'], .cons hd (.cons hd' .nil) =>
      cases hd with
      | int i =>
        cases hd' with
        | int j =>
          have q1 : Aft (evOf X) W F σ r1 H1 (if (-big ≤ i ∧ i ≤ big) ∧ -big ≤ j ∧ j ≤ big then Res.ok (rangeD i (j - i).toNat) h1 else .bad) _ := q1
          by_cases z : (-big ≤ i ∧ i ≤ big) ∧ -big ≤ j ∧ j ≤ big
          · rw [if_pos z] at q1
            unfold big at z
            exact ⟨i, j, rfl, by omega, q1.here g1 _ itd_range⟩
          · rw [if_neg z] at q1; exact False.elim q1
        | _ => exact False.elim q1
      | _ => exact False.elim q1
    | d :: d' :: _ :: _, hv => cases d <;> cases d' <;> exact False.elim q1)
theorem di_zipT {p tpos : Pos} {elts : List Expr} {kk : Nat} (hg : Gl X "zip") (hm : X.mg "zip" = none) (ha : PA X [e, e2] (tA (evOf X) W fl))
    (hs : starEach [e, e2] X.env = (false, eval e X.env) :: starEach [e2] X.env := by rfl) (hpl : (backTo pos (starEach [e2] X.env)).any (·.1) = false := by rfl) :
    PI X (.Tuple elts kk tpos) (.Call (.Name "zip" p) [e, e2] [] pos) (tI (evOf X) W (mItZ fl)) :=
  (RZ.pi_zipA hg hm ha hs hpl).imp fun σ H R ⟨r, F, sl, h, s, g, q⟩ => tA.of s g (q.bind.imp fun r1 H1 ds h1 e1 g1 q1 vs hv => by
    match ds, hv with
    | [], _ => exact False.elim q1
    | [d], _ => cases d <;> exact False.elim q1
    | [d, d'], .cons hd (.cons hd' .nil) =>
      cases hd with
      | tup hq hl =>
        cases hd' with
        | tup hq' hl' => exact ⟨_, _, _, _, rfl, .inr ⟨hq.sq, hq'.sq, q1.here g1 _ (itd_zipT g1.mine g1.mineF hq hl hq' hl')⟩⟩
        | _ => exact False.elim q1
      | _ => cases d' <;> exact False.elim q1
    | d :: d' :: _ :: _, hv => cases d <;> cases d' <;> exact False.elim q1)
end

/-! ### for -/
/-- behind a turn -/
def turnR (k : Ms) : SRes → SRes
  | .nx sl h => k sl h
  | .ct sl h => k sl h
  | .bk sl h => .nx sl h
  | .rt d h => .rt d h
  | .exc c a sl h => .exc c a sl h
  | .bad => .bad
def forD (tg : Tg) (body : Ms) : List D → Ms
  | [], sl, h => .nx sl h
  | d :: ds, sl, h => match tgD tg d sl with
    | none => .bad
    | some sl1 => turnR (forD tg body ds) (body sl1 h)
def sFor (fi : Mo (List D)) (tg : Tg) (body : Ms) : Ms := fun sl h => bindS sl (fi sl h) fun ds h1 => forD tg body ds sl h1
theorem ds_for {X : Cx} {W : WX} {tg : Tg} {te iter : Expr} {body : List Stmt} {pos : Pos} {fi : Mo (List D)} {fb : Ms} (hp : PassesOwn (model X.prog X.w) X.A X.env X.xe) (hc : X.calm = true) (hi : PI X te iter (tI (evOf X) W fi)) (hg : PG X te (tgV X.K tg)) (hb : PSs X body (tS (evOf X) W fb))
    (hs : ∀ x, foldedSetIterable iter X.env x = pure x := by intro _; rfl) : PS X (.For te iter body [] pos) (tS (evOf X) W (sFor fi tg fb)) :=
  (ps_for hp hc hi hg hb hs).imp fun E σ H ⟨r, F, sl, h, s, g, q⟩ => by
    refine tI.of s g ((q.bindS s g).imp fun r1 H1 xs h1 e1 g1 q1 J hJ => ?_)
    refine ⟨fun i m σ' H' => ∃ r' sl' h', Ext r1 H1 r' H' ∧ GoodH (evOf X) r' F h' H' ∧ SlR (evOf X) r' F H' sl' σ' ∧ m = xs.length - i ∧ i ≤ xs.length ∧ SAft (evOf X) W F r' H' (forD tg fb (xs.drop i) sl' h') E, ⟨xs.length, r1, sl, h1, .refl, g1, s.mono g.mine e1, by simp, Nat.zero_le _, q1⟩, ?_⟩
    rintro i m σ' H' ⟨r', sl', h', e', g', s', rfl, hi', q'⟩
    have hJ' := hJ r' F H' e'.toF g'.mine .refl i
    by_cases hlt : i < xs.length
    · have hd : xs[i]? = some xs[i] := List.getElem?_eq_getElem hlt
      obtain ⟨hgo, hy⟩ := hJ'.1 _ hd
      refine .inr ⟨hgo, fun σ2 H2 => ∃ r2 sl2 h2, Ext r1 H1 r2 H2 ∧ GoodH (evOf X) r2 F h2 H2 ∧ SlR (evOf X) r2 F H2 sl2 σ2 ∧ SAft (evOf X) W F r2 H2 (forD tg fb (xs.drop (i + 1)) sl2 h2) E,
        fun σ2 H2 ⟨r2, sl2, h2, a1, a2, a3, a4⟩ => ⟨xs.length - (i + 1), by omega, r2, sl2, h2, a1, a2, a3, rfl, hlt, a4⟩, fun x H'' yld => ?_⟩
      obtain ⟨sm, hx⟩ := hy x H'' yld
      rw [List.drop_eq_getElem_cons hlt] at q'
      unfold forD at q'
      have g'' := g'.same sm
      have s'' := s'.mono g'.mine (.same sm)
      have ee := e'.trans g'.mine (Ext.same (r := r') sm)
      cases ht : tgD tg xs[i] sl' with
      | none => rw [ht] at q'; exact False.elim q'
      | some sl1 =>
        rw [ht] at q'
        have q'' : SAft (evOf X) W F r' H' (turnR (forD tg fb (xs.drop (i + 1))) (fb sl1 h')) E := q'
        refine tgV_of (G := evOf X) hx ht s'' fun σ2 s2 _ => tS.of s2 g'' ?_
        cases hbr : fb sl1 h' with
        | nx sl2 h2 =>
          rw [hbr] at q''
          exact fun r3 H3 σ3 e3 g3 s3 => ⟨r3, sl2, h2, ee.trans g''.mine e3, g3, s3, SAft.later q'' ((Ext.same (r := r') sm).trans g''.mine e3) g3⟩
        | ct sl2 h2 =>
          rw [hbr] at q''
          exact fun r3 H3 σ3 e3 g3 s3 => ⟨r3, sl2, h2, ee.trans g''.mine e3, g3, s3, SAft.later q'' ((Ext.same (r := r') sm).trans g''.mine e3) g3⟩
        | bk sl2 h2 =>
          rw [hbr] at q''
          exact fun r3 H3 σ3 e3 g3 s3 => q'' r3 H3 σ3 ((Ext.same (r := r') sm).trans g''.mine e3) g3 s3
        | rt d h2 =>
          rw [hbr] at q''
          exact fun r3 H3 v e3 g3 => q'' r3 H3 v ((Ext.same (r := r') sm).trans g''.mine e3) g3
        | exc c a sl2 h2 =>
          rw [hbr] at q''
          exact fun r3 H3 σ3 cls x e3 g3 => q'' r3 H3 σ3 cls x ((Ext.same (r := r') sm).trans g''.mine e3) g3
        | bad => rw [hbr] at q''; exact False.elim q''
    · have ei : i = xs.length := by omega
      subst ei
      rw [List.drop_length] at q'
      exact .inl ⟨hJ'.2 (by simp), q'.nxh s' g'⟩

/-! ### comprehensions -/
def wipeD (sl : Sl) : List Nat → Sl
  | [] => sl
  | v :: vs => (wipeD sl vs).set v none
theorem wipeD_len (sl : Sl) : ∀ vs : List Nat, (wipeD sl vs).length = sl.length
  | [] => rfl
  | v :: vs => by unfold wipeD; rw [List.length_set, wipeD_len sl vs]
theorem SlR.wiped {G : Ev} {r F : List Addr} {H : Hp} {sl : Sl} {σ : L2.St} (s : SlR G r F H sl σ) : ∀ vs : List Nat, SlR G r F H (wipeD sl vs) (L2.wipe σ vs)
  | [] => s
  | v :: vs => by
    have ih := SlR.wiped s vs
    unfold wipeD L2.wipe
    refine ⟨by simp [ih.1], fun i d hd => ?_⟩
    by_cases hi : v = i
    · subst hi
      by_cases hl : v < (wipeD sl vs).length
      · rw [List.getElem?_set_self hl] at hd; cases hd
      · rw [List.getElem?_eq_none (by simpa using hl)] at hd; cases hd
    · rw [List.getElem?_set_ne hi] at hd
      obtain ⟨w, h1, h2⟩ := ih.2 i d hd
      exact ⟨w, by rw [List.getElem?_set_ne hi]; exact h1, h2⟩
/-- no exception may leave from within -/
def noX {α : Type} : Res α → Res α
  | .exc _ _ _ => .bad
  | x => x
def lcD (tg : Tg) (c : Mo Bool) (f : Mo D) (sl : Sl) : List D → List D → MH → Res (List D)
  | acc, [], h => .ok acc h
  | acc, d :: ds, h => match tgD tg d sl with
    | none => .bad
    | some sl1 => bindR (noX (c sl1 h)) fun b h1 => if b then (if acc.length < lim then bindR (noX (f sl1 h1)) fun x h2 => lcD tg c f sl (acc ++ [x]) ds h2 else .bad) else lcD tg c f sl acc ds h1
def mYes : Mo Bool := fun _ h => .ok true h
/-- the slots of the comprehension's own names are vs -/
def mLc (vs : List Nat) (fi : Mo (List D)) (tg : Tg) (c : Mo Bool) (f : Mo D) : Mo D := fun sl h => bindR (fi sl h) fun ds h1 => bindR (lcD tg c f (wipeD sl vs) [] ds h1) fun xs h2 => .ok (.lst xs) h2
theorem dt_yes {X : Cx} {W : WX} : PTs X [] (tT (evOf X) W mYes) := ⟨fun pins s σ H Q I ⟨r, F, sl, h, s', g, q⟩ => pts_nil.run pins s σ H Q I (q.here g)⟩
theorem dt_cond {X : Cx} {W : WX} {c : Expr} {f : Mo Bool} (h : PT X c (tT (evOf X) W f)) : PTs X [c] (tT (evOf X) W f) := pts_one h
abbrev W0 : WX := fun _ _ _ _ => False
theorem aft0 {G : Ev} {W : WX} {r r1 F : List Addr} {H H1 : Hp} {σ σ0 : L2.St} {α β : Type} {D0 : Addr} {R : Res α} {k : α → MH → Res β} {Q : List Addr → Hp → β → MH → Prop} (q : Aft G W F σ r1 H1 (bindR (noX R) k) Q) :
    Aft G W0 (D0 :: F) σ0 r H R (fun _ _ x h1 => Aft G W F σ r1 H1 (k x h1) Q) := by
  cases R with
  | ok x h' =>
    intro r' H' e g'
    exact q
  | exc c x h' => exact False.elim q
  | bad => exact q
theorem wipe_at (σ : L2.St) : ∀ (us : List Nat) (k : Nat), (L2.wipe σ us)[k]? = if k ∈ us then (if k < σ.length then some none else none) else σ[k]? := by
  intro us
  induction us with
  | nil => intro k; simp [L2.wipe]
  | cons u us ih =>
    intro k
    unfold L2.wipe
    by_cases hk : u = k
    · subst hk
      by_cases hu : u < σ.length
      · rw [List.getElem?_set_self (by rw [wipe_length]; exact hu)]
        simp [hu]
      · rw [List.getElem?_eq_none (by rw [List.length_set, wipe_length]; exact Nat.not_lt.mp hu)]
        simp [hu]
    · rw [List.getElem?_set_ne hk, ih k]
      by_cases hm : k ∈ us
      · simp [hm]
      · have : ¬ k ∈ u :: us := by simp only [List.mem_cons, not_or]; exact ⟨fun e => hk e.symm, hm⟩
        simp [hm, this]
theorem only_in {vs ws : List Nat} {σ σ' : L2.St} (o : L2.wipe σ' vs = L2.wipe (L2.wipe σ ws) vs) (h : ∀ j ∈ vs, j ∈ ws) : L2.wipe σ' ws = L2.wipe σ ws := by
  have hl : σ'.length = σ.length := by
    have := congrArg List.length o
    rw [wipe_length, wipe_length, wipe_length] at this
    exact this
  refine List.ext_getElem? fun k => ?_
  rw [wipe_at, wipe_at]
  by_cases hk : k ∈ ws
  · simp [hk, hl]
  · have hv : k ∉ vs := fun z => hk (h k z)
    have e : (L2.wipe σ' vs)[k]? = (L2.wipe (L2.wipe σ ws) vs)[k]? := by rw [o]
    rw [wipe_at, wipe_at, wipe_at] at e
    simpa [hk, hv] using e
theorem lc_of {X : Cx} {W : WX} {vs : List Nat} {fi : Mo (List D)} {tg : Tg} {fc : Mo Bool} {f : Mo D} (ho : ∀ i ∈ tg.slots, i ∈ vs) (σ : L2.St) (H : Hp) (Q : VK) (q : tE (evOf X) W (mLc vs fi tg fc f) σ H Q) :
    tLc (tI (evOf X) W fi) (tgV X.K tg) (tT (evOf X) W0 fc) (tE (evOf X) W0 f) vs σ H Q := by
  obtain ⟨r, F, sl, h, s, g, q⟩ := q
  refine tI.of s g (q.bind.imp fun r1 H1 xs h1 e1 g1 q1 J hJ D0 hD => ?_)
  have q1 := q1.bind
  have nF : D0 ∉ F := (g1.fresh hD).2
  have fo : Foe F H1 (D0 :: F) := fun a ha => by
    rcases List.mem_cons.mp ha with e | e
    · exact .inr (by rw [e]; exact .inl hD)
    · exact .inl e
  have sm0 : Same H1 (upd H1 D0 (.lst [])) := same_new hD
  have g1' : GoodH (evOf X) r1 (D0 :: F) h1 (upd H1 D0 (.lst [])) := g1.newF hD trivial
  refine ⟨fun i m H' => ∃ r' h' acc vacc, Ext r1 H1 r' H' ∧ GoodH (evOf X) r' (D0 :: F) h' H' ∧ H' D0 = some (.lst vacc) ∧ DenL (evOf X) r' (D0 :: F) H' acc vacc ∧ m = xs.length - i ∧ i ≤ xs.length ∧
    Aft (evOf X) W F σ r1 H1 (lcD tg fc f (wipeD sl vs) acc (xs.drop i) h') (fun r' H' x h1 => Aft (evOf X) W F σ r' H' (Res.ok (D.lst x) h1) fun r' H' d _ => ∀ v, Den (evOf X) r' F H' d v → Q v H'),
    ⟨xs.length, r1, h1, [], [], .same sm0, g1', upd_same, .nil, by simp, Nat.zero_le _, q1⟩, ?_⟩
  rintro i m H' ⟨r', h', acc, vacc, e', g', hD', hacc, rfl, hi', q'⟩
  have hJ' := hJ r' (D0 :: F) H' e'.toF g'.mine fo i
  have s' : SlR (evOf X) r' (D0 :: F) H' (wipeD sl vs) (L2.wipe σ vs) := by
    have z := (s.mono g.mine e1).wiped vs
    exact ⟨z.1, fun j d hd => let ⟨v, a1, a2⟩ := z.2 j d hd; ⟨v, a1, Den.monoF g1.mine e' fo _ _ a2⟩⟩
  by_cases hlt : i < xs.length
  · have hd : xs[i]? = some xs[i] := List.getElem?_eq_getElem hlt
    obtain ⟨hgo, hy⟩ := hJ'.1 _ hd
    refine .inr ⟨hgo, fun H2 => ∃ r2 h2 acc vacc, Ext r1 H1 r2 H2 ∧ GoodH (evOf X) r2 (D0 :: F) h2 H2 ∧ H2 D0 = some (.lst vacc) ∧ DenL (evOf X) r2 (D0 :: F) H2 acc vacc ∧
        Aft (evOf X) W F σ r1 H1 (lcD tg fc f (wipeD sl vs) acc (xs.drop (i + 1)) h2) (fun r' H' x h1 => Aft (evOf X) W F σ r' H' (Res.ok (D.lst x) h1) fun r' H' d _ => ∀ v, Den (evOf X) r' F H' d v → Q v H'),
      fun H2 ⟨r2, h2, ac, va, a1, a2, a3, a4, a5⟩ => ⟨xs.length - (i + 1), by omega, r2, h2, ac, va, a1, a2, a3, a4, rfl, hlt, a5⟩, fun x H'' yld => ?_⟩
    obtain ⟨sm, hx⟩ := hy x H'' yld
    rw [List.drop_eq_getElem_cons hlt] at q'
    have g'' := g'.same sm
    have s'' := s'.mono g'.mine (.same sm)
    have ee := e'.trans g'.mine (Ext.same (r := r') sm)
    cases htg : tgD tg xs[i] (wipeD sl vs) with
    | none => unfold lcD at q'; rw [htg] at q'; exact False.elim q'
    | some sl1 =>
      have q2 : Aft (evOf X) W F σ r1 H1 (bindR (noX (fc sl1 h')) fun b h1 => if b = true then (if acc.length < lim then bindR (noX (f sl1 h1)) fun x h2 => lcD tg fc f (wipeD sl vs) (acc ++ [x]) (xs.drop (i + 1)) h2 else .bad) else lcD tg fc f (wipeD sl vs) acc (xs.drop (i + 1)) h1)
          (fun r' H' x h1 => Aft (evOf X) W F σ r' H' (Res.ok (D.lst x) h1) fun r' H' d _ => ∀ v, Den (evOf X) r' F H' d v → Q v H') := by
        unfold lcD at q'; rw [htg] at q'; exact q'
      refine tgV_of (G := evOf X) hx htg s'' fun σ2 s2 o2 => ⟨only_in o2 ho, ?_⟩
      refine tT.of s2 g'' ((aft0 (D0 := D0) (σ0 := σ2) q2).imp fun r3 H3 b h3 e3 g3 q4 => ?_)
      have hD3 : H3 D0 = some (.lst vacc) := e3.keep _ _ (sm _ _ hD') (g''.fd D0 List.mem_cons_self).2
      have hac3 := DenL.mono g'.mine (Ext.trans (.same sm) g''.mine e3) _ _ hacc
      have ee3 := ee.trans g''.mine e3
      cases b with
      | false => exact ⟨r3, h3, acc, vacc, ee3, g3, hD3, hac3, q4⟩
      | true =>
        have q4 : Aft (evOf X) W F σ r1 H1 (if acc.length < lim then bindR (noX (f sl1 h3)) fun x h2 => lcD tg fc f (wipeD sl vs) (acc ++ [x]) (xs.drop (i + 1)) h2 else .bad) _ := q4
        by_cases hz : acc.length < lim
        · rw [if_pos hz] at q4
          refine tE.of (s2.mono g''.mine e3) g3 ((aft0 (D0 := D0) (σ0 := σ2) q4).imp fun r4 H4 y h4 e4 g4 q5 v hv => ?_)
          have hD4 : H4 D0 = some (.lst vacc) := e4.keep _ _ hD3 (g3.fd D0 List.mem_cons_self).2
          have hac4 := DenL.mono g3.mine e4 _ _ hac3
          refine ⟨vacc, hD4, by rw [← hac4.len]; exact lim_lt hz, ?_⟩
          have g5 := g4.updF (acc' := .lst (vacc ++ [v])) hD4 trivial trivial List.mem_cons_self
          have ee5 : Ext r1 H1 r4 (upd H4 D0 (.lst (vacc ++ [v]))) := by
            have ee4 := ee3.trans g3.mine e4
            refine ⟨ee4.pre, fun a o ha hr ht => ?_⟩
            rw [upd_ne (ne_of_none ha hD)]
            exact ee4.keep a o ha hr ht
          refine ⟨r4, h4, acc ++ [y], vacc ++ [v], ee5, g5, upd_same, DenL.updF hD4 trivial List.mem_cons_self _ _ (hac4.app (.cons hv .nil)), q5⟩
        · rw [if_neg hz] at q4; exact False.elim q4
  · have ei : i = xs.length := by omega
    subst ei
    rw [List.drop_length] at q'
    have q2 := Aft.here (q' r' H' e' g'.dropF) g'.dropF
    refine .inl ⟨hJ'.2 (by simp), q2 _ (.lst hD' ⟨(g'.fd D0 List.mem_cons_self).2, nF⟩ (DenL.dropF g'.mine hacc))⟩
theorem de_lc {X : Cx} {W : WX} {vs : List Nat} {elt te iter : Expr} {ifs : List Expr} {scope : Scope} {own : List (Str × Nat)} {pos : Pos} {fi : Mo (List D)} {tg : Tg} {fc : Mo Bool} {f : Mo D} (hc : X.calm = true) (hN : X.N.Nodup) (hi : PI X te iter (tI (evOf X) W fi)) (ok : BlkOk X.N X.env.scope scope own)
    (ho : ∀ i ∈ tg.slots, i ∈ own.map (·.2))
    (hg : ∀ (s : Shared) (H : Hp) (C : Addr) (cl : List (Str × Addr)) (fp : List Addr), PG (X.blk s H scope (compEnvC scope cl C X.env) fp) te (tgV X.K tg))
    (ht : ∀ (s : Shared) (H : Hp) (C : Addr) (cl : List (Str × Addr)) (fp : List Addr), PTs (X.blk s H scope (compEnvC scope cl C X.env) fp) ifs (tT (evOf X) W0 fc))
    (he : ∀ (s : Shared) (H : Hp) (C : Addr) (cl : List (Str × Addr)) (fp : List Addr), PE (X.blk s H scope (compEnvC scope cl C X.env) fp) elt (tE (evOf X) W0 f)) (hs : ∀ x, foldedSetIterable iter X.env x = pure x := by intro _; rfl) (hv : own.map (·.2) = vs := by rfl) :
    PE X (.ListComp elt [⟨te, iter, ifs, 0⟩] scope pos) (tE (evOf X) W (mLc vs fi tg fc f)) := by
  subst hv
  exact (pe_lc hc hN hi ok hg ht he hs).imp fun σ H Q q => lc_of ho σ H Q q
end CH

/-! CH4: defs, calls. -/
namespace CH
open PySem PySem.Spec PyProof.Rows L2

/-- a def by its arguments -/
abbrev Fn := List D → MH → Res D
def ckN (n : Nat) (c : Fn) : Fn := fun ds h => if ds.length = n then c ds h else .bad
def slots0 (n : Nat) (ds : List D) : Sl := ds.map some ++ List.replicate (n - ds.length) none
def endB : SRes → Res D
  | .nx _ h => .ok .non h
  | .rt d h => .ok d h
  | .exc c a _ h => .exc c a h
  | _ => .bad
/-- a def's body -/
def runB (n : Nat) (b : Ms) : Fn := fun ds h => endB (b (slots0 n ds) h)
def WX0 (E : XK) : WX := fun cls d _ H => E cls d H
/-- a def's promise -/
def spD (G : Ev) (n : Nat) (c : Fn) : Sp := fun vs H Q E => ∃ r F h ds, GoodH G r F h H ∧ DenL G r F H ds vs ∧ Aft G (WX0 E) F [] r H (ckN n c ds h) fun r' H' d _ => ∀ v, Den G r' F H' d v → Q v H'
theorem spD_len {G : Ev} {n : Nat} {c : Fn} (vs : List V) (H : Hp) (Q : VK) (E : XK) (h : spD G n c vs H Q E) : vs.length = n := by
  obtain ⟨r, F, h, ds, g, hd, q⟩ := h
  by_cases z : ds.length = n
  · rw [← hd.len]; exact z
  · unfold ckN at q
    rw [if_neg z] at q
    exact False.elim q

/-! ### values without names of objects -/
mutual
def pureD : D → Bool
  | .tup xs => pureL xs
  | .lst xs => pureL xs
  | .dic _ xs => pureL xs
  | .ref _ => false
  | .non => true
  | .bl _ => true
  | .int _ => true
  | .str _ => true
  | .gl _ => true
  | .ty _ => true
  | .scr _ => true
def pureL : List D → Bool
  | [] => true
  | d :: ds => pureD d && pureL ds
end
def pureA : Option (Str × D) → Bool
  | none => true
  | some (_, d) => pureD d
section
variable {G : Ev} {r r' F F' : List Addr} {H H' : Hp}
mutual
theorem Den.moved (hp : ∀ a, a ∉ r ∧ a ∉ F → a ∉ r' ∧ a ∉ F') : ∀ (d : D) (v : V), pureD d = true → Den G r F H d v → Den G r' F' H d v
  | .non, _, _, .non => .non
  | .bl _, _, _, .bl b => .bl b
  | .int _, _, _, .int b => .int b
  | .str _, _, _, .str b => .str b
  | .ty _, _, _, .ty b => .ty b
  | .tup ds, _, p, .tup h l => .tup h (DenL.moved hp ds _ p l)
  | .lst ds, _, p, .lst h n l => .lst h (hp _ n) (DenL.moved hp ds _ p l)
  | .scr _, _, _, .scr h => .scr (h.imp id fun ⟨h, n⟩ => ⟨h, hp _ n⟩)
  | .dic ks ds, _, p, .dic h n hl l => .dic h (hp _ n) hl (DenL.moved hp ds _ p l)
  | .ref _, _, p, .ref h => by cases p
  | .gl _, _, _, .gl h => .gl h
theorem DenL.moved (hp : ∀ a, a ∉ r ∧ a ∉ F → a ∉ r' ∧ a ∉ F') : ∀ (ds : List D) (vs : List V), pureL ds = true → DenL G r F H ds vs → DenL G r' F' H ds vs
  | [], _, _, .nil => .nil
  | d :: ds, _, p, .cons h t => by
    have p' : (pureD d && pureL ds) = true := p
    rw [Bool.and_eq_true] at p'
    exact .cons (Den.moved hp d _ p'.1 h) (DenL.moved hp ds _ p'.2 t)
end
theorem XDen.moved (hp : ∀ a, a ∉ r ∧ a ∉ F → a ∉ r' ∧ a ∉ F') {c : Str} {a : Option (Str × D)} {cls : Value} {d : Option Addr} (p : pureA a = true) (x : XDen G r F H c a cls d) : XDen G r' F' H c a cls d := by
  obtain ⟨C, h1, h2, h3⟩ := x
  refine ⟨C, h1, h2, ?_⟩
  cases a with
  | none => exact h3
  | some q =>
    obtain ⟨f, y⟩ := q
    obtain ⟨dx, v, a1, a2, a3⟩ := h3
    exact ⟨dx, v, a1, a2, Den.moved hp _ _ p a3⟩
/-! names of objects that are old -/
mutual
theorem Den.cut {d0 : List Addr} (e : r' = r ++ d0) : ∀ (d : D) (v0 v : V), Den G r F H d v0 → Den G r' F' H' d v → Den G r F' H' d v
  | .non, _, _, _, .non => .non
  | .bl _, _, _, _, .bl b => .bl b
  | .int _, _, _, _, .int b => .int b
  | .str _, _, _, _, .str b => .str b
  | .ty _, _, _, _, .ty b => .ty b
  | .tup ds, _, _, .tup _ l0, .tup h l => .tup h (DenL.cut e ds _ _ l0 l)
  | .lst ds, _, _, .lst _ _ l0, .lst h n l => .lst h ⟨fun hm => n.1 (by rw [e]; exact List.mem_append_left _ hm), n.2⟩ (DenL.cut e ds _ _ l0 l)
  | .scr _, _, _, _, .scr h => .scr (h.imp id fun ⟨h, n⟩ => ⟨h, fun hm => n.1 (by rw [e]; exact List.mem_append_left _ hm), n.2⟩)
  | .dic ks ds, _, _, .dic _ _ _ l0, .dic h n hl l => .dic h ⟨fun hm => n.1 (by rw [e]; exact List.mem_append_left _ hm), n.2⟩ hl (DenL.cut e ds _ _ l0 l)
  | .ref i, _, _, .ref h0, .ref h => by
    have hl : i < r.length := (List.getElem?_eq_some_iff.mp h0).1
    rw [e, List.getElem?_append_left hl] at h
    exact .ref h
  | .gl _, _, _, _, .gl h => .gl h
theorem DenL.cut {d0 : List Addr} (e : r' = r ++ d0) : ∀ (ds : List D) (vs0 vs : List V), DenL G r F H ds vs0 → DenL G r' F' H' ds vs → DenL G r F' H' ds vs
  | [], _, _, _, .nil => .nil
  | d :: ds, _, _, .cons h0 t0, .cons h t => .cons (Den.cut e d _ _ h0 h) (DenL.cut e ds _ _ t0 t)
end
theorem ODen.cut {d0 : List Addr} (e : r' = r ++ d0) {a0 a : Addr} {o : O} (q0 : ODen G r F H a0 o) (q : ODen G r' F' H' a o) : ODen G r F' H' a o := by
  cases o with
  | lst ds =>
    obtain ⟨_, _, l0⟩ := q0
    obtain ⟨vs, h, l⟩ := q
    exact ⟨vs, h, DenL.cut e _ _ _ l0 l⟩
  | dic ks ds =>
    obtain ⟨_, _, _, l0⟩ := q0
    obtain ⟨vs, h, hl, l⟩ := q
    exact ⟨vs, h, hl, DenL.cut e _ _ _ l0 l⟩
  | ins c ks ds =>
    obtain ⟨_, _, _, _, _, _, _, l0⟩ := q0
    obtain ⟨C, dx, vs, h1, h2, hl, h3, l⟩ := q
    exact ⟨C, dx, vs, h1, h2, hl, h3, DenL.cut e _ _ _ l0 l⟩
  | tbl => exact q
end

/-- run on a heap of its own: nothing of ours goes in or out -/
def isoR (c : Fn) : Fn := fun ds h => if pureL ds = true then (match c ds [] with
  | .ok d _ => if pureD d = true then .ok d h else .bad
  | .exc x a _ => if pureA a = true then .exc x a h else .bad
  | .bad => .bad) else .bad
/-! ### a def of the text -/
/-- what a caller knows of a def at f -/
structure FT (P : Program) (w : World) (K : PySem.W.Frag) (mg : Str → Option Value) (base : Heap) (k : Nat) (ps : List Str) (c : Fn) (f : Addr) : Prop where
  ex : ∃ fd, FnOk P w K mg base (L2.CX P w) k f fd ps (spD ⟨K, mg⟩ ps.length c) ∧ Binds K fd ps [] ∧ ∀ (s : Shared) (us : List Value), us.length = ps.length → BindsTo s fd ⟨us, []⟩ (ps.zip us)
  kp : PySem.W.keepIn K (.ref f) = true
section
variable {P : Program} {w : World} {K : PySem.W.Frag} {mg : Str → Option Value} {base : Heap} {k : Nat} {ps : List Str} {c : Fn} {f : Addr}
theorem FT.up (t : FT P w K mg base k ps c f) {j : Nat} (h : k ≤ j) : FT P w K mg base j ps c f := by
  obtain ⟨fd, h1, h2⟩ := t.ex
  exact ⟨⟨fd, h1.mono h, h2⟩, t.kp⟩
theorem slots0_rel {G : Ev} {r F : List Addr} {H : Hp} {ds : List D} {vs : List V} (hd : DenL G r F H ds vs) (N : List Str) : SlR G r F H (slots0 N.length ds) (L2.start N vs) := by
  have hl := hd.len
  unfold slots0 L2.start
  refine ⟨by simp [hl], fun i d hi => ?_⟩
  by_cases hlt : i < ds.length
  · rw [List.getElem?_append_left (by simpa using hlt), List.getElem?_map] at hi
    cases e : ds[i]? with
    | none => rw [e] at hi; cases hi
    | some d' =>
      rw [e] at hi; cases hi
      obtain ⟨v, h1, h2⟩ := hd.get e
      refine ⟨v, ?_, h2⟩
      rw [List.getElem?_append_left (by rw [List.length_map, ← hl]; exact hlt), List.getElem?_map, h1]
      rfl
  · rw [List.getElem?_append_right (by simpa using Nat.not_lt.mp hlt), List.getElem?_replicate] at hi
    split at hi <;> cases hi
/-- from a body -/
theorem FT.of_ok {x qual : Str} {params : Arguments} {body : List Stmt} {scope : Scope} {fd : FuncData} {N : List Str} {b : Ms} (F : FunD K x qual params body scope [] [] f fd) (S : FnScope N ps scope)
    (hb : ∀ (cdv : Value) (A : Around) (outer : List Env) (s : Shared) (H : Hp) (E : XK), Room k (A.deeper (envOfC qual scope s.heap.objs.size f cdv)) →
      PSs (cxOf (L2.CX P w) P w K mg base N qual scope f cdv A outer s H E) body (tS ⟨K, mg⟩ (WX0 E) b)) : FnOk P w K mg base (L2.CX P w) (k + 1) f fd ps (spD ⟨K, mg⟩ ps.length (runB N.length b)) := by
  refine F.ok S spD_len fun cdv A outer s H vs Q E hr h => ⟨_, hb cdv A outer s H E hr, ?_⟩
  obtain ⟨r, F', h, ds, g, hd, q⟩ := h
  unfold ckN at q
  by_cases z : ds.length = ps.length
  · rw [if_pos z] at q
    refine tS.of (slots0_rel hd N) g ?_
    unfold runB at q
    cases hr : b (slots0 N.length ds) h with
    | nx sl h' => rw [hr] at q; exact fun r' H' σ' e g' _ => q r' H' e g' _ .non
    | rt d h' => rw [hr] at q; exact fun r' H' v e g' hv => q r' H' e g' v hv
    | exc x a sl h' => rw [hr] at q; exact fun r' H' σ' cls y e g' _ hx => q r' H' cls y e g' hx
    | bk sl h' => rw [hr] at q; exact False.elim q
    | ct sl h' => rw [hr] at q; exact False.elim q
    | bad => rw [hr] at q; exact False.elim q
  · rw [if_neg z] at q; exact False.elim q
theorem FT.of {x qual : Str} {params : Arguments} {body : List Stmt} {scope : Scope} {fd : FuncData} {N : List Str} {b : Ms} (F : FunD K x qual params body scope [] [] f fd) (S : FnScope N ps scope) (bd : Binds K fd ps [] ∧ ∀ (s : Shared) (us : List Value), us.length = ps.length → BindsTo s fd ⟨us, []⟩ (ps.zip us))
    (hb : ∀ (cdv : Value) (A : Around) (outer : List Env) (s : Shared) (H : Hp) (E : XK), Room k (A.deeper (envOfC qual scope s.heap.objs.size f cdv)) →
      PSs (cxOf (L2.CX P w) P w K mg base N qual scope f cdv A outer s H E) body (tS ⟨K, mg⟩ (WX0 E) b)) : FT P w K mg base (k + 1) ps (runB N.length b) f := ⟨⟨fd, FT.of_ok F S hb, bd⟩, F.kp⟩
end

/-! ### calls -/
def mCall (n : Nat) (c : Fn) (fl : Mo (List D)) : Mo D := mBind fl fun ds => fun _ h => ckN n c ds h
section
variable {X : Cx} {W : WX} {k n : Nat} {ps : List Str} {c : Fn} {f C : Addr} {x m cn : Str} {p pos apos : Pos} {e o fe : Expr} {es : List Expr} {fl : Mo (List D)} {fo : Mo D}
theorem de_call (T : FT X.prog X.w X.K X.mg X.base k ps c f) (hr : Room k X.A) (hg : Gl X x) (hm : X.mg x = some (.ref f)) (tk : Takes X W) (ha : PA X (e :: es) (tA (evOf X) W fl))
    (hdb : (x == ("__debug__" : Str)) = false := by decide) (he : starEach (e :: es) X.env = (false, eval e X.env) :: starEach es X.env := by rfl) (hpl : (backTo pos (starEach es X.env)).any (·.1) = false := by rfl) (hn : ps.length = n := by rfl) :
    PE X (.Call (.Name x p) (e :: es) [] pos) (tE (evOf X) W (mCall n c fl)) := by
  subst hn
  obtain ⟨fd, h1, h2⟩ := T.ex
  refine (pe_callS h1 hr hg hm T.kp h2.1 (fun σ => passAt tk σ) ha hdb he hpl).imp fun σ H Q ⟨r, F, sl, h, s, g, q⟩ => ?_
  exact tA.of s g (q.bind.imp fun r1 H1 ds h1 e1 g1 q1 vs hvs => ⟨r1, F, h1, ds, g1, hvs, q1⟩)
theorem de_call0 (T : FT X.prog X.w X.K X.mg X.base k ps c f) (hr : Room k X.A) (hg : Gl X x) (hm : X.mg x = some (.ref f)) (tk : Takes X W) (hdb : (x == ("__debug__" : Str)) = false := by decide) (hn : ps.length = n := by rfl) :
    PE X (.Call (.Name x p) [] [] pos) (tE (evOf X) W (mCall n c mNil)) := by
  subst hn
  obtain ⟨fd, h1, h2⟩ := T.ex
  refine ⟨fun pins s σ H Q I ⟨r, F, sl, h, s', g, q⟩ => ?_⟩
  refine wpAny_Call_Name_kw (ld_glob I hg hm ?_ hdb)
  exact PySem.W.callWith_K0 I.kIn T.kp (run_fnS (us := []) h1 hr h2.1 (passAt tk σ) I .nil ⟨r, F, h, [], g, .nil, q⟩)
end
end CH

/-! CH5: operations on deep values. -/
namespace CH
open PySem PySem.Spec PyProof.Rows L2

/-! ### equality -/
mutual
/-- plain data of depth at most n -/
def pyOk : Nat → D → Bool
  | _, .non => true
  | _, .bl _ => true
  | _, .int _ => true
  | _, .str x => SeqAt.shaped (.str x)
  | n + 1, .tup xs => pyOkL n xs
  | n + 1, .lst xs => pyOkL n xs
  | _, _ => false
def pyOkL : Nat → List D → Bool
  | _, [] => true
  | n, d :: ds => pyOk n d && pyOkL n ds
end
mutual
def toPy : D → PyData
  | .non => .none
  | .bl b => .bool b
  | .int i => .int i
  | .str x => .str x
  | .tup xs => .tuple (toPyL xs)
  | .lst xs => .list (toPyL xs)
  | _ => .none
def toPyL : List D → List PyData
  | [] => []
  | d :: ds => toPy d :: toPyL ds
end
mutual
theorem dp_of {G : Ev} {r F : List Addr} {H : Hp} : ∀ (d : D) (n : Nat) (v : V), pyOk n d = true → Den G r F H d v → Dp G.K H v (toPy d)
  | .non, _, _, _, .non => .non
  | .bl _, _, _, _, .bl b => .bl b
  | .int _, _, _, _, .int b => .int b
  | .str _, _, _, _, .str b => .str b
  | .tup ds, n + 1, _, p, .tup h l => .tup h.sq (dpL_of ds n _ p l)
  | .lst ds, n + 1, _, p, .lst h _ l => .lst (SqL.of h) (dpL_of ds n _ p l)
  | .tup _, 0, _, p, _ => by cases p
  | .lst _, 0, _, p, _ => by cases p
  | .dic _ _, n, _, p, _ => by cases n <;> cases p
  | .ref _, n, _, p, _ => by cases n <;> cases p
  | .gl _, n, _, p, _ => by cases n <;> cases p
  | .ty _, n, _, p, _ => by cases n <;> cases p
  | .scr _, n, _, p, _ => by cases n <;> cases p
theorem dpL_of {G : Ev} {r F : List Addr} {H : Hp} : ∀ (ds : List D) (n : Nat) (vs : List V), pyOkL n ds = true → DenL G r F H ds vs → DpAll G.K H vs (toPyL ds)
  | [], _, _, _, .nil => .nil
  | d :: ds, n, _, p, .cons h t => by
    have p' : (pyOk n d && pyOkL n ds) = true := by cases n <;> exact p
    rw [Bool.and_eq_true] at p'
    exact .cons (dp_of d n _ p'.1 h) (dpL_of ds n _ p'.2 t)
end
mutual
theorem lay_of : ∀ (d : D) (n : Nat), pyOk n d = true → (toPy d).canLay0 = true ∧ (toPy d).depth ≤ n
  | .non, _, _ => ⟨rfl, Nat.zero_le _⟩
  | .bl _, _, _ => ⟨rfl, Nat.zero_le _⟩
  | .int _, _, _ => ⟨rfl, Nat.zero_le _⟩
  | .str x, n, p => ⟨SeqAt.canLay_of_shaped (d := .str x) (by cases n <;> exact p), Nat.zero_le _⟩
  | .tup ds, n + 1, p => by
    have h := layL_of ds n p
    exact ⟨h.1, by show PyData.depthAll (toPyL ds) + 1 ≤ n + 1; have := h.2; omega⟩
  | .lst ds, n + 1, p => by
    have h := layL_of ds n p
    exact ⟨h.1, by show PyData.depthAll (toPyL ds) + 1 ≤ n + 1; have := h.2; omega⟩
  | .tup _, 0, p => by cases p
  | .lst _, 0, p => by cases p
  | .dic _ _, n, p => by cases n <;> cases p
  | .ref _, n, p => by cases n <;> cases p
  | .gl _, n, p => by cases n <;> cases p
  | .ty _, n, p => by cases n <;> cases p
  | .scr _, n, p => by cases n <;> cases p
theorem layL_of : ∀ (ds : List D) (n : Nat), pyOkL n ds = true → PyData.canLayAll0 (toPyL ds) = true ∧ PyData.depthAll (toPyL ds) ≤ n
  | [], _, _ => ⟨rfl, Nat.zero_le _⟩
  | d :: ds, n, p => by
    have p' : (pyOk n d && pyOkL n ds) = true := by cases n <;> exact p
    rw [Bool.and_eq_true] at p'
    have h1 := lay_of d n p'.1
    have h2 := layL_of ds n p'.2
    refine ⟨by show (PyData.canLay0 (toPy d) && PyData.canLayAll0 (toPyL ds)) = true; rw [h1.1, h2.1]; rfl, ?_⟩
    show max (PyData.depth (toPy d)) (PyData.depthAll (toPyL ds)) ≤ n
    exact Nat.max_le.mpr ⟨h1.2, h2.2⟩
end
theorem shaped_of {d : D} (p : pyOk 40 d = true) : SeqAt.shaped (toPy d) = true := by
  obtain ⟨h1, h2⟩ := lay_of d 40 p
  unfold SeqAt.shaped
  rw [h1]
  exact decide_eq_true (by omega)
/-- == of scalars -/
def sclD : D → D → Option Bool
  | .str a, .str b => some (decide (a = b))
  | .int a, .int b => some (decide (a = b))
  | .bl a, .bl b => some (decide (a = b))
  | .non, .non => some true
  | .non, .int _ => some false
  | .int _, .non => some false
  | .non, .bl _ => some false
  | .bl _, .non => some false
  | .non, .str _ => some false
  | .str _, .non => some false
  | .int _, .str _ => some false
  | .str _, .int _ => some false
  | .bl _, .str _ => some false
  | .str _, .bl _ => some false
  | _, _ => none
def eqD (x y : D) : Option Bool := match sclD x y with
  | some b => some b
  | none => if (pyOk 40 x && pyOk 40 y) = true then some (PyData.eqv (toPy x) (toPy y)) else none
def blR (o : Option Bool) (h : MH) : Res D := match o with
  | some b => .ok (.bl b) h
  | none => .bad
def oEq : D → D → MH → Res D := fun x y h => blR (eqD x y) h
def oNe : D → D → MH → Res D := fun x y h => blR ((eqD x y).map not) h
def rEqA (K : PySem.W.Frag) : R2 := fun x y H Q => rEq x y H Q ∨ rEqD K x y H Q
def rNeA (K : PySem.W.Frag) : R2 := fun x y H Q => rNe x y H Q ∨ rNeD K x y H Q
theorem scl_ok {G : Ev} {r F : List Addr} {H : Hp} {x y : D} {v u : V} {b : Bool} (e : sclD x y = some b) (hx : Den G r F H x v) (hy : Den G r F H y u) : scal v u = true ∧ decide (v = u) = b := by
  cases hx <;> cases hy <;> first | (simp [sclD] at e; done) | (simp only [sclD, Option.some.injEq] at e; subst e; exact ⟨rfl, by simp⟩)
theorem ops_eq {G : Ev} : OpS G (rEqA G.K) oEq := fun W σ r F H h x y v u Q g hx hy q => by
  unfold oEq eqD at q
  cases e : sclD x y with
  | some b =>
    rw [e] at q
    obtain ⟨h1, h2⟩ := scl_ok e hx hy
    exact .inl ⟨h1, by rw [h2]; exact q.here g _ (.bl b)⟩
  | none =>
    rw [e] at q
    by_cases z : (pyOk 40 x && pyOk 40 y) = true
    · have q : Aft G W F σ r H (blR (if (pyOk 40 x && pyOk 40 y) = true then some (PyData.eqv (toPy x) (toPy y)) else none) h) _ := q
      rw [if_pos z] at q
      rw [Bool.and_eq_true] at z
      exact .inr ⟨toPy x, toPy y, dp_of _ _ _ z.1 hx, dp_of _ _ _ z.2 hy, shaped_of z.1, shaped_of z.2, q.here g _ (.bl _)⟩
    · have q : Aft G W F σ r H (blR (if (pyOk 40 x && pyOk 40 y) = true then some (PyData.eqv (toPy x) (toPy y)) else none) h) _ := q
      rw [if_neg z] at q
      exact False.elim q
theorem ops_ne {G : Ev} : OpS G (rNeA G.K) oNe := fun W σ r F H h x y v u Q g hx hy q => by
  unfold oNe eqD at q
  cases e : sclD x y with
  | some b =>
    rw [e] at q
    obtain ⟨h1, h2⟩ := scl_ok e hx hy
    exact .inl ⟨h1, by rw [h2]; exact q.here g _ (.bl _)⟩
  | none =>
    rw [e] at q
    by_cases z : (pyOk 40 x && pyOk 40 y) = true
    · have q : Aft G W F σ r H (blR ((if (pyOk 40 x && pyOk 40 y) = true then some (PyData.eqv (toPy x) (toPy y)) else none).map not) h) _ := q
      rw [if_pos z] at q
      rw [Bool.and_eq_true] at z
      exact .inr ⟨toPy x, toPy y, dp_of _ _ _ z.1 hx, dp_of _ _ _ z.2 hy, shaped_of z.1, shaped_of z.2, q.here g _ (.bl _)⟩
    · have q : Aft G W F σ r H (blR ((if (pyOk 40 x && pyOk 40 y) = true then some (PyData.eqv (toPy x) (toPy y)) else none).map not) h) _ := q
      rw [if_neg z] at q
      exact False.elim q
theorem opr_eq {X : Cx} {k : Nat} (hr : Room k X.A) : OpR X (compareOp .Eq) (rEqA X.K) := OpR.or op_eq (op_eqD hr.units)
theorem opr_ne {X : Cx} {k : Nat} (hr : Room k X.A) : OpR X (compareOp .NotEq) (rNeA X.K) := OpR.or op_ne (op_neD hr.units)

/-! ### in -/
def inD (x : D) : D → Option Bool
  | .lst ys => if (pyOk 40 x && pyOk 40 (.lst ys)) = true then some ((toPyL ys).any fun z => PyData.eqv z (toPy x)) else none
  | .tup ys => if (pyOk 40 x && pyOk 40 (.tup ys)) = true then some ((toPyL ys).any fun z => PyData.eqv z (toPy x)) else none
  | _ => none
def oIn : D → D → MH → Res D := fun x y h => blR (inD x y) h
def oNi : D → D → MH → Res D := fun x y h => blR ((inD x y).map not) h
def rInTD (K : PySem.W.Frag) : R2 := fun x y H Q => ∃ d ds, Dp K H x d ∧ Dp K H y (.tuple ds) ∧ SeqAt.shaped d = true ∧ SeqAt.shaped (.tuple ds) = true ∧ Q (.bl (ds.any fun z => PyData.eqv z d)) H
def rNiTD (K : PySem.W.Frag) : R2 := fun x y H Q => ∃ d ds, Dp K H x d ∧ Dp K H y (.tuple ds) ∧ SeqAt.shaped d = true ∧ SeqAt.shaped (.tuple ds) = true ∧ Q (.bl (!ds.any fun z => PyData.eqv z d)) H
theorem room_in2 {A : Around} {d : PyData} {n : Nat} (h : SeqAt.shaped d = true) (hu : A.units + 65 < cLine) : A.units + 1 + min n d.depth < cLine := by
  have h1 := SeqAt.depth_of_shaped h
  have h2 : min n d.depth ≤ d.depth := Nat.min_le_right _ _
  omega
section
variable {X : Cx}
theorem op_inTD (hu : X.A.units + 65 < cLine) : OpR X (compareOp .In) (rInTD X.K) := by
  intro pins s σ H x y v u Q I rx ry h
  obtain ⟨d, ds, hd, he, sd, se, q⟩ := h
  obtain ⟨as, r1⟩ := Dp.reads I d x v hd rx
  obtain ⟨bs, r2⟩ := Dp.reads I (.tuple ds) y u he ry
  exact SeqAt.in_tuple_reads r2 r1 (SeqAt.canLay_of_shaped se) (SeqAt.canLay_of_shaped sd) (room_in2 sd hu) ⟨.bl _, H, I, rfl, q⟩
theorem op_niTD (hu : X.A.units + 65 < cLine) : OpR X (compareOp .NotIn) (rNiTD X.K) := by
  intro pins s σ H x y v u Q I rx ry h
  obtain ⟨d, ds, hd, he, sd, se, q⟩ := h
  obtain ⟨as, r1⟩ := Dp.reads I d x v hd rx
  obtain ⟨bs, r2⟩ := Dp.reads I (.tuple ds) y u he ry
  exact SeqAt.notIn_tuple_reads r2 r1 (SeqAt.canLay_of_shaped se) (SeqAt.canLay_of_shaped sd) (room_in2 sd hu) ⟨.bl _, H, I, rfl, q⟩
end
def rInA (K : PySem.W.Frag) : R2 := fun x y H Q => rInD K x y H Q ∨ rInTD K x y H Q
def rNiA (K : PySem.W.Frag) : R2 := fun x y H Q => rNotInD K x y H Q ∨ rNiTD K x y H Q
theorem ops_in {G : Ev} : OpS G (rInA G.K) oIn := fun W σ r F H h x y v u Q g hx hy q => by
  unfold oIn inD at q
  cases y with
  | lst ys =>
    by_cases z : (pyOk 40 x && pyOk 40 (.lst ys)) = true
    · simp only [if_pos z] at q
      rw [Bool.and_eq_true] at z
      exact .inl ⟨toPy x, toPyL ys, dp_of _ _ _ z.1 hx, dp_of _ _ _ z.2 hy, shaped_of z.1, shaped_of z.2, q.here g _ (.bl _)⟩
    · simp only [if_neg z] at q
      exact False.elim q
  | tup ys =>
    by_cases z : (pyOk 40 x && pyOk 40 (.tup ys)) = true
    · simp only [if_pos z] at q
      rw [Bool.and_eq_true] at z
      exact .inr ⟨toPy x, toPyL ys, dp_of _ _ _ z.1 hx, dp_of _ _ _ z.2 hy, shaped_of z.1, shaped_of z.2, q.here g _ (.bl _)⟩
    · simp only [if_neg z] at q
      exact False.elim q
  | _ => exact False.elim q
theorem ops_ni {G : Ev} : OpS G (rNiA G.K) oNi := fun W σ r F H h x y v u Q g hx hy q => by
  unfold oNi inD at q
  cases y with
  | lst ys =>
    by_cases z : (pyOk 40 x && pyOk 40 (.lst ys)) = true
    · simp only [if_pos z] at q
      rw [Bool.and_eq_true] at z
      exact .inl ⟨toPy x, toPyL ys, dp_of _ _ _ z.1 hx, dp_of _ _ _ z.2 hy, shaped_of z.1, shaped_of z.2, q.here g _ (.bl _)⟩
    · simp only [if_neg z] at q
      exact False.elim q
  | tup ys =>
    by_cases z : (pyOk 40 x && pyOk 40 (.tup ys)) = true
    · simp only [if_pos z] at q
      rw [Bool.and_eq_true] at z
      exact .inr ⟨toPy x, toPyL ys, dp_of _ _ _ z.1 hx, dp_of _ _ _ z.2 hy, shaped_of z.1, shaped_of z.2, q.here g _ (.bl _)⟩
    · simp only [if_neg z] at q
      exact False.elim q
  | _ => exact False.elim q
theorem opr_in {X : Cx} {k : Nat} (hr : Room k X.A) : OpR X (compareOp .In) (rInA X.K) := OpR.or (op_inD (by have := hr.un; omega)) (op_inTD (by have := hr.un; omega))
theorem opr_ni {X : Cx} {k : Nat} (hr : Room k X.A) : OpR X (compareOp .NotIn) (rNiA X.K) := OpR.or (op_notInD (by have := hr.un; omega)) (op_niTD (by have := hr.un; omega))

/-! ### is -/
def oIsN : D → D → MH → Res D := fun x y h => match y with
  | .non => match x with
    | .non => .ok (.bl true) h
    | _ => .ok (.bl false) h
  | _ => .bad
def oNotN : D → D → MH → Res D := fun x y h => match y with
  | .non => match x with
    | .non => .ok (.bl false) h
    | _ => .ok (.bl true) h
  | _ => .bad
def oIsB : D → D → MH → Res D := fun x y h => match x, y with
  | .bl a, .bl b => .ok (.bl (decide (a = b))) h
  | _, _ => .bad
def oNotB : D → D → MH → Res D := fun x y h => match x, y with
  | .bl a, .bl b => .ok (.bl (!decide (a = b))) h
  | _, _ => .bad
theorem ops_isN {G : Ev} : OpS G (fun x y H Q => y = .non ∧ Q (.bl (decide (x = .non))) H) oIsN := fun W σ r F H h x y v u Q g hx hy q => by
  cases hy with
  | non =>
    refine ⟨rfl, ?_⟩
    cases hx <;> exact q.here g _ (.bl _)
  | _ => exact False.elim q
theorem ops_notN {G : Ev} : OpS G (fun x y H Q => y = .non ∧ Q (.bl (!decide (x = .non))) H) oNotN := fun W σ r F H h x y v u Q g hx hy q => by
  cases hy with
  | non =>
    refine ⟨rfl, ?_⟩
    cases hx <;> exact q.here g _ (.bl _)
  | _ => exact False.elim q
theorem ops_isB {G : Ev} : OpS G rIsB oIsB := fun W σ r F H h x y v u Q g hx hy q => by
  cases hx <;> cases hy <;> first | exact False.elim q | exact ⟨_, _, rfl, rfl, q.here g _ (.bl _)⟩
theorem ops_notB {G : Ev} : OpS G rNotB oNotB := fun W σ r F H h x y v u Q g hx hy q => by
  cases hx <;> cases hy <;> first | exact False.elim q | exact ⟨_, _, rfl, rfl, q.here g _ (.bl _)⟩

/-! ### ints -/
def oI (f : Int → Int → D) : D → D → MH → Res D := fun x y h => match x, y with
  | .int i, .int j => .ok (f i j) h
  | _, _ => .bad
theorem ops_I {G : Ev} {f : Int → Int → D} {g : Int → Int → V} (hf : ∀ i j r F H, Den G r F H (f i j) (g i j)) : OpS G (rI0 g) (oI f) := fun W σ r F H h x y v u Q gd hx hy q => by
  cases hx <;> cases hy <;> first | exact False.elim q | exact ⟨_, _, rfl, rfl, q.here gd _ (hf _ _ _ _ _)⟩
def oIc (c : Int → Int → Bool) (f : Int → Int → D) : D → D → MH → Res D := fun x y h => match x, y with
  | .int i, .int j => if c i j = true then .ok (f i j) h else .bad
  | _, _ => .bad
theorem ops_Ic {G : Ev} {c : Int → Int → Bool} {C : Int → Int → Prop} {f : Int → Int → D} {g : Int → Int → V} (hc : ∀ i j, c i j = true → C i j) (hf : ∀ i j r F H, Den G r F H (f i j) (g i j)) : OpS G (rI C g) (oIc c f) := fun W σ r F H h x y v u Q gd hx hy q => by
  cases hx <;> cases hy <;> first
    | exact False.elim q
    | (rename_i i j
       have q : Aft G W F σ r H (if c i j = true then .ok (f i j) h else .bad) _ := q
       by_cases z : c i j = true
       · rw [if_pos z] at q
         exact ⟨_, _, rfl, rfl, hc _ _ z, q.here gd _ (hf _ _ _ _ _)⟩
       · rw [if_neg z] at q
         exact False.elim q)
def oSub := oI fun i j => .int (i - j)
def oLt := oI fun i j => .bl (decide (i < j))
def oLe := oI fun i j => .bl (decide (i ≤ j))
def oGt := oI fun i j => .bl (decide (j < i))
def oGe := oI fun i j => .bl (decide (j ≤ i))
def cDiv (i j : Int) : Bool := decide (0 < j) && decide (j < 1073741824)
def oDiv := oIc cDiv fun i j => .int (i / j)
def oMod := oIc (fun _ j => decide (0 < j)) fun i j => .int (i % j)
def cPow (i j : Int) : Bool := decide (0 ≤ j) && decide (j ≤ 1000) && decide (i.natAbs ≤ 1000)
def oPow := oIc cPow fun i j => .int (i ^ j.toNat)
theorem ops_sub {G : Ev} : OpS G (rI0 fun i j => .int (i - j)) oSub := ops_I fun _ _ _ _ _ => .int _
theorem ops_lt {G : Ev} : OpS G (rI0 fun i j => .bl (decide (i < j))) oLt := ops_I fun _ _ _ _ _ => .bl _
theorem ops_le {G : Ev} : OpS G (rI0 fun i j => .bl (decide (i ≤ j))) oLe := ops_I fun _ _ _ _ _ => .bl _
theorem ops_gt {G : Ev} : OpS G (rI0 fun i j => .bl (decide (j < i))) oGt := ops_I fun _ _ _ _ _ => .bl _
theorem ops_ge {G : Ev} : OpS G (rI0 fun i j => .bl (decide (j ≤ i))) oGe := ops_I fun _ _ _ _ _ => .bl _
theorem ops_div {G : Ev} : OpS G (rI CDiv fun i j => .int (i / j)) oDiv := ops_Ic (fun i j h => by
  unfold cDiv at h
  rw [Bool.and_eq_true] at h
  exact ⟨of_decide_eq_true h.1, of_decide_eq_true h.2⟩) fun _ _ _ _ _ => .int _
theorem ops_mod {G : Ev} : OpS G (rI (fun _ j => 0 < j) fun i j => .int (i % j)) oMod := ops_Ic (fun i j h => of_decide_eq_true h) fun _ _ _ _ _ => .int _
theorem ops_pow {G : Ev} : OpS G (rI CPow fun i j => .int (i ^ j.toNat)) oPow := ops_Ic (fun i j h => by
  unfold cPow at h
  rw [Bool.and_eq_true, Bool.and_eq_true] at h
  have h1 := of_decide_eq_true h.1.1
  have h2 := of_decide_eq_true h.1.2
  have h3 := of_decide_eq_true h.2
  exact ⟨h1, by omega, by omega⟩) fun _ _ _ _ _ => .int _
def cMul (i j : Int) : Bool := (decide (-1000000000 < i) && decide (i < 1000000000)) || (decide (-1000000000 < j) && decide (j < 1000000000))

/-! ### + and * -/
def oAdd : D → D → MH → Res D := fun x y h => match x, y with
  | .int i, .int j => .ok (.int (i + j)) h
  | .str a, .str b => if a.length + b.length ≤ lim then .ok (.str (a ++ b)) h else .bad
  | .tup xs, .tup ys => if xs.length + ys.length ≤ lim then .ok (.tup (xs ++ ys)) h else .bad
  | .lst xs, .lst ys => if xs.length + ys.length ≤ lim then .ok (.lst (xs ++ ys)) h else .bad
  | _, _ => .bad
def rAddS : R2 := fun x y H Q => ∃ i j, x = .str i ∧ y = .str j ∧ i.length + j.length ≤ sizeLine ∧ Q (.str (i ++ j)) H
def rAddA (K : PySem.W.Frag) : R2 := fun x y H Q => rI0 (fun i j => .int (i + j)) x y H Q ∨ (rAddS x y H Q ∨ (rCatA K x y H Q ∨ rCat x y H Q))
end CH

/-! CH6: +, *, subscripts, calls of built-ins, dicts. -/
namespace CH
open PySem PySem.Spec PyProof.Rows L2

theorem ops_add {G : Ev} : OpS G (rAddA G.K) oAdd := fun W σ r F H h x y v u Q g hx hy q => by
  cases hx <;> cases hy <;> try exact False.elim q
  · exact .inl ⟨_, _, rfl, rfl, q.here g _ (.int _)⟩
  · rename_i a b
    have q : Aft G W F σ r H (if a.length + b.length ≤ lim then Res.ok (D.str (a ++ b)) h else .bad) _ := q
    by_cases z : a.length + b.length ≤ lim
    · rw [if_pos z] at q
      exact .inr (.inl ⟨_, _, rfl, rfl, lim_ok z, q.here g _ (.str _)⟩)
    · rw [if_neg z] at q; exact False.elim q
  · rename_i xs _ h1 l1 _ ys _ h2 l2
    have q : Aft G W F σ r H (if xs.length + ys.length ≤ lim then Res.ok (D.tup (xs ++ ys)) h else .bad) _ := q
    by_cases z : xs.length + ys.length ≤ lim
    · rw [if_pos z] at q
      refine .inr (.inr (.inl ⟨_, _, _, _, rfl, rfl, h1.sq, h2.sq, by rw [← l1.len, ← l2.len]; exact lim_ok z, fun e => ?_, fun _ e => ?_, fun _ _ p hp => ?_⟩))
      · subst e
        cases l1
        exact q.here g _ (.tup h2 l2)
      · subst e
        cases l2
        exact q.here g _ (.tup h1 (by simpa using l1))
      · exact q.hereS g (same_new hp) _ (new_tup g (l1.app l2) hp)
    · rw [if_neg z] at q; exact False.elim q
  · rename_i xs _ h1 n1 l1 _ ys _ h2 n2 l2
    have q : Aft G W F σ r H (if xs.length + ys.length ≤ lim then Res.ok (D.lst (xs ++ ys)) h else .bad) _ := q
    by_cases z : xs.length + ys.length ≤ lim
    · rw [if_pos z] at q
      exact .inr (.inr (.inr ⟨_, _, _, _, rfl, rfl, h1, h2, by rw [← l1.len, ← l2.len]; exact lim_ok z, fun p hp => q.hereS g (same_new hp) _ (new_lst g (l1.app l2) hp)⟩))
    · rw [if_neg z] at q; exact False.elim q
theorem opr_add {X : Cx} : OpR X (binaryOp .Add) (rAddA X.K) := OpR.or op_add (OpR.or op_add_str (OpR.or op_catA op_cat))
def oMul := oIc cMul fun i j => .int (i * j)
theorem ops_mul {G : Ev} : OpS G (rI CMul fun i j => .int (i * j)) oMul := ops_Ic (fun i j h => by
  unfold cMul at h
  rw [Bool.or_eq_true, Bool.and_eq_true, Bool.and_eq_true] at h
  rcases h with ⟨h1, h2⟩ | ⟨h1, h2⟩
  · have h1 := of_decide_eq_true h1
    have h2 := of_decide_eq_true h2
    exact .inl ⟨by omega, by omega⟩
  · have h1 := of_decide_eq_true h1
    have h2 := of_decide_eq_true h2
    exact .inr ⟨by omega, by omega⟩) fun _ _ _ _ _ => .int _

/-! ### a chain of two comparisons -/
def mChain (g g' : D → D → MH → Res D) (a b c : Mo D) : Mo D := mBind a fun x => mBind b fun y => fun sl h => bindR (g x y h) fun z h1 => match z with
  | .bl true => bindR (c sl h1) fun w h2 => g' y w h2
  | .bl false => .ok (.bl false) h1
  | _ => .bad
section
variable {X : Cx} {W : WX} {pos : Pos} {a b c : Expr} {es : List Expr} {fa fb fc : Mo D} {fl : Mo (List D)}
theorem chain_of {op op' : CmpOp} {rr rr' : R2} {g g' : D → D → MH → Res D} (hs : OpS (evOf X) rr g) (hs' : OpS (evOf X) rr' g') (σ : L2.St) (H : Hp) (Q : VK) (q : tE (evOf X) W (mChain g g' fa fb fc) σ H Q) : tChain rr rr' (tE (evOf X) W fa) (tE (evOf X) W fb) (tE (evOf X) W fc) σ H Q := by
  obtain ⟨r, F, sl, h, s, gd, q⟩ := q
  refine tE.of s gd (q.bind.imp fun r1 H1 x h1 e1 g1 q1 v hv => ?_)
  refine tE.of (s.mono gd.mine e1) g1 (q1.bind.imp fun r2 H2 y h2 e2 g2 q2 u hu => ?_)
  have hv2 := Den.mono g1.mine e2 _ _ hv
  refine hs W σ r2 F H2 h2 x y v u _ g2 hv2 hu (q2.bind.imp fun r3 H3 z h3 e3 g3 q3 w hw => ?_)
  cases hw with
  | bl k =>
    refine ⟨k, rfl, ?_⟩
    cases k with
    | false => exact q3.here g3 _ (.bl false)
    | true =>
      refine tE.of ((((s.mono gd.mine e1).mono g1.mine e2)).mono g2.mine e3) g3 (q3.bind.imp fun r4 H4 z' h4 e4 g4 q4 w' hw' => ?_)
      exact hs' W σ r4 F H4 h4 y z' u w' Q g4 (Den.mono g3.mine e4 _ _ (Den.mono g2.mine e3 _ _ hu)) hw' q4
  | _ => exact False.elim q3
theorem de_chain {op op' : CmpOp} {rr rr' : R2} {g g' : D → D → MH → Res D} (ho : OpR X (compareOp op) rr) (hs : OpS (evOf X) rr g) (ho' : OpR X (compareOp op') rr') (hs' : OpS (evOf X) rr' g') (ha : PE X a (tE (evOf X) W fa)) (hb : PE X b (tE (evOf X) W fb)) (hc : PE X c (tE (evOf X) W fc))
    (hm : lastMarks [op, op'] [b, c] = false := by with_unfolding_all rfl) : PE X (.Compare a [op, op'] [b, c] pos) (tE (evOf X) W (mChain g g' fa fb fc)) := (pe_chain ho ho' ha hb hc hm).imp (chain_of (op := op) (op' := op') hs hs')
theorem dt_chain {op op' : CmpOp} {rr rr' : R2} {g g' : D → D → MH → Res D} (ho : OpR X (compareOp op) rr) (hs : OpS (evOf X) rr g) (ho' : OpR X (compareOp op') rr') (hs' : OpS (evOf X) rr' g') (ha : PE X a (tE (evOf X) W fa)) (hb : PE X b (tE (evOf X) W fb)) (hc : PE X c (tE (evOf X) W fc))
    (hm : lastMarks [op, op'] [b, c] = false := by with_unfolding_all rfl) : PT X (.Compare a [op, op'] [b, c] pos) (tT (evOf X) W (mTest (mChain g g' fa fb fc))) := (pt_chain ho ho' ha hb hc hm).imp fun σ H Q ⟨r, F, sl, h, s, gd, q⟩ =>
  chain_of (W := W) (op := op) (op' := op') hs hs' σ H _ (tE.of s gd (q.bind.imp fun r1 H1 x h1 e1 g1 q1 v hv => test_of g1 hv q1))

/-! ### subscripts of sequences -/
def oLst : Option O → Option (List D)
  | some (.lst xs) => some xs
  | _ => none
theorem oLst_some {o : Option O} {xs : List D} (e : oLst o = some xs) : o = some (.lst xs) := by
  cases o with
  | none => cases e
  | some o => cases o with
    | lst ys => cases e; rfl
    | _ => cases e
def ixD (h : MH) (i : Int) : D → Option D
  | .tup xs => atI xs i
  | .lst xs => atI xs i
  | .scr ns => (atI ns i).map D.int
  | .ref k => (oLst h[k]?).bind fun xs => atI xs i
  | _ => none
def oIx : D → D → MH → Res D := fun x y h => match y with
  | .int i => optR (ixD h i x) h
  | _ => .bad
def rIxA (K : PySem.W.Frag) : R2 := fun x y H Q => rIxL K x y H Q ∨ rIxT K x y H Q
theorem ixr {X : Cx} : IxR X (rIxA X.K) := ix_list.or ix_tup
theorem atI_den {G : Ev} {r F : List Addr} {H : Hp} {ds : List D} {vs : List V} {i : Int} {d : D} (l : DenL G r F H ds vs) (e : atI ds i = some d) : ∃ v, atI vs i = some v ∧ Den G r F H d v := by
  unfold atI at e ⊢
  rw [← l.len]
  cases hx : ixN ds.length i with
  | none => rw [hx] at e; cases e
  | some j =>
    rw [hx] at e
    obtain ⟨v, h1, h2⟩ := l.get (i := j) e
    exact ⟨v, h1, h2⟩
theorem atI_map {α β : Type} (f : α → β) (xs : List α) (i : Int) : atI (xs.map f) i = (atI xs i).map f := by
  unfold atI
  rw [List.length_map]
  cases ixN xs.length i with
  | none => rfl
  | some j => simp
theorem optR_ok {α : Type} {G : Ev} {W : WX} {r F : List Addr} {H : Hp} {σ : L2.St} {h : MH} {o : Option α} {Q : List Addr → Hp → α → MH → Prop} (q : Aft G W F σ r H (optR o h) Q) : ∃ a, o = some a ∧ Aft G W F σ r H (.ok a h) Q := by
  cases o with
  | none => exact False.elim q
  | some a => exact ⟨a, rfl, q⟩
theorem scr_sq {K : PySem.W.Frag} {r F : List Addr} {H : Hp} {a : Addr} {vs : List V} (hq : ScrA K r F H a vs) : SqL K H a vs := by
  rcases hq with (⟨o, hq⟩ | hq) | ⟨hq, _⟩
  · exact .inl (.inr ⟨o, hq⟩)
  · rcases hq with (hq | ⟨o, hq⟩) | hq
    · cases hq
    · cases hq
    · exact .inr hq
  · exact SqL.of hq
theorem ops_ix {G : Ev} : OpS G (rIxA G.K) oIx := fun W σ r F H h x y v u Q g hx hy q => by
  cases hy with
  | int i =>
    obtain ⟨d, e, qq⟩ := optR_ok (show Aft G W F σ r H (optR (ixD h i x) h) _ from q)
    cases hx with
    | tup hq hl =>
      obtain ⟨v, h1, h2⟩ := atI_den hl e
      exact .inr ⟨_, _, i, v, rfl, rfl, hq.sq, h1, qq.here g _ h2⟩
    | lst hq hn hl =>
      obtain ⟨v, h1, h2⟩ := atI_den hl e
      exact .inl ⟨_, _, i, v, rfl, rfl, SqL.of hq, h1, qq.here g _ h2⟩
    | scr hq =>
      rename_i a ns
      have e : (atI ns i).map D.int = some d := e
      cases hn : atI ns i with
      | none => rw [hn] at e; cases e
      | some n =>
        rw [hn] at e; cases e
        exact .inl ⟨a, ns.map V.int, i, .int n, rfl, rfl, scr_sq hq, by rw [atI_map, hn]; rfl, qq.here g _ (.int n)⟩
    | ref hk =>
      rename_i k a
      have e : ((oLst h[k]?).bind fun xs => atI xs i) = some d := e
      cases ho : oLst h[k]? with
      | none => rw [ho] at e; cases e
      | some xs =>
        rw [ho] at e
        obtain ⟨a', ea, vs, h1, h2⟩ := g.ob k _ (oLst_some ho)
        rw [hk] at ea; cases ea
        obtain ⟨v, h3, h4⟩ := atI_den h2 e
        exact .inl ⟨_, _, i, v, rfl, rfl, SqL.of h1, h3, qq.here g _ h4⟩
    | _ => cases e
  | _ => exact False.elim q
theorem de_ix {g : D → D → MH → Res D} {rr : R2} (ho : IxR X rr) (hs' : OpS (evOf X) rr g) (ha : PE X a (tE (evOf X) W fa)) (hb : PE X b (tE (evOf X) W fb)) (hs : PlainIx b) : PE X (.Subscript a b pos) (tE (evOf X) W (mOp g fa fb)) :=
  (pe_ix ho ha hb hs).imp fun σ H Q ⟨r, F, sl, h, s, g, q⟩ => by
    refine tE.of s g (q.bind.imp fun r1 H1 x h1 e1 g1 q1 v hv => ?_)
    refine tE.of (s.mono g.mine e1) g1 (q1.bind.imp fun r2 H2 y h2 e2 g2 q2 u hu => ?_)
    exact hs' W σ r2 F H2 h2 x y v u Q g2 (Den.mono g1.mine e2 _ _ hv) hu q2

/-! ### built-in functions, by values -/
def CallS (G : Ev) (rr : List V → Hp → VK → Prop) (g : List D → MH → Res D) : Prop := ∀ (W : WX) (σ : L2.St) (r F : List Addr) (H : Hp) (h : MH) (ds : List D) (vs : List V) (Q : VK), GoodH G r F h H → DenL G r F H ds vs →
  Aft G W F σ r H (g ds h) (fun r' H' d _ => ∀ z, Den G r' F H' d z → Q z H') → rr vs H Q
def mFn (g : List D → MH → Res D) (fl : Mo (List D)) : Mo D := mBind fl fun ds => fun _ h => g ds h
theorem de_callB {id : String} {x : Str} {p : Pos} {rr : List V → Hp → VK → Prop} {g : List D → MH → Res D} (hc : CallR X (.builtin id) rr) (hs : CallS (evOf X) rr g) (hg : Gl X x) (hm : X.mg x = none) (hv : bootBuiltins x = some (.builtin id)) (ha : PA X (a :: es) (tA (evOf X) W fl)) (hn : x ≠ "__name__" := by decide) (hdb : (x == ("__debug__" : Str)) = false := by decide)
    (he : starEach (a :: es) X.env = (false, eval a X.env) :: starEach es X.env := by rfl) (hpl : (backTo pos (starEach es X.env)).any (·.1) = false := by rfl) : PE X (.Call (.Name x p) (a :: es) [] pos) (tE (evOf X) W (mFn g fl)) :=
  (pe_callB hc hg hm hv ha hn hdb he hpl).imp fun σ H Q ⟨r, F, sl, h, s, g, q⟩ => tA.of s g (q.bind.imp fun r1 H1 ds h1 e1 g1 q1 vs hvs => hs W σ r1 F H1 h1 ds vs Q g1 hvs q1)
theorem de_callTy {T : String} {x : Str} {p : Pos} {rr : List V → Hp → VK → Prop} {g : List D → MH → Res D} (hc : CallR X (.type T) rr) (hs : CallS (evOf X) rr g) (hg : Gl X x) (hm : X.mg x = none) (hv : bootBuiltins x = some (.type T)) (ha : PA X (a :: es) (tA (evOf X) W fl)) (hn : x ≠ "__name__" := by decide) (hdb : (x == ("__debug__" : Str)) = false := by decide)
    (he : starEach (a :: es) X.env = (false, eval a X.env) :: starEach es X.env := by rfl) (hpl : (backTo pos (starEach es X.env)).any (·.1) = false := by rfl) : PE X (.Call (.Name x p) (a :: es) [] pos) (tE (evOf X) W (mFn g fl)) :=
  (pe_callTy hc hg hm hv ha hn hdb he hpl).imp fun σ H Q ⟨r, F, sl, h, s, g, q⟩ => tA.of s g (q.bind.imp fun r1 H1 ds h1 e1 g1 q1 vs hvs => hs W σ r1 F H1 h1 ds vs Q g1 hvs q1)
/-- a name that stands for a type, a def | a class -/
theorem de_ty {x : Str} {n : String} (hg : Gl X x) (hm : X.mg x = none) (hv : bootBuiltins x = some (.type n)) (hn : x ≠ "__name__" := by decide) (hd : (x == ("__debug__" : Str)) = false := by decide) : PE X (.Name x pos) (tE (evOf X) W (mC (.ty n))) :=
  de_c (pe_bltn (v := .ty n) hg hm hv rfl hn hd) fun _ _ _ => .ty n
theorem de_gl {x : Str} {f : Addr} (hg : Gl X x) (hm : X.mg x = some (.ref f)) (hd : (x == ("__debug__" : Str)) = false := by decide) : PE X (.Name x pos) (tE (evOf X) W (mC (.gl x))) :=
  de_c (pe_glob (v := .ref f) hg hm rfl hd) fun _ _ _ => .gl hm
/-- a written constant of the module -/
def CoD (G : Ev) (x : Str) (d : D) : Prop := ∃ (u : Value) (v : V), G.mg x = some u ∧ RelV v u ∧ ∀ r F H, Den G r F H d v
theorem de_con {x : Str} {d : D} (hg : Gl X x) (hm : CoD (evOf X) x d) (hd : (x == ("__debug__" : Str)) = false := by decide) : PE X (.Name x pos) (tE (evOf X) W (mC d)) := by
  obtain ⟨u, v, h1, h2, h3⟩ := hm
  exact de_c (pe_glob (v := v) hg h1 h2 hd) h3
end

def lenD (h : MH) : D → Option Nat
  | .tup xs => some xs.length
  | .lst xs => some xs.length
  | .scr xs => some xs.length
  | .str x => if x.length ≤ lim then some x.length else none
  | .ref k => (oLst h[k]?).map List.length
  | _ => none
def fLen : List D → MH → Res D := fun ds h => match ds with
  | [x] => optR ((lenD h x).map fun n => .int (n : Nat)) h
  | _ => .bad
def rLenA (K : PySem.W.Frag) : List V → Hp → VK → Prop := fun xs H Q => (∃ p ys, xs = [.ref p] ∧ (SqL K H p ys ∨ SqT K H p ys) ∧ Q (.int ys.length) H) ∨ (∃ z, xs = [.str z] ∧ z.length ≤ sizeLine ∧ Q (.int z.length) H)
theorem calls_len {G : Ev} : CallS G (rLenA G.K) fLen := fun W σ r F H h ds vs Q g hd q => by
  match ds, hd with
  | [], _ => exact False.elim q
  | _ :: _ :: _, _ => exact False.elim q
  | [x], .cons hx .nil =>
    obtain ⟨d, e, qq⟩ := optR_ok (show Aft G W F σ r H (optR ((lenD h x).map fun n => D.int (n : Nat)) h) _ from q)
    cases hx with
    | tup hq hl =>
      cases e
      exact .inl ⟨_, _, rfl, .inr hq.sq, by rw [← hl.len]; exact qq.here g _ (.int _)⟩
    | lst hq hn hl =>
      cases e
      exact .inl ⟨_, _, rfl, .inl (SqL.of hq), by rw [← hl.len]; exact qq.here g _ (.int _)⟩
    | scr hq =>
      rename_i a ns
      cases e
      exact .inl ⟨a, ns.map V.int, rfl, .inl (scr_sq hq), by rw [List.length_map]; exact qq.here g _ (.int _)⟩
    | str z =>
      have e : ((if z.length ≤ lim then some z.length else none).map fun n => D.int (n : Nat)) = some d := e
      by_cases hz : z.length ≤ lim
      · rw [if_pos hz] at e
        cases e
        exact .inr ⟨z, rfl, lim_ok hz, qq.here g _ (.int _)⟩
      · rw [if_neg hz] at e
        cases e
    | ref hk =>
      rename_i k a
      have e : (((oLst h[k]?).map List.length).map fun n => D.int (n : Nat)) = some d := e
      cases ho : oLst h[k]? with
      | none => rw [ho] at e; cases e
      | some xs =>
        rw [ho] at e
        cases e
        obtain ⟨a', ea, vs, h1, h2⟩ := g.ob k _ (oLst_some ho)
        rw [hk] at ea; cases ea
        exact .inl ⟨_, _, rfl, .inl (SqL.of h1), by rw [← h2.len]; exact qq.here g _ (.int _)⟩
    | _ => cases e
theorem callr_len {X : Cx} : CallR X (.builtin "len") (rLenA X.K) := call_len_seq.or call_len_str
end CH

/-! CH7: built-ins, writes to objects, dicts, methods of built-in types. -/
namespace CH
open PySem PySem.Spec PyProof.Rows L2

/-! ### an object of ours is written -/
section
variable {G : Ev} {r F : List Addr} {H : Hp} {h : MH}
theorem Ext.upd {a : Addr} {o : HO} (ha : a ∈ r) : Ext r H r (upd H a o) := ⟨⟨[], by simp, fun _ z => by cases z⟩, fun b u e n _ => by rw [upd_ne (fun q => n (by rw [q]; exact ha))]; exact e⟩
theorem GoodH.set {k : Nat} {a : Addr} {o : O} {ho : HO} (g : GoodH G r F h H) (hk : r[k]? = some a) (mu : MutT (some ho)) (q : ODen G r F (upd H a ho) a o) : GoodH G r F (h.set k o) (upd H a ho) := by
  have ha : a ∈ r := List.mem_of_getElem? hk
  have e : Ext r H r (L2.upd H a ho) := Ext.upd ha
  refine ⟨by rw [List.length_set]; exact g.len, g.nd, fun b hb => ⟨?_, (g.fd b hb).2⟩, fun i o' hi => ?_⟩
  · rw [upd_ne (fun z => (g.fd b hb).2 (by rw [z]; exact ha))]
    exact (g.fd b hb).1
  · by_cases hik : k = i
    · subst hik
      have hl : k < h.length := by rw [← g.len]; exact (List.getElem?_eq_some_iff.mp hk).1
      rw [List.getElem?_set_self hl] at hi
      cases hi
      exact ⟨a, hk, q⟩
    · rw [List.getElem?_set_ne hik] at hi
      obtain ⟨b, eb, qb⟩ := g.ob i o' hi
      have ne : b ≠ a := fun z => by
        subst z
        have h1 := (List.getElem?_eq_some_iff.mp hk)
        have h2 := (List.getElem?_eq_some_iff.mp eb)
        obtain ⟨l1, e1⟩ := h1
        obtain ⟨l2, e2⟩ := h2
        exact hik ((List.getElem_inj g.nd).mp (e1.trans e2.symm))
      exact ⟨b, eb, ODen.mono g.mine e qb (upd_ne ne)⟩
end

/-! ### types -/
def tyD (h : MH) : D → Option String
  | .non => some "NoneType"
  | .bl _ => some "bool"
  | .int _ => some "int"
  | .str _ => some "str"
  | .tup _ => some "tuple"
  | .lst _ => some "list"
  | .scr _ => some "list"
  | .dic _ _ => some "dict"
  | .ref k => match h[k]? with
    | some (.lst _) => some "list"
    | some (.dic _ _) => some "dict"
    | _ => none
  | _ => none
/-- is a value of type t an n -/
def isiT (t n : String) : Option Bool :=
  if n = "int" then (if t = "int" ∨ t = "bool" then some true else if t = "NoneType" ∨ t = "str" ∨ t = "tuple" ∨ t = "list" ∨ t = "dict" then some false else none)
  else if n = "bool" ∨ n = "str" ∨ n = "tuple" ∨ n = "list" then (if t = n then some true else if t = "int" ∨ t = "bool" ∨ t = "NoneType" ∨ t = "str" ∨ t = "tuple" ∨ t = "list" ∨ t = "dict" then some false else none)
  else none
theorem isiT_ok {t n : String} {b : Bool} (e : isiT t n = some b) : kitB t n = some b := by
  have key : ∀ t ∈ ["int", "bool", "NoneType", "str", "tuple", "list", "dict"], ∀ n ∈ ["int", "bool", "str", "tuple", "list"], kitB t n = isiT t n := by decide +kernel
  have hn : n ∈ ["int", "bool", "str", "tuple", "list"] := by
    unfold isiT at e
    by_cases h1 : n = "int"
    · simp [h1]
    · rw [if_neg h1] at e
      by_cases h2 : n = "bool" ∨ n = "str" ∨ n = "tuple" ∨ n = "list"
      · rcases h2 with h2 | h2 | h2 | h2 <;> simp [h2]
      · rw [if_neg h2] at e; cases e
  have ht : t ∈ ["int", "bool", "NoneType", "str", "tuple", "list", "dict"] := by
    unfold isiT at e
    by_cases h1 : n = "int"
    · rw [if_pos h1] at e
      by_cases h3 : t = "int" ∨ t = "bool"
      · rcases h3 with h3 | h3 <;> simp [h3]
      · rw [if_neg h3] at e
        by_cases h4 : t = "NoneType" ∨ t = "str" ∨ t = "tuple" ∨ t = "list" ∨ t = "dict"
        · rcases h4 with h4 | h4 | h4 | h4 | h4 <;> simp [h4]
        · rw [if_neg h4] at e; cases e
    · rw [if_neg h1] at e
      by_cases h2 : n = "bool" ∨ n = "str" ∨ n = "tuple" ∨ n = "list"
      · rw [if_pos h2] at e
        by_cases h3 : t = n
        · rcases h2 with h2 | h2 | h2 | h2 <;> simp [h3, h2]
        · rw [if_neg h3] at e
          by_cases h4 : t = "int" ∨ t = "bool" ∨ t = "NoneType" ∨ t = "str" ∨ t = "tuple" ∨ t = "list" ∨ t = "dict"
          · rcases h4 with h4 | h4 | h4 | h4 | h4 | h4 | h4 <;> simp [h4]
          · rw [if_neg h4] at e; cases e
      · rw [if_neg h2] at e; cases e
  rw [key t ht n hn]; exact e
theorem ty_den {G : Ev} {r F : List Addr} {H : Hp} {h : MH} {x : D} {v : V} {t : String} (g : GoodH G r F h H) (hx : Den G r F H x v) (e : tyD h x = some t) : TyX G.K H v (.type t) := by
  cases hx with
  | non => cases e; exact .base .non
  | bl b => cases e; exact .base (.bl b)
  | int i => cases e; exact .base (.int i)
  | str x => cases e; exact .base (.str x)
  | tup hq hl =>
    cases e
    rcases hq with hq | hq
    · exact .base (.tup hq)
    · rcases hq with (hq | ⟨o, hq⟩) | ⟨o, its, n, h1, h2, _⟩
      · cases hq
      · cases hq
      · exact .kTuple h1 h2
  | lst hq hn hl => cases e; exact .base (.lst hq)
  | scr hq =>
    cases e
    rcases hq with (⟨o, hq⟩ | hq) | ⟨hq, _⟩
    · exact .base (.frz hq)
    · rcases hq with (hq | ⟨o, hq⟩) | ⟨o, its, n, h1, h2, _⟩
      · cases hq
      · cases hq
      · exact .kList h1 h2
    · exact .base (.lst hq)
  | dic hq hn hl hd => cases e; exact .base (.dK hq)
  | ref hk =>
    rename_i k a
    cases ho : h[k]? with
    | none => unfold tyD at e; simp only [ho] at e; cases e
    | some o =>
      obtain ⟨a', ea, q⟩ := g.ob k _ ho
      rw [hk] at ea; cases ea
      cases o with
      | lst xs =>
        unfold tyD at e; simp only [ho] at e; cases e
        obtain ⟨vs, h1, _⟩ := q
        exact .base (.lst h1)
      | dic ks xs =>
        unfold tyD at e; simp only [ho] at e; cases e
        obtain ⟨vs, h1, _⟩ := q
        exact .base (.dK h1)
      | ins c ks xs => unfold tyD at e; simp only [ho] at e; cases e
      | tbl => unfold tyD at e; simp only [ho] at e; cases e
  | ty n => cases e
  | gl hm => cases e
def isiL (t : String) : List D → Option Bool
  | [] => some false
  | .ty n :: cs => match isiT t n, isiL t cs with
    | some a, some b => some (a || b)
    | _, _ => none
  | _ :: _ => none
def isiV (t : String) : D → Option Bool
  | .ty n => isiT t n
  | .tup cs => isiL t cs
  | _ => none
def fIsi : List D → MH → Res D := fun ds h => match ds with
  | [x, c] => match tyD h x with
    | some t => blR (isiV t c) h
    | none => .bad
  | _ => .bad
def rIsiA (K : PySem.W.Frag) : List V → Hp → VK → Prop := fun xs H Q => rIsi K xs H Q ∨ (rIsiT K xs H Q ∨ rIsiK K xs H Q)
theorem isiL_ok {G : Ev} {r F : List Addr} {H : Hp} {t : String} : ∀ {cs : List D} {vs : List V} {b : Bool}, isiL t cs = some b → DenL G r F H cs vs → ∃ us : List Value, Paired ClsV vs us ∧ PySem.W.kitAny G.K (.type t) us = some b
  | [], _, b, e, .nil => by cases e; exact ⟨[], .nil, kitAny_nil⟩
  | .ty n :: cs, _, b, e, .cons h l => by
    cases h
    unfold isiL at e
    cases hn : isiT t n with
    | none => rw [hn] at e; cases e
    | some c =>
      cases hc : isiL t cs with
      | none => rw [hn, hc] at e; cases e
      | some c' =>
        rw [hn, hc] at e
        cases e
        obtain ⟨us, p, q⟩ := isiL_ok (cs := cs) hc l
        exact ⟨.type n :: us, .cons (.ty n) p, kitAny_cons (kit_ty (isiT_ok hn)) (fun z => by rw [z]; exact q) fun z => by rw [z]; rfl⟩
  | .non :: _, _, _, e, _ => by cases e
  | .bl _ :: _, _, _, e, _ => by cases e
  | .int _ :: _, _, _, e, _ => by cases e
  | .str _ :: _, _, _, e, _ => by cases e
  | .tup _ :: _, _, _, e, _ => by cases e
  | .lst _ :: _, _, _, e, _ => by cases e
  | .dic _ _ :: _, _, _, e, _ => by cases e
  | .ref _ :: _, _, _, e, _ => by cases e
  | .gl _ :: _, _, _, e, _ => by cases e
  | .scr _ :: _, _, _, e, _ => by cases e
theorem vals_of_cls {K : PySem.W.Frag} : ∀ {vs : List V} {us : List Value}, Paired ClsV vs us → Vals vs us
  | _, _, .nil => .nil
  | _, _, .cons (.ty n) t => .cons rfl (vals_of_cls (K := K) t)
  | _, _, .cons (.own C) t => .cons rfl (vals_of_cls (K := K) t)
theorem calls_isi {G : Ev} : CallS G (rIsiA G.K) fIsi := fun W σ r F H h ds vs Q g hd q => by
  match ds, hd with
  | [], _ => exact False.elim q
  | [_], _ => exact False.elim q
  | _ :: _ :: _ :: _, _ => exact False.elim q
  | [x, c], .cons hx (.cons hc .nil) =>
    have q0 : Aft G W F σ r H (match tyD h x with
      | some t => blR (isiV t c) h
      | none => .bad) (fun r' H' d _ => ∀ z, Den G r' F H' d z → Q z H') := q
    clear q
    cases ht : tyD h x with
    | none => rw [ht] at q0; exact False.elim q0
    | some t =>
      rw [ht] at q0
      have ty := ty_den g hx ht
      cases hb : isiV t c with
      | none =>
        have q0 : Aft G W F σ r H (blR (isiV t c) h) (fun r' H' d _ => ∀ z, Den G r' F H' d z → Q z H') := q0
        rw [hb] at q0; exact False.elim q0
      | some b =>
        have q0 : Aft G W F σ r H (blR (isiV t c) h) (fun r' H' d _ => ∀ z, Den G r' F H' d z → Q z H') := q0
        rw [hb] at q0
        have q1 := q0.here g _ (.bl b)
        cases hc with
        | ty n => exact .inl ⟨_, _, _, _, b, rfl, .ty n, ty, kit_ty (isiT_ok hb), q1⟩
        | tup hq hl =>
          obtain ⟨us, p1, p2⟩ := isiL_ok hb hl
          rcases hq with hq | hq
          · exact .inr (.inl ⟨_, _, _, _, us, b, rfl, hq, p1, ty, p2, q1⟩)
          · rcases hq with (hq | ⟨o, hq⟩) | ⟨o, its, n, h1, h2, h3, h4, h5⟩
            · cases hq
            · cases hq
            · have eu : its.toList = us := (ClsV.all p1 h5)
              obtain ⟨oc, od, dt, sl⟩ := o
              have h2 : oc = .type "tuple" := h2
              have h3 : dt = .seq its n := h3
              subst h2 h3
              exact .inr (.inr ⟨_, _, od, us, n, sl, _, b, rfl, by rw [← eu]; exact h1, ty, p2, q1⟩)
        | _ => cases hb
theorem callr_isi {X : Cx} : CallR X (.builtin "isinstance") (rIsiA X.K) := call_isi.or (call_isiT.or call_isiK)

/-! ### tuple, list, int, str, max, all, any -/
/-- the items of a list or tuple -/
def seqD (h : MH) : D → Option (List D)
  | .tup xs => some xs
  | .lst xs => some xs
  | .ref k => oLst h[k]?
  | _ => none
def fTuple : List D → MH → Res D := fun ds h => match ds with
  | [x] => optR ((seqD h x).map D.tup) h
  | _ => .bad
def fList : List D → MH → Res D := fun ds h => match ds with
  | [x] => optR ((seqD h x).map D.lst) h
  | _ => .bad
def rTupleA (K : PySem.W.Frag) : List V → Hp → VK → Prop := fun xs H Q => ∃ p ys, xs = [.ref p] ∧ ((SqL K H p ys ∧ ∀ l, H l = none → Q (.ref l) (upd H l (.tup ys))) ∨ (SqT K H p ys ∧ Q (.ref p) H))
def rListA (K : PySem.W.Frag) : List V → Hp → VK → Prop := fun xs H Q => ∃ p ys, xs = [.ref p] ∧ (SqL K H p ys ∨ SqT K H p ys) ∧ ∀ l, H l = none → Q (.ref l) (upd H l (.lst ys))
theorem calls_tuple {G : Ev} : CallS G (rTupleA G.K) fTuple := fun W σ r F H h ds vs Q g hd q => by
  match ds, hd with
  | [], _ => exact False.elim q
  | _ :: _ :: _, _ => exact False.elim q
  | [x], .cons hx .nil =>
    obtain ⟨d, e, qq⟩ := optR_ok (show Aft G W F σ r H (optR ((seqD h x).map D.tup) h) _ from q)
    clear q
    cases hx with
    | tup hq hl => cases e; exact ⟨_, _, rfl, .inr ⟨hq.sq, qq.here g _ (.tup hq hl)⟩⟩
    | lst hq hn hl => cases e; exact ⟨_, _, rfl, .inl ⟨SqL.of hq, fun p hp => qq.hereS g (same_new hp) _ (new_tup g hl hp)⟩⟩
    | ref hk =>
      rename_i k a
      have e : (oLst h[k]?).map D.tup = some d := e
      cases ho : oLst h[k]? with
      | none => rw [ho] at e; cases e
      | some xs =>
        rw [ho] at e
        cases e
        obtain ⟨a', ea, vs, h1, h2⟩ := g.ob k _ (oLst_some ho)
        rw [hk] at ea; cases ea
        exact ⟨_, _, rfl, .inl ⟨SqL.of h1, fun p hp => qq.hereS g (same_new hp) _ (new_tup g h2 hp)⟩⟩
    | _ => cases e
theorem calls_list {G : Ev} : CallS G (rListA G.K) fList := fun W σ r F H h ds vs Q g hd q => by
  match ds, hd with
  | [], _ => exact False.elim q
  | _ :: _ :: _, _ => exact False.elim q
  | [x], .cons hx .nil =>
    obtain ⟨d, e, qq⟩ := optR_ok (show Aft G W F σ r H (optR ((seqD h x).map D.lst) h) _ from q)
    clear q
    cases hx with
    | tup hq hl => cases e; exact ⟨_, _, rfl, .inr hq.sq, fun p hp => qq.hereS g (same_new hp) _ (new_lst g hl hp)⟩
    | lst hq hn hl => cases e; exact ⟨_, _, rfl, .inl (SqL.of hq), fun p hp => qq.hereS g (same_new hp) _ (new_lst g hl hp)⟩
    | ref hk =>
      rename_i k a
      have e : (oLst h[k]?).map D.lst = some d := e
      cases ho : oLst h[k]? with
      | none => rw [ho] at e; cases e
      | some xs =>
        rw [ho] at e
        cases e
        obtain ⟨a', ea, vs, h1, h2⟩ := g.ob k _ (oLst_some ho)
        rw [hk] at ea; cases ea
        exact ⟨_, _, rfl, .inl (SqL.of h1), fun p hp => qq.hereS g (same_new hp) _ (new_lst g h2 hp)⟩
    | _ => cases e
def fInt : List D → MH → Res D := fun ds h => match ds with
  | [.int i] => .ok (.int i) h
  | [.bl b] => .ok (.int (if b then 1 else 0)) h
  | _ => .bad
theorem calls_int {G : Ev} : CallS G (fun xs H Q => (∃ i, xs = [.int i] ∧ Q (.int i) H) ∨ ∃ k, xs = [.bl k] ∧ Q (.int (if k then 1 else 0)) H) fInt := fun W σ r F H h ds vs Q g hd q => by
  match ds, hd with
  | [], _ => exact False.elim q
  | d :: _ :: _, _ => cases d <;> exact False.elim q
  | [x], .cons hx .nil =>
    cases hx with
    | int i => exact .inl ⟨i, rfl, q.here g _ (.int i)⟩
    | bl b => exact .inr ⟨b, rfl, q.here g _ (.int _)⟩
    | _ => exact False.elim q
def fMax2 : List D → MH → Res D := fun ds h => match ds with
  | [.int i, .int j] => .ok (.int (if j > i then j else i)) h
  | _ => .bad
theorem calls_max2 {G : Ev} : CallS G (fun xs H Q => ∃ i j, xs = [.int i, .int j] ∧ Q (.int (if j > i then j else i)) H) fMax2 := fun W σ r F H h ds vs Q g hd q => by
  match ds, hd with
  | [], _ => exact False.elim q
  | [x], _ => cases x <;> exact False.elim q
  | d :: e :: _ :: _, _ => cases d <;> cases e <;> exact False.elim q
  | [x, y], .cons hx (.cons hy .nil) =>
    cases hx <;> cases hy <;> first | exact False.elim q | exact ⟨_, _, rfl, q.here g _ (.int _)⟩
def blsD : List D → Option (List Bool)
  | [] => some []
  | .bl b :: ds => (blsD ds).map fun bs => b :: bs
  | _ :: _ => none
theorem blsD_ok {G : Ev} {r F : List Addr} {H : Hp} : ∀ {ds : List D} {vs : List V} {bs : List Bool}, blsD ds = some bs → DenL G r F H ds vs → vs = bs.map V.bl
  | [], _, bs, e, .nil => by cases e; rfl
  | d :: ds, _, bs, e, .cons h l => by
    cases h with
    | bl b =>
      have e : (blsD ds).map (fun bs => b :: bs) = some bs := e
      cases hb : blsD ds with
      | none => rw [hb] at e; cases e
      | some bs' =>
        rw [hb] at e
        cases e
        rw [blsD_ok hb l]
        rfl
    | _ => cases e
def fAll : List D → MH → Res D := fun ds h => match ds with
  | [.lst xs] => optR ((blsD xs).map fun bs => .bl (bs.all id)) h
  | _ => .bad
def fAny : List D → MH → Res D := fun ds h => match ds with
  | [.lst xs] => optR ((blsD xs).map fun bs => .bl (bs.any id)) h
  | _ => .bad
theorem calls_all {G : Ev} : CallS G (rAll G.K) fAll := fun W σ r F H h ds vs Q g hd q => by
  match ds, hd with
  | [], _ => exact False.elim q
  | d :: _ :: _, _ => cases d <;> exact False.elim q
  | [x], .cons hx .nil =>
    cases hx with
    | lst hq hn hl =>
      rename_i xs vs
      obtain ⟨d, e, qq⟩ := optR_ok (show Aft G W F σ r H (optR ((blsD xs).map fun bs => D.bl (bs.all id)) h) _ from q)
      clear q
      cases hb : blsD xs with
      | none => rw [hb] at e; cases e
      | some bs =>
        rw [hb] at e
        cases e
        exact ⟨_, bs, rfl, by rw [← blsD_ok hb hl]; exact SqL.of hq, qq.here g _ (.bl _)⟩
    | _ => exact False.elim q
theorem calls_any {G : Ev} : CallS G (rAny G.K) fAny := fun W σ r F H h ds vs Q g hd q => by
  match ds, hd with
  | [], _ => exact False.elim q
  | d :: _ :: _, _ => cases d <;> exact False.elim q
  | [x], .cons hx .nil =>
    cases hx with
    | lst hq hn hl =>
      rename_i xs vs
      obtain ⟨d, e, qq⟩ := optR_ok (show Aft G W F σ r H (optR ((blsD xs).map fun bs => D.bl (bs.any id)) h) _ from q)
      clear q
      cases hb : blsD xs with
      | none => rw [hb] at e; cases e
      | some bs =>
        rw [hb] at e
        cases e
        exact ⟨_, bs, rfl, by rw [← blsD_ok hb hl]; exact SqL.of hq, qq.here g _ (.bl _)⟩
    | _ => exact False.elim q
def fStr : List D → MH → Res D := fun ds h => match ds with
  | [.int i] => if i.natAbs ≤ 1000000000 then .ok (.str (toString i)) h else .bad
  | _ => .bad
theorem calls_str {G : Ev} : CallS G (fun xs H Q => ∃ i, xs = [.int i] ∧ i.natAbs.log2 < 1920 ∧ Q (.str (toString i)) H) fStr := fun W σ r F H h ds vs Q g hd q => by
  match ds, hd with
  | [], _ => exact False.elim q
  | d :: _ :: _, _ => cases d <;> exact False.elim q
  | [x], .cons hx .nil =>
    cases hx with
    | int i =>
      have q : Aft G W F σ r H (if i.natAbs ≤ 1000000000 then Res.ok (D.str (toString i)) h else .bad) _ := q
      by_cases z : i.natAbs ≤ 1000000000
      · rw [if_pos z] at q
        refine ⟨i, rfl, ?_, q.here g _ (.str _)⟩
        by_cases z0 : i.natAbs = 0
        · rw [z0]; decide
        · exact (Nat.log2_lt z0).mpr (Nat.lt_of_le_of_lt z (by decide))
      · rw [if_neg z] at q; exact False.elim q
    | _ => exact False.elim q
end CH

/-! CH8: dicts, lists written, methods of built-in types, calls of values. -/
namespace CH
open PySem PySem.Spec PyProof.Rows L2

/-! ### a dict by its keys and values -/
def dget {α : Type} (k : Key) : List Key → List α → Option α
  | k' :: ks, v :: vs => if k' = k then some v else dget k ks vs
  | _, _ => none
def dhas (k : Key) : List Key → Bool
  | [] => false
  | k' :: ks => if k' = k then true else dhas k ks
def drep {α : Type} (k : Key) (x : α) : List Key → List α → List α
  | k' :: ks, v :: vs => (if k' = k then x else v) :: drep k x ks vs
  | _, vs => vs
def dputK (k : Key) (ks : List Key) : List Key := if dhas k ks = true then ks else ks ++ [k]
def dputV {α : Type} (k : Key) (x : α) (ks : List Key) (vs : List α) : List α := if dhas k ks = true then drep k x ks vs else vs ++ [x]
def keyD : D → Option Key
  | .int i => some (.inl i)
  | .str x => some (.inr x)
  | _ => none
theorem key_den {G : Ev} {r F : List Addr} {H : Hp} {d : D} {k : Key} {v : V} (e : keyD d = some k) (h : Den G r F H d v) : v = kV k := by
  cases h <;> cases e <;> rfl
theorem valV_dget (k : Key) : ∀ {ks : List Key} {vs : List V}, ks.length = vs.length → valV (ks.zip vs) k = dget k ks vs
  | [], [], _ => rfl
  | k' :: ks, v :: vs, e => by
    show valV ((k', v) :: ks.zip vs) k = _
    unfold dget
    by_cases h : k' = k
    · rw [valV_pos h, if_pos h]
    · rw [valV_neg h, if_neg h]
      exact valV_dget k (by simpa using e)
  | [], _ :: _, e => by cases e
  | _ :: _, [], e => by cases e
theorem any_dhas (k : Key) : ∀ {ks : List Key} {vs : List V}, ks.length = vs.length → ((ks.zip vs).any fun kv => decide (kv.1 = k)) = dhas k ks
  | [], [], _ => rfl
  | k' :: ks, v :: vs, e => by
    show ((decide (k' = k)) || ((ks.zip vs).any fun kv => decide (kv.1 = k))) = _
    unfold dhas
    rw [any_dhas k (by simpa using e)]
    by_cases h : k' = k <;> simp [h]
  | [], _ :: _, e => by cases e
  | _ :: _, [], e => by cases e
theorem map_drep (k : Key) (x : V) : ∀ {ks : List Key} {vs : List V}, ks.length = vs.length → ((ks.zip vs).map fun kv => if kv.1 = k then (kv.1, x) else kv) = ks.zip (drep k x ks vs)
  | [], [], _ => rfl
  | k' :: ks, v :: vs, e => by
    show (if k' = k then (k', x) else (k', v)) :: ((ks.zip vs).map fun kv => if kv.1 = k then (kv.1, x) else kv) = _
    rw [map_drep k x (by simpa using e)]
    show _ = (k', if k' = k then x else v) :: ks.zip (drep k x ks vs)
    by_cases h : k' = k <;> simp [h]
  | [], _ :: _, e => by cases e
  | _ :: _, [], e => by cases e
theorem drep_len {α : Type} (k : Key) (x : α) : ∀ (ks : List Key) (vs : List α), (drep k x ks vs).length = vs.length
  | [], vs => by cases vs <;> rfl
  | _ :: _, [] => rfl
  | k' :: ks, v :: vs => by simp [drep, drep_len k x ks vs]
theorem put_zip (k : Key) (x : V) {ks : List Key} {vs : List V} (e : ks.length = vs.length) : putK (ks.zip vs) k x = (dputK k ks).zip (dputV k x ks vs) := by
  unfold putK dputK dputV
  rw [any_dhas k e]
  by_cases h : dhas k ks = true
  · rw [if_pos h, if_pos h, if_pos h]
    exact map_drep k x e
  · rw [if_neg h, if_neg h, if_neg h, List.zip_append (by simpa using e)]
    rfl
theorem dput_len {α : Type} (k : Key) (x : α) {ks : List Key} {vs : List α} (e : ks.length = vs.length) : (dputK k ks).length = (dputV k x ks vs).length := by
  unfold dputK dputV
  by_cases h : dhas k ks = true
  · rw [if_pos h, if_pos h, drep_len]; exact e
  · rw [if_neg h, if_neg h]; simp [e]
section
variable {G : Ev} {r F : List Addr} {H : Hp}
theorem dget_den {k : Key} : ∀ {ks : List Key} {ds : List D} {vs : List V} {d : D}, ks.length = vs.length → DenL G r F H ds vs → dget k ks ds = some d → ∃ v, dget k ks vs = some v ∧ Den G r F H d v
  | [], _, _, _, _, _, e => by cases e
  | k' :: ks, d' :: ds, _, d, hl, .cons h l, e => by
    unfold dget at e ⊢
    by_cases hk : k' = k
    · rw [if_pos hk] at e ⊢
      cases e
      exact ⟨_, rfl, h⟩
    · rw [if_neg hk] at e ⊢
      exact dget_den (by simpa using hl) l e
  | _ :: _, [], _, _, _, .nil, e => by cases e
theorem drep_den {k : Key} {x : D} {u : V} (hx : Den G r F H x u) : ∀ {ks : List Key} {ds : List D} {vs : List V}, DenL G r F H ds vs → DenL G r F H (drep k x ks ds) (drep k u ks vs)
  | [], _, _, .nil => .nil
  | [], _, _, .cons h l => .cons h l
  | _ :: _, _, _, .nil => .nil
  | k' :: ks, _, _, .cons h l => by
    unfold drep
    by_cases hk : k' = k
    · rw [if_pos hk, if_pos hk]; exact .cons hx (drep_den hx l)
    · rw [if_neg hk, if_neg hk]; exact .cons h (drep_den hx l)
theorem dput_den {k : Key} {x : D} {u : V} (hx : Den G r F H x u) {ks : List Key} {ds : List D} {vs : List V} (l : DenL G r F H ds vs) : DenL G r F H (dputV k x ks ds) (dputV k u ks vs) := by
  unfold dputV
  by_cases h : dhas k ks = true
  · rw [if_pos h, if_pos h]; exact drep_den hx l
  · rw [if_neg h, if_neg h]; exact l.app (.cons hx .nil)
end
/-- what a dict holds at a key -/
def oDic : Option O → Option (List Key × List D)
  | some (.dic ks vs) => some (ks, vs)
  | _ => none
theorem oDic_some {o : Option O} {p : List Key × List D} (e : oDic o = some p) : o = some (.dic p.1 p.2) := by
  cases o with
  | none => cases e
  | some o => cases o with
    | dic ks vs => cases e; rfl
    | _ => cases e
def dicD (h : MH) : D → Option (List Key × List D)
  | .dic ks vs => some (ks, vs)
  | .ref k => oDic h[k]?
  | _ => none
def atKeyD (h : MH) (x y : D) : Option D := (dicD h x).bind fun p => (keyD y).bind fun k => dget k p.1 p.2
def oDGet : D → D → MH → Res D := fun x y h => optR (atKeyD h x y) h
theorem dic_den {G : Ev} {r F : List Addr} {H : Hp} {h : MH} {x : D} {v : V} {p : List Key × List D} (g : GoodH G r F h H) (hx : Den G r F H x v) (e : dicD h x = some p) : ∃ a vs, v = .ref a ∧ H a = some (.dK (p.1.zip vs)) ∧ p.1.length = vs.length ∧ DenL G r F H p.2 vs := by
  cases hx with
  | dic hq hn hl hd => cases e; exact ⟨_, _, rfl, hq, hl, hd⟩
  | ref hk =>
    have e := oDic_some e
    obtain ⟨a', ea, vs, h1, h2, h3⟩ := g.ob _ _ e
    rw [hk] at ea; cases ea
    exact ⟨_, _, rfl, h1, h2, h3⟩
  | _ => cases e
section
variable {X : Cx} {W : WX} {pos : Pos} {o i e : Expr} {es : List Expr} {fo fi fv : Mo D} {fl : Mo (List D)}
theorem de_dget {k : Nat} (hr : Room k X.A) (ho : PE X o (tE (evOf X) W fo)) (hi : PE X i (tE (evOf X) W fi)) (hs : NoSl i) : PE X (.Subscript o i pos) (tE (evOf X) W (mOp oDGet fo fi)) :=
  (pe_dget (by have := hr.un; omega) ho hi hs).imp fun σ H Q ⟨r, F, sl, h, s, g, q⟩ => by
    refine tE.of s g (q.bind.imp fun r1 H1 x h1 e1 g1 q1 v hv => ?_)
    refine tE.of (s.mono g.mine e1) g1 (q1.bind.imp fun r2 H2 y h2 e2 g2 q2 u hu => ?_)
    obtain ⟨d, e, qq⟩ := optR_ok (show Aft (evOf X) W F σ r2 H2 (optR (atKeyD h2 x y) h2) _ from q2)
    unfold atKeyD at e
    cases hd : dicD h2 x with
    | none => rw [hd] at e; cases e
    | some p =>
      rw [hd] at e
      have e : ((keyD y).bind fun k => dget k p.1 p.2) = some d := e
      cases hk : keyD y with
      | none => rw [hk] at e; cases e
      | some k =>
        rw [hk] at e
        have e : dget k p.1 p.2 = some d := e
        obtain ⟨a, vs, rfl, h3, h4, h5⟩ := dic_den g2 (Den.mono g1.mine e2 _ _ hv) hd
        have ek := key_den hk hu
        subst ek
        obtain ⟨w', h6, h7⟩ := dget_den h4 h5 e
        exact ⟨a, w', rfl, by rw [← h6, ← valV_dget k h4]; exact DGet.k h3, qq.here g2 _ h7⟩

/-- d[y] = v of a dict of ours -/
def dSet (h : MH) (x y v : D) : Option MH := match x with
  | .ref k => (oDic h[k]?).bind fun p => (keyD y).bind fun key => if p.1.length < lim then some (h.set k (.dic (dputK key p.1) (dputV key v p.1 p.2))) else none
  | _ => none
def sDSet (fo fi fv : Mo D) : Ms := fun sl h => bindS sl (fv sl h) fun v h1 => bindS sl (fo sl h1) fun x h2 => bindS sl (fi sl h2) fun y h3 => match dSet h3 x y v with
  | some h4 => .nx sl h4
  | none => .bad
theorem dSet_ok {G : Ev} {r F : List Addr} {H : Hp} {h h' : MH} {x y v : D} {vx vy vv : V} (g : GoodH G r F h H) (hx : Den G r F H x vx) (hy : Den G r F H y vy) (hv : Den G r F H v vv) (e : dSet h x y v = some h') :
    ∃ a H', vx = .ref a ∧ DPut H a vy vv H' ∧ Ext r H r H' ∧ GoodH G r F h' H' := by
  cases hx with
  | ref hk =>
    rename_i k a
    have e : ((oDic h[k]?).bind fun p => (keyD y).bind fun key => if p.1.length < lim then some (h.set k (.dic (dputK key p.1) (dputV key v p.1 p.2))) else none) = some h' := e
    cases hp : oDic h[k]? with
    | none => rw [hp] at e; cases e
    | some p =>
      rw [hp] at e
      have e : ((keyD y).bind fun key => if p.1.length < lim then some (h.set k (.dic (dputK key p.1) (dputV key v p.1 p.2))) else none) = some h' := e
      cases hkey : keyD y with
      | none => rw [hkey] at e; cases e
      | some key =>
        rw [hkey] at e
        have e : (if p.1.length < lim then some (h.set k (.dic (dputK key p.1) (dputV key v p.1 p.2))) else none) = some h' := e
        by_cases z : p.1.length < lim
        · rw [if_pos z] at e
          cases e
          obtain ⟨a', ea, vs, h1, h2, h3⟩ := g.ob k _ (oDic_some hp)
          rw [hk] at ea; cases ea
          have ek := key_den hkey hy
          subst ek
          have ha : a ∈ r := List.mem_of_getElem? hk
          refine ⟨a, upd H a (.dK (putK (p.1.zip vs) key vv)), rfl, DPut.k h1 (by rw [List.length_zip, ← h2, Nat.min_self]; exact lim_lt z), Ext.upd ha, g.set hk trivial ?_⟩
          exact ⟨dputV key vv p.1 vs, by rw [upd_same, put_zip key vv h2], dput_len key vv h2, DenL.mono g.mine (Ext.upd ha) _ _ (dput_den hv h3)⟩
        · rw [if_neg z] at e; cases e
  | _ => cases e
theorem ds_dset {k : Nat} {pos' : Pos} (hr : Room k X.A) (ho : PE X o (tE (evOf X) W fo)) (hi : PE X i (tE (evOf X) W fi)) (hv : PE X e (tE (evOf X) W fv)) (hs : swapsWith e (some (.Subscript o i pos')) pos.line X.env = pure false := by rfl) :
    PS X (.Assign [.Subscript o i pos'] e pos) (tS (evOf X) W (sDSet fo fi fv)) :=
  (ps_dput (by have := hr.un; omega) ho hi hv hs).imp fun E σ H ⟨r, F, sl, h, s, g, q⟩ => by
    refine tE.of s g ((q.bindS s g).imp fun r1 H1 v h1 e1 g1 q1 vv hvv => ?_)
    have s1 := s.mono g.mine e1
    refine tE.of s1 g1 ((q1.bindS s1 g1).imp fun r2 H2 x h2 e2 g2 q2 vx hvx => ?_)
    have s2 := s1.mono g1.mine e2
    refine tE.of s2 g2 ((q2.bindS s2 g2).imp fun r3 H3 y h3 e3 g3 q3 vy hvy => ?_)
    have q3 : SAft (evOf X) W F r3 H3 (match dSet h3 x y v with
      | some h4 => .nx sl h4
      | none => .bad) E := q3
    cases hd : dSet h3 x y v with
    | none => rw [hd] at q3; exact False.elim q3
    | some h4 =>
      rw [hd] at q3
      obtain ⟨a, H', ea, hput, ee, g4⟩ := dSet_ok g3 (Den.mono g2.mine e3 _ _ hvx) hvy (Den.mono g2.mine e3 _ _ (Den.mono g1.mine e2 _ _ hvv)) hd
      exact ⟨a, H', ea, hput, q3 r3 H' σ ee g4 ((s2.mono g2.mine e3).mono g3.mine ee)⟩

/-! ### xs[i] = v of a list of ours -/
def lSet (h : MH) (x y v : D) : Option MH := match x, y with
  | .ref k, .int i => (oLst h[k]?).bind fun xs => (ixN xs.length i).map fun j => h.set k (.lst (xs.set j v))
  | _, _ => none
def sLSet (fo fi fv : Mo D) : Ms := fun sl h => bindS sl (fv sl h) fun v h1 => bindS sl (fo sl h1) fun x h2 => bindS sl (fi sl h2) fun y h3 => match lSet h3 x y v with
  | some h4 => .nx sl h4
  | none => .bad
theorem DenL.set {G : Ev} {r F : List Addr} {H : Hp} {d : D} {v : V} (hd : Den G r F H d v) : ∀ {ds : List D} {vs : List V} (j : Nat), DenL G r F H ds vs → DenL G r F H (ds.set j d) (vs.set j v)
  | _, _, _, .nil => .nil
  | _, _, 0, .cons _ l => .cons hd l
  | _, _, j + 1, .cons h l => .cons h (DenL.set hd j l)
theorem lSet_ok {G : Ev} {r F : List Addr} {H : Hp} {h h' : MH} {x y v : D} {vx vy vv : V} (g : GoodH G r F h H) (hx : Den G r F H x vx) (hy : Den G r F H y vy) (hv : Den G r F H v vv) (e : lSet h x y v = some h') :
    ∃ p xs k j, vx = .ref p ∧ vy = .int k ∧ H p = some (.lst xs) ∧ ixN xs.length k = some j ∧ Ext r H r (upd H p (.lst (xs.set j vv))) ∧ GoodH G r F h' (upd H p (.lst (xs.set j vv))) := by
  cases hx with
  | ref hk =>
    rename_i k a
    cases hy with
    | int i =>
      have e : ((oLst h[k]?).bind fun xs => (ixN xs.length i).map fun j => h.set k (.lst (xs.set j v))) = some h' := e
      cases hp : oLst h[k]? with
      | none => rw [hp] at e; cases e
      | some xs =>
        rw [hp] at e
        have e : ((ixN xs.length i).map fun j => h.set k (.lst (xs.set j v))) = some h' := e
        cases hj : ixN xs.length i with
        | none => rw [hj] at e; cases e
        | some j =>
          rw [hj] at e
          cases e
          obtain ⟨a', ea, vs, h1, h2⟩ := g.ob k _ (oLst_some hp)
          rw [hk] at ea; cases ea
          have ha : a ∈ r := List.mem_of_getElem? hk
          refine ⟨a, vs, i, j, rfl, rfl, h1, by rw [← h2.len]; exact hj, Ext.upd ha, g.set hk trivial ⟨_, upd_same, DenL.mono g.mine (Ext.upd ha) _ _ (DenL.set hv j h2)⟩⟩
    | _ => cases e
  | _ => cases e
theorem ds_lset {pos' : Pos} (hs0 : ∀ v, assign (.Subscript o i pos') X.env v = (do
      let ov ← holding [v] (eval o X.env)
      let iv ← holding [v, ov] (eval i X.env)
      standAt pos'
      holding [v, ov, iv] (setItem ov iv v)
      release [v, ov, iv] []) := by intro _; rfl) (ho : PE X o (tE (evOf X) W fo)) (hi : PE X i (tE (evOf X) W fi)) (hv : PE X e (tE (evOf X) W fv)) (hs : swapsWithSole [.Subscript o i pos'] e pos.line X.env = pure false := by rfl) (hw : swappedStores [.Subscript o i pos'] e X.env = pure none := by rfl)
    (h1 : (assignEach [.Subscript o i pos'] X.env).map (·.2) = [assign (.Subscript o i pos') X.env] := by rfl) :
    PS X (.Assign [.Subscript o i pos'] e pos) (tS (evOf X) W (sLSet fo fi fv)) :=
  (ps_asg hv (pg_sub ho hi set_list hs0) hs hw h1).imp fun E σ H ⟨r, F, sl, h, s, g, q⟩ => by
    refine tE.of s g ((q.bindS s g).imp fun r1 H1 v h1 e1 g1 q1 vv hvv => ?_)
    have s1 := s.mono g.mine e1
    refine tE.of s1 g1 ((q1.bindS s1 g1).imp fun r2 H2 x h2 e2 g2 q2 vx hvx => ?_)
    have s2 := s1.mono g1.mine e2
    refine tE.of s2 g2 ((q2.bindS s2 g2).imp fun r3 H3 y h3 e3 g3 q3 vy hvy => ?_)
    have q3 : SAft (evOf X) W F r3 H3 (match lSet h3 x y v with
      | some h4 => .nx sl h4
      | none => .bad) E := q3
    cases hd : lSet h3 x y v with
    | none => rw [hd] at q3; exact False.elim q3
    | some h4 =>
      rw [hd] at q3
      obtain ⟨p, xs, k, j, e1', e2', hp, hj, ee, g4⟩ := lSet_ok g3 (Den.mono g2.mine e3 _ _ hvx) hvy (Den.mono g2.mine e3 _ _ (Den.mono g1.mine e2 _ _ hvv)) hd
      exact ⟨p, xs, k, j, e1', e2', hp, hj, q3 r3 _ σ ee g4 ((s2.mono g2.mine e3).mono g3.mine ee)⟩

/-! ### a dict display -/
def mPairs : List (Mo D × Mo D) → Mo (List (Key × D))
  | [], _, h => .ok [] h
  | (fk, fv) :: ps, sl, h => bindR (fk sl h) fun x h1 => bindR (fv sl h1) fun y h2 => match keyD x with
    | some k => bindR (mPairs ps sl h2) fun rest h3 => .ok ((k, y) :: rest) h3
    | none => .bad
def mergeD : List (Key × D) → List Key → List D → List Key × List D
  | [], ks, vs => (ks, vs)
  | (k, d) :: ps, ks, vs => mergeD ps (dputK k ks) (dputV k d ks vs)
/-- a dict that is never changed -/
def mDic (ps : List (Mo D × Mo D)) : Mo D := mBind (mPairs ps) fun kds => fun _ h => if kds.length ≤ 15 then .ok (.dic (mergeD kds [] []).1 (mergeD kds [] []).2) h else .bad
/-- a dict that will change -/
def mNewD (ps : List (Mo D × Mo D)) : Mo D := mBind (mPairs ps) fun kds => fun _ h => if kds.length ≤ 15 then .ok (.ref h.length) (h ++ [.dic (mergeD kds [] []).1 (mergeD kds [] []).2]) else .bad
end
/-- the pairs by values -/
inductive DenP (G : Ev) (r F : List Addr) (H : Hp) : List (Key × D) → List (Key × V) → Prop where
  | nil : DenP G r F H [] []
  | cons {k : Key} {d : D} {v : V} {ps : List (Key × D)} {qs : List (Key × V)} : Den G r F H d v → DenP G r F H ps qs → DenP G r F H ((k, d) :: ps) ((k, v) :: qs)
section
variable {G : Ev} {r r' F : List Addr} {H H' : Hp}
theorem DenP.mono (m : Mine r H) (e : Ext r H r' H') : ∀ {ps : List (Key × D)} {qs : List (Key × V)}, DenP G r F H ps qs → DenP G r' F H' ps qs
  | _, _, .nil => .nil
  | _, _, .cons h t => .cons (Den.mono m e _ _ h) (DenP.mono m e t)
theorem DenP.len : ∀ {ps : List (Key × D)} {qs : List (Key × V)}, DenP G r F H ps qs → ps.length = qs.length
  | _, _, .nil => rfl
  | _, _, .cons _ t => by simp [DenP.len t]
theorem merge_den : ∀ {ps : List (Key × D)} {qs : List (Key × V)} {ks : List Key} {ds : List D} {vs : List V}, DenP G r F H ps qs → ks.length = vs.length → DenL G r F H ds vs →
    ∃ us, mergeK (ks.zip vs) qs = (mergeD ps ks ds).1.zip us ∧ (mergeD ps ks ds).1.length = us.length ∧ DenL G r F H (mergeD ps ks ds).2 us
  | [], _, ks, ds, vs, .nil, e, l => ⟨vs, rfl, e, l⟩
  | (k, d) :: ps, _, ks, ds, vs, .cons (v := v) (qs := qs) h t, e, l => by
    show ∃ us, mergeK (putK (ks.zip vs) k v) qs = _ ∧ _
    rw [put_zip k v e]
    exact merge_den t (dput_len k v e) (dput_den h l)
end
section
variable {X : Cx} {W : WX} {pos : Pos}
abbrev trsOf (X : Cx) (W : WX) (ps : List (Mo D × Mo D)) : List (TE × TE) := ps.map fun p => (tE (evOf X) W p.1, tE (evOf X) W p.2)
/-- base r0, H0, where D0 was not yet there -/
theorem pairs_run {G : Ev} {W : WX} {F r0 : List Addr} {H0 : Hp} {σ : L2.St} {D0 : Addr} {sl : Sl} (hD : H0 D0 = none) {β : Type} {QB : List Addr → Hp → β → MH → Prop} : ∀ (ps : List (Mo D × Mo D)) (r1 : List Addr) (H1 : Hp) (h1 : MH) (Q : List (V × V) → Hp → Prop),
    Ext r0 H0 r1 H1 → GoodH G r1 (D0 :: F) h1 H1 → SlR G r1 (D0 :: F) H1 sl σ → ∀ (k : List (Key × D) → MH → Res β), Aft G W F σ r0 H0 (bindR (mPairs ps sl h1) k) QB →
    (∀ r2 H2 kds h2 qs, Ext r0 H0 r2 H2 → Ext r1 H1 r2 H2 → GoodH G r2 (D0 :: F) h2 H2 → DenP G r2 (D0 :: F) H2 kds qs → Aft G W F σ r0 H0 (k kds h2) QB → Q (qs.map fun kv => (kV kv.1, kv.2)) H2) →
    tPairs (ps.map fun p => (tE G W p.1, tE G W p.2)) σ H1 Q
  | [], r1, H1, h1, Q, e, g, s, k, q, f => f r1 H1 [] h1 [] e .refl g .nil q
  | (fk, fv) :: ps, r1, H1, h1, Q, e, g, s, k, q, f => by
    have cast : ∀ {α : Type} (R : Res α) (kk : α → MH → Res β) (r : List Addr) (H : Hp), Ext r0 H0 r H → Mine r H → Aft G W F σ r0 H0 (bindR R kk) QB → Aft G W (D0 :: F) σ r H R (fun _ _ x h' => Aft G W F σ r0 H0 (kk x h') QB) := by
      intro α R kk r H er mr a
      cases R with
      | ok x h' => exact fun _ _ _ _ => a
      | exc c x h' => exact fun r' H' cls y e' g' hx => a r' H' cls y (er.trans mr e') g'.dropF (by
          obtain ⟨C, c1, c2, c3⟩ := hx
          refine ⟨C, c1, c2, ?_⟩
          cases x with
          | none => exact c3
          | some p =>
            obtain ⟨dx, v, b1, b2, b3⟩ := c3
            exact ⟨dx, v, b1, b2, Den.dropF g'.mine b3⟩)
      | bad => exact a
    have q0 : Aft G W F σ r0 H0 (bindR (fk sl h1) fun x h1 => bindR (fv sl h1) fun y h2 => match keyD x with
      | some k' => bindR (mPairs ps sl h2) fun rest h3 => k ((k', y) :: rest) h3
      | none => .bad) QB := by
      have e1 : bindR (mPairs ((fk, fv) :: ps) sl h1) k = bindR (fk sl h1) fun x h1 => bindR (fv sl h1) fun y h2 => match keyD x with
        | some k' => bindR (mPairs ps sl h2) fun rest h3 => k ((k', y) :: rest) h3
        | none => .bad := by
        have eM : mPairs ((fk, fv) :: ps) sl h1 = bindR (fk sl h1) fun x h1 => bindR (fv sl h1) fun y h2 => match keyD x with
          | some k => bindR (mPairs ps sl h2) fun rest h3 => .ok ((k, y) :: rest) h3
          | none => .bad := rfl
        rw [eM]
        generalize mPairs ps = M
        cases fk sl h1 with
        | ok x h2 =>
          show bindR (bindR (fv sl h2) _) k = bindR (fv sl h2) _
          cases fv sl h2 with
          | ok y h3 =>
            show bindR (match keyD x with | some k' => _ | none => _) k = (match keyD x with | some k' => _ | none => _)
            cases keyD x with
            | none => rfl
            | some k' =>
              show bindR (bindR (M sl h3) _) k = bindR (M sl h3) _
              cases M sl h3 <;> rfl
          | exc c a h' => rfl
          | bad => rfl
        | exc c a h' => rfl
        | bad => rfl
      rw [← e1]; exact q
    show tE G W fk σ H1 fun x H1 => tE G W fv σ H1 fun y H2 => tPairs (ps.map fun p => (tE G W p.1, tE G W p.2)) σ H2 fun qs H3 => Q ((x, y) :: qs) H3
    refine tE.of s g ((cast _ _ r1 H1 e g.mine q0).imp fun r2 H2 x h2 e2 g2 q2 vx hvx => ?_)
    have ee2 := e.trans g.mine e2
    have s2 := s.mono g.mine e2
    refine tE.of s2 g2 ((cast _ _ r2 H2 ee2 g2.mine q2).imp fun r3 H3 y h3 e3 g3 q3 vy hvy => ?_)
    have ee3 := ee2.trans g2.mine e3
    have q3 : Aft G W F σ r0 H0 (match keyD x with
      | some k' => bindR (mPairs ps sl h3) fun rest h3 => k ((k', y) :: rest) h3
      | none => .bad) QB := q3
    cases hk : keyD x with
    | none => rw [hk] at q3; exact False.elim q3
    | some k' =>
      rw [hk] at q3
      have ek := key_den hk hvx
      subst ek
      refine pairs_run hD ps r3 H3 h3 _ ee3 g3 (s2.mono g2.mine e3) _ q3 fun r4 H4 kds h4 qs e4 e5 g4 p4 q4 => ?_
      exact f r4 H4 ((k', y) :: kds) h4 ((k', vy) :: qs) e4 ((e2.trans g2.mine e3).trans g3.mine e5) g4 (.cons (Den.mono g3.mine e5 _ _ hvy) p4) q4
theorem disp_run {G : Ev} {r F : List Addr} {H : Hp} {h : MH} {σ : L2.St} {sl : Sl} {Q : VK} {ps : List (Mo D × Mo D)} {k : List (Key × D) → MH → Res D} (s : SlR G r F H sl σ) (g : GoodH G r F h H)
    (q : Aft G W F σ r H (bindR (mPairs ps sl h) fun kds h1 => if kds.length ≤ 15 then k kds h1 else .bad) fun r' H' d _ => ∀ v, Den G r' F H' d v → Q v H')
    (hk : ∀ p r2 H2 kds h2 us, H p = none → p ∉ F → Ext r H r2 H2 → GoodH G r2 (p :: F) h2 H2 → H2 p = some (.dK ((mergeD kds [] []).1.zip us)) → (mergeD kds [] []).1.length = us.length → DenL G r2 (p :: F) H2 (mergeD kds [] []).2 us →
      Aft G W F σ r H (k kds h2) (fun r' H' d _ => ∀ v, Den G r' F H' d v → Q v H') → Q (.ref p) H2) : tDisp (ps.map fun p => (tE G W p.1, tE G W p.2)) σ H Q := by
  intro p hp
  have fo : Foe F H (p :: F) := fun a ha => by
    rcases List.mem_cons.mp ha with e | e
    · exact .inr (by rw [e]; exact .inl hp)
    · exact .inl e
  have sm : Same H (upd H p (.dK [])) := same_new hp
  have s' : SlR G r (p :: F) (upd H p (.dK [])) sl σ := ⟨s.1, fun j d hd => let ⟨v, a1, a2⟩ := s.2 j d hd; ⟨v, a1, Den.monoF g.mine (.same sm) fo _ _ a2⟩⟩
  refine pairs_run (F := F) (D0 := p) hp ps r _ h _ (.same sm) (g.newF hp trivial) s' _ q fun r2 H2 kds h2 qs e1 e2 g2 dp q2 => ?_
  have hp2 : H2 p = some (.dK []) := e2.keep _ _ upd_same (fun hm => (g.fresh hp).1 hm)
  by_cases z : kds.length ≤ 15
  · rw [if_pos z] at q2
    refine ⟨hp2, qs, rfl, by rw [← dp.len]; exact z, ?_⟩
    obtain ⟨us, m1, m2, m3⟩ := merge_den (ks := []) (ds := []) (vs := []) dp rfl .nil
    have m1 : mergeK [] qs = _ := m1
    rw [m1]
    have hm : p ∈ p :: F := List.mem_cons_self
    refine hk p r2 _ kds h2 us hp (g.fresh hp).2 ⟨e1.pre, fun a o ha hr ht => ?_⟩ (g2.updF hp2 trivial trivial hm) upd_same m2 (DenL.updF hp2 trivial hm _ _ m3) q2
    rw [upd_ne (ne_of_none ha hp)]
    exact e1.keep a o ha hr ht
  · rw [if_neg z] at q2; exact False.elim q2
theorem de_dic {keys : List (Option Expr)} {values : List Expr} {ps : List (Mo D × Mo D)} (h : PPs X pos keys values (trsOf X W ps)) (hall : keys.all (·.isSome) = true := by rfl) (hl : keys.length = values.length := by rfl) (h0 : keys ≠ [] := by intro z; cases z)
    (h15 : keys.length ≤ 15 := by decide) : PE X (.Dict keys values pos) (tE (evOf X) W (mDic ps)) :=
  (pe_disp h hall hl h0 h15).imp fun σ H Q ⟨r, F, sl, h, s, g, q⟩ => disp_run s g q fun p r2 H2 kds h2 us hp hF e g2 hp2 m2 m3 q2 =>
    q2 r2 H2 e g2.dropF _ (.dic hp2 ⟨(g2.fd p List.mem_cons_self).2, hF⟩ m2 (DenL.dropF g2.mine m3))
theorem de_newD {keys : List (Option Expr)} {values : List Expr} {ps : List (Mo D × Mo D)} (h : PPs X pos keys values (trsOf X W ps)) (hall : keys.all (·.isSome) = true := by rfl) (hl : keys.length = values.length := by rfl) (h0 : keys ≠ [] := by intro z; cases z)
    (h15 : keys.length ≤ 15 := by decide) : PE X (.Dict keys values pos) (tE (evOf X) W (mNewD ps)) :=
  (pe_disp h hall hl h0 h15).imp fun σ H Q ⟨r, F, sl, h, s, g, q⟩ => disp_run s g q fun p r2 H2 kds h2 us hp hF e g2 hp2 m2 m3 q2 => by
    have g3 := g2.adopt (o := .dic (mergeD kds [] []).1 (mergeD kds [] []).2) hF ⟨us, hp2, m2, DenL.re adopt_hp adopt_hr _ _ m3⟩
    refine q2 (r2 ++ [p]) H2 ?_ g3 _ (.ref ?_)
    · obtain ⟨d, e1, f1⟩ := e.pre
      refine ⟨⟨d ++ [p], by rw [e1, List.append_assoc], fun a ha => ?_⟩, e.keep0⟩
      rcases List.mem_append.mp ha with ha | ha
      · exact f1 a ha
      · simp at ha
        rw [ha]; exact ⟨.inl hp, (g.fresh hp).1⟩
    · rw [← g2.len, List.getElem?_append_right (Nat.le_refl _)]
      simp
theorem dp_nil : PPs X pos [] [] (trsOf X W []) := pps_nil
theorem dp_cons {k v : Expr} {ks : List (Option Expr)} {vs : List Expr} {fk fv : Mo D} {ps : List (Mo D × Mo D)} (hk : PE X k (tE (evOf X) W fk)) (hv : PE X v (tE (evOf X) W fv)) (hr : PPs X pos ks vs (trsOf X W ps)) :
    PPs X pos (some k :: ks) (v :: vs) (trsOf X W ((fk, fv) :: ps)) := pps_cons hk hv hr
/-- {} that will change -/
def mNewD0 : Mo D := fun _ h => .ok (.ref h.length) (h ++ [.dic [] []])
theorem de_newD0 : PE X (.Dict [] [] pos) (tE (evOf X) W mNewD0) := pe_dnewK.imp fun σ H Q ⟨r, F, sl, h, s, g, q⟩ => fun p hp => by
  refine q (r ++ [p]) _ (grow_ext hp (g.fresh hp).1 (same_new hp)) (g.grow hp (same_new hp) ⟨[], upd_same, rfl, .nil⟩) _ (.ref ?_)
  rw [← g.len, List.getElem?_append_right (Nat.le_refl _)]
  simp
end
end CH

/-! CH9: methods of built-in types, calls of values. -/
namespace CH
open PySem PySem.Spec PyProof.Rows L2

/-! ### methods of built-in types -/
def isStr : D → Bool
  | .str _ => true
  | _ => false
def isLst (h : MH) : D → Bool
  | .lst _ => true
  | .ref k => (oLst h[k]?).isSome
  | _ => false
def RcS (G : Ev) (T : String) (rc : MH → D → Bool) : Prop := ∀ (r F : List Addr) (H : Hp) (h : MH) (x : D) (v : V), GoodH G r F h H → Den G r F H x v → rc h x = true → tyV G.K T v H
def MtS (G : Ev) (rr : V → List V → Hp → VK → Prop) (g : D → List D → MH → Res D) : Prop := ∀ (W : WX) (σ : L2.St) (r F : List Addr) (H : Hp) (h : MH) (x : D) (v : V) (ds : List D) (vs : List V) (Q : VK), GoodH G r F h H → Den G r F H x v → DenL G r F H ds vs →
  Aft G W F σ r H (g x ds h) (fun r' H' d _ => ∀ z, Den G r' F H' d z → Q z H') → rr v vs H Q
def mMt (rc : MH → D → Bool) (g : D → List D → MH → Res D) (fo : Mo D) (fl : Mo (List D)) : Mo D := mBind fo fun x => fun sl h => if rc h x = true then bindR (fl sl h) fun ds h1 => g x ds h1 else .bad
theorem rc_str {G : Ev} : RcS G "str" (fun _ => isStr) := fun r F H h x v g hx e => by
  cases hx <;> first | rfl | cases e
theorem rc_lst {G : Ev} : RcS G "list" isLst := fun r F H h x v g hx e => by
  cases hx with
  | lst hq hn hl => exact .inl ⟨rfl, _, SqL.of hq⟩
  | ref hk =>
    have e : (oLst h[_]?).isSome = true := e
    obtain ⟨xs, ex⟩ := Option.isSome_iff_exists.mp e
    obtain ⟨a', ea, vs, h1, h2⟩ := g.ob _ _ (oLst_some ex)
    rw [hk] at ea; cases ea
    exact .inl ⟨rfl, _, SqL.of h1⟩
  | _ => cases e
section
variable {X : Cx} {W : WX} {o e : Expr} {es : List Expr} {fo : Mo D} {fl : Mo (List D)} {name : Str} {apos cpos : Pos} {T id : String} {rr : V → List V → Hp → VK → Prop} {g : D → List D → MH → Res D} {rc : MH → D → Bool}
theorem de_bm (pa : PlainAttrs T) (slot : Slot T name id) (hty : typeOf (.builtin id) = pure (.type "method_descriptor")) (hm : MtR X id rr) (hs : MtS (evOf X) rr g) (hrc : RcS (evOf X) T rc) (ho : PE X o (tE (evOf X) W fo)) (ha : PA X (e :: es) (tA (evOf X) W fl))
    (hbase : attributeBase o name X.env (eval o X.env) = eval o X.env := by rfl)
    (hfew : ((backTo cpos (starEach (e :: es) X.env)).all (fun x => !x.1) && (backToKw cpos (keywordEach [] X.env)).all (fun x => x.1.isSome)
      && decide ((e :: es).length + ([] : List Keyword).length + (if ([] : List Keyword).isEmpty then 0 else 1) < 30)) = true := by rfl)
    (hline : (apos.endLine == cpos.line) = true := by rfl) (hst : starEach (e :: es) X.env = (false, eval e X.env) :: starEach es X.env := by rfl) (hplain : (backTo cpos (starEach es X.env)).any (·.1) = false := by rfl) :
    PE X (.Call (.Attribute o name apos) (e :: es) [] cpos) (tE (evOf X) W (mMt rc g fo fl)) :=
  (pe_bm pa slot hty hm ho ha hbase hfew hline hst hplain).imp fun σ H Q ⟨r, F, sl, h, s, gd, q⟩ => by
    refine tE.of s gd (q.bind.imp fun r1 H1 x h1 e1 g1 q1 v hv => ?_)
    have q1 : Aft (evOf X) W F σ r1 H1 (if rc h1 x = true then bindR (fl sl h1) fun ds h2 => g x ds h2 else .bad) _ := q1
    by_cases z : rc h1 x = true
    · rw [if_pos z] at q1
      refine ⟨hrc _ _ _ _ _ _ g1 hv z, tA.of (s.mono gd.mine e1) g1 (q1.bind.imp fun r2 H2 ds h2 e2 g2 q2 vs hvs => ?_)⟩
      exact hs W σ r2 F H2 h2 x v ds vs Q g2 (Den.mono g1.mine e2 _ _ hv) hvs q2
    · rw [if_neg z] at q1; exact False.elim q1
end
def gEnds : D → List D → MH → Res D := fun x ds h => match x, ds with
  | .str a, [.str b] => .ok (.bl (Txt.endswith a b)) h
  | _, _ => .bad
theorem mts_ends {G : Ev} : MtS G (fun x xs H Q => ∃ a b, x = .str a ∧ xs = [.str b] ∧ Q (.bl (Txt.endswith a b)) H) gEnds := fun W σ r F H h x v ds vs Q g hx hd q => by
  cases hx with
  | str a =>
    match ds, hd with
    | [], _ => exact False.elim q
    | d :: _ :: _, _ => cases d <;> exact False.elim q
    | [d], .cons hy .nil =>
      cases hy with
      | str b => exact ⟨a, b, rfl, rfl, q.here g _ (.bl _)⟩
      | _ => exact False.elim q
  | _ => exact False.elim q

/-! ### a call of a value -/
/-- the defs that may be called so -/
abbrev VTab := List (Str × Nat × Fn)
def vFn (tab : VTab) : D → Option (Nat × Fn)
  | .gl x => tab.lookup x
  | _ => none
def mCallV (tab : VTab) (fe : Mo D) (fl : Mo (List D)) : Mo D := mBind fe fun d => match vFn tab d with
  | some p => mBind fl fun ds => fun _ h => ckN p.1 p.2 ds h
  | none => fun _ _ => .bad
section
variable {X : Cx} {W : WX} {e fe : Expr} {es : List Expr} {ff : Mo D} {fl : Mo (List D)} {pos : Pos} {tab : VTab} {k : Nat}
def VTabOk (X : Cx) (k : Nat) (tab : VTab) : Prop := ∀ x p, tab.lookup x = some p → ∃ (f : Addr) (ps : List Str), X.mg x = some (.ref f) ∧ ps.length = p.1 ∧ FT X.prog X.w X.K X.mg X.base k ps p.2 f
/-- fe(e, ..) where fe is itself a call -/
theorem de_callV (T : VTabOk X k tab) (hr : Room k X.A) (tk : Takes X W) (hf : PE X fe (tE (evOf X) W ff)) (ha : PA X (e :: es) (tA (evOf X) W fl))
    (ht : eval (.Call fe (e :: es) [] pos) X.env = (do
      let v ← eval fe X.env
      callWith pos v [] (backTo pos (starEach (e :: es) X.env)) (backToKw pos (keywordEach [] X.env))) := by rfl)
    (he : starEach (e :: es) X.env = (false, eval e X.env) :: starEach es X.env := by rfl) (hpl : (backTo pos (starEach es X.env)).any (·.1) = false := by rfl) :
    PE X (.Call fe (e :: es) [] pos) (tE (evOf X) W (mCallV tab ff fl)) := by
  refine ⟨fun pins s σ H Q I ⟨r, F, sl, h, s', g, q⟩ => ?_⟩
  rw [ht]
  refine wpAny_bind (thn (hf.run pins s σ H (fun v H1 => ∃ r1 d h1, Ext r H r1 H1 ∧ GoodH (evOf X) r1 F h1 H1 ∧ Den (evOf X) r1 F H1 d v ∧ Aft (evOf X) W F σ r1 H1 ((match vFn tab d with
    | some p => mBind fl fun ds => fun _ h => ckN p.1 p.2 ds h
    | none => fun _ _ => .bad) sl h1) fun r' H' d _ => ∀ v, Den (evOf X) r' F H' d v → Q v H') I (tE.of s' g (q.bind.imp fun r1 H1 d h1 e1 g1 q1 v hv => ⟨r1, d, h1, e1, g1, hv, q1⟩))) fun u s1 ⟨v, H1, I1, rv, r1, d, h1, e1, g1, hd, q1⟩ => ?_)
  cases hv : vFn tab d with
  | none => rw [hv] at q1; exact False.elim q1
  | some p =>
    rw [hv] at q1
    cases hd with
    | gl hm =>
      rename_i x f
      obtain ⟨f', ps, hm', hl, t⟩ := T x p hv
      have hm : X.mg x = some (.ref f) := hm
      rw [hm] at hm'
      cases hm'
      obtain ⟨fd, b1, b2⟩ := t.ex
      obtain rfl : u = Value.ref f := rv
      refine PySem.W.callWith_K (h₀ := X.base) I1.ok.mod.kin t.kp (thn (ha.run pos pins s1 σ H1 _ I1 (tA.of (s'.mono g.mine e1) g1 (q1.bind.imp (Q' := fun r2 H2 ds h2 => ∀ vs, DenL (evOf X) r2 F H2 ds vs → spD (evOf X) ps.length p.2 vs H2 Q (WE W σ)) fun r2 H2 ds h2 e2 g2 q2 vs hvs => ?_))) fun us s2 ⟨vs, H2, I2, rr, q2⟩ => ⟨I2.kIn, ?_⟩) he hpl
      · exact ⟨r2, F, h2, ds, g2, hvs, by rw [hl]; exact q2⟩
      · exact run_fnS b1 hr b2.1 (passAt tk σ) I2 rr q2
    | _ => cases hv
end
end CH

/-! CHA: targets of any form, assignments of comprehensions. -/
namespace CH
open PySem PySem.Spec PyProof.Rows L2

/-- what takes a value -/
abbrev Tgt := D → Ms
def GAft (G : Ev) (F r : List Addr) (H : Hp) (R : SRes) (Q : L2.St → Hp → Prop) : Prop := match R with
  | .nx sl h' => ∀ r' H' σ', Ext r H r' H' → GoodH G r' F h' H' → SlR G r' F H' sl σ' → Q σ' H'
  | _ => False
def tG (G : Ev) (f : Tgt) : TG := fun v σ H Q => ∃ r F sl h d, SlR G r F H sl σ ∧ GoodH G r F h H ∧ Den G r F H d v ∧ GAft G F r H (f d sl h) Q
def runT : List Tgt → List D → Ms
  | [], [] => sSkip
  | f :: fs, d :: ds => fun sl h => seqR (f d sl h) (runT fs ds)
  | _, _ => sNever
def tGs (G : Ev) (fs : List Tgt) : TGs := fun vs σ H Q => ∃ r F sl h ds, SlR G r F H sl σ ∧ GoodH G r F h H ∧ DenL G r F H ds vs ∧ GAft G F r H (runT fs ds sl h) Q
def kName (i : Nat) : Tgt := fun d sl h => .nx (sl.set i (some d)) h
def kTup (fs : List Tgt) : Tgt := fun d sl h => match d with
  | .tup ds => if ds.length = fs.length then runT fs ds sl h else .bad
  | _ => .bad
def kDSub (fo fi : Mo D) : Tgt := fun v sl h => bindS sl (fo sl h) fun x h2 => bindS sl (fi sl h2) fun y h3 => match dSet h3 x y v with
  | some h4 => .nx sl h4
  | none => .bad
def kLSub (fo fi : Mo D) : Tgt := fun v sl h => bindS sl (fo sl h) fun x h2 => bindS sl (fi sl h2) fun y h3 => match lSet h3 x y v with
  | some h4 => .nx sl h4
  | none => .bad
def sAsg (f : Mo D) (k : Tgt) : Ms := fun sl h => bindS sl (f sl h) fun d h1 => k d sl h1
section
variable {G : Ev} {r r1 F : List Addr} {H H1 : Hp} {h h1 : MH} {W : WX} {σ : L2.St} {sl : Sl} {Q : L2.St → Hp → Prop}
theorem GAft.later {R : SRes} (a : GAft G F r H R Q) (e : Ext r H r1 H1) (g : GoodH G r1 F h1 H1) : GAft G F r1 H1 R Q := by
  cases R with
  | nx s h' => exact fun r' H' σ' e' g' => a r' H' σ' (e.trans g.mine e') g'
  | _ => exact a
theorem GAft.here (a : GAft G F r H (.nx sl h) Q) (s : SlR G r F H sl σ) (g : GoodH G r F h H) : Q σ H := a r H σ .refl g s
theorem GAft.seq {R : SRes} {k : Ms} (a : GAft G F r H (seqR R k) Q) : GAft G F r H R (fun σ' H' => ∃ r' sl' h', Ext r H r' H' ∧ GoodH G r' F h' H' ∧ SlR G r' F H' sl' σ' ∧ GAft G F r' H' (k sl' h') Q) := by
  cases R with
  | nx s h' => exact fun r' H' σ' e' g' s' => ⟨r', s, h', e', g', s', GAft.later (h1 := h') a e' g'⟩
  | _ => exact a
theorem GAft.bindS {α : Type} {R : Res α} {k : α → MH → SRes} (a : GAft G F r H (bindS sl R k) Q) : Aft G W F σ r H R (fun r1 H1 x h1 => GAft G F r1 H1 (k x h1) Q) := by
  cases R with
  | ok x h' =>
    intro r' H' e g'
    exact GAft.later (h1 := h') a e g'
  | exc c x h' => exact False.elim a
  | bad => exact False.elim a
theorem GAft.bind1 {α : Type} {R : Res α} {k : α → MH → SRes} (a : GAft G F r H (CH.bindS sl R k) Q) : Aft G W F σ r H R (fun r1 H1 x h1 => GAft G F r1 H1 (k x h1) Q) := GAft.bindS a
end
section
variable {X : Cx} {W : WX} {pos : Pos} {e o i : Expr} {es : List Expr} {f fo fi : Mo D} {k : Tgt} {ks : List Tgt}
theorem dg_name {j : Nat} {x : Str} (p : PG X (.Name x pos) (gName j)) : PG X (.Name x pos) (tG (evOf X) (kName j)) := ⟨fun pins s σ H v u Q I rv ⟨r, F, sl, h, d, hs, g, hd, q⟩ => p.run pins s σ H v u Q I rv (GAft.here q (hs.set hd) g)⟩
theorem dgs_nil : PGs X [] (tGs (evOf X) []) := ⟨fun pins s σ H vs us Q I rv ⟨r, F, sl, h, ds, hs, g, hd, q⟩ => by
  cases hd with
  | nil => exact pgs_nil.run pins s σ H _ us Q I rv ⟨rfl, GAft.here q hs g⟩
  | cons _ _ => exact False.elim q⟩
theorem dgs_cons (h1 : PG X e (tG (evOf X) k)) (h2 : PGs X es (tGs (evOf X) ks)) (hs : (assignEach (e :: es) X.env).map (·.2) = assign e X.env :: (assignEach es X.env).map (·.2) := by rfl) : PGs X (e :: es) (tGs (evOf X) (k :: ks)) :=
  ⟨fun pins s σ H vs us Q I rv ⟨r, F, sl, h, ds, hsl, g, hd, q⟩ => by
    cases hd with
    | nil => exact False.elim q
    | cons h3 h4 =>
      refine (pgs_cons h1 h2 hs).run pins s σ H _ us Q I rv ⟨_, _, rfl, r, F, sl, h, _, hsl, g, h3, ?_⟩
      have q' := GAft.seq q
      cases hR : k _ sl h with
      | nx s' h' =>
        rw [hR] at q'
        intro r' H' σ' e' g' s2
        obtain ⟨r2, sl2, h2', a1, a2, a3, a4⟩ := q' r' H' σ' e' g' s2
        have q2 : GAft (evOf X) F r H (seqR (k _ sl h) (runT ks _)) Q := q
        rw [hR] at q2
        exact ⟨r', F, s', h', _, s2, g', DenL.mono g.mine e' _ _ h4, GAft.later (h1 := h') q2 e' g'⟩
      | ct s' h' => rw [hR] at q'; exact q'
      | bk s' h' => rw [hR] at q'; exact q'
      | rt d h' => rw [hR] at q'; exact q'
      | exc c a s' h' => rw [hR] at q'; exact q'
      | bad => rw [hR] at q'; exact q'⟩
theorem dg_tup {n : Nat} {kk : Nat} (hc : X.calm = true) (h : PGs X es (tGs (evOf X) ks)) (hk : ks.length = n) (hn : (assignEach es X.env).length = n := by rfl) (hst : (assignEach es X.env).findIdx? (·.1) = none := by rfl) : PG X (.Tuple es kk pos) (tG (evOf X) (kTup ks)) :=
  ⟨fun pins s σ H v u Q I rv ⟨r, F, sl, h', d, hs, g, hd, q⟩ => by
    cases hd with
    | @tup a ds vs hq hl =>
      have q : GAft (evOf X) F r H (if ds.length = ks.length then runT ks ds sl h' else .bad) Q := q
      by_cases z : ds.length = ks.length
      · rw [if_pos z] at q
        exact (pg_tup hc h hn hst).run pins s σ H _ u Q I rv ⟨_, _, rfl, hq.sq, by rw [← hl.len, z]; exact hk, r, F, sl, h', ds, hs, g, hl, q⟩
      · rw [if_neg z] at q; exact False.elim q
    | _ => exact False.elim q⟩
theorem set_dict {n : Nat} (hr : Room n X.A) : PSet X (fun o i v H Q => ∃ a H', o = .ref a ∧ DPut H a i v H' ∧ Q H') := fun pins s σ H o i v ov iv u Q I ro ri rv ⟨a, H', eo, hp, q⟩ => by
  subst eo
  obtain rfl : ov = Value.ref a := ro
  exact d_setItem (by have := hr.un; omega) I hp ri rv fun s' I' => ⟨H', I', q⟩
theorem dg_dsub {n : Nat} (hr : Room n X.A) (ho : PE X o (tE (evOf X) W fo)) (hi : PE X i (tE (evOf X) W fi)) (ha : ∀ v, assign (.Subscript o i pos) X.env v = (do
      let ov ← holding [v] (eval o X.env)
      let iv ← holding [v, ov] (eval i X.env)
      standAt pos
      holding [v, ov, iv] (setItem ov iv v)
      release [v, ov, iv] []) := by intro _; rfl) : PG X (.Subscript o i pos) (tG (evOf X) (kDSub fo fi)) :=
  ⟨fun pins s σ H v u Q I rv ⟨r, F, sl, h, d, hs, g, hd, q⟩ => (pg_sub ho hi (set_dict hr) ha).run pins s σ H v u Q I rv (by
    refine tE.of hs g ((GAft.bindS (W := W) (σ := σ) q).imp fun r2 H2 x h2 e2 g2 q2 vx hvx => ?_)
    have s2 := hs.mono g.mine e2
    refine tE.of s2 g2 ((GAft.bindS (W := W) (σ := σ) q2).imp fun r3 H3 y h3 e3 g3 q3 vy hvy => ?_)
    have q3 : GAft (evOf X) F r3 H3 (match dSet h3 x y d with
      | some h4 => .nx sl h4
      | none => .bad) Q := q3
    cases hs' : dSet h3 x y d with
    | none => rw [hs'] at q3; exact False.elim q3
    | some h4 =>
      rw [hs'] at q3
      obtain ⟨a, H', ea, hput, ee, g4⟩ := dSet_ok g3 (Den.mono g2.mine e3 _ _ hvx) hvy (Den.mono g2.mine e3 _ _ (Den.mono g.mine e2 _ _ hd)) hs'
      exact ⟨a, H', ea, hput, q3 r3 H' σ ee g4 ((s2.mono g2.mine e3).mono g3.mine ee)⟩)⟩
theorem dg_lsub (ho : PE X o (tE (evOf X) W fo)) (hi : PE X i (tE (evOf X) W fi)) (ha : ∀ v, assign (.Subscript o i pos) X.env v = (do
      let ov ← holding [v] (eval o X.env)
      let iv ← holding [v, ov] (eval i X.env)
      standAt pos
      holding [v, ov, iv] (setItem ov iv v)
      release [v, ov, iv] []) := by intro _; rfl) : PG X (.Subscript o i pos) (tG (evOf X) (kLSub fo fi)) :=
  ⟨fun pins s σ H v u Q I rv ⟨r, F, sl, h, d, hs, g, hd, q⟩ => (pg_sub ho hi set_list ha).run pins s σ H v u Q I rv (by
    refine tE.of hs g ((GAft.bindS (W := W) (σ := σ) q).imp fun r2 H2 x h2 e2 g2 q2 vx hvx => ?_)
    have s2 := hs.mono g.mine e2
    refine tE.of s2 g2 ((GAft.bindS (W := W) (σ := σ) q2).imp fun r3 H3 y h3 e3 g3 q3 vy hvy => ?_)
    have q3 : GAft (evOf X) F r3 H3 (match lSet h3 x y d with
      | some h4 => .nx sl h4
      | none => .bad) Q := q3
    cases hs' : lSet h3 x y d with
    | none => rw [hs'] at q3; exact False.elim q3
    | some h4 =>
      rw [hs'] at q3
      obtain ⟨p, xs, k, j, e1', e2', hp, hj, ee, g4⟩ := lSet_ok g3 (Den.mono g2.mine e3 _ _ hvx) hvy (Den.mono g2.mine e3 _ _ (Den.mono g.mine e2 _ _ hd)) hs'
      exact ⟨p, xs, k, j, e1', e2', hp, hj, q3 r3 _ σ ee g4 ((s2.mono g2.mine e3).mono g3.mine ee)⟩)⟩
/-- only going on, never another way out -/
def onlyNx : SRes → SRes
  | .nx sl h => .nx sl h
  | _ => .bad
def sAsgT (f : Mo D) (k : Tgt) : Ms := fun sl h => bindS sl (f sl h) fun d h1 => onlyNx (k d sl h1)
theorem ds_asg {tg : Expr} (he : PE X e (tE (evOf X) W f)) (hg : PG X tg (tG (evOf X) k)) (hs : swapsWithSole [tg] e pos.line X.env = pure false := by rfl) (hw : swappedStores [tg] e X.env = pure none := by rfl)
    (h1 : (assignEach [tg] X.env).map (·.2) = [assign tg X.env] := by rfl) : PS X (.Assign [tg] e pos) (tS (evOf X) W (sAsgT f k)) :=
  (ps_asg he hg hs hw h1).imp fun E σ H ⟨r, F, sl, h, s, g, q⟩ => by
    refine tE.of s g ((q.bindS s g).imp fun r1 H1 d h1 e1 g1 q1 v hv => ⟨r1, F, sl, h1, d, s.mono g.mine e1, g1, hv, ?_⟩)
    cases hR : k d sl h1 with
    | nx s' h' => rw [hR] at q1; exact q1
    | ct s' h' => rw [hR] at q1; exact q1
    | bk s' h' => rw [hR] at q1; exact q1
    | rt d h' => rw [hR] at q1; exact q1
    | exc c a s' h' => rw [hR] at q1; exact q1
    | bad => rw [hR] at q1; exact q1

/-- name = [..] on one line -/
theorem ds_setLc {i : Nat} {vs : List Nat} {y : Str} {py spos : Pos} {elt te iter : Expr} {ifs : List Expr} {scope : Scope} {own : List (Str × Nat)} {fi : Mo (List D)} {tg : Tg} {fc : Mo Bool} {f : Mo D} (hc : X.calm = true) (hN : X.N.Nodup) (hy : X.N[i]? = some y) (hyl : X.env.scope.names.lookup y = some .local)
    (hsw : swapsWith (.ListComp elt [⟨te, iter, ifs, 0⟩] scope pos) (some (.Name y py)) spos.line X.env = pure true) (hi : PI X te iter (tI (evOf X) W fi)) (ok : BlkOk X.N X.env.scope scope own)
    (ho : ∀ i ∈ tg.slots, i ∈ own.map (·.2))
    (hg : ∀ (s : Shared) (H : Hp) (C : Addr) (cl : List (Str × Addr)) (fp : List Addr), PG (X.blk s H scope (compEnvC scope cl C X.env) fp) te (tgV X.K tg))
    (ht : ∀ (s : Shared) (H : Hp) (C : Addr) (cl : List (Str × Addr)) (fp : List Addr), PTs (X.blk s H scope (compEnvC scope cl C X.env) fp) ifs (tT (evOf X) W0 fc))
    (he : ∀ (s : Shared) (H : Hp) (C : Addr) (cl : List (Str × Addr)) (fp : List Addr), PE (X.blk s H scope (compEnvC scope cl C X.env) fp) elt (tE (evOf X) W0 f)) (hs : ∀ x, foldedSetIterable iter X.env x = pure x := by intro _; rfl) (hv : own.map (·.2) = vs := by rfl) :
    PS X (.Assign [.Name y py] (.ListComp elt [⟨te, iter, ifs, 0⟩] scope pos) spos) (tS (evOf X) W (sSet i (mLc vs fi tg fc f))) := by
  subst hv
  exact (ps_setLc hc hN hy hyl hsw hi ok hg ht he hs).imp fun E σ H ⟨r, F, sl, h, s, g, q⟩ => lc_of ho σ H _ (tE.of s g ((q.bindS s g).imp fun r1 H1 x h1 e1 g1 q1 v hv => q1.nxh ((s.mono g.mine e1).set hv) g1))
/-! ### d.get(k, x) -/
def getOr (h : MH) (x y z : D) : Option D := (dicD h x).bind fun p => (keyD y).map fun k => (dget k p.1 p.2).getD z
def mDGet2 (fo fk fx : Mo D) : Mo D := mBind fo fun x => fun sl h => if (dicD h x).isSome = true then bindR (fk sl h) fun y h1 => bindR (fx sl h1) fun z h2 => optR (getOr h2 x y z) h2 else .bad
theorem dget_none {α β : Type} {k : Key} : ∀ {ks : List Key} {vs : List α} {us : List β}, ks.length = vs.length → ks.length = us.length → dget k ks vs = none → dget k ks us = none
  | [], _, _, _, _, _ => rfl
  | k' :: ks, v :: vs, u :: us, e1, e2, e => by
    unfold dget at e ⊢
    by_cases h : k' = k
    · rw [if_pos h] at e; cases e
    · rw [if_neg h] at e ⊢
      exact dget_none (by simpa using e1) (by simpa using e2) e
  | _ :: _, [], _, e1, _, _ => by cases e1
  | _ :: _, _, [], _, e2, _ => by cases e2
theorem de_dget2 {n : Nat} {apos cpos : Pos} {ee ff : Expr} {fk fx : Mo D} (hr : Room n X.A) (ho : PE X o (tE (evOf X) W fo)) (he : PE X ee (tE (evOf X) W fk)) (hf : PE X ff (tE (evOf X) W fx)) (m : M2 X o "get" apos ee ff cpos := by exact ⟨rfl, rfl, rfl, rfl⟩) :
    PE X (.Call (.Attribute o "get" apos) [ee, ff] [] cpos) (tE (evOf X) W (mDGet2 fo fk fx)) :=
  (pe_dget2 (by have := hr.un; omega) ho he hf m).imp fun σ H Q ⟨r, F, sl, h, s, g, q⟩ => by
    refine tE.of s g (q.bind.imp fun r1 H1 x h1 e1 g1 q1 v hv => ?_)
    have q1 : Aft (evOf X) W F σ r1 H1 (if (dicD h1 x).isSome = true then bindR (fk sl h1) fun y h2 => bindR (fx sl h2) fun z h3 => optR (getOr h3 x y z) h3 else .bad) _ := q1
    by_cases z : (dicD h1 x).isSome = true
    · rw [if_pos z] at q1
      obtain ⟨p, hp⟩ := Option.isSome_iff_exists.mp z
      obtain ⟨a, vs, rfl, h3, h4, h5⟩ := dic_den g1 hv hp
      have s1 := s.mono g.mine e1
      refine ⟨a, rfl, .inl ⟨_, .inl h3⟩, tE.of s1 g1 (q1.bind.imp fun r2 H2 y h2 e2 g2 q2 u hu => ?_)⟩
      refine tE.of (s1.mono g1.mine e2) g2 (q2.bind.imp fun r3 H3 w h3' e3 g3 q3 t ht => ?_)
      obtain ⟨d, e, qq⟩ := optR_ok (show Aft (evOf X) W F σ r3 H3 (optR (getOr h3' x y w) h3') _ from q3)
      unfold getOr at e
      cases hd : dicD h3' x with
      | none => rw [hd] at e; cases e
      | some p' =>
        rw [hd] at e
        have e : ((keyD y).map fun k => (dget k p'.1 p'.2).getD w) = some d := e
        cases hk : keyD y with
        | none => rw [hk] at e; cases e
        | some k =>
          rw [hk] at e
          have e : (dget k p'.1 p'.2).getD w = d := Option.some.inj e
          obtain ⟨a', vs', ea, b3, b4, b5⟩ := dic_den g3 (Den.mono g2.mine e3 _ _ (Den.mono g1.mine e2 _ _ hv)) hd
          cases ea
          have ek := key_den hk hu
          subst ek
          refine ⟨_, DGet.k b3, ?_⟩
          rw [valV_dget k b4]
          cases hg : dget k p'.1 p'.2 with
          | none =>
            rw [hg] at e
            subst e
            rw [dget_none (by rw [b4, b5.len]) b4 hg]
            exact qq.here g3 _ ht
          | some d' =>
            rw [hg] at e
            subst e
            obtain ⟨w', c6, c7⟩ := dget_den b4 b5 hg
            rw [c6]
            exact qq.here g3 _ c7
    · rw [if_neg z] at q1; exact False.elim q1
end
end CH

/-! CHB: written constants; the end of a law. -/
namespace CH
open PySem PySem.Spec PyProof.Rows L2

mutual
/-- does the written value u stand for d -/
def chkV (K : PySem.W.Frag) : D → Value → Bool
  | .non, .none => true
  | .bl a, .bool b => a == b
  | .int i, .int j _ => decide (i = j)
  | .str x, .str y _ => decide (x = y)
  | .tup ds, .ref a => match K.lookup a with
    | some ⟨.type c, _, .seq its _, _⟩ => decide (c = "tuple") && (decide (its.size ≤ sizeLine) && chkL K ds its.toList)
    | _ => false
  | _, _ => false
def chkL (K : PySem.W.Frag) : List D → List Value → Bool
  | [], [] => true
  | d :: ds, u :: us => chkV K d u && chkL K ds us
  | _, _ => false
end
section
variable {K : PySem.W.Frag} {mg : Str → Option Value}
mutual
theorem chkV_ok : ∀ (d : D) (u : Value), chkV K d u = true → ∃ v, RelV v u ∧ ∀ r F H, Den ⟨K, mg⟩ r F H d v
  | .non, u, h => by cases u <;> first | exact ⟨.non, rfl, fun _ _ _ => .non⟩ | cases h
  | .bl a, u, h => by
    cases u with
    | bool b =>
      have e : a = b := eq_of_beq (show (a == b) = true from h)
      exact ⟨.bl a, by rw [e]; rfl, fun _ _ _ => .bl a⟩
    | _ => cases h
  | .int i, u, h => by
    cases u with
    | int j t =>
      have e : i = j := of_decide_eq_true h
      exact ⟨.int i, ⟨t, by rw [e]⟩, fun _ _ _ => .int i⟩
    | _ => cases h
  | .str x, u, h => by
    cases u with
    | str y t =>
      have e : x = y := of_decide_eq_true h
      exact ⟨.str x, ⟨t, by rw [e]⟩, fun _ _ _ => .str x⟩
    | _ => cases h
  | .tup ds, u, h => by
    cases u with
    | ref a =>
      have h1 : (match K.lookup a with
        | some ⟨.type c, _, .seq its _, _⟩ => decide (c = "tuple") && (decide (its.size ≤ sizeLine) && chkL K ds its.toList)
        | _ => false) = true := h
      cases q : K.lookup a with
      | none => rw [q] at h1; cases h1
      | some o =>
        obtain ⟨oc, od, dt, osl⟩ := o
        rw [q] at h1
        cases oc with
        | type c =>
          cases dt with
          | seq its n =>
            have h2 : (decide (c = "tuple") && (decide (its.size ≤ sizeLine) && chkL K ds its.toList)) = true := h1
            rw [Bool.and_eq_true, Bool.and_eq_true] at h2
            obtain ⟨h3, h4, h5⟩ := h2
            have h3 : c = "tuple" := of_decide_eq_true h3
            have h4 : its.size ≤ sizeLine := of_decide_eq_true h4
            subst h3
            obtain ⟨vs, rv, f⟩ := chkL_ok ds its.toList h5
            exact ⟨.ref a, rfl, fun r F H => .tup (.inr (.inr ⟨_, its, n, q, rfl, rfl, h4, rv⟩)) (f r F H)⟩
          | _ => cases h1
        | _ => cases dt <;> cases h1
    | _ => cases h
  | .lst _, u, h => by cases u <;> cases h
  | .dic _ _, u, h => by cases u <;> cases h
  | .ref _, u, h => by cases u <;> cases h
  | .gl _, u, h => by cases u <;> cases h
  | .ty _, u, h => by cases u <;> cases h
  | .scr _, u, h => by cases u <;> cases h
theorem chkL_ok : ∀ (ds : List D) (us : List Value), chkL K ds us = true → ∃ vs, Vals vs us ∧ ∀ r F H, DenL ⟨K, mg⟩ r F H ds vs
  | [], [], _ => ⟨[], .nil, fun _ _ _ => .nil⟩
  | [], _ :: _, h => by cases h
  | _ :: _, [], h => by cases h
  | d :: ds, u :: us, h => by
    have h1 : (chkV K d u && chkL K ds us) = true := h
    rw [Bool.and_eq_true] at h1
    obtain ⟨v, a1, a2⟩ := chkV_ok d u h1.1
    obtain ⟨vs, b1, b2⟩ := chkL_ok ds us h1.2
    exact ⟨v :: vs, .cons a1 b1, fun r F H => .cons (a2 r F H) (b2 r F H)⟩
end
/-- the module's name x stands for d -/
def chkC (K : PySem.W.Frag) (p : Str × D) : Bool := match PySem.W.nsIn K mainGlobals p.1 with
  | some (some u) => chkV K p.2 u
  | _ => false
theorem chkC_ok {h : Heap} (X : K.In h) (G : h.Ns mainGlobals mg) {x : Str} {d : D} (c : chkC K (x, d) = true) : CoD ⟨K, mg⟩ x d := by
  unfold chkC at c
  cases e : PySem.W.nsIn K mainGlobals x with
  | none => simp only [e] at c; cases c
  | some o =>
    cases o with
    | none => simp only [e] at c; cases c
    | some u =>
      simp only [e] at c
      obtain ⟨v, a1, a2⟩ := chkV_ok (mg := mg) d u c
      exact ⟨u, v, PySem.W.mg_of X G e, a1, a2⟩
end

/-- what leaves a def's body leaves the def -/
theorem takes_cx {P : Program} {w : World} {K : PySem.W.Frag} {mg : Str → Option Value} {base : Heap} {N : List Str} {qual : Str} {scope : Scope} {f : Addr} {cd : Value} {A : Around} {outer : List Env} {s : Shared} {H : Hp} {E : XK} :
    Takes (cxOf (L2.CX P w) P w K mg base N qual scope f cd A outer s H E) (WX0 E) := takes_of rfl rfl rfl rfl
/-- a def that never ends well -/
theorem FT.bad {P : Program} {w : World} {K : PySem.W.Frag} {mg : Str → Option Value} {base : Heap} {k : Nat} {ps : List Str} {f : Addr} {fd : FuncData} (bd : Binds K fd ps [] ∧ ∀ (s : Shared) (us : List Value), us.length = ps.length → BindsTo s fd ⟨us, []⟩ (ps.zip us)) (kp : PySem.W.keepIn K (.ref f) = true) : FT P w K mg base k ps (fun _ _ => .bad) f := by
  have no : ∀ vs H Q E, spD ⟨K, mg⟩ ps.length (fun _ _ => .bad) vs H Q E → False := fun vs H Q E h => by
    obtain ⟨r, F, h, ds, g, hd, q⟩ := h
    unfold ckN at q
    by_cases z : ds.length = ps.length
    · rw [if_pos z] at q; exact q
    · rw [if_neg z] at q; exact q
  exact ⟨⟨fd, ⟨fun vs H Q E h => (no vs H Q E h).elim, fun A outer s H args us vs Q E _ _ _ _ h => (no vs H Q E h).elim⟩, bd⟩, kp⟩
/-- the law's promise from its mirror: the law's table lies ahead in the mirror heap -/
theorem sp_lawT {K : PySem.W.Frag} {mg : Str → Option Value} {c : Fn} {H : Hp} {a : Addr} {ns : List Int} (hT : H (lawT K) = some (.tbl #[])) (hS : SqL K H a (ns.map V.int)) (hc : ∃ h', c [.scr ns] [.tbl] = .ok (.bl true) h') : spD ⟨K, mg⟩ 1 c [.ref a] H (fun v _ => v = .bl true) fun _ _ _ => False := by
  obtain ⟨h', hc⟩ := hc
  refine ⟨[lawT K], [], [.tbl], [.scr ns], ⟨rfl, by simp, (fun _ z => by cases z), (fun i o hi => ?_)⟩, .cons (.scr ?_) .nil, ?_⟩
  · match i, hi with
    | 0, hi =>
      cases hi
      exact ⟨lawT K, rfl, rfl, LamX.TabS.nil hT⟩
    | i + 1, hi => simp at hi
  · rcases hS with (hS | ⟨o, hS⟩) | hS
    · refine .inr ⟨hS, fun z => ?_, fun z => by cases z⟩
      rw [List.mem_singleton.mp z, hT] at hS
      cases hS
    · exact .inl (.inl ⟨o, hS⟩)
    · exact .inl (.inr (.inr hS))
  · show Aft _ _ _ _ _ _ (c [.scr ns] [.tbl]) _
    rw [hc]
    intro r' H' e g v hv
    cases hv
    rfl
/-- what is known of the law's def in each world: its text in the written part, and that it answers True of every script -/
def LawDef (P : Program) (CX : World → CXT) (YP : World → Heap → Prop) (name x : Str) (n k : Nat) : Prop :=
  ∀ (w : World) (mg : Str → Option Value) (fa : Addr) (h : Heap), YP w h → h.Ns mainGlobals mg → mg name = some (.ref fa) → ∃ (K : PySem.W.Frag) (fd : FuncData) (sp : Sp), K.In h ∧ (∀ (s : Shared) (u : Value), BindsTo s fd ⟨[u], []⟩ [(x, u)]) ∧
    (∀ (H : Hp) (a : Addr) (ns : List Int), ns.length ≤ n → L2.Only H → SqL K H a (ns.map V.int) → sp [.ref a] H (fun v _ => v = .bl true) fun _ _ _ => False) ∧ ∀ base : Heap, K.In base → base.Ns mainGlobals mg → FnOk P w K mg base (CX w) k fa fd [x] sp
/-- no error leaves the law -/
def NoErr (CX : World → CXT) : Prop := ∀ (w : World) (H : Hp) (s : Shared) (e : Value) (s' : Shared), CX w [] H s (fun _ _ _ => False) e s' → False
theorem walk_ofW {l : PySem.W.OpenLaw} {n k : Nat} {q : Program} {loose : List Str} {XP : (Str → Option Value) → Heap → Prop} {YP : World → Heap → Prop} {d : DefRec} {CX : World → CXT} {x : Str} (hn : l.most = some n) (hn2 : n ≤ sizeLine) (hdf : d.params.defaults = []) (hr : Room k callerA)
    (F : LawDef l.prog CX YP d.name x n k) (hCX : NoErr CX) : PySem.W.WalkO q loose XP YP l.row.toRowW d [] (fun f vs => PySem.call f vs) := by
  refine Att.attach_call hn hdf fun w s₀ s₁ mg mb fa o pm cd doc a vs ns G Y ho hd hcd hmg hobj hints hlen hg => ?_
  have ⟨K, fd, sp, KX, hb, hsp, hF⟩ := F w mg fa _ Y G.T.g hmg
  exact law_call KX G.T.g G.T.b G.T.builtins G.T.nolimit hg hobj hints (Nat.le_trans hlen hn2) hr hF hb (fun H hO hS => hsp H a ns hlen hO hS) fun H e s' => hCX w H s₁ e s'
theorem cx_no {P : Program} {w : World} (H : Hp) (s : Shared) (e : Value) (s' : Shared) (h : L2.CX P w [] H s (fun _ _ _ => False) e s') : False := by
  obtain ⟨_, _, _, _, _, _, _, _, _, _, _, _, z⟩ := h
  exact z
end CH

/-! CHC: two fors in a comprehension; slices; texts in order. -/
namespace CH
open PySem PySem.Spec PyProof.Rows L2
def lcD2 (tg : Tg) (c : Mo Bool) (fi1 : Mo (List D)) (tg1 : Tg) (c1 : Mo Bool) (f : Mo D) (vs1 : List Nat) (sl : Sl) : List D → List D → MH → Res (List D)
  | acc, [], h => .ok acc h
  | acc, d :: ds, h => match tgD tg d sl with
    | none => .bad
    | some sl1 => bindR (noX (c sl1 h)) fun b h1 => if b then bindR (noX (fi1 sl1 h1)) fun xs h2 => bindR (lcD tg1 c1 f (wipeD sl1 vs1) acc xs h2) fun acc1 h3 => lcD2 tg c fi1 tg1 c1 f vs1 sl acc1 ds h3 else lcD2 tg c fi1 tg1 c1 f vs1 sl acc ds h1
def mLc2 (vs : List Nat) (fi : Mo (List D)) (tg : Tg) (c : Mo Bool) (fi1 : Mo (List D)) (tg1 : Tg) (c1 : Mo Bool) (f : Mo D) (vs1 : List Nat) : Mo D := fun sl h => bindR (fi sl h) fun ds h1 => bindR (lcD2 tg c fi1 tg1 c1 f vs1 (wipeD sl vs) [] ds h1) fun xs h2 => .ok (.lst xs) h2
theorem bindR_assoc {α β γ : Type} {m : Res α} {k : α → MH → Res β} {k' : β → MH → Res γ} : bindR (bindR m k) k' = bindR m fun a h => bindR (k a h) k' := by cases m <;> rfl
theorem lc2_of {X : Cx} {W : WX} {vs vs1 : List Nat} {fi fi1 : Mo (List D)} {tg tg1 : Tg} {fc fc1 : Mo Bool} {f : Mo D} (ho : ∀ i ∈ tg.slots, i ∈ vs) (ho1 : ∀ i ∈ tg1.slots, i ∈ vs1) (σ : L2.St) (H : Hp) (Q : VK) (q : tE (evOf X) W (mLc2 vs fi tg fc fi1 tg1 fc1 f vs1) σ H Q) :
    tLc2 (tI (evOf X) W fi) (tgV X.K tg) (tT (evOf X) W0 fc) (tI (evOf X) W0 fi1) (tgV X.K tg1) (tT (evOf X) W0 fc1) (tE (evOf X) W0 f) vs vs1 σ H Q := by
  obtain ⟨r, F, sl, h, s, g, q⟩ := q
  refine tI.of s g (q.bind.imp fun r1 H1 xs h1 e1 g1 q1 J hJ D0 hD => ?_)
  have q1 := q1.bind
  have nF : D0 ∉ F := (g1.fresh hD).2
  have fo : Foe F H1 (D0 :: F) := fun a ha => by
    rcases List.mem_cons.mp ha with e | e
    · exact .inr (by rw [e]; exact .inl hD)
    · exact .inl e
  have sm0 : Same H1 (upd H1 D0 (.lst [])) := same_new hD
  have g1' : GoodH (evOf X) r1 (D0 :: F) h1 (upd H1 D0 (.lst [])) := g1.newF hD trivial
  -- what stands behind the loop
  let Kx : List Addr → Hp → List D → MH → Prop := fun r' H' x h1 => Aft (evOf X) W F σ r' H' (Res.ok (D.lst x) h1) fun r' H' d _ => ∀ v, Den (evOf X) r' F H' d v → Q v H'
  let Lp : List D → List D → MH → Res (List D) := lcD2 tg fc fi1 tg1 fc1 f vs1 (wipeD sl vs)
  refine ⟨fun i m H' => ∃ r' h' acc vacc, Ext r1 H1 r' H' ∧ GoodH (evOf X) r' (D0 :: F) h' H' ∧ H' D0 = some (.lst vacc) ∧ DenL (evOf X) r' (D0 :: F) H' acc vacc ∧ m = xs.length - i ∧ i ≤ xs.length ∧
    Aft (evOf X) W F σ r1 H1 (Lp acc (xs.drop i) h') Kx,
    ⟨xs.length, r1, h1, [], [], .same sm0, g1', upd_same, .nil, by simp, Nat.zero_le _, q1⟩, ?_⟩
  rintro i m H' ⟨r', h', acc, vacc, e', g', hD', hacc, rfl, hi', q'⟩
  have hJ' := hJ r' (D0 :: F) H' e'.toF g'.mine fo i
  have s' : SlR (evOf X) r' (D0 :: F) H' (wipeD sl vs) (L2.wipe σ vs) := by
    have z := (s.mono g.mine e1).wiped vs
    exact ⟨z.1, fun j d hd => let ⟨v, a1, a2⟩ := z.2 j d hd; ⟨v, a1, Den.monoF g1.mine e' fo _ _ a2⟩⟩
  by_cases hlt : i < xs.length
  · have hd : xs[i]? = some xs[i] := List.getElem?_eq_getElem hlt
    obtain ⟨hgo, hy⟩ := hJ'.1 _ hd
    refine .inr ⟨hgo, fun H2 => ∃ r2 h2 acc vacc, Ext r1 H1 r2 H2 ∧ GoodH (evOf X) r2 (D0 :: F) h2 H2 ∧ H2 D0 = some (.lst vacc) ∧ DenL (evOf X) r2 (D0 :: F) H2 acc vacc ∧
        Aft (evOf X) W F σ r1 H1 (Lp acc (xs.drop (i + 1)) h2) Kx,
      fun H2 ⟨r2, h2, ac, va, a1, a2, a3, a4, a5⟩ => ⟨xs.length - (i + 1), by omega, r2, h2, ac, va, a1, a2, a3, a4, rfl, hlt, a5⟩, fun x H'' yld => ?_⟩
    obtain ⟨sm, hx⟩ := hy x H'' yld
    rw [List.drop_eq_getElem_cons hlt] at q'
    have g'' := g'.same sm
    have s'' := s'.mono g'.mine (.same sm)
    have ee := e'.trans g'.mine (Ext.same (r := r') sm)
    cases htg : tgD tg xs[i] (wipeD sl vs) with
    | none =>
      have q' : Aft (evOf X) W F σ r1 H1 (lcD2 tg fc fi1 tg1 fc1 f vs1 (wipeD sl vs) acc (xs[i] :: xs.drop (i + 1)) h') Kx := q'
      unfold lcD2 at q'; rw [htg] at q'; exact False.elim q'
    | some sl1 =>
      have q2 : Aft (evOf X) W F σ r1 H1 (bindR (noX (fc sl1 h')) fun b h1 => if b = true then bindR (noX (fi1 sl1 h1)) fun xs1 h2 => bindR (lcD tg1 fc1 f (wipeD sl1 vs1) acc xs1 h2) fun acc1 h3 => Lp acc1 (xs.drop (i + 1)) h3 else Lp acc (xs.drop (i + 1)) h1) Kx := by
        have q' : Aft (evOf X) W F σ r1 H1 (lcD2 tg fc fi1 tg1 fc1 f vs1 (wipeD sl vs) acc (xs[i] :: xs.drop (i + 1)) h') Kx := q'
        unfold lcD2 at q'; rw [htg] at q'; exact q'
      refine tgV_of (G := evOf X) hx htg s'' fun σ2 s2 o2 => ⟨only_in o2 ho, ?_⟩
      refine tT.of s2 g'' ((aft0 (D0 := D0) (σ0 := σ2) q2).imp fun r3 H3 b h3 e3 g3 q4 => ?_)
      have hD3 : H3 D0 = some (.lst vacc) := e3.keep _ _ (sm _ _ hD') (g''.fd D0 List.mem_cons_self).2
      have hac3 := DenL.mono g'.mine (Ext.trans (.same sm) g''.mine e3) _ _ hacc
      have ee3 := ee.trans g''.mine e3
      cases b with
      | false => exact ⟨r3, h3, acc, vacc, ee3, g3, hD3, hac3, q4⟩
      | true =>
        have q4 : Aft (evOf X) W F σ r1 H1 (bindR (noX (fi1 sl1 h3)) fun xs1 h2 => bindR (lcD tg1 fc1 f (wipeD sl1 vs1) acc xs1 h2) fun acc1 h3 => Lp acc1 (xs.drop (i + 1)) h3) Kx := q4
        have s3 := s2.mono g''.mine e3
        refine tI.of s3 g3 ((aft0 (D0 := D0) (σ0 := σ2) q4).imp fun r4 H4 xs1 h4 e4 g4 q5 J1 hJ1 => ?_)
        have hD4 : H4 D0 = some (.lst vacc) := e4.keep _ _ hD3 (g3.fd D0 List.mem_cons_self).2
        have hac4 := DenL.mono g3.mine e4 _ _ hac3
        have ee4 := ee3.trans g3.mine e4
        refine ⟨fun j k H' => ∃ r' h' acc vacc, Ext r1 H1 r' H' ∧ ExtF r4 (D0 :: F) H4 r' H' ∧ GoodH (evOf X) r' (D0 :: F) h' H' ∧ SlR (evOf X) r' (D0 :: F) H' (wipeD sl1 vs1) (L2.wipe σ2 vs1) ∧ H' D0 = some (.lst vacc) ∧ DenL (evOf X) r' (D0 :: F) H' acc vacc ∧ k = xs1.length - j ∧ j ≤ xs1.length ∧
          Aft (evOf X) W F σ r1 H1 (bindR (lcD tg1 fc1 f (wipeD sl1 vs1) acc (xs1.drop j) h') fun acc1 h3 => Lp acc1 (xs.drop (i + 1)) h3) Kx,
          ⟨xs1.length, r4, h4, acc, vacc, ee4, Ext.toF .refl, g4, (s3.mono g3.mine e4).wiped vs1, hD4, hac4, by simp, Nat.zero_le _, q5⟩, ?_⟩
        rintro j k H5 ⟨r5, h5, acc, vacc, e5, f5, g5, s5, hD5, hac5, rfl, hj, q6⟩
        have hJ1' := hJ1 r5 (D0 :: F) H5 f5 g5.mine .refl j
        by_cases hlj : j < xs1.length
        · have hdj : xs1[j]? = some xs1[j] := List.getElem?_eq_getElem hlj
          obtain ⟨hgo1, hy1⟩ := hJ1'.1 _ hdj
          refine .inr ⟨hgo1, fun H2 => ∃ r2 h2 acc vacc, Ext r1 H1 r2 H2 ∧ ExtF r4 (D0 :: F) H4 r2 H2 ∧ GoodH (evOf X) r2 (D0 :: F) h2 H2 ∧ SlR (evOf X) r2 (D0 :: F) H2 (wipeD sl1 vs1) (L2.wipe σ2 vs1) ∧ H2 D0 = some (.lst vacc) ∧ DenL (evOf X) r2 (D0 :: F) H2 acc vacc ∧
              Aft (evOf X) W F σ r1 H1 (bindR (lcD tg1 fc1 f (wipeD sl1 vs1) acc (xs1.drop (j + 1)) h2) fun acc1 h3 => Lp acc1 (xs.drop (i + 1)) h3) Kx,
            fun H2 ⟨r2, h2, ac, va, a1, a2, a3, a4, a5, a6, a7⟩ => ⟨xs1.length - (j + 1), by omega, r2, h2, ac, va, a1, a2, a3, a4, a5, a6, rfl, hlj, a7⟩, fun y H6 yld1 => ?_⟩
          obtain ⟨sm1, hy2⟩ := hy1 y H6 yld1
          rw [List.drop_eq_getElem_cons hlj] at q6
          have g6 := g5.same sm1
          have s6 := s5.mono g5.mine (.same sm1)
          have e6 := e5.trans g5.mine (Ext.same (r := r5) sm1)
          have f6 : ExtF r4 (D0 :: F) H4 r5 H6 := ⟨f5.pre, fun a o ha n1 n2 t => sm1 _ _ (f5.keep a o ha n1 n2 t)⟩
          cases htg1 : tgD tg1 xs1[j] (wipeD sl1 vs1) with
          | none => unfold lcD at q6; rw [htg1] at q6; exact False.elim q6
          | some sl2 =>
            have q7 : Aft (evOf X) W F σ r1 H1 (bindR (noX (fc1 sl2 h5)) fun b h1 => bindR (if b = true then (if acc.length < lim then bindR (noX (f sl2 h1)) fun x h2 => lcD tg1 fc1 f (wipeD sl1 vs1) (acc ++ [x]) (xs1.drop (j + 1)) h2 else .bad) else lcD tg1 fc1 f (wipeD sl1 vs1) acc (xs1.drop (j + 1)) h1) fun acc1 h3 => Lp acc1 (xs.drop (i + 1)) h3) Kx := by
              unfold lcD at q6; rw [htg1] at q6
              rw [← bindR_assoc]
              exact q6
            refine tgV_of (G := evOf X) hy2 htg1 s6 fun σ3 s7 o3 => ⟨only_in o3 ho1, ?_⟩
            refine tT.of s7 g6 ((aft0 (D0 := D0) (σ0 := σ3) q7).imp fun r7 H7 b h7 e7 g7 q8 => ?_)
            have hD7 : H7 D0 = some (.lst vacc) := e7.keep _ _ (sm1 _ _ hD5) (g6.fd D0 List.mem_cons_self).2
            have hac7 := DenL.mono g5.mine (Ext.trans (.same sm1) g6.mine e7) _ _ hac5
            have e7' := e6.trans g6.mine e7
            have extF : ∀ {r' H'}, ExtF r4 (D0 :: F) H4 r5 H6 → Ext r5 H6 r' H' → ExtF r4 (D0 :: F) H4 r' H' := fun {r' H'} a b => by
              obtain ⟨d, ed, hd⟩ := a.pre
              obtain ⟨d2, ed2, hd2⟩ := b.pre
              refine ⟨⟨d ++ d2, by rw [ed2, ed, List.append_assoc], fun a' ha' => ?_⟩, fun a' o ha n1 n2 t => b.keep a' o (a.keep a' o ha n1 n2 t) (a.notin ha n1 n2 t) t⟩
              rcases List.mem_append.mp ha' with z | z
              · exact hd a' z
              · obtain ⟨w, nr⟩ := hd2 a' z
                have n1 : a' ∉ r4 := fun n1 => nr (by rw [ed]; exact List.mem_append_left _ n1)
                refine ⟨?_, n1⟩
                cases hH : H4 a' with
                | none => exact .inl (.inl hH)
                | some o =>
                  refine Classical.byContradiction fun nn => ?_
                  have nt : ∀ ps, o ≠ .tbl ps := fun ps z => nn (.inl (.inr ⟨ps, by rw [hH, z]⟩))
                  exact w.no (a.keep a' o hH n1 (fun n2 => nn (.inr n2)) nt) nt
            have f7 := extF f6 e7
            have sw7 := s6.mono g6.mine e7
            cases b with
            | false => exact ⟨r7, h7, acc, vacc, e7', f7, g7, sw7, hD7, hac7, q8⟩
            | true =>
              have q8 : Aft (evOf X) W F σ r1 H1 (bindR (if acc.length < lim then bindR (noX (f sl2 h7)) fun x h2 => lcD tg1 fc1 f (wipeD sl1 vs1) (acc ++ [x]) (xs1.drop (j + 1)) h2 else .bad) fun acc1 h3 => Lp acc1 (xs.drop (i + 1)) h3) Kx := q8
              by_cases hz : acc.length < lim
              · rw [if_pos hz, bindR_assoc] at q8
                refine tE.of (s7.mono g6.mine e7) g7 ((aft0 (D0 := D0) (σ0 := σ3) q8).imp fun r8 H8 y h8 e8 g8 q9 v hv => ?_)
                have hD8 : H8 D0 = some (.lst vacc) := e8.keep _ _ hD7 (g7.fd D0 List.mem_cons_self).2
                have hac8 := DenL.mono g7.mine e8 _ _ hac7
                refine ⟨vacc, hD8, by rw [← hac8.len]; exact lim_lt hz, ?_⟩
                have g9 := g8.updF (acc' := .lst (vacc ++ [v])) hD8 trivial trivial List.mem_cons_self
                have e8' := e7'.trans g7.mine e8
                have e9 : Ext r1 H1 r8 (upd H8 D0 (.lst (vacc ++ [v]))) := by
                  refine ⟨e8'.pre, fun a o ha hr ht => ?_⟩
                  rw [upd_ne (ne_of_none ha hD)]
                  exact e8'.keep a o ha hr ht
                have f8 := extF f6 (e7.trans g7.mine e8)
                have f9 : ExtF r4 (D0 :: F) H4 r8 (upd H8 D0 (.lst (vacc ++ [v]))) := by
                  refine ⟨f8.pre, fun a o ha n1 n2 ht => ?_⟩
                  rw [upd_ne (fun ea => n2 (by rw [ea]; exact List.mem_cons_self))]
                  exact f8.keep a o ha n1 n2 ht
                have s8 := sw7.mono g7.mine e8
                have s9 : SlR (evOf X) r8 (D0 :: F) (upd H8 D0 (.lst (vacc ++ [v]))) (wipeD sl1 vs1) (L2.wipe σ2 vs1) := ⟨s8.1, fun j d hd => let ⟨w, a1, a2⟩ := s8.2 j d hd; ⟨w, a1, Den.updF hD8 trivial List.mem_cons_self _ _ a2⟩⟩
                refine ⟨r8, h8, acc ++ [y], vacc ++ [v], e9, f9, g9, s9, upd_same, DenL.updF hD8 trivial List.mem_cons_self _ _ (hac8.app (.cons hv .nil)), q9⟩
              · rw [if_neg hz] at q8; exact False.elim q8
        · have ej : j = xs1.length := by omega
          subst ej
          rw [List.drop_length] at q6
          have q6 : Aft (evOf X) W F σ r1 H1 (bindR (lcD tg1 fc1 f (wipeD sl1 vs1) acc [] h5) fun acc1 h3 => Lp acc1 (xs.drop (i + 1)) h3) Kx := q6
          unfold lcD at q6
          exact .inl ⟨hJ1'.2 (by simp), r5, h5, acc, vacc, e5, g5, hD5, hac5, q6⟩
  · have ei : i = xs.length := by omega
    subst ei
    rw [List.drop_length] at q'
    have q' : Aft (evOf X) W F σ r1 H1 (lcD2 tg fc fi1 tg1 fc1 f vs1 (wipeD sl vs) acc [] h') Kx := q'
    unfold lcD2 at q'
    have q2 := Aft.here (q' r' H' e' g'.dropF) g'.dropF
    refine .inl ⟨hJ'.2 (by simp), q2 _ (.lst hD' ⟨(g'.fd D0 List.mem_cons_self).2, nF⟩ (DenL.dropF g'.mine hacc))⟩
theorem de_lc2 {X : Cx} {W : WX} {vs vs1 : List Nat} {elt te iter te1 iter1 : Expr} {ifs ifs1 : List Expr} {scope : Scope} {own : List (Str × Nat)} {pos : Pos} {fi fi1 : Mo (List D)} {tg tg1 : Tg} {fc fc1 : Mo Bool} {f : Mo D} (hc : X.calm = true) (hN : X.N.Nodup) (hi : PI X te iter (tI (evOf X) W fi)) (ok : BlkOk X.N X.env.scope scope own)
    (ho : ∀ i ∈ tg.slots, i ∈ own.map (·.2)) (ho1 : ∀ i ∈ tg1.slots, i ∈ vs1) (hv1 : ∀ i ∈ vs1, i ∈ own.map (·.2))
    (hg : ∀ (s : Shared) (H : Hp) (C : Addr) (cl : List (Str × Addr)) (fp : List Addr), PG (X.blk s H scope (compEnvC scope cl C X.env) fp) te (tgV X.K tg))
    (ht : ∀ (s : Shared) (H : Hp) (C : Addr) (cl : List (Str × Addr)) (fp : List Addr), PTs (X.blk s H scope (compEnvC scope cl C X.env) fp) ifs (tT (evOf X) W0 fc))
    (hi1 : ∀ (s : Shared) (H : Hp) (C : Addr) (cl : List (Str × Addr)) (fp : List Addr), PI (X.blk s H scope (compEnvC scope cl C X.env) fp) te1 iter1 (tI (evOf X) W0 fi1))
    (hg1 : ∀ (s : Shared) (H : Hp) (C : Addr) (cl : List (Str × Addr)) (fp : List Addr), PG (X.blk s H scope (compEnvC scope cl C X.env) fp) te1 (tgV X.K tg1))
    (ht1 : ∀ (s : Shared) (H : Hp) (C : Addr) (cl : List (Str × Addr)) (fp : List Addr), PTs (X.blk s H scope (compEnvC scope cl C X.env) fp) ifs1 (tT (evOf X) W0 fc1))
    (he : ∀ (s : Shared) (H : Hp) (C : Addr) (cl : List (Str × Addr)) (fp : List Addr), PE (X.blk s H scope (compEnvC scope cl C X.env) fp) elt (tE (evOf X) W0 f)) (hs : ∀ x, foldedSetIterable iter X.env x = pure x := by intro _; rfl) (hs1 : ∀ env x, foldedSetIterable iter1 env x = pure x := by intro _ _; rfl) (hv : own.map (·.2) = vs := by rfl) :
    PE X (.ListComp elt [⟨te, iter, ifs, 0⟩, ⟨te1, iter1, ifs1, 0⟩] scope pos) (tE (evOf X) W (mLc2 vs fi tg fc fi1 tg1 fc1 f vs1)) := by
  subst hv
  exact (pe_lc2 hc hN hi ok hv1 hg ht hi1 hg1 ht1 he hs hs1).imp fun σ H Q q => lc2_of ho ho1 σ H Q q
end CH

/-! CHD: slices, texts in order, a name set to a comprehension of two fors. -/
namespace CH
open PySem PySem.Spec PyProof.Rows L2
theorem ds_setLc2 {X : Cx} {W : WX} {i : Nat} {vs vs1 : List Nat} {y : Str} {py spos pos : Pos} {elt te iter te1 iter1 : Expr} {ifs ifs1 : List Expr} {scope : Scope} {own : List (Str × Nat)} {fi fi1 : Mo (List D)} {tg tg1 : Tg} {fc fc1 : Mo Bool} {f : Mo D} (hc : X.calm = true) (hN : X.N.Nodup) (hy : X.N[i]? = some y) (hyl : X.env.scope.names.lookup y = some .local)
    (hsw : swapsWith (.ListComp elt [⟨te, iter, ifs, 0⟩, ⟨te1, iter1, ifs1, 0⟩] scope pos) (some (.Name y py)) spos.line X.env = pure true) (hi : PI X te iter (tI (evOf X) W fi)) (ok : BlkOk X.N X.env.scope scope own)
    (ho : ∀ i ∈ tg.slots, i ∈ own.map (·.2)) (ho1 : ∀ i ∈ tg1.slots, i ∈ vs1) (hv1 : ∀ i ∈ vs1, i ∈ own.map (·.2))
    (hg : ∀ (s : Shared) (H : Hp) (C : Addr) (cl : List (Str × Addr)) (fp : List Addr), PG (X.blk s H scope (compEnvC scope cl C X.env) fp) te (tgV X.K tg))
    (ht : ∀ (s : Shared) (H : Hp) (C : Addr) (cl : List (Str × Addr)) (fp : List Addr), PTs (X.blk s H scope (compEnvC scope cl C X.env) fp) ifs (tT (evOf X) W0 fc))
    (hi1 : ∀ (s : Shared) (H : Hp) (C : Addr) (cl : List (Str × Addr)) (fp : List Addr), PI (X.blk s H scope (compEnvC scope cl C X.env) fp) te1 iter1 (tI (evOf X) W0 fi1))
    (hg1 : ∀ (s : Shared) (H : Hp) (C : Addr) (cl : List (Str × Addr)) (fp : List Addr), PG (X.blk s H scope (compEnvC scope cl C X.env) fp) te1 (tgV X.K tg1))
    (ht1 : ∀ (s : Shared) (H : Hp) (C : Addr) (cl : List (Str × Addr)) (fp : List Addr), PTs (X.blk s H scope (compEnvC scope cl C X.env) fp) ifs1 (tT (evOf X) W0 fc1))
    (he : ∀ (s : Shared) (H : Hp) (C : Addr) (cl : List (Str × Addr)) (fp : List Addr), PE (X.blk s H scope (compEnvC scope cl C X.env) fp) elt (tE (evOf X) W0 f)) (hs : ∀ x, foldedSetIterable iter X.env x = pure x := by intro _; rfl) (hs1 : ∀ env x, foldedSetIterable iter1 env x = pure x := by intro _ _; rfl) (hv : own.map (·.2) = vs := by rfl) :
    PS X (.Assign [.Name y py] (.ListComp elt [⟨te, iter, ifs, 0⟩, ⟨te1, iter1, ifs1, 0⟩] scope pos) spos) (tS (evOf X) W (sSet i (mLc2 vs fi tg fc fi1 tg1 fc1 f vs1))) := by
  subst hv
  exact (ps_setLc2 hc hN hy hyl hsw hi ok hv1 hg ht hi1 hg1 ht1 he hs hs1).imp fun E σ H ⟨r, F, sl, h, s, g, q⟩ => lc2_of ho ho1 σ H _ (tE.of s g ((q.bindS s g).imp fun r1 H1 x h1 e1 g1 q1 v hv => q1.nxh ((s.mono g.mine e1).set hv) g1))
/-! ### slices -/
def tO (G : Ev) (W : WX) (f : Mo (Option Int)) : TO := fun σ H Q => ∃ r F sl h, CH.SlR G r F H sl σ ∧ GoodH G r F h H ∧ Aft G W F σ r H (f sl h) fun r' H' o _ => Q o H'
def mNoPart : Mo (Option Int) := fun _ h => .ok none h
def mPart (f : Mo D) : Mo (Option Int) := mBind f fun d => fun _ h => match d with
  | .int i => .ok (some i) h
  | _ => .bad
theorem do_none {X : Cx} {W : WX} : PO X none (tO (evOf X) W mNoPart) := ⟨fun pins s σ H Q I ⟨r, F, sl, h, s', g, q⟩ => po_none.run pins s σ H Q I (q.here g)⟩
theorem do_some {X : Cx} {W : WX} {e : Expr} {f : Mo D} (he : PE X e (tE (evOf X) W f)) : PO X (some e) (tO (evOf X) W (mPart f)) := ⟨fun pins s σ H Q I ⟨r, F, sl, h, s', g, q⟩ => (po_some he).run pins s σ H Q I
  (tE.of s' g (q.bind.imp fun r1 H1 x h1 e1 g1 q1 v hv => by
    cases hv with
    | int i => exact ⟨i, rfl, Aft.here q1 g1⟩
    | _ => exact False.elim q1))⟩
def cutD (xs : List D) (lo hi : Option Int) : List D := (xs.drop (HT.sIx xs.length 0 lo)).take (HT.sIx xs.length xs.length hi - HT.sIx xs.length 0 lo)
def gSl (x : D) (lo hi : Option Int) (h : MH) : Res D := match x with
  | .tup xs => .ok (.tup (cutD xs lo hi)) h
  | .lst xs => .ok (.lst (cutD xs lo hi)) h
  | _ => .bad
def mSl (f : Mo D) (lo hi : Mo (Option Int)) : Mo D := mBind f fun x => mBind lo fun a => mBind hi fun b => fun _ h => gSl x a b h
theorem DenL.take {G : Ev} {r F : List Addr} {H : Hp} : ∀ {n : Nat} {ds : List D} {vs : List V}, DenL G r F H ds vs → DenL G r F H (ds.take n) (vs.take n)
  | 0, _, _, _ => by simpa using DenL.nil
  | _ + 1, _, _, .nil => .nil
  | _ + 1, _, _, .cons h t => .cons h t.take
theorem DenL.drop {G : Ev} {r F : List Addr} {H : Hp} : ∀ {n : Nat} {ds : List D} {vs : List V}, DenL G r F H ds vs → DenL G r F H (ds.drop n) (vs.drop n)
  | 0, _, _, h => h
  | _ + 1, _, _, .nil => .nil
  | _ + 1, _, _, .cons h t => t.drop
theorem DenL.slc {G : Ev} {r F : List Addr} {H : Hp} {ds : List D} {vs : List V} {lo hi : Option Int} (h : DenL G r F H ds vs) : DenL G r F H (cutD ds lo hi) (cutV vs lo hi) := by
  unfold cutD cutV
  rw [h.len]
  exact h.drop.take
theorem de_sl {X : Cx} {W : WX} {e : Expr} {lo hi : Option Expr} {p2 pos : Pos} {f : Mo D} {fl fh : Mo (Option Int)} (he : PE X e (tE (evOf X) W f)) (hl : PO X lo (tO (evOf X) W fl)) (hh : PO X hi (tO (evOf X) W fh)) : PE X (.Subscript e (.Slice lo hi none p2) pos) (tE (evOf X) W (mSl f fl fh)) :=
  (pe_slice (sl_tupA.or sl_list) he hl hh).imp fun σ H Q ⟨r, F, sl, h, s, g, q⟩ =>
    tE.of s g (q.bind.imp fun r1 H1 x h1 e1 g1 q1 v hv => ⟨r1, F, sl, h1, s.mono g.mine e1, g1, q1.bind.imp fun r2 H2 a h2 e2 g2 q2 => ⟨r2, F, sl, h2, (s.mono g.mine e1).mono g1.mine e2, g2, q2.bind.imp fun r3 H3 b h3 e3 g3 q3 => by
      have hv := Den.mono g2.mine e3 _ _ (Den.mono g1.mine e2 _ _ hv)
      cases hv with
      | tup hq hl =>
        rename_i ad ds vs
        have q3 : Aft (evOf X) W F σ r3 H3 (Res.ok (D.tup (cutD ds a b)) h3) _ := q3
        refine .inl ⟨_, _, rfl, hq.sq, fun hw => ?_, fun _ p hp => q3.hereS g3 (same_new hp) _ (new_tup g3 hl.slc hp)⟩
        have ec : cutD ds a b = ds := by
          unfold cutD
          rw [hl.len, hw.1, hw.2, ← hl.len]
          simp
        rw [ec] at q3
        exact q3.here g3 _ (.tup hq hl)
      | lst hq hn hl =>
        rename_i ad ds vs
        have q3 : Aft (evOf X) W F σ r3 H3 (Res.ok (D.lst (cutD ds a b)) h3) _ := q3
        exact .inr ⟨_, _, rfl, SqL.of hq, fun p hp => q3.hereS g3 (same_new hp) _ (new_lst g3 hl.slc hp)⟩
      | _ => exact False.elim q3⟩⟩)
/-! ### texts in order -/
def ltS (a b : Str) : Bool := decide (a.cps.toList < b.cps.toList)
def oLtS : D → D → MH → Res D := fun x y h => match x, y with
  | .str a, .str b => .ok (.bl (ltS a b)) h
  | _, _ => .bad
theorem ops_lt_str {G : Ev} : OpS G (fun x y H Q => ∃ i j, x = .str i ∧ y = .str j ∧ Q (.bl (decide (i.cps.toList < j.cps.toList))) H) oLtS := fun W σ r F H h x y v u Q g hx hy q => by
  cases hx with
  | str a =>
    cases hy with
    | str b => exact ⟨a, b, rfl, rfl, Aft.here q g _ (.bl _)⟩
    | _ => exact False.elim q
  | _ => cases hy <;> exact False.elim q
end CH

/-! CHE: instances: fields, methods, making. -/
namespace CH
open PySem PySem.Spec PyProof.Rows L2
/-! ### fields -/
def fget {α : Type} (f : Str) : List Str → List α → Option α
  | k :: ks, v :: vs => if k = f then some v else fget f ks vs
  | _, _ => none
def fhas (f : Str) : List Str → Bool
  | [] => false
  | k :: ks => if k = f then true else fhas f ks
def frep {α : Type} (f : Str) (x : α) : List Str → List α → List α
  | k :: ks, v :: vs => if k = f then x :: vs else v :: frep f x ks vs
  | _, vs => vs
def fputK (f : Str) (ks : List Str) : List Str := if fhas f ks = true then ks else ks ++ [f]
def fputV {α : Type} (f : Str) (x : α) (ks : List Str) (vs : List α) : List α := if fhas f ks = true then frep f x ks vs else vs ++ [x]
theorem fput_zip {f : Str} {x : V} : ∀ {ks : List Str} {vs : List V}, ks.length = vs.length → (fputK f ks).zip (fputV f x ks vs) = putF f x (ks.zip vs) ∧ (fputK f ks).length = (fputV f x ks vs).length
  | [], [], _ => ⟨rfl, rfl⟩
  | k :: ks, v :: vs, hl => by
    have hl' : ks.length = vs.length := by simpa using hl
    have ih := fput_zip (f := f) (x := x) hl'
    by_cases e : k = f
    · have h1 : fhas f (k :: ks) = true := by unfold fhas; rw [if_pos e]
      unfold fputK fputV
      rw [if_pos h1, if_pos h1]
      unfold frep
      rw [if_pos e]
      refine ⟨?_, by simp [hl']⟩
      show _ = (if k = f then (k, x) :: ks.zip vs else (k, v) :: putF f x (ks.zip vs))
      rw [if_pos e]
      rfl
    · have h1 : fhas f (k :: ks) = fhas f ks := by show (if k = f then true else fhas f ks) = _; rw [if_neg e]
      unfold fputK fputV at ih ⊢
      rw [h1]
      have e2 : frep f x (k :: ks) (v :: vs) = v :: frep f x ks vs := by show (if k = f then x :: vs else v :: frep f x ks vs) = _; rw [if_neg e]
      have e3 : putF f x ((k :: ks).zip (v :: vs)) = (k, v) :: putF f x (ks.zip vs) := by show (if k = f then (k, x) :: ks.zip vs else (k, v) :: putF f x (ks.zip vs)) = _; rw [if_neg e]
      by_cases hf : fhas f ks = true
      · rw [if_pos hf, if_pos hf] at ih ⊢
        rw [e2, e3, ← ih.1]
        exact ⟨rfl, by simpa using ih.2⟩
      · rw [if_neg hf, if_neg hf] at ih ⊢
        rw [e3, ← ih.1]
        exact ⟨rfl, by simp [hl']⟩
  | [], _ :: _, hl => by simp at hl
  | _ :: _, [], hl => by simp at hl
section
variable {G : Ev} {r F : List Addr} {H : Hp}
theorem DenL.fget {f : Str} : ∀ {ks : List Str} {ds : List D} {vs : List V} {d : D}, DenL G r F H ds vs → CH.fget f ks ds = some d → ∃ v, (ks.zip vs).lookup f = some v ∧ Den G r F H d v
  | [], _, _, _, _, e => by cases e
  | _ :: _, _, _, _, .nil, e => by cases e
  | k :: ks, _, _, d, .cons (d := d0) (v := v) h t, e => by
    have e : (if k = f then some d0 else CH.fget f ks _) = some d := e
    by_cases ek : k = f
    · rw [if_pos ek] at e
      cases e
      refine ⟨v, ?_, h⟩
      subst ek
      simp [List.lookup]
    · rw [if_neg ek] at e
      obtain ⟨v', h1, h2⟩ := t.fget e
      refine ⟨v', ?_, h2⟩
      have hb : (f == k) = false := beq_eq_false_iff_ne.mpr fun z => ek z.symm
      simp [List.lookup, hb]
      exact h1
theorem DenL.frep {f : Str} {x : D} {w : V} (hx : Den G r F H x w) : ∀ {ks : List Str} {ds : List D} {vs : List V}, DenL G r F H ds vs → DenL G r F H (CH.frep f x ks ds) (CH.frep f w ks vs)
  | [], _, _, h => by cases h <;> first | exact .nil | (rename_i a b; exact .cons a b)
  | _ :: _, _, _, .nil => .nil
  | k :: ks, _, _, .cons (d := d) (v := v) (ds := ds) (vs := vs) h t => by
    show DenL G r F H (if k = f then x :: ds else d :: CH.frep f x ks ds) (if k = f then w :: vs else v :: CH.frep f w ks vs)
    by_cases ek : k = f
    · rw [if_pos ek, if_pos ek]; exact .cons hx t
    · rw [if_neg ek, if_neg ek]; exact .cons h (DenL.frep hx t)
theorem DenL.fput {f : Str} {x : D} {w : V} {ks : List Str} {ds : List D} {vs : List V} (hx : Den G r F H x w) (h : DenL G r F H ds vs) : DenL G r F H (fputV f x ks ds) (fputV f w ks vs) := by
  unfold fputV
  by_cases e : fhas f ks = true
  · rw [if_pos e, if_pos e]; exact h.frep hx
  · rw [if_neg e, if_neg e]; exact h.app (.cons hx .nil)
end
def oIns (cs : List Str) : Option O → Option (Str × List Str × List D)
  | some (.ins c ks vs) => if cs.contains c = true then some (c, ks, vs) else none
  | _ => none
/-- the instance, of one of the classes cs -/
def insD (h : MH) (cs : List Str) : D → Option (Str × List Str × List D)
  | .ref k => oIns cs h[k]?
  | _ => none
def fldD (h : MH) (cs : List Str) (f : Str) (x : D) : Option D := (insD h cs x).bind fun p => fget f p.2.1 p.2.2
def mFld (cs : List Str) (f : Str) (fo : Mo D) : Mo D := mBind fo fun x => fun _ h => optR (fldD h cs f x) h
/-- what is known of the classes cs and the name f -/
def FldT (X : Cx) (cs : List Str) (f : Str) : Prop := ∀ c ∈ cs, ∃ C, X.mg c = some (.ref C) ∧ Cls X.K C ∧ NoAttr X.K C f
theorem oIns_some {cs : List Str} {o : Option O} {p : Str × List Str × List D} (h : oIns cs o = some p) : o = some (.ins p.1 p.2.1 p.2.2) ∧ p.1 ∈ cs := by
  unfold oIns at h
  split at h
  · split at h
    · cases h
      rename_i hc
      exact ⟨rfl, by simpa using hc⟩
    · cases h
  · cases h
section
variable {X : Cx} {W : WX} {e o : Expr} {f : Str} {cs : List Str} {fo fv : Mo D} {pos pos' tpos : Pos} {value : Expr}
/-- the instance behind a value -/
theorem ins_at {r F : List Addr} {H : Hp} {h : MH} {x : D} {v : V} {p : Str × List Str × List D} (T : FldT X cs f) (g : GoodH (evOf X) r F h H) (hv : Den (evOf X) r F H x v) (e : insD h cs x = some p) :
    ∃ k a C dx vs, x = .ref k ∧ v = .ref a ∧ r[k]? = some a ∧ h[k]? = some (.ins p.1 p.2.1 p.2.2) ∧ X.mg p.1 = some (.ref C) ∧ H a = some (.ins C dx (p.2.1.zip vs)) ∧ Cls X.K C ∧ NoAttr X.K C f ∧ p.2.1.length = vs.length ∧ H dx = some (.own a) ∧ DenL (evOf X) r F H p.2.2 vs := by
  cases hv with
  | ref hk =>
    rename_i k a
    have e : oIns cs h[k]? = some p := e
    obtain ⟨e1, hc⟩ := oIns_some e
    obtain ⟨a', ea, q⟩ := g.ob k _ e1
    rw [hk] at ea; cases ea
    obtain ⟨C, dx, vs, m1, m2, m3, m4, m5⟩ := q
    obtain ⟨C', m1', c1, c2⟩ := T _ hc
    have m1 : X.mg p.1 = some (.ref C) := m1
    rw [m1] at m1'; cases m1'
    exact ⟨k, a, C, dx, vs, rfl, rfl, hk, e1, m1, m2, c1, c2, m3, m4, m5⟩
  | _ => cases e
theorem de_fld (T : FldT X cs f) (he : PE X e (tE (evOf X) W fo)) (hb : attributeBase e f X.env (eval e X.env) = eval e X.env := by rfl) : PE X (.Attribute e f pos) (tE (evOf X) W (mFld cs f fo)) :=
  (pe_fld he hb).imp fun σ H Q ⟨r, F, sl, h, s, g, q⟩ => tE.of s g (q.bind.imp fun r1 H1 x h1 e1 g1 q1 v hv => by
    have q3 : Aft (evOf X) W F σ r1 H1 (optR (fldD h1 cs f x) h1) _ := q1
    clear q1
    unfold fldD at q3
    cases ei : insD h1 cs x with
    | none => rw [ei] at q3; exact False.elim q3
    | some p =>
      rw [ei] at q3
      have q4 : Aft (evOf X) W F σ r1 H1 (optR (fget f p.2.1 p.2.2) h1) _ := q3
      clear q3
      obtain ⟨k, a, C, dx, vs, rfl, rfl, hk, hh, hm, ha, c1, c2, hl, ho, hd⟩ := ins_at T g1 hv ei
      cases ef : fget f p.2.1 p.2.2 with
      | none => rw [ef] at q4; exact False.elim q4
      | some d =>
        rw [ef] at q4
        obtain ⟨w, l, hw⟩ := hd.fget ef
        exact ⟨a, C, dx, _, w, rfl, ha, c1, c2, l, q4.here g1 _ hw⟩)
/-- the store -/
def fldS (h : MH) (cs : List Str) (f : Str) (x v : D) : Option MH := match x with
  | .ref k => (oIns cs h[k]?).bind fun p => if p.2.1.length < 1000 then some (h.set k (.ins p.1 (fputK f p.2.1) (fputV f v p.2.1 p.2.2))) else none
  | _ => none
theorem fldS_ok {r F : List Addr} {H : Hp} {h h' : MH} {x d : D} {v y : V} (T : FldT X cs f) (g : GoodH (evOf X) r F h H) (hx : Den (evOf X) r F H x v) (hd : Den (evOf X) r F H d y) (e : fldS h cs f x d = some h') :
    ∃ a C dx fs, v = .ref a ∧ H a = some (.ins C dx fs) ∧ Cls X.K C ∧ NoAttr X.K C f ∧ fs.length < 1000 ∧ Ext r H r (upd H a (.ins C dx (putF f y fs))) ∧ GoodH (evOf X) r F h' (upd H a (.ins C dx (putF f y fs))) := by
  cases x with
  | ref k =>
    have e : ((oIns cs h[k]?).bind fun p => if p.2.1.length < 1000 then some (h.set k (.ins p.1 (fputK f p.2.1) (fputV f d p.2.1 p.2.2))) else none) = some h' := e
    cases ei : oIns cs h[k]? with
    | none => rw [ei] at e; cases e
    | some p =>
      rw [ei] at e
      have e : (if p.2.1.length < 1000 then some (h.set k (.ins p.1 (fputK f p.2.1) (fputV f d p.2.1 p.2.2))) else none) = some h' := e
      by_cases hl : p.2.1.length < 1000
      · rw [if_pos hl] at e
        cases e
        obtain ⟨k', a, C, dx, vs, ek, rfl, hk, hh, hm, ha, c1, c2, hlen, ho, hds⟩ := ins_at (x := .ref k) T g hx ei
        cases ek
        have har : a ∈ r := List.mem_of_getElem? hk
        have ee : Ext r H r (upd H a (.ins C dx (putF f y (p.2.1.zip vs)))) := Ext.upd har
        refine ⟨a, C, dx, _, rfl, ha, c1, c2, by rw [List.length_zip, ← hlen]; simpa using hl, ee, ?_⟩
        obtain ⟨z1, z2⟩ := fput_zip (f := f) (x := y) hlen
        refine g.set hk trivial ⟨C, dx, fputV f y p.2.1 vs, hm, ?_, z2, ?_, ?_⟩
        · rw [z1]; exact upd_same
        · rw [upd_ne (fun z => by subst z; rw [ha] at ho; cases ho)]; exact ho
        · exact DenL.fput (Den.mono g.mine ee _ _ hd) (DenL.mono g.mine ee _ _ hds)
      · rw [if_neg hl] at e; cases e
  | _ => cases e
/-- o.f = value -/
def sFldSet (cs : List Str) (f : Str) (fo fv : Mo D) : Ms := fun sl h => bindS sl (fv sl h) fun v h1 => bindS sl (fo sl h1) fun x h2 => match fldS h2 cs f x v with
  | some h3 => .nx sl h3
  | none => .bad
theorem ds_fld (T : FldT X cs f) (ho : PE X o (tE (evOf X) W fo)) (hv : PE X value (tE (evOf X) W fv)) (hs : swapsWith value (some (.Attribute o f pos')) pos.line X.env = pure false := by rfl) : PS X (.Assign [.Attribute o f pos'] value pos) (tS (evOf X) W (sFldSet cs f fo fv)) :=
  (ps_fld ho hv hs).imp fun E σ H ⟨r, F, sl, h, s, g, q⟩ => tE.of s g ((q.bindS s g).imp fun r1 H1 d h1 e1 g1 q1 y hy => by
    have s1 := s.mono g.mine e1
    refine tE.of s1 g1 ((q1.bindS s1 g1).imp fun r2 H2 x h2 e2 g2 q2 v hv => ?_)
    have q2 : SAft (evOf X) W F r2 H2 (match fldS h2 cs f x d with
      | some h3 => .nx sl h3
      | none => .bad) E := q2
    cases es : fldS h2 cs f x d with
    | none => rw [es] at q2; exact False.elim q2
    | some h3 =>
      rw [es] at q2
      obtain ⟨a, C, dx, fs, ev, ha, c1, c2, hl, ee, g3⟩ := fldS_ok T g2 hv (Den.mono g1.mine e2 _ _ hy) es
      exact ⟨a, C, dx, fs, ev, ha, c1, c2, hl, q2 r2 _ σ ee g3 ((s1.mono g1.mine e2).mono g2.mine ee)⟩)
/-- o.f += value, numbers -/
def addI : D → D → Option D
  | .int i, .int j => some (.int (i + j))
  | _, _ => none
def sFldAdd (c : Str) (f : Str) (fo fv : Mo D) : Ms := fun sl h => bindS sl (fo sl h) fun x h1 => match fldD h1 [c] f x with
  | none => .bad
  | some v => bindS sl (fv sl h1) fun y h2 => match addI v y with
    | none => .bad
    | some z => match fldS h2 [c] f x z with
      | some h3 => .nx sl h3
      | none => .bad
theorem ds_fldadd {c : Str} (T : FldT X [c] f) (ho : PE X o (tE (evOf X) W fo)) (hv : PE X value (tE (evOf X) W fv)) : PS X (.AugAssign (.Attribute o f tpos) .Add value pos) (tS (evOf X) W (sFldAdd c f fo fv)) :=
  (ps_fldaug ho hv in_add).imp fun E σ H ⟨r, F, sl, h, s, g, q⟩ => tE.of s g ((q.bindS s g).imp fun r1 H1 x h1 e1 g1 q1 v hv => by
    have s1 := s.mono g.mine e1
    have q5 : SAft (evOf X) W F r1 H1 (match fldD h1 [c] f x with
      | none => .bad
      | some v => bindS sl (fv sl h1) fun y h2 => match addI v y with
        | none => .bad
        | some z => match fldS h2 [c] f x z with
          | some h3 => .nx sl h3
          | none => .bad) E := q1
    clear q1
    unfold fldD at q5
    cases ei : insD h1 [c] x with
    | none => rw [ei] at q5; exact False.elim q5
    | some p =>
      rw [ei] at q5
      have q6 : SAft (evOf X) W F r1 H1 (match fget f p.2.1 p.2.2 with
        | none => .bad
        | some v => bindS sl (fv sl h1) fun y h2 => match addI v y with
          | none => .bad
          | some z => match fldS h2 [c] f x z with
            | some h3 => .nx sl h3
            | none => .bad) E := q5
      clear q5
      obtain ⟨k, a, C, dx, vs, rfl, rfl, hk, hh, hm, ha, c1, c2, hl, ho, hd⟩ := ins_at T g1 hv ei
      cases ef : fget f p.2.1 p.2.2 with
      | none => rw [ef] at q6; exact False.elim q6
      | some d =>
        rw [ef] at q6
        have q7 : SAft (evOf X) W F r1 H1 (bindS sl (fv sl h1) fun y h2 => match addI d y with
          | none => .bad
          | some z => match fldS h2 [c] f (.ref k) z with
            | some h3 => .nx sl h3
            | none => .bad) E := q6
        obtain ⟨w, l, hw⟩ := hd.fget ef
        refine ⟨a, C, dx, _, w, rfl, ha, c1, c2, l, tE.of s1 g1 ((q7.bindS s1 g1).imp fun r2 H2 y h2 e2 g2 q2 vy hy => ?_)⟩
        have q2 : SAft (evOf X) W F r2 H2 (match addI d y with
          | none => .bad
          | some z => match fldS h2 [c] f (.ref k) z with
            | some h3 => .nx sl h3
            | none => .bad) E := q2
        have hw2 := Den.mono g1.mine e2 _ _ hw
        have hv2 := Den.mono g1.mine e2 _ _ hv
        cases hw2 with
        | int i =>
          cases hy with
          | int j =>
            have q2 : SAft (evOf X) W F r2 H2 (match fldS h2 [c] f (.ref k) (.int (i + j)) with
              | some h3 => .nx sl h3
              | none => .bad) E := q2
            refine ⟨i, j, rfl, rfl, ?_⟩
            cases es : fldS h2 [c] f (.ref k) (.int (i + j)) with
            | none => rw [es] at q2; exact False.elim q2
            | some h3 =>
              rw [es] at q2
              obtain ⟨a', C', dx', fs', ev, ha', c1', c2', hl', ee, g3⟩ := fldS_ok T g2 hv2 (.int (i + j)) es
              cases ev
              have s2 := (s1.mono g1.mine e2).mono g2.mine ee
              obtain ⟨Ck, m1, _, _⟩ := T c List.mem_cons_self
              have ec1 : C = Ck := by
                have := (oIns_some (show oIns [c] h1[k]? = some p from ei)).2
                rw [List.mem_singleton.mp this, m1] at hm
                cases hm; rfl
              have hcc : C' = C := by
                have es' : ((oIns [c] h2[k]?).bind fun p => if p.2.1.length < 1000 then some (h2.set k (.ins p.1 (fputK f p.2.1) (fputV f (.int (i + j)) p.2.1 p.2.2))) else none) = some h3 := es
                cases e2i : oIns [c] h2[k]? with
                | none => rw [e2i] at es'; cases es'
                | some p2 =>
                  obtain ⟨k3, a3, C3, dx3, vs3, q', qv, hk3, hh3, hm3, ha3, _⟩ := ins_at (x := .ref k) (f := f) T g2 hv2 e2i
                  cases q'; cases qv
                  have := (oIns_some e2i).2
                  rw [List.mem_singleton.mp this, m1] at hm3
                  cases hm3
                  rw [ha'] at ha3
                  cases ha3
                  exact ec1.symm
              exact ⟨dx', fs', by rw [← hcc]; exact ha', hl', by rw [← hcc]; exact q2 r2 _ σ ee g3 s2⟩
          | _ => exact False.elim q2
        | _ => cases hy <;> exact False.elim q2)
end
end CH

/-! CHF: methods, making of instances, fields as targets, append, loops over lists that may change, split. -/
namespace CH
open PySem PySem.Spec PyProof.Rows L2
section
variable {X : Cx} {CX : CXT} {k : Nat} {f C : Addr} {fd : FuncData} {ps : List Str} {sp : Sp} {E : L2.St → XK} {x m : Str} {p pos apos : Pos} {e o : Expr} {es : List Expr} {ta : TE} {t : TA}
def tMethT (C : Addr) (m : Str) (sp : Sp) (E : L2.St → XK) (ta : TE) (t : TA) : TE := fun σ H Q => ta σ H fun x H1 => ∃ a dx fs, x = .ref a ∧ H1 a = some (.ins C dx fs) ∧ fs.lookup m = none ∧ t σ H1 fun vs H2 => sp (x :: vs) H2 Q (E σ)
theorem pe_methT {pl : Sem Bool} (he : PE X o ta) (c : Cls X.K C) (hm : Meth X.K C m f) (F : FnOk X.prog X.w X.K X.mg X.base CX k f fd ps sp) (hr : Room k X.A) (hb : Binds X.K fd ps []) (hx : ∀ σ, PassesAt CX X σ (E σ)) (ha : PA X (e :: es) t)
    (hst : starEach (e :: es) X.env = (false, eval e X.env) :: starEach es X.env := by rfl) (hpl : (backTo pos (starEach es X.env)).any (·.1) = false := by rfl)
    (ht : eval (.Call (.Attribute o m apos) (e :: es) [] pos) X.env = (do
      let ov ← eval o X.env
      standAt apos.atName
      let (f, first) ← holding [ov] (getMethod ov m pl)
      callWith pos f first (backTo pos (starEach (e :: es) X.env)) (backToKw pos (keywordEach [] X.env))) := by rfl) :
    PE X (.Call (.Attribute o m apos) (e :: es) [] pos) (tMethT C m sp E ta t) := by
  refine ⟨fun pins s σ H Q I h => ?_⟩
  refine PySem.W.methodCall_KW (pl := pl) (thn (he.run pins s σ H _ I h) fun u s1 ⟨x, H1, I1, rx, a, dx, fs, ex, ea, l, q⟩ => ?_) ht
  subst ex
  obtain rfl : u = Value.ref a := rx
  refine getmeth_ok I1 ea c hm l ?_
  refine PySem.W.callWith_K (first := [.ref a]) (h₀ := X.base) I.ok.mod.kin hm.kp (thn (ha.run pos pins s1 σ H1 _ I1 q) fun us s2 ⟨vs, H2, I2, r, q2⟩ => ⟨I2.kIn, ?_⟩) hst hpl
  exact run_fnS (us := .ref a :: us) (vs := .ref a :: vs) F hr hb (hx σ) I2 (.cons rfl r) q2
theorem pe_methT0 {pl : Sem Bool} (he : PE X o ta) (c : Cls X.K C) (hm : Meth X.K C m f) (F : FnOk X.prog X.w X.K X.mg X.base CX k f fd ps sp) (hr : Room k X.A) (hb : Binds X.K fd ps []) (hx : ∀ σ, PassesAt CX X σ (E σ))
    (ht : eval (.Call (.Attribute o m apos) [] [] pos) X.env = (do
      let ov ← eval o X.env
      standAt apos.atName
      let (f, first) ← holding [ov] (getMethod ov m pl)
      callWith pos f first (backTo pos (starEach [] X.env)) (backToKw pos (keywordEach [] X.env))) := by rfl) :
    PE X (.Call (.Attribute o m apos) [] [] pos) (tMethT C m sp E ta tNil) := by
  refine ⟨fun pins s σ H Q I h => ?_⟩
  refine PySem.W.methodCall_KW (pl := pl) (thn (he.run pins s σ H _ I h) fun u s1 ⟨x, H1, I1, rx, a, dx, fs, ex, ea, l, q⟩ => ?_) ht
  subst ex
  obtain rfl : u = Value.ref a := rx
  refine getmeth_ok I1 ea c hm l ?_
  exact PySem.W.callWith_K0 (first := [.ref a]) I1.kIn hm.kp (run_fnS (us := [.ref a]) (vs := [.ref a]) F hr hb (hx σ) I1 (.cons rfl .nil) q)
def tMakeT (C : Addr) (sp : Sp) (E : L2.St → XK) (t : TA) : TE := fun σ H Q => t σ H fun vs H1 => ∀ x dx, H1 x = none → H1 dx = none → dx ≠ x →
  sp (.ref x :: vs) (upd (upd H1 dx (.own x)) x (.ins C dx [])) (fun v H2 => v = .non ∧ Q (.ref x) H2) (E σ)
theorem run_makeT {pins : List (Addr × Obj)} {σ : L2.St} {H : Hp} {s : Shared} {Q : VK} {us : List Value} {vs : List V} (M : Mk X.K C f) (F : FnOk X.prog X.w X.K X.mg X.base CX k f fd ps sp) (hr : Room (k + 1) X.A) (hb : Binds X.K fd ps [])
    (hx : PassesAt CX X σ (E σ)) (I : Inv X pins σ H s) (r : Vals vs us)
    (h : ∀ x dx, H x = none → H dx = none → dx ≠ x → sp (.ref x :: vs) (upd (upd H dx (.own x)) x (.ins C dx [])) (fun v H2 => v = .non ∧ Q (.ref x) H2) (E σ)) : wpAny (model X.prog X.w) X.A (call (.ref C) us) (EP X pins σ Q) X.xe s := by
  have told := h _ _ (I.hok.fresh (Nat.le_succ s.heap.objs.size)) (I.hok.fresh (Nat.le_refl _)) (Nat.ne_of_lt (Nat.lt_succ_self _))
  have J := Inv.made (C := C) I
  have args : Vals (V.ref s.heap.objs.size.succ :: vs) (Value.ref s.heap.objs.size.succ :: us) := .cons rfl r
  have bound := hb _ (Value.ref s.heap.objs.size.succ :: us) J.kIn (by rw [List.append_nil]; exact args.length.symm.trans (F.len _ _ _ _ told))
  rw [List.append_nil] at bound
  have body := F.run _ X.stack _ _ ⟨Value.ref s.heap.objs.size.succ :: us, []⟩ (Value.ref s.heap.objs.size.succ :: us) _ _ (E σ) (hr.make C us []) (J.env0.make C us []) bound args told
  refine wpAny_call (make_map (f := f) I.kIn M.makes M.init (beq_iff_eq.mp M.fn) (codeAny_mono body fun out t q => ?_))
  match out, q with
  | .error e, q => exact hx pins _ _ e t J q
  | .ok (.ret u), q => match J.after q with
    | ⟨v, H', I', rv, ev, z⟩ =>
      cases ev
      exact ⟨rv, V.ref s.heap.objs.size.succ, H', I', rfl, z⟩
  | .ok .next, q => exact q.elim
  | .ok .brk, q => exact q.elim
  | .ok .cont, q => exact q.elim
theorem pe_makeT (M : Mk X.K C f) (F : FnOk X.prog X.w X.K X.mg X.base CX k f fd ps sp) (hr : Room (k + 1) X.A) (hg : Gl X x) (hm : X.mg x = some (.ref C)) (hb : Binds X.K fd ps []) (hx : ∀ σ, PassesAt CX X σ (E σ)) (ha : PA X (e :: es) t)
    (hdb : (x == ("__debug__" : Str)) = false := by decide) (he : starEach (e :: es) X.env = (false, eval e X.env) :: starEach es X.env := by rfl)
    (hpl : (backTo pos (starEach es X.env)).any (·.1) = false := by rfl) : PE X (.Call (.Name x p) (e :: es) [] pos) (tMakeT C sp E t) where
  run pins s σ H Q I h := wpAny_Call_Name_kw (ld_glob I hg hm (PySem.W.callWith_K (h₀ := X.base) I.ok.mod.kin M.kp (thn (ha.run pos pins s σ H _ I h) fun us s1 ⟨vs, H1, I1, r, q⟩ => ⟨I1.kIn, run_makeT M F hr hb (hx σ) I1 r q⟩) he hpl) hdb)
theorem pe_makeT0 (M : Mk X.K C f) (F : FnOk X.prog X.w X.K X.mg X.base CX k f fd ps sp) (hr : Room (k + 1) X.A) (hg : Gl X x) (hm : X.mg x = some (.ref C)) (hb : Binds X.K fd ps []) (hx : ∀ σ, PassesAt CX X σ (E σ)) (hdb : (x == ("__debug__" : Str)) = false := by decide) :
    PE X (.Call (.Name x p) [] [] pos) (tMakeT C sp E tNil) where
  run pins s σ H Q I h := wpAny_Call_Name_kw (ld_glob I hg hm (PySem.W.callWith_K0 I.kIn M.kp (run_makeT (us := []) M F hr hb (hx σ) I .nil h)) hdb)
end
/-! ### mirrors -/
theorem fhas_lookup {m : Str} : ∀ {ks : List Str} {vs : List V}, fhas m ks = false → (ks.zip vs).lookup m = none
  | [], _, _ => rfl
  | _ :: _, [], _ => rfl
  | k :: ks, v :: vs, e => by
    have e : (if k = m then true else fhas m ks) = false := e
    by_cases ek : k = m
    · rw [if_pos ek] at e; cases e
    · rw [if_neg ek] at e
      have hb : (m == k) = false := beq_eq_false_iff_ne.mpr fun z => ek z.symm
      show List.lookup m ((k, v) :: ks.zip vs) = none
      simp only [List.lookup, hb]
      exact fhas_lookup e
def mMeth (c m : Str) (n : Nat) (g : Fn) (fo : Mo D) (fl : Mo (List D)) : Mo D := mBind fo fun x => fun sl h => match insD h [c] x with
  | some p => if fhas m p.2.1 = false then bindR (fl sl h) fun ds h1 => ckN n g (x :: ds) h1 else .bad
  | none => .bad
def makK (i : Nat) : Res D → Res D
  | .ok .non h1 => .ok (.ref i) h1
  | .exc x a h1 => .exc x a h1
  | _ => .bad
def mMake (c : Str) (n : Nat) (g : Fn) (fl : Mo (List D)) : Mo D := mBind fl fun ds => fun _ h => makK h.length (ckN n g (.ref h.length :: ds) (h ++ [.ins c [] []]))
section
variable {X : Cx} {W : WX} {k n : Nat} {ps : List Str} {g : Fn} {f C : Addr} {c m : Str} {p pos apos : Pos} {e o : Expr} {es : List Expr} {fl : Mo (List D)} {fo : Mo D}
theorem meth_of {G : Ev} {W : WX} {K : PySem.W.Frag} {mg : Str → Option Value} (T1 : (evOf X).mg c = some (.ref C)) (cc : Cls X.K C) {pn : Nat} (σ : L2.St) (H : Hp) (Q : VK) (ds' : Nat) (q : tE (evOf X) W (mMeth c m pn g fo fl) σ H Q) :
    tMethT C m (spD (evOf X) pn g) (WE W) (tE (evOf X) W fo) (tA (evOf X) W fl) σ H Q := by
  obtain ⟨r, F, sl, h, s, gd, q⟩ := q
  refine tE.of s gd (q.bind.imp fun r1 H1 x h1 e1 g1 q1 v hv => ?_)
  have q3 : Aft (evOf X) W F σ r1 H1 (match insD h1 [c] x with
    | some p => if fhas m p.2.1 = false then bindR (fl sl h1) fun ds h2 => ckN pn g (x :: ds) h2 else .bad
    | none => .bad) _ := q1
  clear q1
  cases ei : insD h1 [c] x with
  | none => rw [ei] at q3; exact False.elim q3
  | some p =>
    rw [ei] at q3
    have q4 : Aft (evOf X) W F σ r1 H1 (if fhas m p.2.1 = false then bindR (fl sl h1) fun ds h2 => ckN pn g (x :: ds) h2 else .bad) _ := q3
    clear q3
    by_cases hf : fhas m p.2.1 = false
    · rw [if_pos hf] at q4
      cases hv with
      | ref hk =>
        rename_i kx a
        have ei : oIns [c] h1[kx]? = some p := ei
        obtain ⟨z1, z2⟩ := oIns_some ei
        obtain ⟨a', ea, qo⟩ := g1.ob kx _ z1
        rw [hk] at ea; cases ea
        obtain ⟨C', dx, vs, m1, m2, m3, m4, m5⟩ := qo
        rw [List.mem_singleton.mp z2, T1] at m1
        cases m1
        refine ⟨a, dx, _, rfl, m2, fhas_lookup hf, tA.of (s.mono gd.mine e1) g1 (q4.bind.imp fun r2 H2 ds h2 e2 g2 q5 vs2 hvs => ?_)⟩
        exact ⟨r2, F, h2, .ref kx :: ds, g2, .cons (.ref (e2.get hk)) hvs, q5⟩
      | _ => cases ei
    · rw [if_neg hf] at q4; exact False.elim q4
theorem de_meth {pl : Sem Bool} (T : FT X.prog X.w X.K X.mg X.base k ps g f) (hr : Room k X.A) (T1 : X.mg c = some (.ref C)) (cc : Cls X.K C) (hm : Meth X.K C m f) (tk : Takes X W) (ho : PE X o (tE (evOf X) W fo)) (ha : PA X (e :: es) (tA (evOf X) W fl))
    (hst : starEach (e :: es) X.env = (false, eval e X.env) :: starEach es X.env := by rfl) (hpl : (backTo pos (starEach es X.env)).any (·.1) = false := by rfl)
    (ht : eval (.Call (.Attribute o m apos) (e :: es) [] pos) X.env = (do
      let ov ← eval o X.env
      standAt apos.atName
      let (f, first) ← holding [ov] (getMethod ov m pl)
      callWith pos f first (backTo pos (starEach (e :: es) X.env)) (backToKw pos (keywordEach [] X.env))) := by rfl) (hn : ps.length = n := by rfl) :
    PE X (.Call (.Attribute o m apos) (e :: es) [] pos) (tE (evOf X) W (mMeth c m n g fo fl)) := by
  subst hn
  obtain ⟨fd, h1, h2⟩ := T.ex
  exact (pe_methT (pl := pl) ho cc hm h1 hr h2.1 (fun σ => passAt tk σ) ha hst hpl ht).imp fun σ H Q q => meth_of (G := evOf X) (K := X.K) (mg := X.mg) T1 cc σ H Q 0 q
theorem de_meth0 {pl : Sem Bool} (T : FT X.prog X.w X.K X.mg X.base k ps g f) (hr : Room k X.A) (T1 : X.mg c = some (.ref C)) (cc : Cls X.K C) (hm : Meth X.K C m f) (tk : Takes X W) (ho : PE X o (tE (evOf X) W fo))
    (ht : eval (.Call (.Attribute o m apos) [] [] pos) X.env = (do
      let ov ← eval o X.env
      standAt apos.atName
      let (f, first) ← holding [ov] (getMethod ov m pl)
      callWith pos f first (backTo pos (starEach [] X.env)) (backToKw pos (keywordEach [] X.env))) := by rfl) (hn : ps.length = n := by rfl) :
    PE X (.Call (.Attribute o m apos) [] [] pos) (tE (evOf X) W (mMeth c m n g fo mNil)) := by
  subst hn
  obtain ⟨fd, h1, h2⟩ := T.ex
  refine (pe_methT0 (pl := pl) ho cc hm h1 hr h2.1 (fun σ => passAt tk σ) ht).imp fun σ H Q q => ?_
  have z := meth_of (G := evOf X) (K := X.K) (mg := X.mg) T1 cc σ H Q 0 q
  refine (fun (ta : TE) (h : ta σ H _) => h) (tE (evOf X) W fo) ?_
  obtain ⟨r, F, sl, h, s, gd, q⟩ := z
  refine ⟨r, F, sl, h, s, gd, q.imp fun r1 H1 x h1 e1 g1 q1 v hv => ?_⟩
  obtain ⟨a, dx, fs, e1, e2, e3, e4⟩ := q1 v hv
  obtain ⟨r2, F2, sl2, h2, s2, g2, q2⟩ := e4
  exact ⟨a, dx, fs, e1, e2, e3, Aft.here q2 g2 [] .nil⟩
theorem make_of (T1 : X.mg c = some (.ref C)) {pn : Nat} (σ : L2.St) (H : Hp) (Q : VK) (q : tE (evOf X) W (mMake c pn g fl) σ H Q) : tMakeT C (spD (evOf X) pn g) (WE W) (tA (evOf X) W fl) σ H Q := by
  obtain ⟨r, F, sl, h, s, gd, q⟩ := q
  refine tA.of s gd (q.bind.imp fun r1 H1 ds h1 e1 g1 q1 vs hvs x dx hx hdx hne => ?_)
  have sm1 : Same H1 (upd H1 dx (.own x)) := same_new hdx
  have hx2 : (upd H1 dx (.own x)) x = none := by rw [upd_ne (fun z => hne z.symm)]; exact hx
  have sm : Same H1 (upd (upd H1 dx (.own x)) x (.ins C dx [])) := sm1.trans (same_new hx2)
  have ee := grow_ext (r := r1) hx (g1.fresh hx).1 sm
  have g2 : GoodH (evOf X) (r1 ++ [x]) F (h1 ++ [.ins c [] []]) (upd (upd H1 dx (.own x)) x (.ins C dx [])) := by
    refine g1.grow hx sm ⟨C, dx, [], T1, upd_same, rfl, ?_, .nil⟩
    rw [upd_ne hne]
    exact upd_same
  have hl : (r1 ++ [x])[h1.length]? = some x := by
    rw [← g1.len, List.getElem?_append_right (Nat.le_refl _)]
    simp
  refine ⟨r1 ++ [x], F, h1 ++ [.ins c [] []], .ref h1.length :: ds, g2, .cons (.ref hl) (DenL.mono g1.mine ee _ _ hvs), ?_⟩
  have q3 : Aft (evOf X) W F σ r1 H1 (makK h1.length (ckN pn g (.ref h1.length :: ds) (h1 ++ [.ins c [] []]))) _ := q1
  clear q1
  cases er : ckN pn g (.ref h1.length :: ds) (h1 ++ [.ins c [] []]) with
  | ok d h2 =>
    rw [er] at q3
    cases d with
    | non =>
      intro r2 H2 e2 g3 v hv
      cases hv
      refine ⟨rfl, ?_⟩
      exact q3 r2 H2 (ee.trans g2.mine e2) g3 _ (.ref (e2.get hl))
    | _ => exact False.elim q3
  | exc x' a h2 =>
    rw [er] at q3
    intro r2 H2 cls xx e2 g3 xd
    exact q3 r2 H2 cls xx (ee.trans g2.mine e2) g3 xd
  | bad => rw [er] at q3; exact q3
theorem de_make {x : Str} (M : Mk X.K C f) (T : FT X.prog X.w X.K X.mg X.base k ps g f) (hr : Room (k + 1) X.A) (hg : Gl X c) (T1 : X.mg c = some (.ref C)) (tk : Takes X W) (ha : PA X (e :: es) (tA (evOf X) W fl)) (hdb : (c == ("__debug__" : Str)) = false := by decide) (he : starEach (e :: es) X.env = (false, eval e X.env) :: starEach es X.env := by rfl) (hpl : (backTo pos (starEach es X.env)).any (·.1) = false := by rfl) (hn : ps.length = n := by rfl) :
    PE X (.Call (.Name c p) (e :: es) [] pos) (tE (evOf X) W (mMake c n g fl)) := by
  subst hn
  obtain ⟨fd, h1, h2⟩ := T.ex
  exact (pe_makeT M h1 hr hg T1 h2.1 (fun σ => passAt tk σ) ha hdb he hpl).imp fun σ H Q q => make_of T1 σ H Q q
/-! ### a field as a target -/
def kFld (cs : List Str) (f : Str) (fo : Mo D) : Tgt := fun v sl h => bindS sl (fo sl h) fun x h2 => match fldS h2 cs f x v with
  | some h3 => .nx sl h3
  | none => .bad
theorem dg_fld {cs : List Str} {fn : Str} (T : FldT X cs fn) (ho : PE X o (tE (evOf X) W fo)) : PG X (.Attribute o fn pos) (tG (evOf X) (kFld cs fn fo)) :=
  ⟨fun pins s σ H v u Q I rv ⟨r, F, sl, h, d, hs, g, hd, q⟩ => by
    rw [assign_Attribute]
    have ht : tE (evOf X) W fo σ H (fun x H2 => ∃ a C dx fs, x = .ref a ∧ H2 a = some (.ins C dx fs) ∧ Cls X.K C ∧ NoAttr X.K C fn ∧ fs.length < 1000 ∧ Q σ (upd H2 a (.ins C dx (putF fn v fs)))) := by
      refine tE.of hs g ((GAft.bindS (W := W) (σ := σ) q).imp fun r2 H2 x h2 e2 g2 q2 vx hvx => ?_)
      have q2 : GAft (evOf X) F r2 H2 (match fldS h2 cs fn x d with
        | some h3 => .nx sl h3
        | none => .bad) Q := q2
      cases es : fldS h2 cs fn x d with
      | none => rw [es] at q2; exact False.elim q2
      | some h3 =>
        rw [es] at q2
        obtain ⟨a, C, dx, fs, ev, ha, c1, c2, hl, ee, g3⟩ := fldS_ok T g2 hvx (Den.mono g.mine e2 _ _ hd) es
        exact ⟨a, C, dx, fs, ev, ha, c1, c2, hl, q2 r2 _ σ ee g3 ((hs.mono g.mine e2).mono g2.mine ee)⟩
    refine wpAny_bind (wpAny_holding (thn (ho.run pins s σ H _ I ht) fun ov s1 ⟨x, H1, I1, r1, a, C, dx, fs, ex, ea, c, n, l, q1⟩ => ?_))
    subst ex
    obtain rfl : ov = Value.ref a := r1
    refine wpAny_bind (wpAny_standAt (wpAny_bind (wpAny_holding (setattr_ok I1 ea c n l rv fun s2 I2 => ?_))))
    exact wpAny_release ⟨σ, _, I2, q1⟩⟩
end
end CH

/-! CHG: append, loops over lists that may change, split. -/
namespace CH
open PySem PySem.Spec PyProof.Rows L2
def appD (h : MH) (k : Nat) (d : D) : Option (List D) → Res D
  | some xs => if xs.length < lim then .ok .non (h.set k (.lst (xs ++ [d]))) else .bad
  | none => .bad
def gApp : D → List D → MH → Res D := fun x ds h => match x, ds with
  | .ref k, [d] => appD h k d (oLst h[k]?)
  | _, _ => .bad
theorem mts_app {G : Ev} : MtS G rAppend gApp := fun W σ r F H h x v ds vs Q g hx hd q => by
  cases hx with
  | ref hk =>
    rename_i k a
    cases hd with
    | nil => exact False.elim q
    | cons h1 t1 =>
      rename_i d y ds vs
      cases t1 with
      | cons _ _ => exact False.elim q
      | nil =>
        have q : Aft G W F σ r H (appD h k d (oLst h[k]?)) _ := q
        cases ho : oLst h[k]? with
        | none => rw [ho] at q; exact False.elim q
        | some xs =>
          rw [ho] at q
          have q : Aft G W F σ r H (if xs.length < lim then Res.ok D.non (h.set k (.lst (xs ++ [d]))) else .bad) _ := q
          by_cases hl : xs.length < lim
          · rw [if_pos hl] at q
            obtain ⟨a', ea, vs, h2, h3⟩ := g.ob k _ (oLst_some ho)
            rw [hk] at ea; cases ea
            have ha : a ∈ r := List.mem_of_getElem? hk
            have ee : Ext r H r (upd H a (.lst (vs ++ [y]))) := Ext.upd ha
            refine ⟨a, vs, y, rfl, rfl, h2, by rw [← h3.len]; exact lim_lt hl, ?_⟩
            exact q r _ ee (g.set hk trivial ⟨_, upd_same, (DenL.mono g.mine ee _ _ h3).app (.cons (Den.mono g.mine ee _ _ h1) .nil)⟩) _ .non
          · rw [if_neg hl] at q; exact False.elim q
  | _ => cases hd <;> first | exact False.elim q | (rename_i t; cases t <;> exact False.elim q)
/-! ### loops over a list that may change -/
def forH (k : Nat) (tg : Tg) (body : Ms) : Nat → Nat → Ms
  | 0, i => fun sl h => match oLst h[k]? with
    | some xs => if xs.length ≤ i then .nx sl h else .bad
    | none => .bad
  | n + 1, i => fun sl h => match oLst h[k]? with
    | some xs => (match xs[i]? with
      | none => .nx sl h
      | some d => match tgD tg d sl with
        | none => .bad
        | some sl1 => turnR (forH k tg body n (i + 1)) (body sl1 h))
    | none => .bad
def refD : D → Option Nat
  | .ref k => some k
  | _ => none
def lenH (h : MH) (k : Nat) : Nat := ((oLst h[k]?).map List.length).getD 0
def sForH (fo : Mo D) (tg : Tg) (body : Ms) : Ms := fun sl h => bindS sl (fo sl h) fun x h1 => match refD x with
  | some k => if (oLst h1[k]?).isSome = true then forH k tg body (lenH h1 k) 0 sl h1 else .bad
  | none => .bad
theorem refD_some {x : D} {k : Nat} (h : refD x = some k) : x = .ref k := by cases x <;> first | (cases h; rfl) | cases h
theorem lst_at {G : Ev} {r F : List Addr} {H : Hp} {h : MH} {k : Nat} {a : Addr} {xs : List D} (g : GoodH G r F h H) (hk : r[k]? = some a) (ho : oLst h[k]? = some xs) : ∃ vs, H a = some (.lst vs) ∧ DenL G r F H xs vs := by
  obtain ⟨a', ea, vs, h2, h3⟩ := g.ob k _ (oLst_some ho)
  rw [hk] at ea; cases ea
  exact ⟨vs, h2, h3⟩
theorem ds_forH {X : Cx} {W : WX} {tg : Tg} {te iter : Expr} {body : List Stmt} {pos : Pos} {fo : Mo D} {fb : Ms} (hp : PassesOwn (model X.prog X.w) X.A X.env X.xe) (hc : X.calm = true) (hi : PE X iter (tE (evOf X) W fo)) (hg : PG X te (tgV X.K tg)) (hb : PSs X body (tS (evOf X) W fb))
    (hs : ∀ x, foldedSetIterable iter X.env x = pure x := by intro _; rfl) : PS X (.For te iter body [] pos) (tS (evOf X) W (sForH fo tg fb)) :=
  (ps_for hp hc (pi_list hi) hg hb hs).imp fun E σ H ⟨r, F, sl, h, s, g, q⟩ => by
    refine tE.of s g ((q.bindS s g).imp fun r1 H1 x h1 e1 g1 q1 v hv => ?_)
    have q3 : SAft (evOf X) W F r1 H1 (match refD x with
      | some k => if (oLst h1[k]?).isSome = true then forH k tg fb (lenH h1 k) 0 sl h1 else .bad
      | none => .bad) E := q1
    clear q1
    cases ex : refD x with
    | none => rw [ex] at q3; exact False.elim q3
    | some k =>
      rw [ex] at q3
      have q4 : SAft (evOf X) W F r1 H1 (if (oLst h1[k]?).isSome = true then forH k tg fb (lenH h1 k) 0 sl h1 else .bad) E := q3
      clear q3
      cases refD_some ex
      by_cases hsm : (oLst h1[k]?).isSome = true
      · rw [if_pos hsm] at q4
        cases hv with
        | ref hk =>
          rename_i a
          obtain ⟨xs0, hxs0⟩ := Option.isSome_iff_exists.mp hsm
          obtain ⟨vs0, ha0, _⟩ := lst_at g1 hk hxs0
          refine ⟨a, rfl, ⟨vs0, SqL.of ha0⟩, fun i m σ' H' => ∃ r' sl' h', Ext r1 H1 r' H' ∧ GoodH (evOf X) r' F h' H' ∧ CH.SlR (evOf X) r' F H' sl' σ' ∧ SAft (evOf X) W F r' H' (forH k tg fb m i sl' h') E, ⟨lenH h1 k, r1, sl, h1, .refl, g1, s.mono g.mine e1, q4⟩, ?_⟩
          rintro i m σ' H' ⟨r', sl', h', e', g', s', q'⟩
          have hk' := e'.get hk
          cases m with
          | zero =>
            have q5 : SAft (evOf X) W F r' H' (match oLst h'[k]? with
              | some xs => if xs.length ≤ i then .nx sl' h' else .bad
              | none => .bad) E := q'
            cases ho : oLst h'[k]? with
            | none => rw [ho] at q5; exact False.elim q5
            | some xs =>
              rw [ho] at q5
              have q6 : SAft (evOf X) W F r' H' (if xs.length ≤ i then .nx sl' h' else .bad) E := q5
              by_cases hl : xs.length ≤ i
              · rw [if_pos hl] at q6
                obtain ⟨vs, ha, hd⟩ := lst_at g' hk' ho
                exact .inl ⟨⟨vs, SqL.of ha, by rw [← hd.len]; exact hl⟩, q6.nxh s' g'⟩
              · rw [if_neg hl] at q6; exact False.elim q6
          | succ m =>
            have q5 : SAft (evOf X) W F r' H' (match oLst h'[k]? with
              | some xs => (match xs[i]? with
                | none => .nx sl' h'
                | some d => match tgD tg d sl' with
                  | none => .bad
                  | some sl1 => turnR (forH k tg fb m (i + 1)) (fb sl1 h'))
              | none => .bad) E := q'
            cases ho : oLst h'[k]? with
            | none => rw [ho] at q5; exact False.elim q5
            | some xs =>
              rw [ho] at q5
              obtain ⟨vs, ha, hd⟩ := lst_at g' hk' ho
              have q6 : SAft (evOf X) W F r' H' (match xs[i]? with
                | none => .nx sl' h'
                | some d => match tgD tg d sl' with
                  | none => .bad
                  | some sl1 => turnR (forH k tg fb m (i + 1)) (fb sl1 h')) E := q5
              clear q5
              cases hx : xs[i]? with
              | none =>
                rw [hx] at q6
                exact .inl ⟨⟨vs, SqL.of ha, hd.none hx⟩, q6.nxh s' g'⟩
              | some d =>
                rw [hx] at q6
                have q7 : SAft (evOf X) W F r' H' (match tgD tg d sl' with
                  | none => .bad
                  | some sl1 => turnR (forH k tg fb m (i + 1)) (fb sl1 h')) E := q6
                obtain ⟨vd, hv1, hv2⟩ := hd.get hx
                refine .inr ⟨⟨vs, vd, SqL.of ha, hv1⟩, fun σ2 H2 => ∃ r2 sl2 h2, Ext r1 H1 r2 H2 ∧ GoodH (evOf X) r2 F h2 H2 ∧ CH.SlR (evOf X) r2 F H2 sl2 σ2 ∧ SAft (evOf X) W F r2 H2 (forH k tg fb m (i + 1) sl2 h2) E,
                  fun σ2 H2 ⟨r2, sl2, h2, a1, a2, a3, a4⟩ => ⟨m, Nat.lt_succ_self m, r2, sl2, h2, a1, a2, a3, a4⟩, fun y H'' ⟨eH, ey⟩ => ?_⟩
                subst eH
                have := ey vs (SqL.of ha)
                rw [hv1] at this; cases this
                cases ht : tgD tg d sl' with
                | none => rw [ht] at q7; exact False.elim q7
                | some sl1 =>
                  rw [ht] at q7
                  have q8 : SAft (evOf X) W F r' H'' (turnR (forH k tg fb m (i + 1)) (fb sl1 h')) E := q7
                  refine tgV_of (G := evOf X) hv2 ht s' fun σ2 s2 _ => tS.of s2 g' ?_
                  cases hbr : fb sl1 h' with
                  | nx sl2 h2 =>
                    rw [hbr] at q8
                    exact fun r3 H3 σ3 e3 g3 s3 => ⟨r3, sl2, h2, e'.trans g'.mine e3, g3, s3, SAft.later q8 e3 g3⟩
                  | ct sl2 h2 =>
                    rw [hbr] at q8
                    exact fun r3 H3 σ3 e3 g3 s3 => ⟨r3, sl2, h2, e'.trans g'.mine e3, g3, s3, SAft.later q8 e3 g3⟩
                  | bk sl2 h2 => rw [hbr] at q8; exact q8
                  | rt d h2 => rw [hbr] at q8; exact q8
                  | exc c a sl2 h2 => rw [hbr] at q8; exact q8
                  | bad => rw [hbr] at q8; exact False.elim q8
      · rw [if_neg hsm] at q4; exact False.elim q4
/-! ### a comprehension over such a list -/
def lcH (k : Nat) (tg : Tg) (c : Mo Bool) (f : Mo D) (sl : Sl) : Nat → Nat → List D → MH → Res (List D)
  | 0, i, acc, h => match oLst h[k]? with
    | some xs => if xs.length ≤ i then .ok acc h else .bad
    | none => .bad
  | n + 1, i, acc, h => match oLst h[k]? with
    | some xs => (match xs[i]? with
      | none => .ok acc h
      | some d => match tgD tg d sl with
        | none => .bad
        | some sl1 => bindR (noX (c sl1 h)) fun b h1 => if b then (if acc.length < lim then bindR (noX (f sl1 h1)) fun x h2 => lcH k tg c f sl n (i + 1) (acc ++ [x]) h2 else .bad) else lcH k tg c f sl n (i + 1) acc h1)
    | none => .bad
def mLcH (vs : List Nat) (fo : Mo D) (tg : Tg) (c : Mo Bool) (f : Mo D) : Mo D := fun sl h => bindR (fo sl h) fun x h1 => match refD x with
  | some k => if (oLst h1[k]?).isSome = true then bindR (lcH k tg c f (wipeD sl vs) (lenH h1 k) 0 [] h1) fun xs h2 => Res.ok (D.lst xs) h2 else .bad
  | none => .bad
theorem lcH_of {X : Cx} {W : WX} {vs : List Nat} {fo : Mo D} {tg : Tg} {fc : Mo Bool} {f : Mo D} (ho : ∀ i ∈ tg.slots, i ∈ vs) (σ : L2.St) (H : Hp) (Q : VK) (q : tE (evOf X) W (mLcH vs fo tg fc f) σ H Q) :
    tLc (iList X.K (tE (evOf X) W fo)) (tgV X.K tg) (tT (evOf X) W0 fc) (tE (evOf X) W0 f) vs σ H Q := by
  obtain ⟨r, F, sl, h, s, g, q⟩ := q
  refine tE.of s g (q.bind.imp fun r1 H1 x h1 e1 g1 q1 v hv => ?_)
  have q3 : Aft (evOf X) W F σ r1 H1 (match refD x with
    | some k => if (oLst h1[k]?).isSome = true then bindR (lcH k tg fc f (wipeD sl vs) (lenH h1 k) 0 [] h1) fun xs h2 => Res.ok (D.lst xs) h2 else .bad
    | none => .bad) _ := q1
  clear q1
  cases ex : refD x with
  | none => rw [ex] at q3; exact False.elim q3
  | some k =>
    rw [ex] at q3
    have q4 : Aft (evOf X) W F σ r1 H1 (if (oLst h1[k]?).isSome = true then bindR (lcH k tg fc f (wipeD sl vs) (lenH h1 k) 0 [] h1) fun xs h2 => Res.ok (D.lst xs) h2 else .bad) _ := q3
    clear q3
    cases refD_some ex
    by_cases hsm : (oLst h1[k]?).isSome = true
    · rw [if_pos hsm] at q4
      have q4 := q4.bind
      cases hv with
      | ref hk =>
        rename_i a
        obtain ⟨xs0, hxs0⟩ := Option.isSome_iff_exists.mp hsm
        obtain ⟨vs0, ha0, _⟩ := lst_at g1 hk hxs0
        refine ⟨a, rfl, ⟨vs0, SqL.of ha0⟩, fun D0 hD => ?_⟩
        have nF : D0 ∉ F := (g1.fresh hD).2
        have fo' : Foe F H1 (D0 :: F) := fun a ha => by
          rcases List.mem_cons.mp ha with e | e
          · exact .inr (by rw [e]; exact .inl hD)
          · exact .inl e
        have sm0 : Same H1 (upd H1 D0 (.lst [])) := same_new hD
        have g1' : GoodH (evOf X) r1 (D0 :: F) h1 (upd H1 D0 (.lst [])) := g1.newF hD trivial
        let Kx : List Addr → Hp → List D → MH → Prop := fun r' H' x h1 => Aft (evOf X) W F σ r' H' (Res.ok (D.lst x) h1) fun r' H' d _ => ∀ v, Den (evOf X) r' F H' d v → Q v H'
        let Lp : Nat → Nat → List D → MH → Res (List D) := lcH k tg fc f (wipeD sl vs)
        refine ⟨fun i m H' => ∃ r' h' acc vacc, Ext r1 H1 r' H' ∧ GoodH (evOf X) r' (D0 :: F) h' H' ∧ H' D0 = some (.lst vacc) ∧ DenL (evOf X) r' (D0 :: F) H' acc vacc ∧
          Aft (evOf X) W F σ r1 H1 (Lp m i acc h') Kx, ⟨lenH h1 k, r1, h1, [], [], .same sm0, g1', upd_same, .nil, q4⟩, ?_⟩
        rintro i m H' ⟨r', h', acc, vacc, e', g', hD', hacc, q'⟩
        have hk' := e'.get hk
        have s' : CH.SlR (evOf X) r' (D0 :: F) H' (wipeD sl vs) (L2.wipe σ vs) := by
          have z := (s.mono g.mine e1).wiped vs
          exact ⟨z.1, fun j d hd => let ⟨v, a1, a2⟩ := z.2 j d hd; ⟨v, a1, Den.monoF g1.mine e' fo' _ _ a2⟩⟩
        have fin : Aft (evOf X) W F σ r1 H1 (.ok acc h') Kx → Q (.ref D0) H' := fun q2 => by
          have q3 := Aft.here (q2 r' H' e' g'.dropF) g'.dropF
          exact q3 _ (.lst hD' ⟨(g'.fd D0 List.mem_cons_self).2, nF⟩ (DenL.dropF g'.mine hacc))
        cases m with
        | zero =>
          have q5 : Aft (evOf X) W F σ r1 H1 (match oLst h'[k]? with
            | some xs => if xs.length ≤ i then .ok acc h' else .bad
            | none => .bad) Kx := q'
          cases ho : oLst h'[k]? with
          | none => rw [ho] at q5; exact False.elim q5
          | some xs =>
            rw [ho] at q5
            have q6 : Aft (evOf X) W F σ r1 H1 (if xs.length ≤ i then .ok acc h' else .bad) Kx := q5
            by_cases hl : xs.length ≤ i
            · rw [if_pos hl] at q6
              obtain ⟨vs', ha, hd⟩ := lst_at g' hk' ho
              exact .inl ⟨⟨vs', SqL.of ha, by rw [← hd.len]; exact hl⟩, fin q6⟩
            · rw [if_neg hl] at q6; exact False.elim q6
        | succ m =>
          have q5 : Aft (evOf X) W F σ r1 H1 (match oLst h'[k]? with
            | some xs => (match xs[i]? with
              | none => .ok acc h'
              | some d => match tgD tg d (wipeD sl vs) with
                | none => .bad
                | some sl1 => bindR (noX (fc sl1 h')) fun b h1 => if b then (if acc.length < lim then bindR (noX (f sl1 h1)) fun x h2 => Lp m (i + 1) (acc ++ [x]) h2 else .bad) else Lp m (i + 1) acc h1)
            | none => .bad) Kx := q'
          cases ho2 : oLst h'[k]? with
          | none => rw [ho2] at q5; exact False.elim q5
          | some xs =>
            rw [ho2] at q5
            obtain ⟨vs', ha, hd⟩ := lst_at g' hk' ho2
            have q6 : Aft (evOf X) W F σ r1 H1 (match xs[i]? with
              | none => .ok acc h'
              | some d => match tgD tg d (wipeD sl vs) with
                | none => .bad
                | some sl1 => bindR (noX (fc sl1 h')) fun b h1 => if b then (if acc.length < lim then bindR (noX (f sl1 h1)) fun x h2 => Lp m (i + 1) (acc ++ [x]) h2 else .bad) else Lp m (i + 1) acc h1) Kx := q5
            clear q5
            cases hx : xs[i]? with
            | none =>
              rw [hx] at q6
              exact .inl ⟨⟨vs', SqL.of ha, hd.none hx⟩, fin q6⟩
            | some d =>
              rw [hx] at q6
              have q7 : Aft (evOf X) W F σ r1 H1 (match tgD tg d (wipeD sl vs) with
                | none => .bad
                | some sl1 => bindR (noX (fc sl1 h')) fun b h1 => if b then (if acc.length < lim then bindR (noX (f sl1 h1)) fun x h2 => Lp m (i + 1) (acc ++ [x]) h2 else .bad) else Lp m (i + 1) acc h1) Kx := q6
              obtain ⟨vd, hv1, hv2⟩ := hd.get hx
              refine .inr ⟨⟨vs', vd, SqL.of ha, hv1⟩, fun H2 => ∃ r2 h2 acc vacc, Ext r1 H1 r2 H2 ∧ GoodH (evOf X) r2 (D0 :: F) h2 H2 ∧ H2 D0 = some (.lst vacc) ∧ DenL (evOf X) r2 (D0 :: F) H2 acc vacc ∧
                  Aft (evOf X) W F σ r1 H1 (Lp m (i + 1) acc h2) Kx,
                fun H2 ⟨r2, h2, ac, va, a1, a2, a3, a4, a5⟩ => ⟨m, Nat.lt_succ_self m, r2, h2, ac, va, a1, a2, a3, a4, a5⟩, fun y H'' ⟨eH, ey⟩ => ?_⟩
              subst eH
              have := ey vs' (SqL.of ha)
              rw [hv1] at this; cases this
              cases htg : tgD tg d (wipeD sl vs) with
              | none => rw [htg] at q7; exact False.elim q7
              | some sl1 =>
                rw [htg] at q7
                have q2 : Aft (evOf X) W F σ r1 H1 (bindR (noX (fc sl1 h')) fun b h1 => if b = true then (if acc.length < lim then bindR (noX (f sl1 h1)) fun x h2 => Lp m (i + 1) (acc ++ [x]) h2 else .bad) else Lp m (i + 1) acc h1) Kx := q7
                refine tgV_of (G := evOf X) hv2 htg s' fun σ2 s2 o2 => ⟨only_in o2 ho, ?_⟩
                refine tT.of s2 g' ((aft0 (D0 := D0) (σ0 := σ2) q2).imp fun r3 H3 b h3 e3 g3 q4 => ?_)
                have hD3 : H3 D0 = some (.lst vacc) := e3.keep _ _ hD' (g'.fd D0 List.mem_cons_self).2
                have hac3 := DenL.mono g'.mine e3 _ _ hacc
                have ee3 := e'.trans g'.mine e3
                cases b with
                | false => exact ⟨r3, h3, acc, vacc, ee3, g3, hD3, hac3, q4⟩
                | true =>
                  have q4 : Aft (evOf X) W F σ r1 H1 (if acc.length < lim then bindR (noX (f sl1 h3)) fun x h2 => Lp m (i + 1) (acc ++ [x]) h2 else .bad) Kx := q4
                  by_cases hz : acc.length < lim
                  · rw [if_pos hz] at q4
                    refine tE.of (s2.mono g'.mine e3) g3 ((aft0 (D0 := D0) (σ0 := σ2) q4).imp fun r4 H4 y h4 e4 g4 q5 v hv => ?_)
                    have hD4 : H4 D0 = some (.lst vacc) := e4.keep _ _ hD3 (g3.fd D0 List.mem_cons_self).2
                    have hac4 := DenL.mono g3.mine e4 _ _ hac3
                    refine ⟨vacc, hD4, by rw [← hac4.len]; exact lim_lt hz, ?_⟩
                    have g5 := g4.updF (acc' := .lst (vacc ++ [v])) hD4 trivial trivial List.mem_cons_self
                    have ee5 : Ext r1 H1 r4 (upd H4 D0 (.lst (vacc ++ [v]))) := by
                      have ee4 := ee3.trans g3.mine e4
                      refine ⟨ee4.pre, fun a o ha hr ht => ?_⟩
                      rw [upd_ne (ne_of_none ha hD)]
                      exact ee4.keep a o ha hr ht
                    exact ⟨r4, h4, acc ++ [y], vacc ++ [v], ee5, g5, upd_same, DenL.updF hD4 trivial List.mem_cons_self _ _ (hac4.app (.cons hv .nil)), q5⟩
                  · rw [if_neg hz] at q4; exact False.elim q4
    · rw [if_neg hsm] at q4; exact False.elim q4
theorem de_lcH {X : Cx} {W : WX} {vs : List Nat} {elt te iter : Expr} {ifs : List Expr} {scope : Scope} {own : List (Str × Nat)} {pos : Pos} {fo : Mo D} {tg : Tg} {fc : Mo Bool} {f : Mo D} (hc : X.calm = true) (hN : X.N.Nodup) (hi : PE X iter (tE (evOf X) W fo)) (ok : BlkOk X.N X.env.scope scope own)
    (ho : ∀ i ∈ tg.slots, i ∈ own.map (·.2))
    (hg : ∀ (s : Shared) (H : Hp) (C : Addr) (cl : List (Str × Addr)) (fp : List Addr), PG (X.blk s H scope (compEnvC scope cl C X.env) fp) te (tgV X.K tg))
    (ht : ∀ (s : Shared) (H : Hp) (C : Addr) (cl : List (Str × Addr)) (fp : List Addr), PTs (X.blk s H scope (compEnvC scope cl C X.env) fp) ifs (tT (evOf X) W0 fc))
    (he : ∀ (s : Shared) (H : Hp) (C : Addr) (cl : List (Str × Addr)) (fp : List Addr), PE (X.blk s H scope (compEnvC scope cl C X.env) fp) elt (tE (evOf X) W0 f)) (hs : ∀ x, foldedSetIterable iter X.env x = pure x := by intro _; rfl) (hv : own.map (·.2) = vs := by rfl) :
    PE X (.ListComp elt [⟨te, iter, ifs, 0⟩] scope pos) (tE (evOf X) W (mLcH vs fo tg fc f)) := by
  subst hv
  exact (pe_lc hc hN (pi_list hi) ok hg ht he hs).imp fun σ H Q q => lcH_of ho σ H Q q
theorem ds_setLcH {X : Cx} {W : WX} {i : Nat} {vs : List Nat} {y : Str} {py spos pos : Pos} {elt te iter : Expr} {ifs : List Expr} {scope : Scope} {own : List (Str × Nat)} {fo : Mo D} {tg : Tg} {fc : Mo Bool} {f : Mo D} (hc : X.calm = true) (hN : X.N.Nodup) (hy : X.N[i]? = some y) (hyl : X.env.scope.names.lookup y = some .local)
    (hsw : swapsWith (.ListComp elt [⟨te, iter, ifs, 0⟩] scope pos) (some (.Name y py)) spos.line X.env = pure true) (hi : PE X iter (tE (evOf X) W fo)) (ok : BlkOk X.N X.env.scope scope own)
    (ho : ∀ i ∈ tg.slots, i ∈ own.map (·.2))
    (hg : ∀ (s : Shared) (H : Hp) (C : Addr) (cl : List (Str × Addr)) (fp : List Addr), PG (X.blk s H scope (compEnvC scope cl C X.env) fp) te (tgV X.K tg))
    (ht : ∀ (s : Shared) (H : Hp) (C : Addr) (cl : List (Str × Addr)) (fp : List Addr), PTs (X.blk s H scope (compEnvC scope cl C X.env) fp) ifs (tT (evOf X) W0 fc))
    (he : ∀ (s : Shared) (H : Hp) (C : Addr) (cl : List (Str × Addr)) (fp : List Addr), PE (X.blk s H scope (compEnvC scope cl C X.env) fp) elt (tE (evOf X) W0 f)) (hs : ∀ x, foldedSetIterable iter X.env x = pure x := by intro _; rfl) (hv : own.map (·.2) = vs := by rfl) :
    PS X (.Assign [.Name y py] (.ListComp elt [⟨te, iter, ifs, 0⟩] scope pos) spos) (tS (evOf X) W (sSet i (mLcH vs fo tg fc f))) := by
  subst hv
  exact (ps_setLc hc hN hy hyl hsw (pi_list hi) ok hg ht he hs).imp fun E σ H ⟨r, F, sl, h, s, g, q⟩ => lcH_of ho σ H _ (tE.of s g ((q.bindS s g).imp fun r1 H1 x h1 e1 g1 q1 v hv => q1.nxh ((s.mono g.mine e1).set hv) g1))
/-! ### split -/
def splitR (a b : Str) (h : MH) : Res D := if (b.length == 0) = false ∧ a.length + 2 ≤ lim then .ok (.lst ((Txt.split a b).map D.str)) h else .bad
def oSplit : D → D → MH → Res D := fun x y h => match x, y with
  | .str a, .str b => splitR a b h
  | _, _ => .bad
/-- x.split(y): the text first -/
def mSplit (fo fa : Mo D) : Mo D := mBind fo fun x => fun sl h => if isStr x = true then bindR (fa sl h) fun y h1 => oSplit x y h1 else .bad
theorem denL_strs {G : Ev} {r F : List Addr} {H : Hp} : ∀ xs : List Str, DenL G r F H (xs.map D.str) (xs.map V.str)
  | [] => .nil
  | x :: xs => .cons (.str x) (denL_strs xs)
theorem de_split {X : Cx} {W : WX} {o e : Expr} {fo fa : Mo D} {apos pos : Pos} (ho : PE X o (tE (evOf X) W fo)) (he : PE X e (tE (evOf X) W fa)) (hs : starEach [e] X.env = [(false, eval e X.env)] := by rfl) (hbase : attributeBase o "split" X.env (eval o X.env) = eval o X.env := by rfl) (hline : (apos.endLine == pos.line) = true := by rfl) :
    PE X (.Call (.Attribute o "split" apos) [e] [] pos) (tE (evOf X) W (mSplit fo fa)) :=
  (pe_split ho he hs hbase hline).imp fun σ H Q ⟨r, F, sl, h, s, g, q⟩ => tE.of s g (q.bind.imp fun r1 H1 x h1 e1 g1 q1 v hv => by
    have q3 : Aft (evOf X) W F σ r1 H1 (if isStr x = true then bindR (fa sl h1) fun y h2 => oSplit x y h2 else .bad) _ := q1
    clear q1
    by_cases hx : isStr x = true
    · rw [if_pos hx] at q3
      cases hv with
      | str a =>
        refine ⟨⟨a, rfl⟩, tE.of (s.mono g.mine e1) g1 (q3.bind.imp fun r2 H2 y h2 e2 g2 q4 w hw => ?_)⟩
        cases hw with
        | str b =>
          have q5 : Aft (evOf X) W F σ r2 H2 (if (b.length == 0) = false ∧ a.length + 2 ≤ lim then Res.ok (D.lst ((Txt.split a b).map D.str)) h2 else .bad) _ := q4
          by_cases z : (b.length == 0) = false ∧ a.length + 2 ≤ lim
          · rw [if_pos z] at q5
            exact ⟨a, b, rfl, rfl, z.1, lim_ok z.2, fun p hp => q5.hereS g2 (same_new hp) _ (new_lst g2 (denL_strs _) hp)⟩
          · rw [if_neg z] at q5; exact False.elim q5
        | _ => exact False.elim q4
      | _ => cases hx
    · rw [if_neg hx] at q3; exact False.elim q3)
end CH

/-! CHH: sorted, min of plain data. -/
namespace CH
open PySem PySem.Spec PyProof.Rows L2
open PySem.W (EachIs AllAlike Sortable alike dataLe dataLt)
def isTupNE : D → Bool
  | .tup (_ :: _) => true
  | _ => false
def isPl : D → Bool
  | .int _ => true
  | .str _ => true
  | _ => false
def okSort (xs : List D) : Bool := pyOkL 40 xs && (decide (xs.length ≤ 10000) && ((xs.all fun a => xs.all fun b => alike (toPy a) (toPy b)) && (xs.all isTupNE || xs.all isPl)))
def sortD (xs : List D) : List D := xs.mergeSort (dataLe false toPy)
def rSortD (K : PySem.W.Frag) : List V → Hp → VK → Prop := fun vs H Q => ∃ (a : Addr) (xs : List V) (bs : List D) (R : V → D → Prop), vs = [.ref a] ∧ SqL K H a xs ∧ EachIs R xs bs ∧ (∀ x b, R x b → Dp K H x (toPy b)) ∧ AllAlike (bs.map toPy) ∧ Sortable (bs.map toPy) ∧ bs.length ≤ 10000 ∧ (∀ b ∈ bs, (toPy b).depth ≤ 40) ∧
  ∀ ys p, EachIs R ys (sortD bs) → H p = none → Q (.ref p) (upd H p (.lst ys))
theorem vals_of_each {R : V → D → Prop} : ∀ {us : List Value} {bs : List D}, EachIs (fun (u : Value) b => ∃ w, RelV w u ∧ R w b) us bs → ∃ ys, Vals ys us ∧ EachIs R ys bs
  | _, _, .nil => ⟨[], .nil, .nil⟩
  | _, _, .cons h t => by
    obtain ⟨w, h1, h2⟩ := h
    obtain ⟨ys, t1, t2⟩ := vals_of_each t
    exact ⟨w :: ys, .cons h1 t1, .cons h2 t2⟩
theorem each_of_vals {R : V → D → Prop} : ∀ {xs : List V} {us : List Value} {bs : List D}, Vals xs us → EachIs R xs bs → EachIs (fun (u : Value) b => ∃ w, RelV w u ∧ R w b) us bs
  | _, _, _, .nil, .nil => .nil
  | _, _, _, .cons h t, .cons h2 t2 => .cons ⟨_, h, h2⟩ (each_of_vals t t2)
theorem cr_sortD {X : Cx} {k : Nat} (hr : Room k X.A) : CallR X (.builtin "sorted") (rSortD X.K) := by
  intro pins s σ H vs us Q I r h
  obtain ⟨a, xs, bs, R, rfl, hs, he, hd, hal, hso, hlen, hdep, q⟩ := h
  obtain ⟨its, rv, hl, hz⟩ := I.list hs
  rw [Vals.ref1 r]
  have e1 := each_of_vals rv he
  refine PySem.W.sorted_data (R := fun (u : Value) b => ∃ w, RelV w u ∧ R w b) (enc := toPy) hl.isList e1 (e1.mono fun u b ⟨w, h1, h2⟩ => Dp.reads I (toPy b) w u (hd w b h2) h1) hal hso (Nat.le_trans hlen (by decide)) (fun b hb => by have := hr.un; have := hdep b hb; omega) fun out ho hout => ?_
  obtain ⟨ys, y1, y2⟩ := vals_of_each hout
  obtain ⟨ep, he'⟩ := PyProof.Rows.sortedAll_at s.heap its out.toArray
  have hl2 : ys.length ≤ sizeLine := by
    rw [y1.length, ho]
    exact Nat.le_trans hlen (by decide)
  exact ⟨.ref _, upd H (s.heap.objs.size + 1) (.lst ys), I.laid (t' := s.toks) (fun _ _ => PyProof.Rows.sortedAll_old) (Nat.le_succ _) ⟨hl2, out, ep, y1, he'⟩, rfl, q _ _ y2 (I.hok.fresh (Nat.le_succ _))⟩
def lstD (h : MH) : D → Option (List D)
  | .lst xs => some xs
  | .ref k => oLst h[k]?
  | _ => none
def sortR (h : MH) : Option (List D) → Res D
  | some xs => if okSort xs = true then .ok (.lst (sortD xs)) h else .bad
  | none => .bad
def fSorted : List D → MH → Res D := fun ds h => match ds with
  | [x] => sortR h (lstD h x)
  | _ => .bad
theorem lstD_den {G : Ev} {r F : List Addr} {H : Hp} {h : MH} {x : D} {v : V} {xs : List D} (g : GoodH G r F h H) (hx : Den G r F H x v) (e : lstD h x = some xs) : ∃ a vs, v = .ref a ∧ SqL G.K H a vs ∧ DenL G r F H xs vs := by
  cases hx with
  | lst hq hn hl => cases e; exact ⟨_, _, rfl, SqL.of hq, hl⟩
  | ref hk =>
    obtain ⟨a', ea, vs, h1, h2⟩ := g.ob _ _ (oLst_some (show oLst h[_]? = some xs from e))
    rw [hk] at ea; cases ea
    exact ⟨_, _, rfl, SqL.of h1, h2⟩
  | _ => cases e
theorem each_denL {G : Ev} {r F : List Addr} {H : Hp} : ∀ {ds : List D} {vs : List V}, DenL G r F H ds vs → EachIs (fun v d => Den G r F H d v ∧ d ∈ ds) vs ds := by
  intro ds vs h
  have key : ∀ {ds' : List D} {vs : List V}, DenL G r F H ds' vs → (∀ d ∈ ds', d ∈ ds) → EachIs (fun v d => Den G r F H d v ∧ d ∈ ds) vs ds' := by
    intro ds' vs h
    induction ds' generalizing vs with
    | nil => intro _; cases h; exact .nil
    | cons d ds' ih =>
      intro hm
      cases h with
      | cons h1 h2 => exact .cons ⟨h1, hm d (by simp)⟩ (ih h2 fun d hd => hm d (by simp [hd]))
  exact key h fun d hd => hd
theorem denL_each {G : Ev} {r F : List Addr} {H : Hp} {P : D → Prop} : ∀ {ds : List D} {vs : List V}, EachIs (fun v d => Den G r F H d v ∧ P d) vs ds → DenL G r F H ds vs
  | _, _, .nil => .nil
  | _, _, .cons h t => .cons h.1 (denL_each t)
theorem pyOkL_mem {n : Nat} : ∀ {ds : List D}, pyOkL n ds = true → ∀ d ∈ ds, pyOk n d = true
  | [], _, _, hd => by simp at hd
  | d :: ds, h, x, hx => by
    have h : (pyOk n d && pyOkL n ds) = true := by cases n <;> exact h
    simp only [Bool.and_eq_true] at h
    rcases List.mem_cons.mp hx with rfl | hx
    · exact h.1
    · exact pyOkL_mem h.2 x hx
theorem okSort_facts {xs : List D} (h : okSort xs = true) : (∀ d ∈ xs, pyOk 40 d = true) ∧ xs.length ≤ 10000 ∧ AllAlike (xs.map toPy) ∧ Sortable (xs.map toPy) := by
  unfold okSort at h
  simp only [Bool.and_eq_true, decide_eq_true_eq, List.all_eq_true, Bool.or_eq_true] at h
  obtain ⟨h1, h2, h3, h4⟩ := h
  refine ⟨pyOkL_mem h1, h2, ?_, ?_⟩
  · intro d hd d' hd'
    obtain ⟨a, ha, rfl⟩ := List.mem_map.mp hd
    obtain ⟨b, hb, rfl⟩ := List.mem_map.mp hd'
    exact h3 a ha b hb
  · rcases h4 with h4 | h4
    · refine .inl fun d hd => ?_
      obtain ⟨a, ha, rfl⟩ := List.mem_map.mp hd
      have := h4 a ha
      cases a with
      | tup ys => cases ys with
        | nil => cases this
        | cons y ys => exact ⟨toPy y, toPyL ys, rfl⟩
      | _ => cases this
    · refine .inr fun d hd => ?_
      obtain ⟨a, ha, rfl⟩ := List.mem_map.mp hd
      have := h4 a ha
      cases a with
      | int i => exact ⟨(by intro z; cases z), (by intro ys z; cases z)⟩
      | str i => exact ⟨(by intro z; cases z), (by intro ys z; cases z)⟩
      | _ => cases this
theorem calls_sorted {G : Ev} : CallS G (rSortD G.K) fSorted := fun W σ r F H h ds vs Q g hd q => by
  match ds, hd with
  | [], _ => exact False.elim q
  | _ :: _ :: _, _ => exact False.elim q
  | [x], .cons hx .nil =>
    have q : Aft G W F σ r H (sortR h (lstD h x)) _ := q
    cases el : lstD h x with
    | none => rw [el] at q; exact False.elim q
    | some xs =>
      rw [el] at q
      have q : Aft G W F σ r H (if okSort xs = true then Res.ok (D.lst (sortD xs)) h else .bad) _ := q
      by_cases ok : okSort xs = true
      · rw [if_pos ok] at q
        obtain ⟨a, ws, rfl, hs, hd⟩ := lstD_den g hx el
        obtain ⟨f1, f2, f3, f4⟩ := okSort_facts ok
        refine ⟨a, ws, xs, _, rfl, hs, each_denL hd, fun x b ⟨hb, hm⟩ => dp_of b 40 x (f1 b hm) hb, f3, f4, f2, fun b hb => (lay_of b 40 (f1 b hb)).2, fun ys p hy hp => ?_⟩
        exact q.hereS g (same_new hp) _ (new_lst g (denL_each hy) hp)
      · rw [if_neg ok] at q; exact False.elim q
end CH

/-! CHI: tables of classes, a try that runs through, dicts of pairs. -/
namespace CH
open PySem PySem.Spec PyProof.Rows L2
theorem fldT1 {X : Cx} {c f : Str} {C : Addr} (h1 : X.mg c = some (.ref C)) (h2 : Cls X.K C) (h3 : NoAttr X.K C f) : FldT X [c] f := fun c' hc => by
  rw [List.mem_singleton.mp hc]
  exact ⟨C, h1, h2, h3⟩
theorem fldT2 {X : Cx} {c d f : Str} {C D : Addr} (h1 : X.mg c = some (.ref C)) (h2 : Cls X.K C) (h3 : NoAttr X.K C f) (k1 : X.mg d = some (.ref D)) (k2 : Cls X.K D) (k3 : NoAttr X.K D f) : FldT X [c, d] f := fun c' hc => by
  rcases List.mem_cons.mp hc with rfl | hc
  · exact ⟨C, h1, h2, h3⟩
  · rw [List.mem_singleton.mp hc]
    exact ⟨D, k1, k2, k3⟩
def noXS : SRes → SRes
  | .exc _ _ _ _ => .bad
  | x => x
def sTry0 (f : Ms) : Ms := fun sl h => noXS (f sl h)
theorem ds_try0 {X : Cx} {W : WX} {body : List Stmt} {h0 : ExceptHandler} {hs : List ExceptHandler} {pos : Pos} {f : Ms} (hb : PSs X.nox body (tS (evOf X) W0 f)) : PS X (.Try body (h0 :: hs) [] [] pos) (tS (evOf X) W (sTry0 f)) :=
  (ps_try_thru0 hb).imp fun E σ H ⟨r, F, sl, h, s, g, q⟩ => ⟨r, F, sl, h, s, g, by
    have q : SAft (evOf X) W F r H (noXS (f sl h)) E := q
    cases e : f sl h with
    | exc c a sl' h' => rw [e] at q; exact False.elim q
    | nx sl' h' => rw [e] at q; exact q
    | ct sl' h' => rw [e] at q; exact q
    | bk sl' h' => rw [e] at q; exact q
    | rt d h' => rw [e] at q; exact q
    | bad => rw [e] at q; exact q⟩
/-! ### list(d.items()) and dict(pairs) -/
def itemsD : List Key → List D → List D
  | .inl i :: ks, v :: vs => .tup [.int i, v] :: itemsD ks vs
  | .inr x :: ks, v :: vs => .tup [.str x, v] :: itemsD ks vs
  | _, _ => []
def mListItems (fo : Mo D) : Mo D := mBind fo fun x => fun _ h => optR ((dicD h x).map fun p => .lst (itemsD p.1 p.2)) h
theorem items_den {G : Ev} {r F : List Addr} {H H' : Hp} (m : Mine r H) (s : Same H H') : ∀ {ks : List Key} {ds : List D} {vs : List V} {ts : List Addr}, ks.length = vs.length → DenL G r F H ds vs → Paired (fun (t : Addr) (q : Key × V) => H' t = some (.tup [kV q.1, q.2])) ts (ks.zip vs) → DenL G r F H' (itemsD ks ds) (ts.map V.ref) := by
  intro ks
  induction ks with
  | nil =>
    intro ds vs ts hl hd p
    have hv : vs = [] := by cases vs with
      | nil => rfl
      | cons _ _ => simp at hl
    subst hv
    cases p
    cases hd
    exact .nil
  | cons k ks ih =>
    intro ds vs ts hl hd p
    cases hd with
    | nil => simp at hl
    | cons h t =>
      cases p with
      | cons p1 p2 =>
        have i := ih (by simpa using hl) t p2
        have hd := Den.mono m (.same s) _ _ h
        cases k with
        | inl i' => exact .cons (.tup (.inl p1) (.cons (.int i') (.cons hd .nil))) i
        | inr x => exact .cons (.tup (.inl p1) (.cons (.str x) (.cons hd .nil))) i
theorem de_listItems {X : Cx} {W : WX} {e : Expr} {fo : Mo D} {p apos cpos pos : Pos} (hc : X.calm = true) (he : PE X e (tE (evOf X) W fo)) (hg : Gl X "list") (hm : X.mg "list" = none) (hv : bootBuiltins "list" = some (.type "list")) (hbase : attributeBase e "items" X.env (eval e X.env) = eval e X.env := by rfl) (hline : (apos.endLine == cpos.line) = true := by rfl)
    (hs : starEach [.Call (.Attribute e "items" apos) [] [] cpos] X.env = (false, eval (.Call (.Attribute e "items" apos) [] [] cpos) X.env) :: starEach [] X.env := by rfl) :
    PE X (.Call (.Name "list" p) [.Call (.Attribute e "items" apos) [] [] cpos] [] pos) (tE (evOf X) W (mListItems fo)) :=
  (LiI.pe_listItems hc he hg hm hv hbase hline hs).imp fun σ H Q ⟨r, F, sl, h, s, g, q⟩ => tE.of s g (q.bind.imp fun r1 H1 x h1 e1 g1 q1 v hv => by
    have q3 : Aft (evOf X) W F σ r1 H1 (optR ((dicD h1 x).map fun p => D.lst (itemsD p.1 p.2)) h1) _ := q1
    clear q1
    cases ed : dicD h1 x with
    | none => rw [ed] at q3; exact False.elim q3
    | some p =>
      rw [ed] at q3
      obtain ⟨a, vs, rfl, ha, hl, hd⟩ := dic_den g1 hv ed
      refine ⟨a, _, rfl, ha, fun H' pp ts sm hp ht hn hpp pr => ?_⟩
      have sm' : Same H1 H' := sm
      have q4 : Aft (evOf X) W F σ r1 H1 (Res.ok (D.lst (itemsD p.1 p.2)) h1) _ := q3
      exact q4.hereS g1 sm' _ (.lst hpp (g1.fresh hp) (items_den g1.mine sm' hl hd pr)))
def pairD : D → Option (Key × D)
  | .tup [.int i, d] => some (.inl i, d)
  | .tup [.str x, d] => some (.inr x, d)
  | _ => none
def pairsD : List D → Option (List (Key × D))
  | [] => some []
  | d :: ds => match pairD d, pairsD ds with
    | some p, some ps => some (p :: ps)
    | _, _ => none
/-- dict(pairs), a dict that will change -/
def rDictP (K : PySem.W.Frag) : List V → Hp → VK → Prop := fun xs H Q => ∃ (a : Addr) (ps : List Addr) (kvs : List (Key × V)), xs = [.ref a] ∧ SqL K H a (ps.map V.ref) ∧ Paired (fun p kv => SqT K H p [kV kv.1, kv.2]) ps kvs ∧ ∀ p, H p = none → Q (.ref p) (upd H p (.dK (mergeK [] kvs)))
def dictOf (h : MH) : Option (List (Key × D)) → Res D
  | some kds => .ok (.ref h.length) (h ++ [.dic (mergeD kds [] []).1 (mergeD kds [] []).2])
  | none => .bad
def fDict : List D → MH → Res D := fun ds h => match ds with
  | [.lst xs] => if xs.length ≤ 1000 then dictOf h (pairsD xs) else .bad
  | _ => .bad
theorem pairD_den {G : Ev} {r F : List Addr} {H : Hp} {d : D} {v : V} {p : Key × D} (hd : Den G r F H d v) (e : pairD d = some p) : ∃ a w, v = .ref a ∧ SqT G.K H a [kV p.1, w] ∧ Den G r F H p.2 w := by
  unfold pairD at e
  split at e
  · cases e
    cases hd with
    | tup hq hl =>
      cases hl with
      | cons h1 t1 =>
        cases h1
        cases t1 with
        | cons h2 t2 =>
          cases t2
          exact ⟨_, _, rfl, hq.sq, h2⟩
  · cases e
    cases hd with
    | tup hq hl =>
      cases hl with
      | cons h1 t1 =>
        cases h1
        cases t1 with
        | cons h2 t2 =>
          cases t2
          exact ⟨_, _, rfl, hq.sq, h2⟩
  · cases e
theorem pairsD_den {G : Ev} {r F : List Addr} {H : Hp} : ∀ {ds : List D} {vs : List V} {ps : List (Key × D)}, DenL G r F H ds vs → pairsD ds = some ps → ∃ (as : List Addr) (qs : List (Key × V)), vs = as.map V.ref ∧ Paired (fun p kv => SqT G.K H p [kV kv.1, kv.2]) as qs ∧ DenP G r F H ps qs := by
  intro ds
  induction ds with
  | nil =>
    intro vs ps hd e
    cases e
    cases hd
    exact ⟨[], [], rfl, .nil, .nil⟩
  | cons d ds ih =>
    intro vs ps hd e
    cases hd with
    | cons h t =>
      have e : (match pairD d, pairsD ds with
        | some p, some ps => some (p :: ps)
        | _, _ => none) = some ps := e
      cases e1 : pairD d with
      | none => rw [e1] at e; cases e
      | some p =>
        cases e2 : pairsD ds with
        | none => rw [e1, e2] at e; cases e
        | some ps' =>
          rw [e1, e2] at e
          cases e
          obtain ⟨a, w, rfl, q1, q2⟩ := pairD_den h e1
          obtain ⟨as, qs, rfl, q3, q4⟩ := ih t e2
          exact ⟨a :: as, (p.1, w) :: qs, rfl, .cons q1 q3, .cons q2 q4⟩
theorem calls_dict {G : Ev} : CallS G (rDictP G.K) fDict := fun W σ r F H h ds vs Q g hd q => by
  match ds, hd with
  | [], _ => exact False.elim q
  | d :: _ :: _, _ => cases d <;> exact False.elim q
  | [d], .cons hx .nil =>
    cases hx with
    | lst hq hn hl =>
      rename_i a xs us
      have q3 : Aft G W F σ r H (if xs.length ≤ 1000 then dictOf h (pairsD xs) else .bad) _ := q
      clear q
      by_cases hz : xs.length ≤ 1000
      · rw [if_pos hz] at q3
        cases ep : pairsD xs with
        | none => rw [ep] at q3; exact False.elim q3
        | some kds =>
          rw [ep] at q3
          obtain ⟨as, qs, e1, pr, dp⟩ := pairsD_den hl ep
          obtain ⟨ws, m1, m2, m3⟩ := merge_den (ks := []) (ds := []) (vs := []) dp rfl .nil
          have m1 : mergeK [] qs = _ := m1
          refine ⟨a, as, qs, rfl, by rw [← e1]; exact SqL.of hq, pr, fun p hp => ?_⟩
          have sm : Same H (upd H p (.dK (mergeK [] qs))) := same_new hp
          have ee := grow_ext (r := r) hp (g.fresh hp).1 sm
          have g2 : GoodH G (r ++ [p]) F (h ++ [.dic (mergeD kds [] []).1 (mergeD kds [] []).2]) (upd H p (.dK (mergeK [] qs))) := by
            refine g.grow hp sm ⟨ws, ?_, m2, DenL.mono g.mine ee _ _ m3⟩
            rw [upd_same, m1]
          refine q3 (r ++ [p]) _ ee g2 _ (.ref ?_)
          rw [← g.len, List.getElem?_append_right (Nat.le_refl _)]
          simp
      · rw [if_neg hz] at q3; exact False.elim q3
    | _ => exact False.elim q
end CH

/-! CHJ: what a def leaves behind and nobody names is forgotten. -/
namespace CH
open PySem PySem.Spec PyProof.Rows L2
open Classical in
noncomputable def gcK (h : MH) : Res D → Res D
  | .ok d h' => if pureD d = true ∧ h'.take h.length = h then .ok d h else .bad
  | .exc c none h' => if h'.take h.length = h then .exc c none h else .bad
  | _ => .bad
noncomputable def gcR (c : Fn) : Fn := fun ds h => gcK h (c ds h)
theorem gcK_pos {h h1 : MH} {d : D} (p : pureD d = true) (q : h1.take h.length = h) : gcK h (.ok d h1) = .ok d h := if_pos ⟨p, q⟩
theorem gcK_exc {h h1 : MH} {c : Str} (q : h1.take h.length = h) : gcK h (.exc c none h1) = .exc c none h := if_pos q
theorem gcK_excn {h h1 : MH} {c : Str} (q : ¬ h1.take h.length = h) : gcK h (.exc c none h1) = .bad := if_neg q
theorem gcK_neg {h h1 : MH} {d : D} (p : ¬ (pureD d = true ∧ h1.take h.length = h)) : gcK h (.ok d h1) = .bad := if_neg p
theorem gc_good {G : Ev} {r r' F : List Addr} {H H' : Hp} {h h' : MH} (g : GoodH G r F h H) (e : Ext r H r' H') (g' : GoodH G r' F h' H') (ht : h'.take h.length = h) : GoodH G r F h H' := by
  obtain ⟨d0, ed, hd0⟩ := e.pre
  refine ⟨g.len, g.nd, fun a ha => ⟨(g'.fd a ha).1, (g.fd a ha).2⟩, fun i o hi => ?_⟩
  obtain ⟨a0, ea0, q0⟩ := g.ob i o hi
  have hl : i < h.length := (List.getElem?_eq_some_iff.mp hi).1
  have hi' : h'[i]? = some o := by
    have : (h'.take h.length)[i]? = some o := by rw [ht]; exact hi
    rw [List.getElem?_take_of_lt hl] at this
    exact this
  obtain ⟨a, ea, q⟩ := g'.ob i o hi'
  rw [e.get ea0] at ea
  cases ea
  exact ⟨a0, ea0, ODen.cut ed q0 q⟩
theorem gc_sp {G : Ev} {n : Nat} {c : Fn} (vs : List V) (H : Hp) (Q : VK) (E : XK) (q : spD G n (gcR c) vs H Q E) : spD G n c vs H Q E := by
  obtain ⟨r, F, h, ds, g, hd, q⟩ := q
  refine ⟨r, F, h, ds, g, hd, ?_⟩
  unfold ckN at q ⊢
  by_cases z : ds.length = n
  · rw [if_pos z] at q ⊢
    have q : Aft G (WX0 E) F [] r H (gcK h (c ds h)) fun r' H' d _ => ∀ v, Den G r' F H' d v → Q v H' := q
    cases hc : c ds h with
    | ok d h1 =>
      rw [hc] at q
      by_cases p : pureD d = true ∧ h1.take h.length = h
      · rw [gcK_pos p.1 p.2] at q
        intro r' H' e g' v hv
        have g2 := gc_good g e g' p.2
        have ee : Ext r H r H' := ⟨⟨[], by simp, fun _ h => by cases h⟩, e.keep0⟩
        obtain ⟨d0, ed, _⟩ := e.pre
        refine q r H' ee g2 v (Den.moved (fun a ⟨h1, h2⟩ => ⟨fun hm => h1 (by rw [ed]; exact List.mem_append_left _ hm), h2⟩) _ _ p.1 hv)
      · rw [gcK_neg p] at q; exact False.elim q
    | exc x a h1 =>
      rw [hc] at q
      cases a with
      | some a => exact False.elim q
      | none =>
        by_cases p : h1.take h.length = h
        · rw [gcK_exc p] at q
          intro r' H' cls y e g' xd
          have g2 := gc_good g e g' p
          have ee : Ext r H r H' := ⟨⟨[], by simp, fun _ h => by cases h⟩, e.keep0⟩
          exact q r H' cls y ee g2 xd
        · rw [gcK_excn p] at q; exact False.elim q
    | bad => rw [hc] at q; exact False.elim q
  · rw [if_neg z] at q; exact False.elim q
section
variable {P : Program} {w : World} {K : PySem.W.Frag} {mg : Str → Option Value} {base : Heap} {k : Nat} {ps : List Str} {c : Fn} {f : Addr}
theorem FT.gc (t : FT P w K mg base k ps c f) : FT P w K mg base k ps (gcR c) f := by
  obtain ⟨fd, h1, h2⟩ := t.ex
  exact ⟨⟨fd, h1.imp gc_sp, h2⟩, t.kp⟩
end
end CH

/-! CHK: while; defs that are never reached. -/
namespace CH
open PySem PySem.Spec PyProof.Rows L2
def whD (c : Mo Bool) (b : Ms) : Nat → Ms
  | 0 => fun _ _ => .bad
  | n + 1 => fun sl h => bindS sl (c sl h) fun x h1 => if x = true then turnR (whD c b n) (b sl h1) else .nx sl h1
/-- a while of at most n turns -/
def sWhile (n : Nat) (c : Mo Bool) (b : Ms) : Ms := whD c b n
theorem ds_while {X : Cx} {W : WX} {n : Nat} {c : Expr} {body : List Stmt} {pos : Pos} {fc : Mo Bool} {fb : Ms} (hp : PassesOwn (model X.prog X.w) X.A X.env X.xe) (hc : PT X c (tT (evOf X) W fc)) (hb : PSs X body (tS (evOf X) W fb)) : PS X (.While c body [] pos) (tS (evOf X) W (sWhile n fc fb)) :=
  (ps_while hp hc hb).imp fun E σ H ⟨r, F, sl, h, s, g, q⟩ => by
    refine ⟨fun m σ' H' => ∃ r' sl' h', CH.SlR (evOf X) r' F H' sl' σ' ∧ GoodH (evOf X) r' F h' H' ∧ SAft (evOf X) W F r' H' (whD fc fb m sl' h') E, ⟨n, r, sl, h, s, g, q⟩, ?_⟩
    rintro m σ' H' ⟨r', sl', h', s', g', q'⟩
    cases m with
    | zero => exact False.elim q'
    | succ m =>
      have q2 : SAft (evOf X) W F r' H' (bindS sl' (fc sl' h') fun x h1 => if x = true then turnR (whD fc fb m) (fb sl' h1) else .nx sl' h1) E := q'
      refine tT.of s' g' ((q2.bindS s' g').imp fun r2 H2 b h2 e2 g2 q3 => ?_)
      have s2 := s'.mono g'.mine e2
      cases b with
      | false =>
        have q4 : SAft (evOf X) W F r2 H2 (.nx sl' h2) E := q3
        exact q4.nxh s2 g2
      | true =>
        have q4 : SAft (evOf X) W F r2 H2 (turnR (whD fc fb m) (fb sl' h2)) E := q3
        refine ⟨fun σ3 H3 => ∃ r3 sl3 h3, CH.SlR (evOf X) r3 F H3 sl3 σ3 ∧ GoodH (evOf X) r3 F h3 H3 ∧ SAft (evOf X) W F r3 H3 (whD fc fb m sl3 h3) E, fun σ3 H3 ⟨r3, sl3, h3, a1, a2, a3⟩ => ⟨m, Nat.lt_succ_self m, r3, sl3, h3, a1, a2, a3⟩, tS.of s2 g2 ?_⟩
        cases hbr : fb sl' h2 with
        | nx sl3 h3 =>
          rw [hbr] at q4
          exact fun r3 H3 σ3 e3 g3 s3 => ⟨r3, sl3, h3, s3, g3, SAft.later q4 e3 g3⟩
        | ct sl3 h3 =>
          rw [hbr] at q4
          exact fun r3 H3 σ3 e3 g3 s3 => ⟨r3, sl3, h3, s3, g3, SAft.later q4 e3 g3⟩
        | bk sl3 h3 => rw [hbr] at q4; exact q4
        | rt d h3 => rw [hbr] at q4; exact q4
        | exc c a sl3 h3 => rw [hbr] at q4; exact q4
        | bad => rw [hbr] at q4; exact False.elim q4
theorem dss_never {X : Cx} {W : WX} {sts : List Stmt} : PSs X sts (tS (evOf X) W sNever) := pss_never.imp fun E σ H ⟨r, F, sl, h, s, g, q⟩ => q
def oNeg : D → MH → Res D := fun x h => match x with
  | .int i => .ok (.int (-i)) h
  | _ => .bad
theorem de_neg {X : Cx} {W : WX} {a : Expr} {fa : Mo D} {pos : Pos} (ha : PE X a (tE (evOf X) W fa)) : PE X (.UnaryOp .USub a pos) (tE (evOf X) W (mUn oNeg fa)) :=
  (pe_un un_neg ha).imp fun σ H Q ⟨r, F, sl, h, s, g, q⟩ => tE.of s g (q.bind.imp fun r1 H1 x h1 e1 g1 q1 v hv => by
    cases hv with
    | int i => exact ⟨i, rfl, Aft.here q1 g1 _ (.int _)⟩
    | _ => exact False.elim q1)
end CH

/-! CHL: a list + a list, as a list that will change; a list of what is told as one that will change. -/
namespace CH
open PySem PySem.Spec PyProof.Rows L2
theorem lstD_at {G : Ev} {r F : List Addr} {H : Hp} {h : MH} {x : D} {v : V} {xs : List D} (g : GoodH G r F h H) (hx : Den G r F H x v) (e : lstD h x = some xs) : ∃ a vs, v = .ref a ∧ H a = some (.lst vs) ∧ DenL G r F H xs vs := by
  cases hx with
  | lst hq hn hl => cases e; exact ⟨_, _, rfl, hq, hl⟩
  | ref hk =>
    obtain ⟨a', ea, vs, h1, h2⟩ := g.ob _ _ (oLst_some (show oLst h[_]? = some xs from e))
    rw [hk] at ea; cases ea
    exact ⟨_, _, rfl, h1, h2⟩
  | _ => cases e
def addLR (h : MH) : Option (List D) → Option (List D) → Res D
  | some xs, some ys => newLst (xs ++ ys) h
  | _, _ => .bad
/-- two lists as a new one that will change -/
def oAddL : D → D → MH → Res D := fun x y h => addLR h (lstD h x) (lstD h y)
theorem ops_addL {G : Ev} : OpS G (rAddA G.K) oAddL := fun W σ r F H h x y v u Q g hx hy q => by
  have q3 : Aft G W F σ r H (addLR h (lstD h x) (lstD h y)) _ := q
  clear q
  cases ex : lstD h x with
  | none => rw [ex] at q3; exact False.elim q3
  | some xs =>
    cases ey : lstD h y with
    | none => rw [ex, ey] at q3; exact False.elim q3
    | some ys =>
      rw [ex, ey] at q3
      have q4 : Aft G W F σ r H (if (xs ++ ys).length ≤ lim then Res.ok (D.ref h.length) (h ++ [.lst (xs ++ ys)]) else .bad) _ := q3
      obtain ⟨a, vs, rfl, ha, hd⟩ := lstD_at g hx ex
      obtain ⟨b, us, rfl, hb, he⟩ := lstD_at g hy ey
      by_cases z : (xs ++ ys).length ≤ lim
      · rw [if_pos z] at q4
        refine .inr (.inr (.inr ⟨_, _, _, _, rfl, rfl, ha, hb, by rw [← hd.len, ← he.len, ← List.length_append]; exact lim_ok z, fun p hp => ?_⟩))
        have sm : Same H (upd H p (.lst (vs ++ us))) := same_new hp
        have ee := grow_ext (r := r) hp (g.fresh hp).1 sm
        refine q4 (r ++ [p]) _ ee (g.grow hp sm ⟨_, upd_same, DenL.mono g.mine ee _ _ (hd.app he)⟩) _ (.ref ?_)
        rw [← g.len, List.getElem?_append_right (Nat.le_refl _)]
        simp
      · rw [if_neg z] at q4; exact False.elim q4
end CH

/-! CHM: a for over a tuple or over a heap list, as the value is. -/
namespace CH
open PySem PySem.Spec PyProof.Rows L2
/-- either of the two iterables -/
def iEither (K : PySem.W.Frag) (tl : TE) : TI := fun σ H R => tl σ H fun x H1 => ∃ a, x = .ref a ∧ (((∃ xs, SqL K H1 a xs) ∧ R (Itl K a) H1) ∨ ((∃ xs, SqT K H1 a xs) ∧ R (Itt K a) H1))
theorem pi_either {X : Cx} {tg l : Expr} {tl : TE} (hl : PE X l tl) : PI X tg l (iEither X.K tl) where
  run pins s σ H R I h := by
    refine thn (hl.run pins s σ H _ I h) fun v s1 q0 => ?_
    match q0 with
    | ⟨x, H1, I1, r1, a, ex, q⟩ =>
      cases ex
      cases r1
      refine q.elim (fun z => ?_) fun z => ?_
      · match I1.list z.1.choose_spec with
        | ⟨_, _, p, _⟩ => exact wpAny_pyIter_list p.isList (pi_one (tk := s1.toks) I1 _ (turn_list a _) ⟨_, Heap.get?_push_size _ rfl, rfl, rfl⟩ z.2)
      · match I1.tuple z.1.choose_spec with
        | ⟨its, _, p, _⟩ => exact wpAny_pyIter_tuple (items := its.toArray) p (pi_one (tk := s1.toks) I1 _ (turn_tuple a _) ⟨_, Heap.get?_push_size _ rfl, rfl, rfl⟩ z.2)
def tupD : D → Option (List D)
  | .tup xs => some xs
  | _ => none
/-- a for over a tuple or a heap list -/
def sForB (fo : Mo D) (tg : Tg) (body : Ms) : Ms := fun sl h => bindS sl (fo sl h) fun x h1 => match tupD x with
  | some xs => forD tg body xs sl h1
  | none => match refD x with
    | some k => if (oLst h1[k]?).isSome = true then forH k tg body (lenH h1 k) 0 sl h1 else .bad
    | none => .bad
theorem tupD_some {x : D} {xs : List D} (h : tupD x = some xs) : x = .tup xs := by cases x <;> first | (cases h; rfl) | cases h
theorem ds_forB {X : Cx} {W : WX} {tg : Tg} {te iter : Expr} {body : List Stmt} {pos : Pos} {fo : Mo D} {fb : Ms} (hp : PassesOwn (model X.prog X.w) X.A X.env X.xe) (hc : X.calm = true) (hi : PE X iter (tE (evOf X) W fo)) (hg : PG X te (tgV X.K tg)) (hb : PSs X body (tS (evOf X) W fb))
    (hs : ∀ x, foldedSetIterable iter X.env x = pure x := by intro _; rfl) : PS X (.For te iter body [] pos) (tS (evOf X) W (sForB fo tg fb)) :=
  (ps_for hp hc (pi_either hi) hg hb hs).imp fun E σ H ⟨r, F, sl, h, s, g, q⟩ => by
    refine tE.of s g ((q.bindS s g).imp fun r1 H1 x h1 e1 g1 q1 v hv => ?_)
    have q0 : SAft (evOf X) W F r1 H1 (match tupD x with
      | some xs => forD tg fb xs sl h1
      | none => match refD x with
        | some k => if (oLst h1[k]?).isSome = true then forH k tg fb (lenH h1 k) 0 sl h1 else .bad
        | none => .bad) E := q1
    clear q1
    cases et : tupD x with
    | some xs =>
      rw [et] at q0
      have q1 : SAft (evOf X) W F r1 H1 (forD tg fb xs sl h1) E := q0
      clear q0
      cases tupD_some et
      cases hv with
      | tup hq hl =>
        refine ⟨_, rfl, .inr ⟨⟨_, hq.sq⟩, ?_⟩⟩
        have hJ := itd_tup g1.mine g1.mineF hq hl
        refine ⟨fun i m σ' H' => ∃ r' sl' h', Ext r1 H1 r' H' ∧ GoodH (evOf X) r' F h' H' ∧ CH.SlR (evOf X) r' F H' sl' σ' ∧ m = xs.length - i ∧ i ≤ xs.length ∧ SAft (evOf X) W F r' H' (forD tg fb (xs.drop i) sl' h') E, ⟨xs.length, r1, sl, h1, .refl, g1, s.mono g.mine e1, by simp, Nat.zero_le _, q1⟩, ?_⟩
        rintro i m σ' H' ⟨r', sl', h', e', g', s', rfl, hi', q'⟩
        have hJ' := hJ r' F H' e'.toF g'.mine .refl i
        by_cases hlt : i < xs.length
        · have hd : xs[i]? = some xs[i] := List.getElem?_eq_getElem hlt
          obtain ⟨hgo, hy⟩ := hJ'.1 _ hd
          refine .inr ⟨hgo, fun σ2 H2 => ∃ r2 sl2 h2, Ext r1 H1 r2 H2 ∧ GoodH (evOf X) r2 F h2 H2 ∧ CH.SlR (evOf X) r2 F H2 sl2 σ2 ∧ SAft (evOf X) W F r2 H2 (forD tg fb (xs.drop (i + 1)) sl2 h2) E,
            fun σ2 H2 ⟨r2, sl2, h2, a1, a2, a3, a4⟩ => ⟨xs.length - (i + 1), by omega, r2, sl2, h2, a1, a2, a3, rfl, hlt, a4⟩, fun x H'' yld => ?_⟩
          obtain ⟨sm, hx⟩ := hy x H'' yld
          rw [List.drop_eq_getElem_cons hlt] at q'
          unfold forD at q'
          have g'' := g'.same sm
          have s'' := s'.mono g'.mine (.same sm)
          have ee := e'.trans g'.mine (Ext.same (r := r') sm)
          cases ht : tgD tg xs[i] sl' with
          | none => rw [ht] at q'; exact False.elim q'
          | some sl1 =>
            rw [ht] at q'
            have q'' : SAft (evOf X) W F r' H' (turnR (forD tg fb (xs.drop (i + 1))) (fb sl1 h')) E := q'
            refine tgV_of (G := evOf X) hx ht s'' fun σ2 s2 _ => tS.of s2 g'' ?_
            cases hbr : fb sl1 h' with
            | nx sl2 h2 =>
              rw [hbr] at q''
              exact fun r3 H3 σ3 e3 g3 s3 => ⟨r3, sl2, h2, ee.trans g''.mine e3, g3, s3, SAft.later q'' ((Ext.same (r := r') sm).trans g''.mine e3) g3⟩
            | ct sl2 h2 =>
              rw [hbr] at q''
              exact fun r3 H3 σ3 e3 g3 s3 => ⟨r3, sl2, h2, ee.trans g''.mine e3, g3, s3, SAft.later q'' ((Ext.same (r := r') sm).trans g''.mine e3) g3⟩
            | bk sl2 h2 =>
              rw [hbr] at q''
              exact fun r3 H3 σ3 e3 g3 s3 => q'' r3 H3 σ3 ((Ext.same (r := r') sm).trans g''.mine e3) g3 s3
            | rt d h2 =>
              rw [hbr] at q''
              exact fun r3 H3 v e3 g3 => q'' r3 H3 v ((Ext.same (r := r') sm).trans g''.mine e3) g3
            | exc c a sl2 h2 =>
              rw [hbr] at q''
              exact fun r3 H3 σ3 cls x e3 g3 => q'' r3 H3 σ3 cls x ((Ext.same (r := r') sm).trans g''.mine e3) g3
            | bad => rw [hbr] at q''; exact False.elim q''
        · have ei : i = xs.length := by omega
          subst ei
          rw [List.drop_length] at q'
          exact .inl ⟨hJ'.2 (by simp), q'.nxh s' g'⟩
    | none =>
      rw [et] at q0
      have q1 : SAft (evOf X) W F r1 H1 (match refD x with
        | some k => if (oLst h1[k]?).isSome = true then forH k tg fb (lenH h1 k) 0 sl h1 else .bad
        | none => .bad) E := q0
      clear q0
      have q3 : SAft (evOf X) W F r1 H1 (match refD x with
        | some k => if (oLst h1[k]?).isSome = true then forH k tg fb (lenH h1 k) 0 sl h1 else .bad
        | none => .bad) E := q1
      clear q1
      cases ex : refD x with
      | none => rw [ex] at q3; exact False.elim q3
      | some k =>
        rw [ex] at q3
        have q4 : SAft (evOf X) W F r1 H1 (if (oLst h1[k]?).isSome = true then forH k tg fb (lenH h1 k) 0 sl h1 else .bad) E := q3
        clear q3
        cases refD_some ex
        by_cases hsm : (oLst h1[k]?).isSome = true
        · rw [if_pos hsm] at q4
          cases hv with
          | ref hk =>
            rename_i a
            obtain ⟨xs0, hxs0⟩ := Option.isSome_iff_exists.mp hsm
            obtain ⟨vs0, ha0, _⟩ := lst_at g1 hk hxs0
            refine ⟨a, rfl, .inl ⟨⟨vs0, SqL.of ha0⟩, fun i m σ' H' => ∃ r' sl' h', Ext r1 H1 r' H' ∧ GoodH (evOf X) r' F h' H' ∧ CH.SlR (evOf X) r' F H' sl' σ' ∧ SAft (evOf X) W F r' H' (forH k tg fb m i sl' h') E, ⟨lenH h1 k, r1, sl, h1, .refl, g1, s.mono g.mine e1, q4⟩, ?_⟩⟩
            rintro i m σ' H' ⟨r', sl', h', e', g', s', q'⟩
            have hk' := e'.get hk
            cases m with
            | zero =>
              have q5 : SAft (evOf X) W F r' H' (match oLst h'[k]? with
                | some xs => if xs.length ≤ i then .nx sl' h' else .bad
                | none => .bad) E := q'
              cases ho : oLst h'[k]? with
              | none => rw [ho] at q5; exact False.elim q5
              | some xs =>
                rw [ho] at q5
                have q6 : SAft (evOf X) W F r' H' (if xs.length ≤ i then .nx sl' h' else .bad) E := q5
                by_cases hl : xs.length ≤ i
                · rw [if_pos hl] at q6
                  obtain ⟨vs, ha, hd⟩ := lst_at g' hk' ho
                  exact .inl ⟨⟨vs, SqL.of ha, by rw [← hd.len]; exact hl⟩, q6.nxh s' g'⟩
                · rw [if_neg hl] at q6; exact False.elim q6
            | succ m =>
              have q5 : SAft (evOf X) W F r' H' (match oLst h'[k]? with
                | some xs => (match xs[i]? with
                  | none => .nx sl' h'
                  | some d => match tgD tg d sl' with
                    | none => .bad
                    | some sl1 => turnR (forH k tg fb m (i + 1)) (fb sl1 h'))
                | none => .bad) E := q'
              cases ho : oLst h'[k]? with
              | none => rw [ho] at q5; exact False.elim q5
              | some xs =>
                rw [ho] at q5
                obtain ⟨vs, ha, hd⟩ := lst_at g' hk' ho
                have q6 : SAft (evOf X) W F r' H' (match xs[i]? with
                  | none => .nx sl' h'
                  | some d => match tgD tg d sl' with
                    | none => .bad
                    | some sl1 => turnR (forH k tg fb m (i + 1)) (fb sl1 h')) E := q5
                clear q5
                cases hx : xs[i]? with
                | none =>
                  rw [hx] at q6
                  exact .inl ⟨⟨vs, SqL.of ha, hd.none hx⟩, q6.nxh s' g'⟩
                | some d =>
                  rw [hx] at q6
                  have q7 : SAft (evOf X) W F r' H' (match tgD tg d sl' with
                    | none => .bad
                    | some sl1 => turnR (forH k tg fb m (i + 1)) (fb sl1 h')) E := q6
                  obtain ⟨vd, hv1, hv2⟩ := hd.get hx
                  refine .inr ⟨⟨vs, vd, SqL.of ha, hv1⟩, fun σ2 H2 => ∃ r2 sl2 h2, Ext r1 H1 r2 H2 ∧ GoodH (evOf X) r2 F h2 H2 ∧ CH.SlR (evOf X) r2 F H2 sl2 σ2 ∧ SAft (evOf X) W F r2 H2 (forH k tg fb m (i + 1) sl2 h2) E,
                    fun σ2 H2 ⟨r2, sl2, h2, a1, a2, a3, a4⟩ => ⟨m, Nat.lt_succ_self m, r2, sl2, h2, a1, a2, a3, a4⟩, fun y H'' ⟨eH, ey⟩ => ?_⟩
                  subst eH
                  have := ey vs (SqL.of ha)
                  rw [hv1] at this; cases this
                  cases ht : tgD tg d sl' with
                  | none => rw [ht] at q7; exact False.elim q7
                  | some sl1 =>
                    rw [ht] at q7
                    have q8 : SAft (evOf X) W F r' H'' (turnR (forH k tg fb m (i + 1)) (fb sl1 h')) E := q7
                    refine tgV_of (G := evOf X) hv2 ht s' fun σ2 s2 _ => tS.of s2 g' ?_
                    cases hbr : fb sl1 h' with
                    | nx sl2 h2 =>
                      rw [hbr] at q8
                      exact fun r3 H3 σ3 e3 g3 s3 => ⟨r3, sl2, h2, e'.trans g'.mine e3, g3, s3, SAft.later q8 e3 g3⟩
                    | ct sl2 h2 =>
                      rw [hbr] at q8
                      exact fun r3 H3 σ3 e3 g3 s3 => ⟨r3, sl2, h2, e'.trans g'.mine e3, g3, s3, SAft.later q8 e3 g3⟩
                    | bk sl2 h2 => rw [hbr] at q8; exact q8
                    | rt d h2 => rw [hbr] at q8; exact q8
                    | exc c a sl2 h2 => rw [hbr] at q8; exact q8
                    | bad => rw [hbr] at q8; exact False.elim q8
        · rw [if_neg hsm] at q4; exact False.elim q4
end CH

/-! CHN: max of a list of integers. -/
namespace CH
open PySem PySem.Spec PyProof.Rows L2
def maxI : List Int → Int
  | [] => 0
  | x :: xs => xs.foldl (fun a b => if b > a then b else a) x
theorem foldl_max (xs : List Int) : ∀ x, (xs.foldl (fun a b => if b > a then b else a) x ∈ x :: xs) ∧ x ≤ xs.foldl (fun a b => if b > a then b else a) x ∧ ∀ a ∈ xs, a ≤ xs.foldl (fun a b => if b > a then b else a) x := by
  induction xs with
  | nil => intro x; simp
  | cons y ys ih =>
    intro x
    obtain ⟨h1, h2, h3⟩ := ih (if y > x then y else x)
    simp only [List.foldl_cons]
    refine ⟨?_, ?_, ?_⟩
    · rcases List.mem_cons.mp h1 with e | e
      · rw [e]
        split <;> simp
      · exact List.mem_cons_of_mem _ (List.mem_cons_of_mem _ e)
    · split at h2 <;> split <;> omega
    · intro a ha
      rcases List.mem_cons.mp ha with rfl | ha
      · split at h2 <;> split <;> omega
      · exact h3 a ha
theorem maxI_mem {js : List Int} (h : js ≠ []) : maxI js ∈ js ∧ ∀ a ∈ js, a ≤ maxI js := by
  cases js with
  | nil => exact absurd rfl h
  | cons x xs =>
    obtain ⟨h1, h2, h3⟩ := foldl_max xs x
    refine ⟨h1, fun a ha => ?_⟩
    rcases List.mem_cons.mp ha with rfl | ha
    · exact h2
    · exact h3 a ha
theorem maxI_eq {js : List Int} {M : Int} (h1 : M ∈ js) (h2 : ∀ a ∈ js, a ≤ M) : M = maxI js := by
  have hne : js ≠ [] := by rintro rfl; cases h1
  obtain ⟨h3, h4⟩ := maxI_mem hne
  exact Int.le_antisymm (h4 M h1) (h2 _ h3)
def rMaxL (K : PySem.W.Frag) : List V → Hp → VK → Prop := fun vs H Q => ∃ (a : Addr) (js : List Int), vs = [.ref a] ∧ SqL K H a (js.map V.int) ∧ js ≠ [] ∧ Q (.int (maxI js)) H
theorem vals_ints : ∀ {js : List Int} {its : List Value}, Vals (js.map V.int) its → ∃ ps : List (Int × Tok), its = ps.map (fun p => Value.int p.1 p.2) ∧ ps.map (·.1) = js
  | [], _, .nil => ⟨[], rfl, rfl⟩
  | j :: js, _, .cons h t => by
    obtain ⟨ps, e1, e2⟩ := vals_ints t
    obtain ⟨tk, rfl⟩ := h
    exact ⟨(j, tk) :: ps, by rw [e1]; rfl, by rw [List.map_cons, e2]⟩
theorem cr_maxL {X : Cx} (hc : X.calm = true) : CallR X (.builtin "max") (rMaxL X.K) := by
  intro pins s σ H vs us Q I r h
  obtain ⟨a, js, rfl, hs, hne, q⟩ := h
  obtain ⟨its, rv, hl, _⟩ := I.list hs
  rw [Vals.ref1 r]
  obtain ⟨ps, rfl, rfl⟩ := vals_ints rv
  have hl2 : s.heap.IsList a (intItems ps.toArray) := by
    have := hl.isList
    unfold intItems
    rw [List.map_toArray]
    exact this
  have hsz : 0 < ps.toArray.size := by
    rw [List.size_toArray]
    cases ps with
    | nil => exact absurd rfl hne
    | cons p ps => simp
  refine max_intList (I.ok.hd hc) hl2 hsz fun v h' tk hv k => ⟨_, H, I.kept k, ?_, q⟩
  obtain ⟨t, rfl⟩ := intItems_at hv
  obtain ⟨h1, h2⟩ := argBest_gt (numAt ps.toArray) (ps.toArray.size - 1)
  generalize argBest (fun i j => decide (numAt ps.toArray i > numAt ps.toArray j)) (ps.toArray.size - 1) = m at *
  have hm : m < ps.length := by
    rw [List.size_toArray] at h1 hsz
    omega
  have hnum : ∀ i (hi : i < ps.length), numAt ps.toArray i = (ps[i]).1 := by
    intro i hi
    unfold numAt
    simp [hi]
  have e : numAt ps.toArray m = maxI (ps.map (·.1)) := by
    refine maxI_eq ?_ ?_
    · rw [hnum m hm]
      exact List.mem_map.mpr ⟨_, List.getElem_mem hm, rfl⟩
    · intro x hx
      obtain ⟨p, hp, rfl⟩ := List.mem_map.mp hx
      obtain ⟨i, hi, rfl⟩ := List.getElem_of_mem hp
      rw [← hnum i hi]
      refine h2 i ?_
      rw [List.size_toArray]
      omega
  rw [← e]
  exact ⟨t, rfl⟩
def intsD : List D → Option (List Int)
  | [] => some []
  | .int i :: ds => (intsD ds).map fun js => i :: js
  | _ => none
def maxR (h : MH) : Option (List Int) → Res D
  | some (j :: js) => .ok (.int (maxI (j :: js))) h
  | _ => .bad
def fMaxL : List D → MH → Res D := fun ds h => match ds with
  | [.lst xs] => maxR h (intsD xs)
  | _ => .bad
theorem intsD_some : ∀ {ds : List D} {js : List Int}, intsD ds = some js → ds = js.map D.int
  | [], js, h => by cases h; rfl
  | d :: ds, js, h => by
    cases d with
    | int i =>
      have h : (intsD ds).map (fun js => i :: js) = some js := h
      cases e : intsD ds with
      | none => rw [e] at h; cases h
      | some ks =>
        rw [e] at h
        cases h
        rw [intsD_some e]
        rfl
    | _ => cases h
theorem denL_ints {G : Ev} {r F : List Addr} {H : Hp} : ∀ {js : List Int} {vs : List V}, DenL G r F H (js.map D.int) vs → vs = js.map V.int
  | [], _, h => by cases h; rfl
  | j :: js, _, h => by
    cases h with
    | cons h1 h2 =>
      cases h1
      rw [denL_ints h2]
      rfl
theorem calls_maxL {G : Ev} : CallS G (rMaxL G.K) fMaxL := fun W σ r F H h ds vs Q g hd q => by
  match ds, hd with
  | [], _ => exact False.elim q
  | d :: e :: _, _ => cases d <;> exact False.elim q
  | [x], .cons hx .nil =>
    cases hx with
    | lst hq hn hl =>
      rename_i xs vs
      have q : Aft G W F σ r H (maxR h (intsD xs)) _ := q
      cases e : intsD xs with
      | none => rw [e] at q; exact False.elim q
      | some js =>
        rw [e] at q
        cases js with
        | nil => exact False.elim q
        | cons j js =>
          have q : Aft G W F σ r H (Res.ok (D.int (maxI (j :: js))) h) _ := q
          rw [intsD_some e] at hl
          have ev := denL_ints hl
          subst ev
          exact ⟨_, j :: js, rfl, SqL.of hq, by simp, q.here g _ (.int _)⟩
    | _ => exact False.elim q
end CH

/-! CHP: a list (of anything) == []. -/
namespace CH
open PySem PySem.SeqAt PySem.Spec PyProof.Rows L2
def rEqE (K : PySem.W.Frag) : R2 := fun x y H Q => ∃ a b xs, x = .ref a ∧ y = .ref b ∧ SqL K H a xs ∧ SqL K H b [] ∧ Q (.bl xs.isEmpty) H
def rNeE (K : PySem.W.Frag) : R2 := fun x y H Q => ∃ a b xs, x = .ref a ∧ y = .ref b ∧ SqL K H a xs ∧ SqL K H b [] ∧ Q (.bl (!xs.isEmpty)) H
theorem vals_nil {us : List Value} (r : Vals [] us) : us = [] := by cases r; rfl
theorem vals_ne {x : V} {xs : List V} {us : List Value} (r : Vals (x :: xs) us) : ∃ u us', us = u :: us' := by cases r; exact ⟨_, _, rfl⟩
theorem opr_eqE {X : Cx} {k : Nat} (hr : Room k X.A) : OpR X (compareOp .Eq) (rEqE X.K) := by
  intro pins s σ H x y v u Q I rx ry h
  obtain ⟨a, b, xs, rfl, rfl, h1, h2, q⟩ := h
  cases rx; cases ry
  obtain ⟨us, r1, l1, _⟩ := I.list h1
  obtain ⟨ws, r2, l2, _⟩ := I.list h2
  have e2 := vals_nil r2
  subst e2
  have hu : X.A.units < cLine := by have := hr.units; omega
  cases xs with
  | nil =>
    have e1 := vals_nil r1
    subst e1
    exact eq_listAt (e := fun _ => true) l1.isList l2.isList rfl hu (fun j h1 _ => absurd h1 (by simp)) ⟨.bl _, H, I, rfl, q⟩
  | cons x xs =>
    obtain ⟨w, us', rfl⟩ := vals_ne r1
    exact eq_list_lengthsAt l1.isList l2.isList (by simp) hu ⟨.bl _, H, I, rfl, q⟩
theorem opr_neE {X : Cx} {k : Nat} (hr : Room k X.A) : OpR X (compareOp .NotEq) (rNeE X.K) := by
  intro pins s σ H x y v u Q I rx ry h
  obtain ⟨a, b, xs, rfl, rfl, h1, h2, q⟩ := h
  cases rx; cases ry
  obtain ⟨us, r1, l1, _⟩ := I.list h1
  obtain ⟨ws, r2, l2, _⟩ := I.list h2
  have e2 := vals_nil r2
  subst e2
  have hu : X.A.units < cLine := by have := hr.units; omega
  cases xs with
  | nil =>
    have e1 := vals_nil r1
    subst e1
    exact RcNeAt.lists (e := fun _ => true) l1.isList l2.isList rfl hu (fun j h1 _ => absurd h1 (by simp)) _ _ _ _ ⟨.bl _, H, I, rfl, q⟩
  | cons x xs =>
    obtain ⟨w, us', rfl⟩ := vals_ne r1
    exact RcNeAt.lists_lengths l1.isList l2.isList (by simp) hu _ _ _ _ ⟨.bl _, H, I, rfl, q⟩
def oEqE : D → D → MH → Res D := fun x y h => match x, y with
  | .lst xs, .lst [] => .ok (.bl xs.isEmpty) h
  | _, _ => .bad
def oNeE : D → D → MH → Res D := fun x y h => match x, y with
  | .lst xs, .lst [] => .ok (.bl (!xs.isEmpty)) h
  | _, _ => .bad
theorem denL_empty {G : Ev} {r F : List Addr} {H : Hp} {xs : List D} {vs : List V} (h : DenL G r F H xs vs) : vs.isEmpty = xs.isEmpty := by cases h <;> rfl
theorem ops_eqE {G : Ev} : OpS G (rEqE G.K) oEqE := fun W σ r F H h x y v u Q g hx hy q => by
  cases x with
  | lst xs =>
    cases y with
    | lst ys =>
      cases ys with
      | nil =>
        cases hx with
        | lst h1 _ h3 =>
          cases hy with
          | lst h4 _ h6 =>
            cases h6
            refine ⟨_, _, _, rfl, rfl, SqL.of h1, SqL.of h4, ?_⟩
            rw [denL_empty h3]
            exact q.here g _ (.bl _)
      | cons y ys => exact False.elim q
    | _ => exact False.elim q
  | _ => exact False.elim q
theorem ops_neE {G : Ev} : OpS G (rNeE G.K) oNeE := fun W σ r F H h x y v u Q g hx hy q => by
  cases x with
  | lst xs =>
    cases y with
    | lst ys =>
      cases ys with
      | nil =>
        cases hx with
        | lst h1 _ h3 =>
          cases hy with
          | lst h4 _ h6 =>
            cases h6
            refine ⟨_, _, _, rfl, rfl, SqL.of h1, SqL.of h4, ?_⟩
            rw [denL_empty h3]
            exact q.here g _ (.bl _)
      | cons y ys => exact False.elim q
    | _ => exact False.elim q
  | _ => exact False.elim q
end CH

/-! CHQ: min of two, enumerate, sorted of a dict with integer keys. -/
namespace CH
open PySem PySem.Spec PyProof.Rows L2
def fMin2 : List D → MH → Res D := fun ds h => match ds with
  | [.int i, .int j] => .ok (.int (if j < i then j else i)) h
  | _ => .bad
theorem calls_min2 {G : Ev} : CallS G (fun xs H Q => ∃ i j, xs = [.int i, .int j] ∧ Q (.int (if j < i then j else i)) H) fMin2 := fun W σ r F H h ds vs Q g hd q => by
  match ds, hd with
  | [], _ => exact False.elim q
  | [x], _ => cases x <;> exact False.elim q
  | d :: e :: _ :: _, _ => cases d <;> cases e <;> exact False.elim q
  | [x, y], .cons hx (.cons hy .nil) =>
    cases hx <;> cases hy <;> first | exact False.elim q | exact ⟨_, _, rfl, q.here g _ (.int _)⟩
def enumD : Nat → List D → List D
  | _, [] => []
  | i, d :: ds => .tup [.int (i : Int), d] :: enumD (i + 1) ds
theorem enumD_get : ∀ (xs : List D) (k i : Nat), (enumD k xs)[i]? = (xs[i]?).map fun d => D.tup [.int ((k + i : Nat) : Int), d]
  | [], k, i => by simp [enumD]
  | x :: xs, k, 0 => by simp [enumD]
  | x :: xs, k, i + 1 => by
    have := enumD_get xs (k + 1) i
    simp only [enumD, List.getElem?_cons_succ, this]
    have e : k + 1 + i = k + (i + 1) := by omega
    rw [e]
def mItE (fl : Mo (List D)) : Mo (List D) := mBind fl fun ds => fun _ h => match ds with
  | [.lst xs] => .ok (enumD 0 xs) h
  | _ => .bad
theorem itd_enum {G : Ev} {r F : List Addr} {H : Hp} {a : Addr} {xs : List D} {vs : List V} (m : Mine r H) (mf : Mine F H) (hq : H a = some (.lst vs)) (hn : a ∉ r ∧ a ∉ F) (hl : DenL G r F H xs vs) : ItD G r F H (Ite G.K a) (enumD 0 xs) := by
  intro r' F' H' e m' fo i
  have hq' : SqL G.K H' a vs := SqL.of (e.keep _ _ hq hn.1 hn.2)
  rw [enumD_get]
  cases hx : xs[i]? with
  | none => exact ⟨fun d hd => (by cases hd), fun _ => ⟨vs, hq', hl.none hx⟩⟩
  | some x =>
    obtain ⟨v, h1, h2⟩ := hl.get hx
    refine ⟨fun d hd => ?_, fun hd => (by cases hd)⟩
    have hd := Option.some.inj hd
    subst hd
    refine ⟨⟨vs, v, hq', h1⟩, fun z H'' ⟨T, x', ez, hT, eH, f1⟩ => ?_⟩
    have e1 := f1 vs hq'
    rw [h1] at e1; cases e1
    subst ez eH
    have sm : Same H' (upd H' T (.tup [.int (i : Nat), v])) := same_new hT
    have q1 := Den.monoX m mf e fo _ _ h2
    refine ⟨sm, .tup (.inl upd_same) ?_⟩
    rw [Nat.zero_add]
    exact .cons (.int _) (.cons (Den.mono m' (.same sm) _ _ q1) .nil)
section
variable {X : Cx} {W : WX} {pos : Pos} {e : Expr} {fl : Mo (List D)}
theorem di_enum {p tpos : Pos} {elts : List Expr} {kk : Nat} (hg : Gl X "enumerate") (hm : X.mg "enumerate" = none) (ha : PA X [e] (tA (evOf X) W fl))
    (hs : starEach [e] X.env = [(false, eval e X.env)] := by rfl) : PI X (.Tuple elts kk tpos) (.Call (.Name "enumerate" p) [e] [] pos) (tI (evOf X) W (mItE fl)) :=
  (pi_enum hg hm ha hs).imp fun σ H R ⟨r, F, sl, h, s, g, q⟩ => tA.of s g (q.bind.imp fun r1 H1 ds h1 e1 g1 q1 vs hv => by
    match ds, hv with
    | [], _ => exact False.elim q1
    | [d], .cons hd .nil =>
      cases hd with
      | lst hq hn hl => exact ⟨_, _, rfl, SqL.of hq, q1.here g1 _ (itd_enum g1.mine g1.mineF hq hn hl)⟩
      | _ => exact False.elim q1
    | d :: _ :: _, hv => cases d <;> exact False.elim q1)
end
theorem sorted_unique : ∀ {a b : List Int}, a.Perm b → a.Pairwise (· ≤ ·) → b.Pairwise (· ≤ ·) → a = b
  | [], b, h, _, _ => by rw [List.nil_perm.mp h]
  | x :: a, [], h, _, _ => by cases List.perm_nil.mp h
  | x :: a, y :: b, h, h1, h2 => by
    have hx := h.mem_iff.mp (List.mem_cons_self (a := x) (l := a))
    have hy := h.mem_iff.mpr (List.mem_cons_self (a := y) (l := b))
    have e1 : y ≤ x := by
      rcases List.mem_cons.mp hx with e | e
      · rw [e]; exact Int.le_refl _
      · exact List.rel_of_pairwise_cons h2 e
    have e2 : x ≤ y := by
      rcases List.mem_cons.mp hy with e | e
      · rw [e]; exact Int.le_refl _
      · exact List.rel_of_pairwise_cons h1 e
    have e3 : x = y := Int.le_antisymm e2 e1
    subst e3
    rw [sorted_unique (List.Perm.cons_inv h) (List.Pairwise.of_cons h1) (List.Pairwise.of_cons h2)]
def sortI (ks : List Int) : List Int := ks.mergeSort fun a b => decide (a ≤ b)
theorem sortI_sorted (ks : List Int) : (sortI ks).Pairwise (· ≤ ·) := by
  have := List.pairwise_mergeSort (le := fun a b : Int => decide (a ≤ b)) (fun a b c h1 h2 => by simp only [decide_eq_true_eq] at *; omega) (fun a b => by simp only [Bool.or_eq_true, decide_eq_true_eq]; omega) ks
  exact this.imp fun h => by simpa using h
theorem sortI_perm (ks : List Int) : (sortI ks).Perm ks := List.mergeSort_perm _ _
def intsK : List Key → Option (List Int)
  | [] => some []
  | .inl i :: ks => (intsK ks).map fun js => i :: js
  | _ => none
theorem intsK_some : ∀ {ks : List Key} {js : List Int}, intsK ks = some js → ks = js.map Sum.inl
  | [], js, h => by cases h; rfl
  | k :: ks, js, h => by
    cases k with
    | inl i =>
      have h : (intsK ks).map (fun js => i :: js) = some js := h
      cases e : intsK ks with
      | none => rw [e] at h; cases h
      | some us =>
        rw [e] at h
        cases h
        rw [intsK_some e]
        rfl
    | inr _ => cases h
def sortDI (h : MH) : Option (List Key × List D) → Res D
  | none => .bad
  | some p => match intsK p.1 with
    | none => .bad
    | some js => if js.length < 64 then .ok (.lst ((sortI js).map D.int)) h else .bad
def fSortedDI : List D → MH → Res D := fun ds h => match ds with
  | [x] => sortDI h (dicD h x)
  | _ => .bad
def rSortDI : List V → Hp → VK → Prop := fun xs H Q => ∃ (a : Addr) (kvs : List (Key × V)) (ks : List Int), xs = [.ref a] ∧ Rd H a (.dK kvs) ∧ kvs.map (·.1) = ks.map Sum.inl ∧ ks.length < 64 ∧
    ∀ (ys : List Int) (p : Addr), ys.Perm ks → ys.Pairwise (· ≤ ·) → H p = none → Q (.ref p) (upd H p (.lst (ys.map V.int)))
theorem denL_intsV {G : Ev} {r F : List Addr} {H : Hp} : ∀ (js : List Int), DenL G r F H (js.map D.int) (js.map V.int)
  | [] => .nil
  | j :: js => .cons (.int j) (denL_intsV js)
theorem calls_sortedDI {G : Ev} : CallS G rSortDI fSortedDI := fun W σ r F H h ds vs Q g hd q => by
  match ds, hd with
  | [], _ => exact False.elim q
  | _ :: _ :: _, _ => exact False.elim q
  | [x], .cons hx .nil =>
    have q : Aft G W F σ r H (sortDI h (dicD h x)) _ := q
    cases ed : dicD h x with
    | none => rw [ed] at q; exact False.elim q
    | some p =>
      rw [ed] at q
      have q : Aft G W F σ r H (match intsK p.1 with
        | none => Res.bad
        | some js => if js.length < 64 then Res.ok (D.lst ((sortI js).map D.int)) h else .bad) _ := q
      cases ek : intsK p.1 with
      | none => rw [ek] at q; exact False.elim q
      | some js =>
        rw [ek] at q
        have q : Aft G W F σ r H (if js.length < 64 then Res.ok (D.lst ((sortI js).map D.int)) h else .bad) _ := q
        by_cases hl : js.length < 64
        · rw [if_pos hl] at q
          obtain ⟨a, ws, rfl, h1, h2, h3⟩ := dic_den g hx ed
          refine ⟨a, _, js, rfl, .inl h1, ?_, hl, fun ys p' hp hs hn => ?_⟩
          · rw [← intsK_some ek, List.map_fst_zip (by omega)]
          · have e : ys = sortI js := sorted_unique (hp.trans (sortI_perm js).symm) hs (sortI_sorted js)
            subst e
            exact q.hereS g (same_new hn) _ (new_lst g (denL_intsV _) hn)
        · rw [if_neg hl] at q; exact False.elim q
theorem callr_sortedDI {X : Cx} (hc : X.calm = true) : CallR X (.builtin "sorted") rSortDI := call_sortedDI hc
end CH

/-! CHR: int of a text, list of a range, extend, partition, join, a list | a tuple times a number, min of a list of data. -/
namespace CH
open PySem PySem.Spec PyProof.Rows L2
/-! ### int(text) -/
def fIntS : List D → MH → Res D := fun ds h => match ds with
  | [.str a] => (match intText? a with
    | some n => if a.length ≤ 640 then .ok (.int n) h else .bad
    | none => .bad)
  | _ => .bad
theorem calls_intS {G : Ev} : CallS G (fun xs H Q => ∃ a n, xs = [.str a] ∧ PySem.intText? a = some n ∧ a.length ≤ 640 ∧ Q (.int n) H) fIntS := fun W σ r F H h ds vs Q g hd q => by
  match ds, hd with
  | [], _ => exact False.elim q
  | d :: _ :: _, _ => cases d <;> exact False.elim q
  | [x], .cons hx .nil =>
    cases hx with
    | str a =>
      have q : Aft G W F σ r H (match intText? a with
        | some n => if a.length ≤ 640 then Res.ok (D.int n) h else .bad
        | none => .bad) _ := q
      cases e : intText? a with
      | none => rw [e] at q; exact False.elim q
      | some n =>
        rw [e] at q
        have q : Aft G W F σ r H (if a.length ≤ 640 then Res.ok (D.int n) h else .bad) _ := q
        by_cases z : a.length ≤ 640
        · rw [if_pos z] at q
          exact ⟨a, n, rfl, e, z, q.here g _ (.int n)⟩
        · rw [if_neg z] at q; exact False.elim q
    | _ => exact False.elim q
/-! ### xs.extend(ys) -/
def extD (h : MH) (k : Nat) (ys : List D) : Option (List D) → Res D
  | some xs => if xs.length + ys.length ≤ lim then .ok .non (h.set k (.lst (xs ++ ys))) else .bad
  | none => .bad
def gExt : D → List D → MH → Res D := fun x ds h => match x, ds with
  | .ref k, [.lst ys] => extD h k ys (oLst h[k]?)
  | _, _ => .bad
theorem mts_ext {G : Ev} : MtS G rExtend gExt := fun W σ r F H h x v ds vs Q g hx hd q => by
  cases hx with
  | ref hk =>
    rename_i k a
    cases hd with
    | nil => exact False.elim q
    | cons h1 t1 =>
      rename_i d y ds vs
      cases t1 with
      | cons _ _ => cases d <;> exact False.elim q
      | nil =>
        cases h1 with
        | lst hq hn hl =>
          rename_i b ys ws
          have q : Aft G W F σ r H (extD h k ys (oLst h[k]?)) _ := q
          cases ho : oLst h[k]? with
          | none => rw [ho] at q; exact False.elim q
          | some xs =>
            rw [ho] at q
            have q : Aft G W F σ r H (if xs.length + ys.length ≤ lim then Res.ok D.non (h.set k (.lst (xs ++ ys))) else .bad) _ := q
            by_cases z : xs.length + ys.length ≤ lim
            · rw [if_pos z] at q
              obtain ⟨a', ea, us, h2, h3⟩ := g.ob k _ (oLst_some ho)
              rw [hk] at ea; cases ea
              have ha : a ∈ r := List.mem_of_getElem? hk
              have ee : Ext r H r (upd H a (.lst (us ++ ws))) := Ext.upd ha
              refine ⟨a, b, us, ws, rfl, rfl, h2, hq, by rw [← h3.len, ← hl.len]; exact lim_ok z, ?_⟩
              exact q r _ ee (g.set hk trivial ⟨_, upd_same, (DenL.mono g.mine ee _ _ h3).app (DenL.mono g.mine ee _ _ hl)⟩) _ .non
            · rw [if_neg z] at q; exact False.elim q
        | _ => exact False.elim q
  | _ => cases hd <;> first | exact False.elim q | (rename_i t; cases t <;> exact False.elim q)
/-! ### x.partition(y), x.join(ys) -/
def gPart : D → List D → MH → Res D := fun x ds h => match x, ds with
  | .str a, [.str b] => if (b.length == 0) = false ∧ a.length ≤ lim then .ok (.tup [.str (Txt.partition a b).1, .str (Txt.partition a b).2.1, .str (Txt.partition a b).2.2]) h else .bad
  | _, _ => .bad
theorem mts_part {G : Ev} : MtS G (fun x xs H Q => ∃ a b, x = .str a ∧ xs = [.str b] ∧ (b.length == 0) = false ∧ a.length ≤ sizeLine ∧
    ∀ p, H p = none → Q (.ref p) (upd H p (.tup [.str (Txt.partition a b).1, .str (Txt.partition a b).2.1, .str (Txt.partition a b).2.2]))) gPart := fun W σ r F H h x v ds vs Q g hx hd q => by
  cases hx with
  | str a =>
    match ds, hd with
    | [], _ => exact False.elim q
    | d :: _ :: _, _ => cases d <;> exact False.elim q
    | [d], .cons hy .nil =>
      cases hy with
      | str b =>
        have q : Aft G W F σ r H (if (b.length == 0) = false ∧ a.length ≤ lim then Res.ok (D.tup [.str (Txt.partition a b).1, .str (Txt.partition a b).2.1, .str (Txt.partition a b).2.2]) h else .bad) _ := q
        by_cases z : (b.length == 0) = false ∧ a.length ≤ lim
        · rw [if_pos z] at q
          exact ⟨a, b, rfl, rfl, z.1, lim_ok z.2, fun p hp => q.hereS g (same_new hp) _ (new_tup g (.cons (.str _) (.cons (.str _) (.cons (.str _) .nil))) hp)⟩
        · rw [if_neg z] at q; exact False.elim q
      | _ => exact False.elim q
  | _ => exact False.elim q
def strsD : List D → Option (List Str)
  | [] => some []
  | .str i :: ds => (strsD ds).map fun js => i :: js
  | _ => none
theorem strsD_some : ∀ {ds : List D} {js : List Str}, strsD ds = some js → ds = js.map D.str
  | [], js, h => by cases h; rfl
  | d :: ds, js, h => by
    cases d with
    | str i =>
      have h : (strsD ds).map (fun js => i :: js) = some js := h
      cases e : strsD ds with
      | none => rw [e] at h; cases h
      | some ks =>
        rw [e] at h
        cases h
        rw [strsD_some e]
        rfl
    | _ => cases h
theorem denL_strs' {G : Ev} {r F : List Addr} {H : Hp} : ∀ {js : List Str} {vs : List V}, DenL G r F H (js.map D.str) vs → vs = js.map V.str
  | [], _, h => by cases h; rfl
  | j :: js, _, h => by
    cases h with
    | cons h1 h2 =>
      cases h1
      rw [denL_strs' h2]
      rfl
def joinR (a : Str) (h : MH) : Option (List Str) → Res D
  | some ys => if (ys.map (·.length)).sum + ys.length * a.length ≤ 16777216 then .ok (.str (Txt.join a ys)) h else .bad
  | none => .bad
def gJoin : D → List D → MH → Res D := fun x ds h => match x, ds with
  | .str a, [.lst ys] => joinR a h (strsD ys)
  | _, _ => .bad
theorem mts_join {G : Ev} : MtS G (fun x xs H Q => ∃ a p, ∃ ys : List Str, x = .str a ∧ xs = [.ref p] ∧ (SqL G.K H p (ys.map V.str) ∨ SqT G.K H p (ys.map V.str)) ∧
    (ys.map (·.length)).sum + ys.length * a.length ≤ 16777216 ∧ Q (.str (Txt.join a ys)) H) gJoin := fun W σ r F H h x v ds vs Q g hx hd q => by
  cases hx with
  | str a =>
    match ds, hd with
    | [], _ => exact False.elim q
    | d :: _ :: _, _ => cases d <;> exact False.elim q
    | [d], .cons hy .nil =>
      cases hy with
      | lst hq hn hl =>
        rename_i b xs ws
        have q : Aft G W F σ r H (joinR a h (strsD xs)) _ := q
        cases e : strsD xs with
        | none => rw [e] at q; exact False.elim q
        | some ys =>
          rw [e] at q
          have q : Aft G W F σ r H (if (ys.map (·.length)).sum + ys.length * a.length ≤ 16777216 then Res.ok (D.str (Txt.join a ys)) h else .bad) _ := q
          by_cases z : (ys.map (·.length)).sum + ys.length * a.length ≤ 16777216
          · rw [if_pos z] at q
            have e1 := strsD_some e
            rw [e1] at hl
            have e2 := denL_strs' hl
            rw [e2] at hq
            exact ⟨a, _, ys, rfl, rfl, .inl (SqL.of hq), z, q.here g _ (.str _)⟩
          · rw [if_neg z] at q; exact False.elim q
      | _ => exact False.elim q
  | _ => exact False.elim q
/-! ### a list times a number -/
theorem denL_rep {G : Ev} {r F : List Addr} {H : Hp} {xs : List D} {vs : List V} (h : DenL G r F H xs vs) : ∀ n : Nat, DenL G r F H (List.replicate n xs).flatten (List.replicate n vs).flatten
  | 0 => .nil
  | n + 1 => by
    rw [List.replicate_succ, List.replicate_succ, List.flatten_cons, List.flatten_cons]
    exact h.app (denL_rep h n)
def oMulL : D → D → MH → Res D := fun x y h => match x, y with
  | .lst xs, .int k => if (0 ≤ k ∧ k ≤ 1000) ∧ xs.length * k.toNat ≤ lim then .ok (.lst (List.replicate k.toNat xs).flatten) h else .bad
  | _, _ => .bad
theorem ops_mulL {G : Ev} : OpS G rRep oMulL := fun W σ r F H h x y v u Q g hx hy q => by
  cases hx with
  | lst hq hn hl =>
    rename_i a xs ws
    cases hy with
    | int k =>
      have q : Aft G W F σ r H (if (0 ≤ k ∧ k ≤ 1000) ∧ xs.length * k.toNat ≤ lim then Res.ok (D.lst (List.replicate k.toNat xs).flatten) h else .bad) _ := q
      by_cases z : (0 ≤ k ∧ k ≤ 1000) ∧ xs.length * k.toNat ≤ lim
      · rw [if_pos z] at q
        refine ⟨a, k, ws, rfl, rfl, hq, by omega, by omega, by rw [← hl.len]; exact lim_ok z.2, fun p hp => ?_⟩
        exact q.hereS g (same_new hp) _ (new_lst g (denL_rep hl _) hp)
      · rw [if_neg z] at q; exact False.elim q
    | _ => exact False.elim q
  | _ => cases hy <;> exact False.elim q
/-! ### list(range(..)) -/
def rgD (i j : Int) : List D := (List.range (j - i).toNat).map fun k => D.int (i + (k : Nat))
theorem denL_rg {G : Ev} {r F : List Addr} {H : Hp} {i j : Int} : DenL G r F H (rgD i j) (rgV i j) := by
  unfold rgD rgV
  have key : ∀ l : List Nat, DenL G r F H (l.map fun k => D.int (i + (k : Nat))) (l.map fun k => V.int (i + (k : Nat))) := by
    intro l
    induction l with
    | nil => exact .nil
    | cons k l ih => exact .cons (.int _) ih
  exact key _
def rgR (i j : Int) (h : MH) : Res D := if (0 ≤ i ∧ i ≤ 100000) ∧ 0 ≤ j ∧ j ≤ 100000 then .ok (.lst (rgD i j)) h else .bad
def mListRg1 (fa : Mo D) : Mo D := mBind fa fun x => fun _ h => match x with
  | .int j => rgR 0 j h
  | _ => .bad
def mListRg2 (fa fb : Mo D) : Mo D := mBind fa fun x => mBind fb fun y => fun _ h => match x, y with
  | .int i, .int j => rgR i j h
  | _, _ => .bad
section
variable {X : Cx} {W : WX} {e e2 : Expr} {fa fb : Mo D}
theorem de_listRg1 {p p2 pos pos2 : Pos} (hc : X.calm = true) (hg : Gl X "list") (hm : X.mg "list" = none) (hg2 : Gl X "range") (hm2 : X.mg "range" = none) (ha : PE X e (tE (evOf X) W fa)) (na : starEach [e] X.env = (false, eval e X.env) :: starEach [] X.env := by rfl)
    (nb : starEach [.Call (.Name "range" p2) [e] [] pos2] X.env = (false, eval (.Call (.Name "range" p2) [e] [] pos2) X.env) :: starEach [] X.env := by rfl) :
    PE X (.Call (.Name "list" p) [.Call (.Name "range" p2) [e] [] pos2] [] pos) (tE (evOf X) W (mListRg1 fa)) :=
  (pe_listRg hc hg hm (prg_1 hg2 hm2 ha na) nb).imp fun σ H Q ⟨r, F, sl, h, s, g, q⟩ => tE.of s g (q.bind.imp fun r1 H1 x h1 e1 g1 q1 v hv => by
    cases hv with
    | int j =>
      have q1 : Aft (evOf X) W F σ r1 H1 (if (0 ≤ (0 : Int) ∧ (0 : Int) ≤ 100000) ∧ 0 ≤ j ∧ j ≤ 100000 then Res.ok (D.lst (rgD 0 j)) h1 else .bad) _ := q1
      by_cases z : (0 ≤ (0 : Int) ∧ (0 : Int) ≤ 100000) ∧ 0 ≤ j ∧ j ≤ 100000
      · rw [if_pos z] at q1
        exact ⟨j, rfl, RgOk.of_le (by omega) (by omega) (by omega) (by omega), fun p hp => q1.hereS g1 (same_new hp) _ (new_lst g1 denL_rg hp)⟩
      · rw [if_neg z] at q1; exact False.elim q1
    | _ => exact False.elim q1)
theorem de_listRg2 {p p2 pos pos2 : Pos} (hc : X.calm = true) (hg : Gl X "list") (hm : X.mg "list" = none) (hg2 : Gl X "range") (hm2 : X.mg "range" = none) (ha : PE X e (tE (evOf X) W fa)) (hb : PE X e2 (tE (evOf X) W fb)) (na : starEach [e, e2] X.env = (false, eval e X.env) :: starEach [e2] X.env := by rfl)
    (na2 : starEach [e2] X.env = (false, eval e2 X.env) :: starEach [] X.env := by rfl) (hp : (backTo pos2 (starEach [e2] X.env)).any (·.1) = false := by rfl)
    (nb : starEach [.Call (.Name "range" p2) [e, e2] [] pos2] X.env = (false, eval (.Call (.Name "range" p2) [e, e2] [] pos2) X.env) :: starEach [] X.env := by rfl) :
    PE X (.Call (.Name "list" p) [.Call (.Name "range" p2) [e, e2] [] pos2] [] pos) (tE (evOf X) W (mListRg2 fa fb)) :=
  (pe_listRg hc hg hm (prg_2 hg2 hm2 ha hb na na2 hp) nb).imp fun σ H Q ⟨r, F, sl, h, s, g, q⟩ => tE.of s g (q.bind.imp fun r1 H1 x h1 e1 g1 q1 v hv =>
    tE.of (s.mono g.mine e1) g1 (q1.bind.imp fun r2 H2 y h2 e2 g2 q2 u hu => by
    cases hv with
    | int i =>
      cases hu with
      | int j =>
        have q2 : Aft (evOf X) W F σ r2 H2 (if (0 ≤ i ∧ i ≤ 100000) ∧ 0 ≤ j ∧ j ≤ 100000 then Res.ok (D.lst (rgD i j)) h2 else .bad) _ := q2
        by_cases z : (0 ≤ i ∧ i ≤ 100000) ∧ 0 ≤ j ∧ j ≤ 100000
        · rw [if_pos z] at q2
          exact ⟨i, j, rfl, rfl, RgOk.of_le (by omega) (by omega) (by omega) (by omega), fun p hp => q2.hereS g2 (same_new hp) _ (new_lst g2 denL_rg hp)⟩
        · rw [if_neg z] at q2; exact False.elim q2
      | _ => exact False.elim q2
    | _ => cases hu <;> exact False.elim q2))
end
end CH

/-! CHS: a tuple times 0 or 1, min of a list of data. -/
namespace CH
open PySem PySem.Spec PyProof.Rows L2
theorem tuple_mul1 (l : Addr) (items : Array Value) (n : Nat) (dd : Option Addr) (sl : Array (Option Value)) (x : Int) (u : Tok) (c0 : (decide (x < -(2 ^ 63)) || decide (x ≥ 2 ^ 63)) = false) (c1 : (items.isEmpty || x == 1) = true) :
    Meets (Builtin.«tuple.__mul__» ⟨[.ref l, .int x u], []⟩) fun _ R s => s.heap.get? l = some ⟨.type "tuple", dd, .seq items n, sl⟩ ∧ R (.ok (.ret (.ref l))) s :=
  .of_wp fun prog w A R ⟨hp, g, d, tk, os⟩ ⟨hl, h⟩ => by
    have index := AutoSeq1.idx_int
    wp_walk using wpAny_loadPart' hl
    refine wpAny_ite_false (decide_eq_false fun z => nomatch c0.symm.trans z) ?_
    wp_walk using wpAny_loadPart' hl
    exact ⟨_, rfl, h⟩
theorem tuple_mul0 (l : Addr) (items : Array Value) (n : Nat) (dd : Option Addr) (sl : Array (Option Value)) (x : Int) (u : Tok) (c0 : (decide (x < -(2 ^ 63)) || decide (x ≥ 2 ^ 63)) = false) (c1 : (items.isEmpty || x == 1) = false) (c2 : (decide (x ≤ 0) || items.isEmpty) = true) :
    Meets (Builtin.«tuple.__mul__» ⟨[.ref l, .int x u], []⟩) fun _ R s => s.heap.get? l = some ⟨.type "tuple", dd, .seq items n, sl⟩ ∧
      R (.ok (.ret (.ref s.heap.objs.size))) { s with heap := s.heap.push { cls := Value.type "tuple", data := Data.seq #[] }, toks := s.toks } :=
  .of_wp fun prog w A R ⟨hp, g, d, tk, os⟩ ⟨hl, h⟩ => by
    have index := AutoSeq1.idx_int
    wp_walk using wpAny_loadPart' hl
    refine wpAny_ite_false (decide_eq_false fun z => nomatch c0.symm.trans z) ?_
    wp_walk using wpAny_loadPart' hl
    exact ⟨_, rfl, h⟩

def rMulT (K : PySem.W.Frag) : R2 := fun x y H Q => ∃ l k xs, x = .ref l ∧ y = .int k ∧ SqT K H l xs ∧ xs ≠ [] ∧ ((k = 1 ∧ Q (.ref l) H) ∨ (k = 0 ∧ ∀ p, H p = none → Q (.ref p) (upd H p (.tup []))))
theorem op_mulT {X : Cx} : OpR X (binaryOp .Mult) (rMulT X.K) := by
  intro pins s σ H x y v u Q I rx ry h
  have ⟨l, k, xs, ex, ey, hT, hne, q⟩ := h
  subst ex
  subst ey
  have ⟨t, et⟩ := ry
  subst et
  cases rx
  have ⟨its, r, ⟨⟨cls, dd, data, sl⟩, ho, hc, n, hd⟩, hs⟩ := I.tuple hT
  cases hc
  cases hd
  have hi : its.toArray.isEmpty = false := match its, r with
    | _, .cons _ _ => rfl
    | _, .nil => absurd rfl hne
  rcases q with ⟨rfl, q⟩ | ⟨rfl, q⟩
  · refine wpAny_binaryOp_repeat_ref (T := "tuple") (U := "int") (by decide) ⟨_, ho, rfl⟩ (fun s' => typeIs_int s' 1 t) noFill_tuple_mul F.fills_int_mul F.slot_int_rmul repeat_tuple F.slot_int_index.lookup
      (call_meets F.slot_int_rmul (typeIs_int s 1 t) F.entry_int_rmul (F.args_int_rmul_2 _ _) (int_rmul_tuple 1 t l its.toArray n dd sl)
        ⟨ho, rfl, ⟨_, ho, rfl⟩, call_meets F.slot_tuple_mul ⟨_, ho, rfl⟩ F.entry_tuple_mul (F.args_tuple_mul_2 _ _) (tuple_mul1 l its.toArray n dd sl 1 t (by decide) (by rw [hi]; rfl)) ⟨ho, ?_⟩⟩)
    exact ⟨.ref l, H, I, rfl, q⟩
  · refine wpAny_binaryOp_repeat_ref (T := "tuple") (U := "int") (by decide) ⟨_, ho, rfl⟩ (fun s' => typeIs_int s' 0 t) noFill_tuple_mul F.fills_int_mul F.slot_int_rmul repeat_tuple F.slot_int_index.lookup
      (call_meets F.slot_int_rmul (typeIs_int s 0 t) F.entry_int_rmul (F.args_int_rmul_2 _ _) (int_rmul_tuple 0 t l its.toArray n dd sl)
        ⟨ho, rfl, ⟨_, ho, rfl⟩, call_meets F.slot_tuple_mul ⟨_, ho, rfl⟩ F.entry_tuple_mul (F.args_tuple_mul_2 _ _) (tuple_mul0 l its.toArray n dd sl 0 t (by decide) (by rw [hi]; rfl) rfl) ⟨ho, ?_⟩⟩)
    refine ⟨.ref s.heap.objs.size, _, I.laid (t' := s.toks) (o := .tup []) (fun b ob q => Heap.get?_push_of_some _ q) (Nat.le_refl _) ?_, rfl, q _ (I.hok.fresh (Nat.le_refl _))⟩
    exact ⟨Nat.zero_le _, [], .nil, IsTup.new _ _⟩
def oMulT : D → D → MH → Res D := fun x y h => match x, y with
  | .tup (d :: ds), .int k => if k = 1 then .ok (.tup (d :: ds)) h else if k = 0 then .ok (.tup []) h else .bad
  | _, _ => .bad
theorem ops_mulT {G : Ev} : OpS G (rMulT G.K) oMulT := fun W σ r F H h x y v u Q g hx hy q => by
  cases hx with
  | tup hq hl =>
    rename_i a xs ws
    cases hl with
    | nil => cases hy <;> exact False.elim q
    | cons hd ht =>
      rename_i d w ds ws
      cases hy with
      | int k =>
        have q : Aft G W F σ r H (if k = 1 then Res.ok (D.tup (d :: ds)) h else if k = 0 then .ok (.tup []) h else .bad) _ := q
        refine ⟨a, k, w :: ws, rfl, rfl, hq.sq, by simp, ?_⟩
        by_cases z : k = 1
        · rw [if_pos z] at q
          exact .inl ⟨z, q.here g _ (.tup hq (.cons hd ht))⟩
        · rw [if_neg z] at q
          by_cases z2 : k = 0
          · rw [if_pos z2] at q
            exact .inr ⟨z2, fun p hp => q.hereS g (same_new hp) _ (new_tup g .nil hp)⟩
          · rw [if_neg z2] at q; exact False.elim q
      | _ => exact False.elim q
  | _ => cases hy <;> exact False.elim q
/-! ### min of a list of data -/
open PySem.W (EachIs alike dataLt AllAlike Sortable)
mutual
theorem toPy_inj : ∀ (a b : D) (n m : Nat), pyOk n a = true → pyOk m b = true → toPy a = toPy b → a = b
  | .non, b, n, m, h1, h2, e => by
    cases b with
    | non => rfl
    | bl _ => cases e
    | int _ => cases e
    | str _ => cases e
    | tup _ => cases e
    | lst _ => cases e
    | _ => cases m <;> cases h2
  | .bl x, b, n, m, h1, h2, e => by
    cases b <;> first | (cases e; rfl) | (cases e) | (cases m <;> cases h2)
  | .int x, b, n, m, h1, h2, e => by
    cases b <;> first | (cases e; rfl) | (cases e) | (cases m <;> cases h2)
  | .str x, b, n, m, h1, h2, e => by
    cases b <;> first | (cases e; rfl) | (cases e) | (cases m <;> cases h2)
  | .tup xs, b, n, m, h1, h2, e => by
    cases b with
    | tup ys =>
      cases n with
      | zero => cases h1
      | succ n =>
        cases m with
        | zero => cases h2
        | succ m =>
          have e : PyData.tuple (toPyL xs) = PyData.tuple (toPyL ys) := e
          injection e with e
          rw [toPyL_inj xs ys n m h1 h2 e]
    | _ => first | cases e | (cases m <;> cases h2)
  | .lst xs, b, n, m, h1, h2, e => by
    cases b with
    | lst ys =>
      cases n with
      | zero => cases h1
      | succ n =>
        cases m with
        | zero => cases h2
        | succ m =>
          have e : PyData.list (toPyL xs) = PyData.list (toPyL ys) := e
          injection e with e
          rw [toPyL_inj xs ys n m h1 h2 e]
    | _ => first | cases e | (cases m <;> cases h2)
  | .dic _ _, _, n, _, h1, _, _ => by cases n <;> cases h1
  | .ref _, _, n, _, h1, _, _ => by cases n <;> cases h1
  | .gl _, _, n, _, h1, _, _ => by cases n <;> cases h1
  | .ty _, _, n, _, h1, _, _ => by cases n <;> cases h1
  | .scr _, _, n, _, h1, _, _ => by cases n <;> cases h1
theorem toPyL_inj : ∀ (xs ys : List D) (n m : Nat), pyOkL n xs = true → pyOkL m ys = true → toPyL xs = toPyL ys → xs = ys
  | [], [], _, _, _, _, _ => rfl
  | [], _ :: _, _, _, _, _, e => by cases e
  | _ :: _, [], _, _, _, _, e => by cases e
  | x :: xs, y :: ys, n, m, h1, h2, e => by
    have h1 : (pyOk n x && pyOkL n xs) = true := by cases n <;> exact h1
    have h2 : (pyOk m y && pyOkL m ys) = true := by cases m <;> exact h2
    rw [Bool.and_eq_true] at h1 h2
    have e : toPy x :: toPyL xs = toPy y :: toPyL ys := e
    injection e with e1 e2
    rw [toPy_inj x y n m h1.1 h2.1 e1, toPyL_inj xs ys n m h1.2 h2.2 e2]
end
def minDD (x : D) (xs : List D) : D := xs.foldl (fun a y => if dataLt (toPy y) (toPy a) then y else a) x
theorem minDD_py : ∀ (xs : List D) (x : D), toPy (minDD x xs) = PySem.W.minD (toPy x) (xs.map toPy) := by
  intro xs
  unfold minDD PySem.W.minD
  induction xs with
  | nil => intro x; rfl
  | cons y ys ih =>
    intro x
    rw [List.foldl_cons, List.map_cons, List.foldl_cons, ih]
    congr 1
    split <;> rfl
theorem minDD_mem (xs : List D) : ∀ x : D, minDD x xs ∈ x :: xs := by
  unfold minDD
  induction xs with
  | nil => intro x; simp
  | cons y ys ih =>
    intro x
    rw [List.foldl_cons]
    have := ih (if dataLt (toPy y) (toPy x) = true then y else x)
    rcases List.mem_cons.mp this with e | e
    · rw [e]; split <;> simp
    · exact List.mem_cons_of_mem _ (List.mem_cons_of_mem _ e)
def minR (h : MH) : Option (List D) → Res D
  | some (x :: xs) => if okSort (x :: xs) = true then .ok (minDD x xs) h else .bad
  | _ => .bad
def fMinD : List D → MH → Res D := fun ds h => match ds with
  | [x] => minR h (lstD h x)
  | _ => .bad
def rMinD (K : PySem.W.Frag) : List V → Hp → VK → Prop := fun vs H Q => ∃ (a : Addr) (xs : List V) (b : D) (bs : List D) (R : V → D → Prop), vs = [.ref a] ∧ SqL K H a xs ∧ EachIs R xs (b :: bs) ∧ (∀ x b, R x b → Dp K H x (toPy b)) ∧ okSort (b :: bs) = true ∧ ∀ w, R w (minDD b bs) → Q w H
theorem toPyL_map2 : ∀ ds : List D, toPyL ds = ds.map toPy
  | [] => rfl
  | d :: ds => by
    show toPy d :: toPyL ds = _
    rw [toPyL_map2 ds]; rfl
theorem each_get {R : V → D → Prop} : ∀ {xs : List V} {ds : List D} {us : List Value} {i : Nat} {v : Value}, EachIs R xs ds → Vals xs us → us[i]? = some v → ∃ x d, RelV x v ∧ R x d ∧ d ∈ ds
  | _, _, _, 0, v, .cons h t, .cons r _, e => by
    cases e
    exact ⟨_, _, r, h, by simp⟩
  | _, _, _, i + 1, v, .cons h t, .cons r t2, e => by
    obtain ⟨x, d, h1, h2, h3⟩ := each_get t t2 (by simpa using e)
    exact ⟨x, d, h1, h2, List.mem_cons_of_mem _ h3⟩
  | _, _, _, i, v, .nil, .nil, e => by simp at e
theorem each_dp {K : PySem.W.Frag} {H : Hp} {R : V → D → Prop} (hd : ∀ x b, R x b → Dp K H x (toPy b)) : ∀ {xs : List V} {ds : List D}, EachIs R xs ds → DpAll K H xs (ds.map toPy)
  | _, _, .nil => .nil
  | _, _, .cons h t => .cons (hd _ _ h) (each_dp hd t)
theorem cr_minD {X : Cx} {k : Nat} (hc : X.calm = true) (hr : Room k X.A) : CallR X (.builtin "min") (rMinD X.K) := by
  intro pins s σ H vs us Q I r h
  obtain ⟨a, xs, b, bs, R, rfl, hs, he, hd, ok, q⟩ := h
  obtain ⟨its, rv, hl, hz⟩ := I.list hs
  rw [Vals.ref1 r]
  obtain ⟨f1, f2, f3, f4⟩ := okSort_facts ok
  obtain ⟨as, ra⟩ := Dp.readsAll I _ xs its (each_dp hd he) rv
  have hok : pyOkL 40 (b :: bs) = true := by
    unfold okSort at ok
    simp only [Bool.and_eq_true] at ok
    exact ok.1
  have hdep : PyData.depthAll ((b :: bs).map toPy) ≤ 40 := by
    rw [← toPyL_map2]
    exact (layL_of (b :: bs) 40 hok).2
  refine PySem.W.min_list_data (x := toPy b) (xs := bs.map toPy) (I.ok.hd hc) hl.isList ra ⟨f3, ?_⟩ (by have := hr.un; simp only [List.map_cons] at hdep; omega) fun i v h' tk bs' hv hrd hk => ?_
  · intro x hx
    rcases f4 with f4 | f4
    · obtain ⟨y, ys, rfl⟩ := f4 x hx
      intro e; cases e
    · intro e
      rw [e] at hx
      exact (f4 _ hx).1 rfl
  · have hv : its[i]? = some v := by simpa using hv
    obtain ⟨x, d, h1, h2, h3⟩ := each_get he rv hv
    obtain ⟨as2, r2⟩ := Dp.reads I (toPy d) x v (hd x d h2) h1
    have e1 := SeqAt.Reads.unique (toPy d) _ v _ _ (lay_of d 40 (f1 d h3)).1 (PyProof.Rows.Reads.keeps (fun b o e => hk b o e) r2) hrd
    rw [← minDD_py] at e1
    have e2 := toPy_inj d (minDD b bs) 40 40 (f1 d h3) (f1 _ (minDD_mem bs b)) e1
    rw [e2] at h2
    exact ⟨x, H, I.kept hk, h1, q x h2⟩
theorem calls_minD {G : Ev} : CallS G (rMinD G.K) fMinD := fun W σ r F H h ds vs Q g hd q => by
  match ds, hd with
  | [], _ => exact False.elim q
  | _ :: _ :: _, _ => exact False.elim q
  | [x], .cons hx .nil =>
    have q : Aft G W F σ r H (minR h (lstD h x)) _ := q
    cases el : lstD h x with
    | none => rw [el] at q; exact False.elim q
    | some xs =>
      rw [el] at q
      cases xs with
      | nil => exact False.elim q
      | cons b bs =>
        have q : Aft G W F σ r H (if okSort (b :: bs) = true then Res.ok (minDD b bs) h else .bad) _ := q
        by_cases ok : okSort (b :: bs) = true
        · rw [if_pos ok] at q
          obtain ⟨a, ws, rfl, hs, hd⟩ := lstD_den g hx el
          obtain ⟨f1, f2, f3, f4⟩ := okSort_facts ok
          refine ⟨a, ws, b, bs, _, rfl, hs, each_denL hd, fun x b ⟨hb, hm⟩ => dp_of b 40 x (f1 b hm) hb, ok, fun w hw => ?_⟩
          exact q.here g _ hw.1
        · rw [if_neg ok] at q; exact False.elim q
end CH

/-! CHT: the __init__ of an exception of one's own: super().__init__(x), self.f = x. -/
namespace CH
open PySem PySem.Spec PyProof.Rows L2 NdefX
/-- what the written part says of the class at C, whose __init__ stands at f -/
structure SupC (P : Program) (K : PySem.W.Frag) (C f : Addr) (F : NF) (fld : Str) : Prop where
  lk : ∃ oc od osl doc pm ctv, K.lookup f = some ⟨oc, od, .func (F.fd doc pm ctv), osl⟩
  code : PySem.W.codeIn K (.ref F.c) F.qual = true
  file : ∃ ccl cdd vs ccs file tf, K.lookup F.c = some ⟨ccl, cdd, .fields vs, ccs⟩ ∧ vs[2]? = some (.str file tf) ∧ ((P.main.file : Str) == file) = true
  cell : ∃ cc cl cld csl, F.cl = [(("__class__" : Str), cc)] ∧ K.lookup cc = some ⟨cl, cld, .cell (some (.ref C)), csl⟩
  sub : PySem.W.mroIn K C (.ref C) = some true
  meth : PySem.W.ks_superIn K C C "__init__" = some (some (.builtin "ValueError.__init__"))
  vE : PySem.W.subIn K (.ref C) (.type "ValueError") = some true
  any : PySem.W.nsIn K cStatics "thirdparty.any" = some none
  oex : OexC K C
  noF : PySem.W.findIn K (.ref C) fld = some none
  top : (P.main.scope.names.lookup ("super" : Str)).isSome = false
/-- what the __init__ of an exception keeps: the field -/
def spX (C : Addr) (fld : Str) : Sp := fun vs H Q _ => ∃ (a : Addr) (y : V), vs = [.ref a, y] ∧ H a = some (exo a C none) ∧ ∀ dx, H dx = none → dx ≠ a → Q .non (upd (upd H dx (exd dx [(fld, y)])) a (exo a C (some dx)))
section
variable {P : Program} {w : World} {K : PySem.W.Frag} {mg : Str → Option Value} {base : Heap} {C f : Addr} {F : NF} {fld x : Str} {k : Nat} {doc pm ctv : Value} {p0 p1 p2 p3 p4 p5 p6 p7 p8 p9 : Pos} {ar : Arg}
theorem call_mw {A : Around} {E : Value → Shared → Prop} {s : Shared} {a u t1 : Addr} {rest : List Value} {nm q : Str} {N : Addr} {bs bm : List Value} {hdct : Bool} {sn : List Str} {sub : List Value} {ab : Bool} {col : Option Bool} {dd : Option Addr} {k0 k1 k2 k3 k5 : Option Value} {Q : Value → Shared → Prop}
    (hC : s.heap.get? C = some (excClassObj nm q C N bs bm hdct sn sub ab col dd k0 k1 k2 k3 k5 "ValueError.__new__")) (hu : s.heap.get? u = some (PySem.W.kxs_mw "ValueError.__init__" a)) (he : s.heap.get? a = some (PySem.W.excObj C t1 none .none)) (hz : rest.length ≤ sizeLine)
    (h : ∀ h' t2, (∀ b o, b ≠ a → s.heap.get? b = some o → h'.get? b = some o) → h'.get? a = some (PySem.W.excObj C t2 none .none) → Q .none { s with heap := h' }) : wpAny (model P w) A (call (.ref u) rest) Q E s := by
  match s, hC, hu, he, h with
  | ⟨hh, g, d, tk, os⟩, hC, hu, he, h =>
  refine wpAny_call (codeAny_of_tree (show wpAny (model P w) A.in1 (callAny (.ref u) ⟨rest, []⟩) _ _ _ from ?_))
  unfold callAny
  refine wpAny_bind (wpAny_load hu ?_)
  simp only [PySem.W.kxs_mw, show (Value.type "method-wrapper" == Value.type "method" || Value.type "method-wrapper" == Value.type "builtin_function_or_method" || Value.type "method-wrapper" == Value.type "method-wrapper") = true by decide, if_true]
  refine PySem.W.KFB.if_so (by decide) ?_
  refine wpAny_bind (PySem.W.check_bound_init PySem.F.excBase_ValueError.toExcCallFacts hC he rfl ?_)
  refine wpAny_bind (wpAny_pure (wpAny_pure ?_))
  refine ⟨plainId_quiet PySem.F.excBase_ValueError.init.plain _, codeAny_builtin PySem.F.excBase_ValueError.initEntry ?_⟩
  exact PySem.W.exc_init_tree (cls := .ref C) (t0 := t1) (dv := none) (c2 := .none) (c3 := .none) (b4 := .bool false) he hz fun h' k e' _ => h h' _ k e'
theorem var_raw {X : Cx} {pins : List (Addr × Obj)} {σ : L2.St} {H : Hp} {s : Shared} {i : Nat} {x : Str} {v : V} {M : Model} {A : Around} {E : Value → Shared → Prop} {Q : Value → Shared → Prop} (I : Inv X pins σ H s) (hN : X.N[i]? = some x) (e : σ[i]? = some (some v)) (hk : X.env.kindOf x = some .local) (h : ∀ u, RelV v u → Q u s) :
    wpAny M A (loadName X.env x) Q E s := by
  obtain ⟨m, hn, hl⟩ := I.loc
  obtain ⟨u, r, l⟩ := hl i x v hN e (.inl hk)
  rcases l with ⟨hk2, hm⟩ | ⟨hk2, c, hc, hcell⟩
  · exact wpAny_loadName_local I.ok.kind hk2 hn hm (h u r)
  · rcases hk2 with hk2 | hk2 <;> rw [hk] at hk2 <;> cases hk2
theorem init_ok {pl : Addr → Sem Bool} (he : ∀ L : Addr, eval (.Call (.Attribute (.Call (.Name "super" p0) [] [] p1) "__init__" p2) [.Name x p3] [] p4) (envF F f L) = (do
      let ov ← attributeBase (.Call (.Name "super" p0) [] [] p1) "__init__" (envF F f L) (eval (.Call (.Name "super" p0) [] [] p1) (envF F f L))
      standAt p2.atName
      let (g, first) ← holding [ov] (getMethod ov "__init__" (pl L))
      callWith p4 g first (backTo p4 (starEach [.Name x p3] (envF F f L))) []))
    (hb : F.body = [.Expr (.Call (.Attribute (.Call (.Name "super" p0) [] [] p1) "__init__" p2) [.Name x p3] [] p4) p5, .Assign [.Attribute (.Name "self" p6) fld p7] (.Name x p8) p9])
    (S : NScope ["self", x, "__class__"] ["self", x] ["__class__"] F.scope) (hks : F.scope.names.lookup ("super" : Str) = some .globalImplicit) (har : (F.params.posonlyargs ++ F.params.args).head? = some ar) (hars : ar.arg = "self") (hxd : (x == ("__debug__" : Str)) = false) (hxc : (x == ("__classdict__" : Str)) = false)
    (c : SupC P K C f F fld) {oc : Value} {od : Option Addr} {osl : Array (Option Value)} (lk : K.lookup f = some ⟨oc, od, .func (F.fd doc pm ctv), osl⟩) (hmg : mg "super" = none) : FnOk P w K mg base (L2.CX P w) k f (F.fd doc pm ctv) ["self", x] (spX C fld) := by
  refine ⟨fun vs H Q E ⟨a, y, e, _⟩ => by rw [e]; rfl, ?_⟩
  intro A outer s H args us vs Q E hr e0 hbind rv hsp
  obtain ⟨a, y, rfl, ha, q⟩ := hsp
  have rv0 := rv
  obtain ⟨cc, cl, cld, csl, hcl, hcell⟩ := c.cell
  obtain ⟨ccl, cdd, cvs, ccs, file, tf, hfile, hvs, hfl⟩ := c.file
  have up0 : ∀ b o, base.get? b = some o → s.heap.get? b = some o := fun b o e => (e0.bs b o e).1
  have kin : K.In s.heap := e0.mod.kin.keeps up0
  have lim : s.heap.NoLimit := e0.mod.nolimit.keeps up0
  have hHc : H cc = none := (e0.bs _ _ (e0.mod.kin _ _ hcell)).2
  have CA : CellsAt F.cl ["__class__"] [none] s.heap H := by
    refine ⟨rfl, fun z c' e => ?_, fun x1 x2 c' e1 e2 => ?_, fun i z hz => ?_⟩
    · rw [hcl] at e
      simp only [List.lookup] at e
      split at e
      · cases e
        exact ⟨hHc, _, _, kin _ _ hcell, rfl⟩
      · cases e
    · rw [hcl] at e1 e2
      simp only [List.lookup] at e1 e2
      split at e1
      · rename_i q1
        split at e2
        · rename_i q2
          rw [eq_of_beq q1, eq_of_beq q2]
        · cases e2
      · cases e1
    · cases i with
      | zero =>
        cases hz
        refine ⟨cc, by rw [hcl]; rfl, fun v hv => by cases hv⟩
      | succ i => cases hz
  refine ks_codeAny_call_defAt (fd := F.fd doc pm ctv) (body := F.body) (binds := (["self", x] : List Str).zip us) hr.depth (kin _ _ lk) rfl lim (PySem.W.codeRec_of kin c.code) rfl hbind S.nocell (fun ⟨n, _⟩ hy => S.par n (List.of_mem_zip hy).1) (fun h₁ hns kp => ?_) S.co S.gen S.kind
  have I : Inv (ncx (L2.CX P w) P w K mg base ["self", x, "__class__"] F f A outer s H E) [] (startF ["self", x, "__class__"] [.ref a, y] [none]) H { s with heap := h₁, toks := s.toks + ((["self", x] : List Str).zip us).length } := inv_startN S hr.hd e0 rfl rv CA hns kp
  obtain ⟨t1, hex⟩ := exo_at I.hok ha
  obtain ⟨nm, cq, N, bs, bm, sn, sub, ab, col, dd, k0, k1, k2, k3, k5, hC, hbm⟩ := c.oex.cls
  have K1 : K.In h₁ := I.kIn
  have hkc : F.scope.names.lookup ("__class__" : Str) = some .free := S.frk "__class__" (by simp)
  have hka : F.scope.names.lookup ("self" : Str) = some .local := S.par "self" (by simp)
  have hkx : F.scope.names.lookup x = some .local := S.par x (by simp)
  have hcd := hC
  obtain ⟨mb, hbl1, hbl2⟩ := I.mod.blt
  rw [hb]
  show _root_.PySem.wpAt (model P w) (A.deeper (envF F f s.heap.objs.size)) (.func _ (envF F f s.heap.objs.size)) (execs _ (envF F f s.heap.objs.size)) _ _ _
  refine ks_wpAt_execs_cons (ks_wpAt_Expr_any (ks_wpAt_MethodCall (ks_wpAt_super_base (env := envF F f s.heap.objs.size) (f := f) (cc := F.c) hks hkc (by decide) rfl (kp _ _ (kin _ _ lk)) rfl har rfl (kp _ _ (kin _ _ hfile)) rfl hvs hfl c.top ?_) (he _)) (hi := by unfold interactive; rw [show (envF F f s.heap.objs.size).scope.kind = .function from S.kind]; rfl))
  refine PySem.W.ks_loadName_global S.kind hks (Calls.loadGlobal_builtin (I.mod.glob.keeps I.bk) hmg (hbl1.keeps I.bk) ((hbl2 "super" (by decide)).trans (by decide +kernel : bootBuiltins "super" = some (.type "super"))) ⟨rfl, ?_⟩)
  refine wpAny_loadName_free S.kind hkc (show F.cl.lookup ("__class__" : Str) = some cc by rw [hcl]; rfl) ⟨_, K1 _ _ hcell, rfl⟩ ?_
  rw [hars]
  refine var_raw (i := 0) (v := .ref a) I rfl rfl hka fun u ru => ?_
  obtain rfl : u = Value.ref a := ru
  refine ks_wpAny_isType_cls (K1 _ _ hC) rfl ⟨rfl, ?_⟩
  refine ks_wpAny_call_super (K1 _ _ hC) rfl hex rfl (by intro c e; cases e) (PySem.W.looks_mroIn K1 c.sub) fun h2 e2 k2 => ?_
  have K2 : K.In h2 := K1.keeps k2
  have hex2 := k2 _ _ hex
  have IA : PySem.W.InstAt h2 a (PySem.W.excObj C t1 none .none) C none := ⟨hex2, rfl, rfl, trivial⟩
  have hcls : PySem.W.clsIn K C = some { name := nm, bases := bs, mro := .ref C :: bm, ns := N, qualname := cq, hasDict := true, slotNames := sn, subclasses := sub, abstract := ab, collection := col, hasDel := false } := by
    unfold PySem.W.clsIn
    rw [hC]
  have hal : PySem.W.alongIn K "__init__" (((Value.ref C :: bm).dropWhile (· != .ref C)).drop 1) = some (some (.builtin "ValueError.__init__")) := by
    have := c.meth
    unfold PySem.W.ks_superIn at this
    rw [hcls] at this
    exact this
  have hmr : ∀ {M : Model}, PySem.W.Looks M h2 (mroOf (.ref C)) (Value.ref C :: bm) := fun A Q E s k q => wpAny_bind ((PySem.W.looks_clsIn K2 hcls) A _ E s k (wpAny_pure q))
  have hI : PySem.W.Looks (model P w) h2 (isInstance (.ref a) (.type "ValueError")) true := IA.type.andThen (PySem.W.looks_subIn K2 c.vE)
  refine PySem.W.kxs_getMethod PySem.W.kxs_ValueError e2 (PySem.W.looks_opaque K2 c.any) (l₀ := Value.ref C :: bm) hmr rfl K2 hal hI (PySem.W.ks_ne K2 IA hcls) (by decide) ?_
  refine PySem.W.kxs_callWith (i := "ValueError.__init__") (x := a) rfl (Calls.evalArgs_plain (Calls.spliced_cons ?_))
  have I3 : Inv (ncx (L2.CX P w) P w K mg base ["self", x, "__class__"] F f A outer s H E) [] (startF ["self", x, "__class__"] [.ref a, y] [none]) H { s with heap := h2.push (PySem.W.kxs_mw "ValueError.__init__" a), toks := s.toks + ((["self", x] : List Str).zip us).length + 1 } :=
    I.kept (t' := s.toks + ((["self", x] : List Str).zip us).length + 1) fun b o e => Heap.get?_push_of_some _ (k2 _ _ e)
  refine wpAny_Name (var_raw (i := 1) (v := y) I3 rfl rfl hkx fun uy ry => ?_) hxd
  have hu : (h2.push (PySem.W.kxs_mw "ValueError.__init__" a)).get? h2.objs.size = some (PySem.W.kxs_mw "ValueError.__init__" a) := Heap.get?_push_size _ rfl
  refine Calls.spliced_nil ⟨hu, ?_⟩
  refine call_mw (I3.kIn _ _ hC) hu (Heap.get?_push_of_some _ hex2) (by show 1 ≤ sizeLine; decide) fun h3 t2 k3 e3 => ?_
  have J := I3.write (t' := s.toks + ((["self", x] : List Str).zip us).length + 1) (x := a) (e := a) (o := exo a C none) (by rw [ha]; exact True.intro) (.inl rfl) k3 ⟨_, e3⟩ (exo_ok e3)
  have eu : upd H a (exo a C none) = H := by
    funext b
    by_cases hb : b = a
    · rw [hb, upd_same, ha]
    · rw [upd_ne hb]
  rw [eu] at J
  have hst : PS (ncx (L2.CX P w) P w K mg base ["self", x, "__class__"] F f A outer s H E) (.Assign [.Attribute (.Name "self" p6) fld p7] (.Name x p8) p9) (tOst K fld (tVar 0) (tVar 1)) :=
    ps_ost (pe_var (i := 0) rfl (.inl hka)) (pe_var (i := 1) rfl (.inl hkx) hxd hxc)
  refine ks_wpAt_execs_cons (wpAt_of_wpAny ?_)
  refine wpAny_mono (hst.run [] _ (startF ["self", x, "__class__"] [.ref a, y] [none]) H { nx := fun _ H' => Q .non H', rt := fun _ _ => False } J ⟨y, rfl, .ref a, rfl, a, C, rfl, c.oex, c.noF, .inl ⟨ha, fun dx n ne => q dx n ne⟩⟩) (fun fl s' hs => ?_) fun e s' he => he
  cases fl with
  | next =>
    obtain ⟨σ', H', J', qq⟩ := hs
    refine wpAt_of_wpAny ?_
    rw [execs_nil]
    exact wpAny_pure ⟨.non, H', J'.os, J'.bare, J'.base, J'.hok, rfl, qq⟩
  | ret u =>
    obtain ⟨v, σ', H', J', rv, qq⟩ := hs
    exact False.elim qq
  | brk =>
    obtain ⟨_, _, _, qq⟩ := hs
    exact False.elim qq
  | cont =>
    obtain ⟨_, _, _, qq⟩ := hs
    exact False.elim qq
end
end CH

/-! CHU: raise of an exception with a field, try .. except. -/
namespace CH
open PySem PySem.Spec PyProof.Rows L2 NdefX
def sRaiseI (c fld : Str) (fe : Mo D) : Ms := fun sl h => bindS sl (fe sl h) fun d h1 => .exc c (some (fld, d)) sl h1
section
variable {X : Cx} {W : WX} {C f : Addr} {fd : FuncData} {c fld : Str} {ps : List Str} {e : Expr} {fe : Mo D} {p pos pos' : Pos} {k : Nat}
theorem ds_raiseI (T : OexC X.K C) (iC : PySem.W.findIn X.K (.ref C) "__init__" = some (some (.ref f))) (tI : PySem.W.typeIn X.K (.ref f) = some (.type "function")) (F1 : FnOk X.prog X.w X.K X.mg X.base (L2.CX X.prog X.w) k f fd ps (spX C fld)) (hr : Room (k + 1) X.A) (hb : Binds X.K fd ps [])
    (hc : X.calm = true) (tk : Takes X W) (hg : Gl X c) (hm : X.mg c = some (.ref C)) (he : PE X e (tE (evOf X) W fe)) (hdb : (c == ("__debug__" : Str)) = false := by decide)
    (hs : starEach [e] X.env = (false, eval e X.env) :: starEach [] X.env := by rfl) :
    PS X (.Raise (some (.Call (.Name c p) [e] [] pos)) none pos') (tS (evOf X) W (sRaiseI c fld fe)) := by
  have hx : Passes (L2.CX X.prog X.w) X (fun _ _ _ => False) := passes_call tk fun _ _ _ _ h => h.elim
  have mk := pmk_oex (x := c) (e := e) (es := []) (p := p) (pos := pos) (dvs := []) (ds := []) T iC tI F1 hr hb .nil hx hg hm (da_cons he da_nil hs) hdb hs
  refine (ps_raise hc tk mk).imp fun E σ H ⟨r, F, sl, h, s, g, q⟩ => ?_
  refine tA.of s g ?_
  have q0 := q.bindS s g
  cases hfe : fe sl h with
  | bad => rw [hfe] at q0; exact False.elim q0
  | exc c2 a2 h2 =>
    rw [hfe] at q0
    have e1 : mCons fe mNil sl h = .exc c2 a2 h2 := by
      show bindR (fe sl h) _ = _
      rw [hfe]; rfl
    rw [e1]
    exact q0
  | ok d h1 =>
    rw [hfe] at q0
    have e1 : mCons fe mNil sl h = .ok [d] h1 := by
      show bindR (fe sl h) _ = _
      rw [hfe]; rfl
    rw [e1]
    intro r1 H1 ee g1 vs hvs
    have q1 := q0 r1 H1 ee g1
    cases hvs with
    | cons hv ht =>
      rename_i v vs
      cases ht
      refine ⟨by show 1 ≤ 1000; omega, fun a na => ⟨a, v, rfl, upd_same, fun dx nd hda => ⟨rfl, dx, [(fld, v)], upd_same, ?_, ?_, ?_⟩⟩⟩
      · rw [upd_ne hda, upd_same]
      · rw [upd_ne hda] at nd
        exact nd
      · rw [upd_ne hda] at nd
        have eH : upd (del (upd (upd (upd H1 a (exo a C none)) dx (exd dx [(fld, v)])) a (exo a C (some dx))) a) dx (.xd [(fld, v)]) = upd H1 dx (.xd [(fld, v)]) := by
          funext b
          by_cases h1 : b = dx
          · rw [h1, upd_same, upd_same]
          · rw [upd_ne h1, upd_ne h1]
            by_cases h2 : b = a
            · rw [h2, del_same, na]
            · rw [del_ne h2, upd_ne h2, upd_ne h1, upd_ne h2]
        rw [eH]
        have sm : Same H1 (upd H1 dx (.xd [(fld, v)])) := same_new nd
        exact q1 r1 _ σ (.ref C) (some dx) (.same sm) (g1.same sm) ((s.mono g.mine ee).mono g1.mine (.same sm)) ⟨C, hm, rfl, dx, v, rfl, upd_same, Den.mono g1.mine (.same sm) _ _ hv⟩
end
/-! ### try: body, except x: suite -/
def tryR (tab : List (Str × Bool)) (g : Ms) : SRes → SRes
  | .exc c a sl h => (match tab.lookup c with
    | some true => g sl h
    | some false => .exc c a sl h
    | none => .bad)
  | x => x
def sTryO (tab : List (Str × Bool)) (f g : Ms) : Ms := fun sl h => tryR tab g (f sl h)
/-- which of the classes the clause catches -/
def ExT (X : Cx) (tab : List (Str × Bool)) (cv : Value) : Prop := ∀ c b, tab.lookup c = some b → ∃ C, X.mg c = some (.ref C) ∧ PySem.W.exmOne X.K (.ref C) cv = some b
theorem ExT.one {X : Cx} {c : Str} {b : Bool} {C : Addr} {cv : Value} (hm : X.mg c = some (.ref C)) (h : PySem.W.exmOne X.K (.ref C) cv = some b) : ExT X [(c, b)] cv := fun c' b' e => by
  simp only [List.lookup] at e
  split at e
  · rename_i q
    cases e
    rw [eq_of_beq q]
    exact ⟨C, hm, h⟩
  · cases e
theorem ds_tryO {X : Cx} {W : WX} {x : Str} {cv : Value} {tab : List (Str × Bool)} {body suite : List Stmt} {b0 : Stmt} {np pos pos' : Pos} {f g : Ms} (hs : X.stack = X.env :: X.outer) (hf : X.env.frame = some X.env.locals) (hc : Names X x cv) (tk : Takes X W) (ht : ExT X tab cv)
    (hb : ∀ (W1 : WX) (pn : List (Addr × Obj)) (xe : Value → Shared → Prop), Takes (X.tr pn xe) W1 → PassesOwn (model X.prog X.w) X.A X.env xe → PSs (X.tr pn xe) body (tS (evOf X) W1 f))
    (hsu : ∀ (a : Addr) (pn : List (Addr × Obj)), PSs (X.suite a pn) (b0 :: suite) (tS (evOf X) W g)) :
    PS X (.Try body [.ExceptHandler (some (.Name x np)) none (b0 :: suite) pos'] [] [] pos) (tS (evOf X) W (sTryO tab f g)) :=
  (ps_try_only (tb := fun W1 => tS (evOf X) W1 f) (ts := fun _ _ _ => tS (evOf X) W g) hs hf hc tk hb (fun a oe cls d pn _ _ => hsu a ((a, oe) :: pn))).imp fun E σ H ⟨r, F, sl, h, s, gd, q⟩ => by
    refine tS.of s gd ?_
    have q : SAft (evOf X) W F r H (tryR tab g (f sl h)) E := q
    cases hfs : f sl h with
    | nx sl' h' => rw [hfs] at q; exact q
    | ct sl' h' => rw [hfs] at q; exact q
    | bk sl' h' => rw [hfs] at q; exact q
    | rt d h' => rw [hfs] at q; exact q
    | bad => rw [hfs] at q; exact q
    | exc c a sl' h' =>
      rw [hfs] at q
      have q : SAft (evOf X) W F r H (match tab.lookup c with
        | some true => g sl' h'
        | some false => .exc c a sl' h'
        | none => .bad) E := q
      intro r' H' σ' cls y ee g' s' xd
      obtain ⟨C, hm, rfl, hx⟩ := xd
      cases hl : tab.lookup c with
      | none => rw [hl] at q; exact False.elim q
      | some b =>
        rw [hl] at q
        obtain ⟨C2, hm2, hex⟩ := ht c b hl
        have hm : X.mg c = some (.ref C) := hm
        rw [hm] at hm2
        cases hm2
        refine ⟨b, hex, fun hbt a0 na => ?_, fun hbf => ?_⟩
        · subst hbt
          exact tS.of s' g' (SAft.later (h1 := h') q ee g')
        · subst hbf
          exact q r' H' σ' (.ref C) y ee g' s' ⟨C, hm, rfl, hx⟩
end CH

/-! CHV: what the head says of exceptions with an __init__ of their own. -/
namespace CH
open PySem PySem.Spec PyProof.Rows L2 NdefX
/-- an exception's class, its field, the words of its __init__ -/
structure ExDef where
  cls : Str
  fld : Str
  name : Str
  qual : Str
  params : Arguments
  body : List Stmt
  scope : Scope
abbrev ExV : Type := Option (Str × Str × Arguments × FuncBody × Scope × Addr × List Str × Addr)
def isNoV : Value → Bool
  | .none => true
  | _ => false
theorem isNoV_ok {v : Value} (h : isNoV v = true) : v = .none := by cases v <;> first | rfl | cases h
def fileB (K : PySem.W.Frag) (file : Str) : Value → Bool
  | .ref c => (match K.lookup c with
    | some ⟨_, _, .fields vs, _⟩ => (match (vs[2]? : Option Value) with
      | some (Value.str x _) => file == x
      | _ => false)
    | _ => false)
  | _ => false
def cellB (K : PySem.W.Frag) (C : Addr) : List (Str × Addr) → Bool
  | [(n, c)] => decide (n = ("__class__" : Str)) && (match K.lookup c with
    | some ⟨_, _, .cell (some (.ref D)), _⟩ => decide (D = C)
    | _ => false)
  | _ => false
def oexB (K : PySem.W.Frag) (C : Addr) : Bool := (match K.lookup C with
    | some ⟨.type c, _, .cls cd, sl⟩ => decide (c = "type") && (match cd.mro, sl.toList with
      | .ref C' :: bm, [_, _, _, _, some (.builtin n), _] => decide (C' = C) && (decide (n = "ValueError.__new__") && (!cd.hasDel && (cd.hasDict && PySem.HandSPX.refsVE bm)))
      | _, _ => false)
    | _ => false) && (He.eqO (PySem.W.findIn K (.ref C) "__setattr__") (some (some (.builtin "object.__setattr__"))) && (decide (PySem.W.subIn K (.ref C) (.type "BaseException") = some true) && (decide (PySem.W.typeIn K (.ref C) = some (.type "type")) && PySem.W.keepIn K (.ref C))))
theorem oexB_ok {K : PySem.W.Frag} {C : Addr} (h : oexB K C = true) : OexC K C := by
  unfold oexB at h
  obtain ⟨h1, h⟩ := He.ba h
  obtain ⟨h2, h⟩ := He.ba h
  obtain ⟨h3, h⟩ := He.ba h
  obtain ⟨h4, h5⟩ := He.ba h
  refine ⟨?_, He.eqO_ok h2, of_decide_eq_true h3, of_decide_eq_true h4, h5⟩
  cases q : K.lookup C with
  | none => rw [q] at h1; cases h1
  | some o =>
    obtain ⟨oc, od, dt, osl⟩ := o
    rw [q] at h1
    cases oc with
    | type c =>
      cases dt with
      | cls cd =>
        obtain ⟨g1, g2⟩ := He.ba (show (decide (c = "type") && (match cd.mro, osl.toList with
          | .ref C' :: bm, [_, _, _, _, some (.builtin n), _] => decide (C' = C) && (decide (n = "ValueError.__new__") && (!cd.hasDel && (cd.hasDict && PySem.HandSPX.refsVE bm)))
          | _, _ => false)) = true from h1)
        have ec := of_decide_eq_true g1
        subst ec
        split at g2
        · rename_i C' bm k0 k1 k2 k3 n k5 hm hs
          obtain ⟨a1, g2⟩ := He.ba g2
          obtain ⟨a2, g2⟩ := He.ba g2
          obtain ⟨a3, g2⟩ := He.ba g2
          obtain ⟨a4, a5⟩ := He.ba g2
          have e1 := of_decide_eq_true a1
          have e2 := of_decide_eq_true a2
          subst e1 e2
          obtain ⟨nm, bs, mro, ns, qn, hd, sn, sub, ab, col, del⟩ := cd
          dsimp only at hm a3 a4
          subst hm a4
          have e3 : del = false := by cases del <;> first | rfl | cases a3
          subst e3
          have e4 : osl = #[k0, k1, k2, k3, some (.builtin "ValueError.__new__"), k5] := by
            rw [← Array.toArray_toList (xs := osl), hs]
          subst e4
          exact ⟨nm, qn, ns, bs, bm, sn, sub, ab, col, od, k0, k1, k2, k3, k5, rfl, a5⟩
        · cases g2
      | _ => cases h1
    | _ => cases dt <;> cases h1
def supB (file : Str) (K : PySem.W.Frag) (C f : Addr) (fld qual : Str) : Bool := (match K.lookup f with
    | some ⟨_, _, .func fd, _⟩ => isNoV fd.defaults && (isNoV fd.kwdefaults && (fd.annotations.isNone && (PySem.W.codeIn K fd.code qual && (fileB K file fd.code && cellB K C fd.closure))))
    | _ => false) && (decide (PySem.W.mroIn K C (.ref C) = some true) && (He.eqO (PySem.W.ks_superIn K C C "__init__") (some (some (.builtin "ValueError.__init__"))) && (decide (PySem.W.subIn K (.ref C) (.type "ValueError") = some true) &&
    (He.eqO (PySem.W.nsIn K cStatics "thirdparty.any") (some none) && (oexB K C && (He.eqO (PySem.W.findIn K (.ref C) fld) (some none) && (He.eqO (PySem.W.findIn K (.ref C) "__init__") (some (some (.ref f))) && decide (PySem.W.typeIn K (.ref f) = some (.type "function")))))))))
def exFn (K : PySem.W.Frag) (f : Addr) : ExV := match K.lookup f with
  | some ⟨_, _, .func fd, _⟩ => some (fd.name, fd.qualname, fd.params, fd.body, fd.scope, fd.globals, fd.closure.map (·.1), fd.builtins)
  | _ => none
def exObs1 (file : Str) (K : PySem.W.Frag) (d : ExDef) : ExV × Bool := (exFn K (He.ma K (He.ga K d.cls) "__init__"), supB file K (He.ga K d.cls) (He.ma K (He.ga K d.cls) "__init__") d.fld d.qual)
def exVal1 (d : ExDef) : ExV × Bool := (some (d.name, d.qual, d.params, FuncBody.stmts d.body, d.scope, mainGlobals, [("__class__" : Str)], builtinsNs), true)
def ExDef.nf (d : ExDef) (cc c : Addr) : NF := ⟨d.name, d.qual, d.params, d.body, d.scope, [(("__class__" : Str), cc)], c⟩
theorem sup_of {P : Program} {K : PySem.W.Frag} {d : ExDef} (htop : (P.main.scope.names.lookup ("super" : Str)).isSome = false) (h : exObs1 P.main.file K d = exVal1 d) :
    ∃ (cc c : Addr) (oc : Value) (od : Option Addr) (osl : Array (Option Value)) (doc pm ctv : Value), K.lookup (He.ma K (He.ga K d.cls) "__init__") = some ⟨oc, od, .func ((d.nf cc c).fd doc pm ctv), osl⟩ ∧ SupC P K (He.ga K d.cls) (He.ma K (He.ga K d.cls) "__init__") (d.nf cc c) d.fld ∧
      PySem.W.findIn K (.ref (He.ga K d.cls)) "__init__" = some (some (.ref (He.ma K (He.ga K d.cls) "__init__"))) ∧ PySem.W.typeIn K (.ref (He.ma K (He.ga K d.cls) "__init__")) = some (.type "function") := by
  have e1 : exFn K (He.ma K (He.ga K d.cls) "__init__") = _ := congrArg Prod.fst h
  have e2 : supB P.main.file K (He.ga K d.cls) (He.ma K (He.ga K d.cls) "__init__") d.fld d.qual = true := congrArg Prod.snd h
  generalize hf : He.ma K (He.ga K d.cls) "__init__" = f at *
  generalize hC : He.ga K d.cls = C at *
  unfold supB at e2
  obtain ⟨g1, e2⟩ := He.ba e2
  obtain ⟨g2, e2⟩ := He.ba e2
  obtain ⟨g3, e2⟩ := He.ba e2
  obtain ⟨g4, e2⟩ := He.ba e2
  obtain ⟨g5, e2⟩ := He.ba e2
  obtain ⟨g6, e2⟩ := He.ba e2
  obtain ⟨g7, e2⟩ := He.ba e2
  obtain ⟨g8, g9⟩ := He.ba e2
  unfold exFn at e1
  cases q : K.lookup f with
  | none => rw [q] at g1; cases g1
  | some o =>
    obtain ⟨oc, od, dt, osl⟩ := o
    rw [q] at g1 e1
    cases dt with
    | func fd =>
      obtain ⟨a1, g1⟩ := He.ba (show (isNoV fd.defaults && (isNoV fd.kwdefaults && (fd.annotations.isNone && (PySem.W.codeIn K fd.code d.qual && (fileB K P.main.file fd.code && cellB K C fd.closure))))) = true from g1)
      obtain ⟨a2, g1⟩ := He.ba g1
      obtain ⟨a3, g1⟩ := He.ba g1
      obtain ⟨a4, g1⟩ := He.ba g1
      obtain ⟨a5, a6⟩ := He.ba g1
      have e1 : (some (fd.name, fd.qualname, fd.params, fd.body, fd.scope, fd.globals, fd.closure.map (·.1), fd.builtins) : ExV) = some (d.name, d.qual, d.params, FuncBody.stmts d.body, d.scope, mainGlobals, [("__class__" : Str)], builtinsNs) := e1
      obtain ⟨name, qualname, params, body, scope, globals, closure, defaults, kwdefaults, doc, pyModule, annotations, code, closureTuple, builtins⟩ := fd
      dsimp only at a1 a2 a3 a4 a5 a6 e1
      injection e1 with e1
      injection e1 with b1 e1
      injection e1 with b2 e1
      injection e1 with b3 e1
      injection e1 with b4 e1
      injection e1 with b5 e1
      injection e1 with b6 e1
      injection e1 with b7 b8
      subst b1 b2 b3 b4 b5 b6 b8
      have c1 := isNoV_ok a1
      have c2 := isNoV_ok a2
      have c3 : annotations = none := by cases annotations <;> first | rfl | cases a3
      subst c1 c2 c3
      obtain ⟨c, rfl⟩ := He.codeIn_ref a4
      cases closure with
      | nil => cases a6
      | cons p ps =>
        obtain ⟨n, cc⟩ := p
        cases ps with
        | cons _ _ => cases a6
        | nil =>
          obtain ⟨x1, x2⟩ := He.ba (show (decide (n = ("__class__" : Str)) && (match K.lookup cc with
            | some ⟨_, _, .cell (some (.ref D)), _⟩ => decide (D = C)
            | _ => false)) = true from a6)
          have hn := of_decide_eq_true x1
          subst hn
          have hcell : ∃ cl cld csl, K.lookup cc = some ⟨cl, cld, .cell (some (.ref C)), csl⟩ := by
            cases q2 : K.lookup cc with
            | none => rw [q2] at x2; cases x2
            | some o2 =>
              obtain ⟨oc2, od2, dt2, osl2⟩ := o2
              rw [q2] at x2
              cases dt2 with
              | cell v =>
                cases v with
                | none => cases x2
                | some v =>
                  cases v with
                  | ref D =>
                    have : D = C := of_decide_eq_true x2
                    subst this
                    exact ⟨_, _, _, rfl⟩
                  | _ => cases x2
              | _ => cases x2
          have hfile : ∃ ccl cdd vs ccs file tf, K.lookup c = some ⟨ccl, cdd, .fields vs, ccs⟩ ∧ vs[2]? = some (.str file tf) ∧ ((P.main.file : Str) == file) = true := by
            have a5 : (match K.lookup c with
              | some ⟨_, _, .fields vs, _⟩ => (match (vs[2]? : Option Value) with
                | some (Value.str x _) => P.main.file == x
                | _ => false)
              | _ => false) = true := a5
            cases q2 : K.lookup c with
            | none => rw [q2] at a5; cases a5
            | some o2 =>
              obtain ⟨oc2, od2, dt2, osl2⟩ := o2
              rw [q2] at a5
              cases dt2 with
              | fields vs =>
                have a5 : (match (vs[2]? : Option Value) with
                  | some (Value.str x _) => P.main.file == x
                  | _ => false) = true := a5
                cases q3 : vs[2]? with
                | none => rw [q3] at a5; cases a5
                | some v =>
                  rw [q3] at a5
                  cases v with
                  | str x t => exact ⟨_, _, vs, _, x, t, rfl, q3, a5⟩
                  | _ => cases a5
              | _ => cases a5
          obtain ⟨cl, cld, csl, hcl⟩ := hcell
          exact ⟨cc, c, oc, od, osl, doc, pyModule, closureTuple, rfl, ⟨⟨oc, od, osl, doc, pyModule, closureTuple, q⟩, a4, hfile, ⟨cc, cl, cld, csl, rfl, hcl⟩, of_decide_eq_true g2, He.eqO_ok g3, of_decide_eq_true g4, He.eqO_ok g5, oexB_ok g6, He.eqO_ok g7, htop⟩, He.eqO_ok g8, of_decide_eq_true g9⟩
    | _ => cases g1
end CH

/-! CHW: the Hook with such exceptions, raise of one. -/
namespace CH
open PySem PySem.Spec PyProof.Rows L2 NdefX
abbrev AlE : Type := He.AlX × List (ExV × Bool)
def obsE (file : Str) (n : Nat) (fa : List He.Fa) (fn : List He.DefD) (ex : PySem.W.Frag → Bool) (ds : List ExDef) (g : Addr → Option Obj) : AlE := (He.obsX n fa fn [] [] ex g, ds.map fun d => exObs1 file (He.frT g (He.asD g n)) d)
def hookE (file : Str) (n : Nat) (fa : List He.Fa) (fn : List He.DefD) (ex : PySem.W.Frag → Bool) (ds : List ExDef) : PySem.W.Hook where
  α := AlE
  obs := fun s => obsE file n fa fn ex ds s.heap.get?
  val := fun w => (He.valX fn [] w, ds.map exVal1)
  says := fun w h => ∃ K : PySem.W.Frag, K.In h ∧ He.SaysX fa fn [] [] ex w h K ∧ ds.map (fun d => exObs1 file K d) = ds.map exVal1
  of := fun w s e => ⟨_, He.frT_in, He.saysX_of (congrArg Prod.fst e), congrArg Prod.snd e⟩
  keeps := fun _ _ _ ⟨K, hK, c, z⟩ k => ⟨K, PySem.W.Frag.In.keeps hK k, ⟨c.t, c.more, c.hd, c.out, fun p hp => k _ _ (c.empty p hp)⟩, z⟩
theorem obsE_eq {file : Str} {n : Nat} {fa : List He.Fa} {fn : List He.DefD} {ex : PySem.W.Frag → Bool} {ds : List ExDef} {g : Addr → Option Obj} {s : Shared} (h : ∀ a, g a = s.heap.get? a) : obsE file n fa fn ex ds g = (hookE file n fa fn ex ds).obs s := by
  have e : g = s.heap.get? := funext h
  rw [e] <;> rfl
/-- an exception with an __init__ of its own -/
structure XInit (P : Program) (w : World) (K : PySem.W.Frag) (mg : Str → Option Value) (base : Heap) (C : Addr) (fld : Str) : Prop where
  ex : ∃ (f : Addr) (fd : FuncData) (ps : List Str), OexC K C ∧ PySem.W.findIn K (.ref C) "__init__" = some (some (.ref f)) ∧ PySem.W.typeIn K (.ref f) = some (.type "function") ∧ (∀ k, FnOk P w K mg base (L2.CX P w) k f fd ps (spX C fld)) ∧ Binds K fd ps []
theorem xinit_of {P : Program} {w : World} {K : PySem.W.Frag} {mg : Str → Option Value} {base : Heap} {ds : List ExDef} {d : ExDef} {x : Str} {ar : Arg} {p0 p1 p2 p3 p4 p5 p6 p7 p8 p9 : Pos} {pl : (cc c f L : Addr) → Sem Bool} (i : Nat) (hd : ds[i]? = some d) (h : ds.map (fun d => exObs1 P.main.file K d) = ds.map exVal1) (hmg : mg "super" = none)
    (htop : (P.main.scope.names.lookup ("super" : Str)).isSome = false)
    (hb : d.body = [.Expr (.Call (.Attribute (.Call (.Name "super" p0) [] [] p1) "__init__" p2) [.Name x p3] [] p4) p5, .Assign [.Attribute (.Name "self" p6) d.fld p7] (.Name x p8) p9])
    (he : ∀ cc c f L : Addr, eval (.Call (.Attribute (.Call (.Name "super" p0) [] [] p1) "__init__" p2) [.Name x p3] [] p4) (envF (d.nf cc c) f L) = (do
      let ov ← attributeBase (.Call (.Name "super" p0) [] [] p1) "__init__" (envF (d.nf cc c) f L) (eval (.Call (.Name "super" p0) [] [] p1) (envF (d.nf cc c) f L))
      standAt p2.atName
      let (g, first) ← holding [ov] (getMethod ov "__init__" (pl cc c f L))
      callWith p4 g first (backTo p4 (starEach [.Name x p3] (envF (d.nf cc c) f L))) []))
    (S : NScope ["self", x, "__class__"] ["self", x] ["__class__"] d.scope) (hks : d.scope.names.lookup ("super" : Str) = some .globalImplicit) (har : (d.params.posonlyargs ++ d.params.args).head? = some ar) (hars : ar.arg = "self") (hxd : (x == ("__debug__" : Str)) = false) (hxc : (x == ("__classdict__" : Str)) = false)
    (hbd : ∀ (cc c : Addr) (doc pm ctv : Value) (us : List Value), us.length = 2 → bindArgs ((d.nf cc c).fd doc pm ctv) ⟨us, []⟩ = pure ((["self", x] : List Str).zip us)) : XInit P w K mg base (He.ga K d.cls) d.fld := by
  have e := congrArg (fun l => l[i]?) h
  simp only [List.getElem?_map, hd] at e
  obtain ⟨cc, c, oc, od, osl, doc, pm, ctv, lk, sc, iC, tI⟩ := sup_of htop (Option.some.inj e)
  exact ⟨_, _, ["self", x], sc.oex, iC, tI, fun k => init_ok (F := d.nf cc c) (pl := pl cc c _) (he cc c _) hb S hks har hars hxd hxc sc lk hmg, Binds.all fun us hl => hbd cc c doc pm ctv us hl⟩
theorem ds_raiseX {X : Cx} {W : WX} {C : Addr} {c fld : Str} {e : Expr} {fe : Mo D} {p pos pos' : Pos} {n : Nat} (T : XInit X.prog X.w X.K X.mg X.base C fld) (hr : Room (2 * n + 1) X.A) (hc : X.calm = true) (tk : Takes X W) (hg : Gl X c) (hm : X.mg c = some (.ref C)) (he : PE X e (tE (evOf X) W fe)) (hdb : (c == ("__debug__" : Str)) = false := by decide)
    (hs : starEach [e] X.env = (false, eval e X.env) :: starEach [] X.env := by rfl) :
    PS X (.Raise (some (.Call (.Name c p) [e] [] pos)) none pos') (tS (evOf X) W (sRaiseI c fld fe)) := by
  obtain ⟨f, fd, ps, T1, iC, tI, F1, hb⟩ := T.ex
  exact ds_raiseI (k := 0) T1 iC tI (F1 0) (hr.mono (by omega)) hb hc tk hg hm he hdb hs
end CH

/-! CHX: a leaner Hook: only the objects that the facts look at. -/
namespace CH
open PySem PySem.Spec PyProof.Rows L2 NdefX
def atF (g : Addr → Option Obj) (r : Obj → List Addr) (as : List Addr) : List Addr := as.flatMap fun a => match g a with
  | some o => r o
  | none => []
def seqF (o : Obj) : List Addr := match o.data with
  | .seq its _ => its.toList.flatMap He.refV
  | _ => []
/-- of a module's value: a function's code, a class's names, a row's items -/
def ref1 (o : Obj) : List Addr := match o.data with
  | .seq its _ => its.toList.flatMap He.refV
  | .func fd => He.refV fd.code
  | .cls cd => [cd.ns]
  | _ => []
def refNs (o : Obj) : List Addr := match o.data with
  | .seq its _ => its.toList.flatMap He.refV
  | .dict es _ => es.toList.flatMap fun e => He.refV e.val
  | _ => []
def refM (o : Obj) : List Addr := match o.data with
  | .seq its _ => its.toList.flatMap He.refV
  | .func fd => He.refV fd.code ++ fd.closure.map (·.2)
  | _ => []
def asF (g : Addr → Option Obj) : List Addr :=
  let l1 := atF g refNs [mainGlobals]
  let l2 := atF g ref1 l1
  let l3 := atF g refNs l2
  let l4 := atF g refM l3
  mainGlobals :: cStatics :: (l1 ++ (l2 ++ (l3 ++ l4)))
def obsF (file : Str) (fa : List He.Fa) (fn : List He.DefD) (ex : PySem.W.Frag → Bool) (ds : List ExDef) (g : Addr → Option Obj) : AlE := ((He.obsT fa fn [] (He.frT g (asF g)), ex (He.frT g (asF g))), ds.map fun d => exObs1 file (He.frT g (asF g)) d)
def hookF (file : Str) (fa : List He.Fa) (fn : List He.DefD) (ex : PySem.W.Frag → Bool) (ds : List ExDef) : PySem.W.Hook where
  α := AlE
  obs := fun s => obsF file fa fn ex ds s.heap.get?
  val := fun w => (He.valX fn [] w, ds.map exVal1)
  says := fun w h => ∃ K : PySem.W.Frag, K.In h ∧ He.SaysX fa fn [] [] ex w h K ∧ ds.map (fun d => exObs1 file K d) = ds.map exVal1
  of := fun w s e => ⟨_, He.frT_in, ⟨congrArg (fun z : AlE => z.1.1) e, congrArg (fun z : AlE => z.1.2) e, fun p hp => (List.not_mem_nil hp).elim, fun p hp => (List.not_mem_nil hp).elim, fun p hp => (List.not_mem_nil hp).elim⟩, congrArg Prod.snd e⟩
  keeps := fun _ _ _ ⟨K, hK, c, z⟩ k => ⟨K, PySem.W.Frag.In.keeps hK k, ⟨c.t, c.more, c.hd, c.out, fun p hp => k _ _ (c.empty p hp)⟩, z⟩
theorem obsF_eq {file : Str} {fa : List He.Fa} {fn : List He.DefD} {ex : PySem.W.Frag → Bool} {ds : List ExDef} {g : Addr → Option Obj} {s : Shared} (h : ∀ a, g a = s.heap.get? a) : obsF file fa fn ex ds g = (hookF file fa fn ex ds).obs s := by
  have e : g = s.heap.get? := funext h
  rw [e] <;> rfl
end CH

/-! CHLM: a def that calls the lambda it gets and tells its error by a word. -/
namespace CH
open PySem PySem.Spec PyProof.Rows L2
def toldR (tab : List (Str × Str)) : Res D → Res D
  | .ok d h => .ok d h
  | .exc c none h => (match tab.lookup c with
    | some w => .ok (.str w) h
    | none => .bad)
  | .exc _ (some _) _ => .bad
  | .bad => .bad
def hasT : MH → Bool
  | .tbl :: _ => true
  | _ => false
theorem hasT_get {h : MH} (e : hasT h = true) : h[0]? = some .tbl := by
  match h, e with
  | .tbl :: r, _ => rfl
def mTold (tab : List (Str × Str)) (f : Mo D) : Mo D := fun sl h => if hasT h = true then toldR tab (f sl h) else .bad
theorem Ext.ofN {r r' : List Addr} {H H1 H' : Hp} (n : LamX.ExtN H H1) (e : Ext r H1 r' H') : Ext r H r' H' := by
  obtain ⟨d, e1, e2⟩ := e.pre
  refine ⟨⟨d, e1, fun a ha => ⟨?_, (e2 a ha).2⟩⟩, fun a o h nr nt => e.keep0 a o (n a o h nt) nr nt⟩
  cases q : H a with
  | none => exact .inl q
  | some o =>
    refine Classical.byContradiction fun z => ?_
    have nt : ∀ ps, o ≠ .tbl ps := fun ps y => z (.inr ⟨ps, by rw [q, y]⟩)
    exact (e2 a ha).1.no (n a o q nt) nt
theorem SlR.extN {G : Ev} {r F : List Addr} {H H1 : Hp} {sl : Sl} {σ : L2.St} (s : SlR G r F H sl σ) (e : LamX.ExtN H H1) : SlR G r F H1 sl σ := ⟨s.1, fun j d hd => let ⟨v, a1, a2⟩ := s.2 j d hd; ⟨v, a1, Den.extN e _ _ a2⟩⟩
/-- what the def makes of the lambda's reading -/
def TTw (G : Ev) (F : List Addr) (tab : List (Str × Str)) : (XK → Hp → VK → Prop) → Hp → VK → Prop := fun tl H Q =>
  tl (fun cls d H' => ∃ c w C r h, tab.lookup c = some w ∧ G.mg c = some (.ref C) ∧ cls = .ref C ∧ d = none ∧ GoodH G r F h H' ∧ ∀ r' H'', Ext r H' r' H'' → GoodH G r' F h H'' → Q (.str w) H'') H Q
def TTws (G : Ev) (tab : List (Str × Str)) : (XK → Hp → VK → Prop) → Hp → VK → Prop := fun tl H Q => ∃ F, TTw G F tab tl H Q
section
variable {X : Cx} {W : WX}
theorem de_told {tab : List (Str × Str)} {x a : Str} {g c : Addr} {k : Nat} {pg : Arguments} {bg : List Stmt} {sg : Scope} {fdg : FuncData} {Ng : List Str}
    {params : Arguments} {body : Expr} {scope : Scope} {f : Mo D} {p lpos pos : Pos} (hg : Gl X x) (hm : X.mg x = some (.ref g))
    (FD : FunD X.K x x pg bg sg [] [] g fdg) (hb : L2.Binds X.K fdg [a] []) (Sg : FnScope Ng [a] sg) (hNg : Ng[0]? = some a) (hva : Vis sg a)
    (hG : ∀ cdv, LamX.GivesTo X Ng x sg g cdv bg a (X.env.qual ++ "<lambda>") (TTws (evOf X) tab))
    (TB : LamX.TabB X.base X.mg c (lawT X.K)) (hcode : X.env.code = .ref c) (hr : Room (k + 2) X.A) (L : LamX.LamS X.env.scope scope) (hdef : defaultsOf params X.env = ([], []))
    (hbind : ∀ (q : Str) (cl : List (Str × Addr)) (pm cv ctv : Value), bindArgs (PySem.W.kla_fn "<lambda>" q params body scope cl pm cv ctv) ⟨[], []⟩ = pure [])
    (hbody : ∀ (A : Around) (outer : List Env) (s : Shared) (H : Hp) (E : XK) (f' c' : Addr), Room k (LamX.lamCx X A outer s H E scope f' c').A → Takes (LamX.lamCx X A outer s H E scope f' c') (WX0 E) → PE (LamX.lamCx X A outer s H E scope f' c') body (tE (evOf X) (WX0 E) f))
    (hq : X.env.qual ++ "<lambda>" = lamQ := by rfl) (hdb : (x == ("__debug__" : Str)) = false := by decide) (hd : (a == ("__debug__" : Str)) = false := by decide) (hcd : (a == ("__classdict__" : Str)) = false := by decide) :
    PE X (.Call (.Name x p) [.Lambda params body scope lpos] [] pos) (tE (evOf X) W (mTold tab f)) := by
  obtain ⟨oc, od, dV, kV, doc, pm, an, cdv, ct, osl, rfl, lk, hcg, _, _⟩ := FD.ex
  refine (LamX.pe_lamcall (T := [(lawT X.K, lamQ)]) (TT := TTws (evOf X) tab) (t := fun E => tE (evOf X) (WX0 E) f) hg hm FD.kp lk hcg hb Sg hNg hva (hG cdv) TB hcode (by rw [hq]; exact List.mem_singleton_self _) (fun p hp _ => by rw [hq]; rw [List.mem_singleton.mp hp]) hr L hdef hbind
    (fun A outer s H E f' c' hr' => hbody A outer s H E f' c' hr' (takes_of rfl rfl rfl rfl)) hdb hd hcd).imp fun σ H Q ⟨r, F, sl, h, s, gd, q⟩ => ?_
  have q : Aft (evOf X) W F σ r H (if hasT h = true then toldR tab (f sl h) else .bad) _ := q
  by_cases z : hasT h = true
  · rw [if_pos z] at q
    obtain ⟨aP, _, eP, tP⟩ := gd.ob 0 _ (hasT_get z)
    have eP : aP = lawT X.K := eP
    subst eP
    refine ⟨fun p hp => by rw [List.mem_singleton.mp hp]; exact tP, fun H1 eN t1 => ⟨F, ?_⟩⟩
    have t1 : LamX.TabS H1 (lawT X.K) lamQ := t1 _ (List.mem_singleton_self _)
    refine ⟨r, F, sl, h, s.extN eN, gd.extN eN t1, ?_⟩
    cases hf : f sl h with
    | ok d h' =>
      rw [hf] at q
      exact fun r' H' e g v hv => q r' H' (e.ofN eN) g v hv
    | bad => rw [hf] at q; exact False.elim q
    | exc c0 a0 h' =>
      rw [hf] at q
      cases a0 with
      | some a0 => exact False.elim q
      | none =>
        simp only [toldR] at q
        cases hl : tab.lookup c0 with
        | none => rw [hl] at q; exact False.elim q
        | some w =>
          rw [hl] at q
          intro r' H' cls y e g' xd
          obtain ⟨C, hm, rfl, hy⟩ := xd
          have hy : y = none := hy
          subst hy
          exact ⟨c0, w, C, r', h', hl, hm, rfl, rfl, g', fun r2 H2 e2 g2 => q r2 H2 ((e.ofN eN).trans g'.mine e2) g2 _ (.str w)⟩
  · rw [if_neg z] at q; exact False.elim q
end
/-! ### list.index, list.count of two truth values -/
def rCntF (K : PySem.W.Frag) : V → List V → Hp → VK → Prop := fun x xs H Q => ∃ (a : Addr) (ys : List V) (y : V), x = V.ref a ∧ xs = [y] ∧ SqL K H a ys ∧ flatV y = true ∧ ys.all flatV = true ∧ Q (.int (ys.countP fun z => eqV z y : Nat)) H
theorem eqU_count {y : V} : ∀ {us : List Value} {ys : List V}, Vals ys us → ys.all flatV = true → us.countP (eqU y) = ys.countP fun z => eqV z y
  | _, _, .nil, _ => rfl
  | _, _, .cons r t, f => by
    rw [List.all_cons, Bool.and_eq_true] at f
    rw [List.countP_cons, List.countP_cons, eqU_count t f.2, eqU_of r f.1]
theorem mt_lcntF {X : Cx} : MtR X "list.count" (rCntF X.K) := by
  intro pins s σ H x xs v us Q I rx rxs h
  match x, xs, h, us, rxs with
  | _, _, ⟨a, ys, y, rfl, rfl, hs, fy, fys, q⟩, _, .cons (b := uy) ry .nil =>
    cases rx
    match I.list hs with
    | ⟨its, rv, ⟨⟨cls, dd, data, sl⟩, n, ho, hc, _, hd⟩, _⟩ =>
      cases hc
      cases hd
      have same : its.toArray.toList.countP (eqU y) = ys.countP fun z => eqV z y := eqU_count rv fys
      exact call_meets PySem.F.slot_list_count ⟨_, ho, rfl⟩ PySem.F.entry_list_count
        (PySem.F.args_list_count_2 _ _) (SeqAt.list_countAt a its.toArray n dd sl uy (eqU y))
        ⟨ho, fun u' hu' => mem_eqAt ry fy rv fys u' (by simpa using hu'), V.int (ys.countP fun z => eqV z y : Nat), H, I.tok _, ⟨s.toks, by rw [same]⟩, q⟩
def gIdx2 : D → List D → MH → Res D := fun x ds h => match x, ds with
  | .lst [.bl true, .bl _], [.bl true] => .ok (.int 0) h
  | .lst [.bl false, .bl true], [.bl true] => .ok (.int 1) h
  | _, _ => .bad
def gCnt2 : D → List D → MH → Res D := fun x ds h => match x, ds with
  | .lst [.bl a, .bl b], [.bl true] => .ok (.int ((if a then 1 else 0) + (if b then 1 else 0))) h
  | _, _ => .bad
theorem den2 {G : Ev} {r F : List Addr} {H : Hp} {x : D} {v : V} {a b : Bool} (hx : Den G r F H x v) (e : x = .lst [.bl a, .bl b]) : ∃ p, v = .ref p ∧ SqL G.K H p [.bl a, .bl b] := by
  subst e
  cases hx with
  | lst h n l =>
    cases l with
    | cons h1 t1 =>
      cases t1 with
      | cons h2 t2 =>
        cases t2
        cases h1
        cases h2
        exact ⟨_, rfl, SqL.of h⟩
theorem mts_idx2 {G : Ev} : MtS G (rIndex G.K) gIdx2 := fun W σ r F H h x v ds vs Q g hx hd q => by
  unfold gIdx2 at q
  split at q
  · rename_i b
    obtain ⟨p, rfl, hs⟩ := den2 hx rfl
    cases hd with
    | cons hy t =>
      cases t
      cases hy
      exact ⟨p, _, .bl true, 0, .bl true, rfl, rfl, hs, rfl, by simp [flatV], rfl, rfl, fun m z' hm => absurd hm (Nat.not_lt_zero _), q.here g _ (.int _)⟩
  · obtain ⟨p, rfl, hs⟩ := den2 hx rfl
    cases hd with
    | cons hy t =>
      cases t
      cases hy
      refine ⟨p, _, .bl true, 1, .bl true, rfl, rfl, hs, rfl, by simp [flatV], rfl, rfl, fun m z' hm e => ?_, q.here g _ (.int _)⟩
      have : m = 0 := by omega
      subst this
      have e : V.bl false = z' := Option.some.inj e
      rw [← e]; rfl
  · exact False.elim q
theorem mts_cnt2 {G : Ev} : MtS G (rCntF G.K) gCnt2 := fun W σ r F H h x v ds vs Q g hx hd q => by
  unfold gCnt2 at q
  split at q
  · rename_i a b
    obtain ⟨p, rfl, hs⟩ := den2 hx rfl
    cases hd with
    | cons hy t =>
      cases t
      cases hy
      refine ⟨p, _, .bl true, rfl, rfl, hs, rfl, by simp [flatV], ?_⟩
      have e : (((([V.bl a, V.bl b] : List V).countP fun z => eqV z (.bl true)) : Nat) : Int) = (if a then 1 else 0) + (if b then 1 else 0) := by cases a <;> cases b <;> rfl
      rw [e]
      exact q.here g _ (.int _)
  · exact False.elim q
/-! ### the suite -/
section
variable {X : Cx} {C D0 : Addr} {n : Str} {i j : Nat}
/-- isinstance(e, D), e the exception that the suite holds -/
theorem pe_isZ {a : Addr} {oe : Obj} {pn : List (Addr × Obj)} {y : Str} {b : Bool} {p p2 p3 p4 : Pos} (CE : ExcC X.K C) (hz : Zc (.ref C) none oe) (hf : ∃ vs, oe.data = .fields vs) (hv : PE (X.suite a ((a, oe) :: pn)) (.Name n p2) (tVar i)) (hgi : Gl X "isinstance") (hmi : X.mg "isinstance" = none) (hgy : Gl X y) (hmy : X.mg y = some (.ref D0)) (hdb : (y == ("__debug__" : Str)) = false) (hk : PySem.W.kitOne X.K (.ref C) (.ref D0) = some b) (hs : starEach [.Name n p2, .Name y p3] X.env = (false, eval (.Name n p2) X.env) :: starEach [.Name y p3] X.env := by rfl) (hs2 : starEach [.Name y p3] X.env = (false, eval (.Name y p3) X.env) :: starEach [] X.env := by rfl) (hpl : (backTo p4 (starEach [.Name y p3] X.env)).any (·.1) = false := by rfl) :
    PE (X.suite a ((a, oe) :: pn)) (.Call (.Name "isinstance" p) [.Name n p2, .Name y p3] [] p4) (fun σ H Q => σ[i]? = some (some (.ref a)) ∧ Q (.bl b) H) := by
  have hy : PE (X.suite a ((a, oe) :: pn)) (.Name y p3) (tC (.ref D0)) := pe_glob (X := X.suite a ((a, oe) :: pn)) hgy hmy rfl hdb
  refine (pe_callB (X := X.suite a ((a, oe) :: pn)) (call_isE (X := X) CE hz hf) hgi hmi (by rfl) (pa_cons hv (pa_cons hy pa_nil hs2) hs) (by decide) (by decide) hs hpl).imp fun σ H Q ⟨h1, q⟩ => ?_
  exact ⟨.ref a, h1, .ref D0, .ref D0, b, rfl, fun u hu => hu.symm ▸ rfl, hk, q⟩
theorem ds_setIs {W : WX} {v : V} {x : Str} {e1 e2 : Expr} {b1 b2 : Bool} {px pl pos : Pos} (hN : X.N.Nodup) (hj : X.N[j]? = some x) (hx : Loc X.env.scope x) (h1 : PE X e1 (fun σ H Q => σ[i]? = some (some v) ∧ Q (.bl b1) H)) (h2 : PE X e2 (fun σ H Q => σ[i]? = some (some v) ∧ Q (.bl b2) H))
    (hs1 : starEach [e1, e2] X.env = (false, eval e1 X.env) :: starEach [e2] X.env := by rfl) (hs2 : starEach [e2] X.env = (false, eval e2 X.env) :: starEach [] X.env := by rfl)
    (hs : swapsWith (.List [e1, e2] pl) (some (.Name x px)) pos.line X.env = pure false := by rfl) (hf : X.fn x = true ∨ X.env.scope.names.lookup x = some .local := by first | exact .inl rfl | exact .inr rfl | assumption) :
    PS X (.Assign [.Name x px] (.List [e1, e2] pl) pos) (fun D σ H => σ[i]? = some (some v) ∧ tS (evOf X) W (sSet j (mC (.lst [.bl b1, .bl b2]))) D σ H) := by
  have hl : PE X (.List [e1, e2] pl) (fun σ H Q => σ[i]? = some (some v) ∧ tE (evOf X) W (mC (.lst [.bl b1, .bl b2])) σ H Q) := by
    refine (pe_lst (pa_cons h1 (pa_cons h2 pa_nil hs2) hs1)).imp fun σ H Q hh => ?_
    obtain ⟨hi, r, F, sl, h, s, g, q⟩ := hh
    refine ⟨hi, hi, (by show 2 ≤ sizeLine; rw [sizeLine_eq]; omega), fun p hp => ?_⟩
    have q : Aft (evOf X) W F σ r H (Res.ok (D.lst [D.bl b1, D.bl b2]) h) _ := q
    exact q.hereS g (same_new hp) _ (new_lst g (.cons (.bl b1) (.cons (.bl b2) .nil)) hp)
  exact (ps_set hN hj hx hl hs hf).imp fun E σ H ⟨hi, r, F, sl, h, s, g, q⟩ => ⟨hi, tE.of s g ((q.bindS s g).imp fun r1 H1 x h1 e1 g1 q1 v hv => q1.nxh ((s.mono g.mine e1).set hv) g1)⟩
theorem dss_preT {W : WX} {st : Stmt} {rest : List Stmt} {f1 f2 : Ms} {pre : L2.St → Prop} (h1 : PS X st (fun D σ H => pre σ ∧ tS (evOf X) W f1 D σ H)) (h2 : PSs X rest (tS (evOf X) W f2)) : PSs X (st :: rest) (fun D σ H => pre σ ∧ tS (evOf X) W (sSeq f1 f2) D σ H) :=
  (pss_cons h1 h2).imp fun E σ H ⟨hp, r, F, sl, h, s, g, q⟩ => ⟨hp, tS.of s g q.seq⟩
theorem opr_eqS {k : Nat} {a : Addr} {pn : List (Addr × Obj)} (hr : Room k X.A) : OpR (X.suite a pn) (compareOp .Eq) (rEqA X.K) := OpR.or op_eq (op_eqD (X := X.suite a pn) (by have := hr.un; show X.A.units + 64 < cLine; omega))
theorem takes_len {W : WX} (tk : Takes X W) : Takes X (fun cls d σ H => σ.length = X.N.length → W cls d σ H) := fun u s' ⟨a, B, sI, pins, σ, H, cls, d, e, I, nb, up, sky, na, os, ag, w⟩ => tk u s' ⟨a, B, sI, pins, σ, H, cls, d, e, I, nb, up, sky, na, os, ag, w I.len⟩
/-- try: return a() / except e as n: suite, the suite tells the class by its word -/
theorem told_givesW {tab : List (Str × Str)} {Ng : List Str} {x a e q : Str} {sg : Scope} {g CS : Addr} {cdg : Value} {b0 : Stmt} {suite : List Stmt} {p1 p2 p3 p4 p7 p8 : Pos} (hge : sg.names.lookup e = some .globalImplicit) (hme : X.mg e = some (.ref CS)) (hde : (e == ("__debug__" : Str)) = false) (h0 : ∀ f : Addr, (L2.start Ng [V.ref f])[0]? = some (some (V.ref f)))
    (hN : Ng.Nodup) (hi : Ng[1]? = some n) (hl3 : Ng.length = 3) (hln : sg.names.lookup n = some .local)
    (hcl : ∀ c w C, tab.lookup c = some w → X.mg c = some (.ref C) → PySem.W.exmOne X.K (.ref C) (.ref CS) = some true ∧ ∃ gM : Ms, (∀ h, gM [none, none, none] h = .rt (.str w) h) ∧
      ∀ (s : Shared) (H : Hp) (a : Addr) (oe : Obj) (pn : List (Addr × Obj)), Zc (.ref C) none oe → (∃ vs, oe.data = .fields vs) → PSs (((cxOf C8.CX0 X.prog X.w X.K X.mg X.base Ng x sg g cdg X.A X.stack s H C8.E0).nox).suite a ((a, oe) :: pn)) (b0 :: suite) (fun D σ H => σ[1]? = some (some (.ref a)) ∧ tS (evOf X) (fun _ _ _ _ => False) gM D σ H)) :
    LamX.GivesTo X Ng x sg g cdg [.Try [.Return (some (.Call (.Name a p1) [] [] p2)) p3] [.ExceptHandler (some (.Name e p4)) (some n) (b0 :: suite) p7] [] [] p8] a q (TTws (evOf X) tab) := by
  intro f c' s H Q tl act hc h
  obtain ⟨F, h⟩ := h
  have hgl : Gl (cxOf C8.CX0 X.prog X.w X.K X.mg X.base Ng x sg g cdg X.A X.stack s H C8.E0).nox e := hge
  refine ⟨_, pss_one (ps_try_as (X := (cxOf C8.CX0 X.prog X.w X.K X.mg X.base Ng x sg g cdg X.A X.stack s H C8.E0).nox) (c := .ref CS) (i := 1)
      (tb := fun W D σ H => ∃ Ech : XK, (∀ cls d σ' H', Ech cls d H' → σ'.length = 3 → W cls d σ' H') ∧ σ[0]? = some (some (.ref f)) ∧ H c' = some (LamX.CodeO c' q) ∧ tl Ech H D.rt)
      (ts := fun a cls d D σ H2 => ∃ C gM, (cls = .ref C ∧ d = none ∧ ∀ (oe : Obj) (pn : List (Addr × Obj)), Zc (.ref C) none oe → (∃ vs, oe.data = .fields vs) → PSs (((cxOf C8.CX0 X.prog X.w X.K X.mg X.base Ng x sg g cdg X.A X.stack s H C8.E0).nox).suite a ((a, oe) :: pn)) (b0 :: suite) (fun D σ H => σ[1]? = some (some (.ref a)) ∧ tS (evOf X) (fun _ _ _ _ => False) gM D σ H)) ∧ σ[1]? = some (some (.ref a)) ∧ tS (evOf X) (fun _ _ _ _ => False) gM D σ H2)
      rfl rfl hN hi hln ⟨hgl, hde, .inl hme⟩ LamX.takes0 (fun W pn xe tk _ => ?_) (fun a oe cls d pn hz hfd => ?_)), ?_⟩
  · exact ⟨fun pins s' σ H' D I ⟨Ech, hW, held⟩ =>
      have told := act _ pn xe Ech p1 p2 (takes_len tk) fun cls d σ' H' z hl => hW cls d σ' H' z (by rw [hl]; exact hl3)
      (pss_one (ps_ret (pos := p3) told)).run pins s' σ H' D I held⟩
  · refine ⟨fun pins s' σ H' D I hh => ?_⟩
    obtain ⟨C, gM, ⟨rfl, rfl, hps⟩, q⟩ := hh
    exact (hps oe pn hz hfd).run pins s' σ H' D I q
  · refine ⟨_, fun cls d σ' H' hx hl => ?_, h0 f, hc, h⟩
    obtain ⟨c, w, C, r, hM, e1, e2, rfl, rfl, gd, hq⟩ := hx
    have e2 : X.mg c = some (.ref C) := e2
    obtain ⟨ex, gM, hg, hps⟩ := hcl c w C e1 e2
    refine ⟨true, ex, fun _ a na => ⟨C, gM, ⟨rfl, rfl, fun oe pn => hps s _ a oe pn⟩, ?_, r, F, [none, none, none], hM, ⟨by rw [List.length_set, hl]; rfl, fun j d hd => ?_⟩, gd, ?_⟩, fun z => by cases z⟩
    · rw [List.getElem?_set_self (by rw [hl]; decide)]
    · match j, hd with
      | 0, hd => cases hd
      | 1, hd => cases hd
      | 2, hd => cases hd
    · rw [hg]
      intro r' H'' v e g' hv
      cases hv
      exact hq r' H'' e g'
end
/-! ### raise C() -/
def sRaise0 (c : Str) : Ms := fun sl h => .exc c none sl h
section
variable {X : Cx} {W : WX} {C : Addr} {c : Str} {p pos pos' : Pos} {bmB : List Value} {B newId initId : String}
theorem pmk_own0 (F : ExcBaseFacts B newId initId bmB) (q : PySem.W.excIn X.K C bmB newId = true) (gC : X.mg c = some (.ref C)) (kC : PySem.W.keepIn X.K (.ref C) = true) (r : Raises X (.ref C)) (hg : Gl X c)
    (hdb : (c == ("__debug__" : Str)) = false := by decide) : PMk X (.Call (.Name c p) [] [] pos) (fun _ H Q => Q (.ref C) none H) := by
  intro pins s σ H Q I h
  refine wpAny_Call_Name_kw (ld_glob I hg gC ?_ hdb)
  refine PySem.W.callWith_K0 I.kIn kC ?_
  show wpAny _ _ (call (.ref C) []) _ _ _
  obtain ⟨bm, N, nm, qn, bs, hdct, sn, sub, ab, col, dd, k0, k1, k2, k3, k5, mN, hC, hN, hni, T⟩ := exc_obj I.kIn q
  refine wpAny_call_exc_subT F T hC hN hni (fun h' e hm => ?_) (by show 0 ≤ sizeLine; rw [sizeLine_eq]; omega)
  exact mk_of I hm r h (I.hok.gone hm.new)
theorem ds_raise0 (hc : X.calm = true) (tk : Takes X W) (F : PySem.W.excIn X.K C He.veBase "ValueError.__new__" = true ∧ PySem.W.keepIn X.K (.ref C) = true ∧ PySem.W.subIn X.K (.ref C) (.type "BaseException") = some true ∧ PySem.W.typeIn X.K (.ref C) = some (.type "type")) (hg : Gl X c) (hm : X.mg c = some (.ref C)) (hdb : (c == ("__debug__" : Str)) = false := by decide) :
    PS X (.Raise (some (.Call (.Name c p) [] [] pos)) none pos') (tS (evOf X) W (sRaise0 c)) := by
  refine (ps_raise hc tk (pmk_own0 PySem.F.excBase_ValueError F.1 hm F.2.1 (raises_own F.2.2.1 F.2.2.2) hg hdb)).imp fun E σ H ⟨r, F, sl, h, s, g, q⟩ => ?_
  exact q r H σ (.ref C) none .refl g s ⟨C, hm, rfl, rfl⟩
end
/-! ### what the class of e must say -/
def excCB (K : PySem.W.Frag) (D : Addr) : Bool := He.eqO (PySem.W.findIn K (.ref D) "__getattribute__") (some (some (.builtin "BaseException.__getattribute__"))) && (He.eqO (PySem.W.findIn K (.ref D) "__getattr__") (some none) && (decide (PySem.W.subIn K (.ref D) (.type "BaseException") = some true) && (PySem.W.hasDictIn K D &&
  (He.eqO (PySem.W.findIn K (.ref D) "__class__") (some (some (.builtin "object.__class__"))) && (He.eqO (PySem.W.specialIn K (.builtin "object.__class__") "__get__") (some (some (.builtin "getset_descriptor.__get__"))) && (decide (PySem.W.takesIn K (.builtin "object.__class__") = some true) && decide (PySem.W.mroIn K D (.type "object") = some true)))))))
theorem excCB_ok {K : PySem.W.Frag} {D : Addr} (h : excCB K D = true) : ExcC K D := by
  unfold excCB at h
  obtain ⟨h1, h⟩ := He.ba h
  obtain ⟨h2, h⟩ := He.ba h
  obtain ⟨h3, h⟩ := He.ba h
  obtain ⟨h4, h⟩ := He.ba h
  obtain ⟨h5, h⟩ := He.ba h
  obtain ⟨h6, h⟩ := He.ba h
  obtain ⟨h7, h8⟩ := He.ba h
  exact ⟨He.eqO_ok h1, He.eqO_ok h2, of_decide_eq_true h3, h4, He.eqO_ok h5, He.eqO_ok h6, of_decide_eq_true h7, of_decide_eq_true h8⟩
/-- of two classes: what isinstance says -/
def toldB (K : PySem.W.Frag) (c1 c2 : Str) : Bool := excCB K (He.ga K c1) && (excCB K (He.ga K c2) && (decide (PySem.W.kitOne K (.ref (He.ga K c1)) (.ref (He.ga K c1)) = some true) && (decide (PySem.W.kitOne K (.ref (He.ga K c1)) (.ref (He.ga K c2)) = some false) &&
  (decide (PySem.W.kitOne K (.ref (He.ga K c2)) (.ref (He.ga K c1)) = some false) && decide (PySem.W.kitOne K (.ref (He.ga K c2)) (.ref (He.ga K c2)) = some true)))))
structure ToldC (K : PySem.W.Frag) (c1 c2 : Str) : Prop where
  e1 : ExcC K (He.ga K c1)
  e2 : ExcC K (He.ga K c2)
  k11 : PySem.W.kitOne K (.ref (He.ga K c1)) (.ref (He.ga K c1)) = some true
  k12 : PySem.W.kitOne K (.ref (He.ga K c1)) (.ref (He.ga K c2)) = some false
  k21 : PySem.W.kitOne K (.ref (He.ga K c2)) (.ref (He.ga K c1)) = some false
  k22 : PySem.W.kitOne K (.ref (He.ga K c2)) (.ref (He.ga K c2)) = some true
theorem toldB_ok {K : PySem.W.Frag} {c1 c2 : Str} (h : toldB K c1 c2 = true) : ToldC K c1 c2 := by
  unfold toldB at h
  obtain ⟨h1, h⟩ := He.ba h
  obtain ⟨h2, h⟩ := He.ba h
  obtain ⟨h3, h⟩ := He.ba h
  obtain ⟨h4, h⟩ := He.ba h
  obtain ⟨h5, h6⟩ := He.ba h
  exact ⟨excCB_ok h1, excCB_ok h2, of_decide_eq_true h3, of_decide_eq_true h4, of_decide_eq_true h5, of_decide_eq_true h6⟩
/-! ### a def whose code object is known -/
section
variable {P : Program} {w : World} {K : PySem.W.Frag} {mg : Str → Option Value} {base : Heap} {k : Nat} {ps : List Str}
theorem FT.of_okC {p : He.Defn} {x qual : Str} {params : Arguments} {body : List Stmt} {scope : Scope} {fd : FuncData} {N : List Str} {b : Ms} (F : FunD K x qual params body scope [] [] (He.fAd K p) fd) (S : FnScope N ps scope)
    (hb : ∀ (cdv : Value), cdv = .ref (He.cT K p).1 → ∀ (A : Around) (outer : List Env) (s : Shared) (H : Hp) (E : XK), Room k (A.deeper (envOfC qual scope s.heap.objs.size (He.fAd K p) cdv)) →
      PSs (cxOf (L2.CX P w) P w K mg base N qual scope (He.fAd K p) cdv A outer s H E) body (tS ⟨K, mg⟩ (WX0 E) b)) : FnOk P w K mg base (L2.CX P w) (k + 1) (He.fAd K p) fd ps (spD ⟨K, mg⟩ ps.length (runB N.length b)) := by
  obtain ⟨oc, od, dV, kV, doc, pm, an, cdv, ct, osl, rfl, lk, hcd, _, _⟩ := F.ex
  obtain ⟨c, ec⟩ := He.codeIn_ref hcd
  have e : cdv = .ref (He.cT K p).1 := by
    rw [ec]
    exact congrArg Value.ref (He.codeOf_eq lk ec).symm
  refine fn_of lk hcd S spD_len fun A outer s H vs Q E hr h => ⟨_, hb cdv e A outer s H E hr, ?_⟩
  obtain ⟨r, F', h, ds, g, hd, q⟩ := h
  unfold ckN at q
  by_cases z : ds.length = ps.length
  · rw [if_pos z] at q
    refine tS.of (slots0_rel hd N) g ?_
    unfold runB at q
    cases hr : b (slots0 N.length ds) h with
    | nx sl h' => rw [hr] at q; exact fun r' H' σ' e g' _ => q r' H' e g' _ .non
    | rt d h' => rw [hr] at q; exact fun r' H' v e g' hv => q r' H' e g' v hv
    | exc x a sl h' => rw [hr] at q; exact fun r' H' σ' cls y e g' _ hx => q r' H' cls y e g' hx
    | bk sl h' => rw [hr] at q; exact False.elim q
    | ct sl h' => rw [hr] at q; exact False.elim q
    | bad => rw [hr] at q; exact False.elim q
  · rw [if_neg z] at q; exact False.elim q
theorem FT.ofC {p : He.Defn} {x qual : Str} {params : Arguments} {body : List Stmt} {scope : Scope} {fd : FuncData} {N : List Str} {b : Ms} (F : FunD K x qual params body scope [] [] (He.fAd K p) fd) (S : FnScope N ps scope) (bd : Binds K fd ps [] ∧ ∀ (s : Shared) (us : List Value), us.length = ps.length → BindsTo s fd ⟨us, []⟩ (ps.zip us))
    (hb : ∀ (cdv : Value), cdv = .ref (He.cT K p).1 → ∀ (A : Around) (outer : List Env) (s : Shared) (H : Hp) (E : XK), Room k (A.deeper (envOfC qual scope s.heap.objs.size (He.fAd K p) cdv)) →
      PSs (cxOf (L2.CX P w) P w K mg base N qual scope (He.fAd K p) cdv A outer s H E) body (tS ⟨K, mg⟩ (WX0 E) b)) : FT P w K mg base (k + 1) ps (runB N.length b) (He.fAd K p) := ⟨⟨fd, FT.of_okC F S hb, bd⟩, F.kp⟩
end
/-! ### the Hook, with tables -/
def obsFT (file : Str) (fa : List He.Fa) (fn : List He.DefD) (tf : List He.Defn) (ex : PySem.W.Frag → Bool) (ds : List ExDef) (g : Addr → Option Obj) : AlE := ((He.obsT fa fn [] (He.frT g (asF g)), ex (He.frT g (asF g)) && He.tabsB g tf (He.frT g (asF g))), ds.map fun d => exObs1 file (He.frT g (asF g)) d)
theorem saysX_as {as : List Addr} {fa : List He.Fa} {fn : List He.DefD} {tf : List He.Defn} {ex : PySem.W.Frag → Bool} {w : World} {h : Heap} (e1 : He.obsT fa fn [] (He.frT h.get? as) = He.valT fn [] w) (e2 : (ex (He.frT h.get? as) && He.tabsB h.get? tf (He.frT h.get? as)) = true) : He.SaysX fa fn [] tf ex w h (He.frT h.get? as) := by
  have more := He.ba e2
  have row := fun p hp => He.ba (List.all_eq_true.mp more.2 p hp)
  have tab : ∀ p ∈ tf, ∃ o, h.get? (He.cT (He.frT h.get? as) p).2 = some o ∧ He.emptyTab o = true := fun p hp => by
    have told := (row p hp).2
    revert told
    exact match h.get? (He.cT (He.frT h.get? as) p).2 with
      | none => fun z => nomatch z
      | some o => fun z => ⟨o, rfl, z⟩
  exact { t := e1, more := more.1, hd := fun p hp => (row p hp).1, out := fun p hp => (tab p hp).elim fun o z => He.frT_none z.1 z.2, empty := fun p hp => (tab p hp).elim fun o z => z.1.trans (congrArg some (He.emptyTab_eq z.2)) }
def hookFT (file : Str) (fa : List He.Fa) (fn : List He.DefD) (tf : List He.Defn) (ex : PySem.W.Frag → Bool) (ds : List ExDef) : PySem.W.Hook where
  α := AlE
  obs := fun s => obsFT file fa fn tf ex ds s.heap.get?
  val := fun w => (He.valX fn [] w, ds.map exVal1)
  says := fun w h => ∃ K : PySem.W.Frag, K.In h ∧ He.SaysX fa fn [] tf ex w h K ∧ ds.map (fun d => exObs1 file K d) = ds.map exVal1
  of := fun w s e => ⟨_, He.frT_in, saysX_as (congrArg (fun z : AlE => z.1.1) e) (congrArg (fun z : AlE => z.1.2) e), congrArg Prod.snd e⟩
  keeps := fun _ _ _ ⟨K, hK, c, z⟩ k => ⟨K, PySem.W.Frag.In.keeps hK k, ⟨c.t, c.more, c.hd, c.out, fun p hp => k _ _ (c.empty p hp)⟩, z⟩
theorem obsFT_eq {file : Str} {fa : List He.Fa} {fn : List He.DefD} {tf : List He.Defn} {ex : PySem.W.Frag → Bool} {ds : List ExDef} {g : Addr → Option Obj} {s : Shared} (h : ∀ a, g a = s.heap.get? a) : obsFT file fa fn tf ex ds g = (hookFT file fa fn tf ex ds).obs s := by
  have e : g = s.heap.get? := funext h
  rw [e] <;> rfl
end CH

/-! the mirror of the law's text -/
namespace CH
open PySem L2

def k_MOST_BEHIND : D := D.int 12
def k_DROPS_LAST : D := D.tup [D.str "drop store drop", D.str "store drop"]
def k_VERSIONED : D := D.tup [D.str "mark", D.str "newer"]
def k_PATHS : D := D.tup [D.str "drop store", D.str "drop store drop", D.str "store", D.str "store drop", D.str "store set"]
def k_GUARDS : D := D.tup [D.str "always", D.str "empty", D.str "mark", D.str "never", D.str "newer", D.str "token"]
def k_FLIGHTS : D := D.tup [D.str "alone", D.str "shared"]
def k_DESIGNS : D := D.tup [k_PATHS, k_GUARDS, k_FLIGHTS]
def k_WORLDS : D := D.tup [D.tup [D.str "primary", D.str "replica"], D.tup [D.str "evicts", D.str "keeps"], D.tup [D.str "finishes", D.str "stops"]]
inductive Fid where
  | is_integer
  | is_in
  | is_list
  | is_choice
  | is_design
  | is_world
  | need_design
  | need_world
  | need_both
  | steps_of
  | is_passed_by
  | is_climbing
  | is_guarded
  | rest_holds
  | spelled
  | events_of
  | each
  | late_recipe
  | stopped
  | set_recipe
  | behind
  | l_taken
  | l_pick
  | l_paths
  | l_begin
  | l_going
  | l_next
  | l_events
  | l_end
  | l_hold
  | l_newer
  | l_lets
  | l_write
  | l_read
  | l_do
  | l_holds
  | l_designs
  | l_worlds
  | law_
/-- is_integer(value) slots: value -/
def b_is_integer (c : Fid → Fn) : Ms :=
  sRet (mAnd (mFn fIsi (mCons (mVar 0) (mCons (mC (.ty "int")) (mNil)))) (mNot (mFn fIsi (mCons (mVar 0) (mCons (mC (.ty "bool")) (mNil))))))
/-- is_in(value, least, most) slots: value, least, most -/
def b_is_in (c : Fid → Fn) : Ms :=
  sRet (mAnd (mCall 1 (c .is_integer) (mCons (mVar 0) (mNil))) (mChain oLe oLe (mVar 1) (mVar 0) (mVar 2)))
/-- is_list(value, least, most) slots: value, least, most -/
def b_is_list (c : Fid → Fn) : Ms :=
  sRet (mAnd (mFn fIsi (mCons (mVar 0) (mCons (mC (.ty "tuple")) (mNil)))) (mChain oLe oLe (mVar 1) (mFn fLen (mCons (mVar 0) (mNil))) (mVar 2)))
/-- is_choice(value, options) slots: value, options, one, some -/
def b_is_choice (c : Fid → Fn) : Ms :=
  sSeq (sIf (mOrT (mNotT (mTest (mCall 3 (c .is_list) (mCons (mVar 0) (mCons (mFn fLen (mCons (mVar 1) (mNil))) (mCons (mFn fLen (mCons (mVar 1) (mNil))) (mNil))))))) (mNotT (mTest (mFn fAll (mCons (mLc [2] (mItT (mVar 0)) (.nm 2) (mYes) (mFn fIsi (mCons (mVar 2) (mCons (mC (.ty "str")) (mNil))))) (mNil)))))) (sRet (mC (.bl false))) (sSkip)) (sRet (mFn fAll (mCons (mLc [2, 3] (mItZ (mCons (mVar 0) (mCons (mVar 1) (mNil)))) (.tp [2, 3]) (mYes) (mOp oIn (mVar 2) (mVar 3))) (mNil))))
/-- is_design(value) slots: value -/
def b_is_design (c : Fid → Fn) : Ms :=
  sRet (mCall 2 (c .is_choice) (mCons (mVar 0) (mCons (mC k_DESIGNS) (mNil))))
/-- is_world(value) slots: value -/
def b_is_world (c : Fid → Fn) : Ms :=
  sRet (mCall 2 (c .is_choice) (mCons (mVar 0) (mCons (mC k_WORLDS) (mNil))))
/-- need_design(design) slots: design -/
def b_need_design (c : Fid → Fn) : Ms :=
  sIf (mNotT (mTest (mCall 1 (c .is_design) (mCons (mVar 0) (mNil))))) (sNever) (sSkip)
/-- need_world(world) slots: world -/
def b_need_world (c : Fid → Fn) : Ms :=
  sIf (mNotT (mTest (mCall 1 (c .is_world) (mCons (mVar 0) (mNil))))) (sNever) (sSkip)
/-- need_both(design, world) slots: design, world -/
def b_need_both (c : Fid → Fn) : Ms :=
  sSeq (sExpr (mCall 1 (c .need_design) (mCons (mVar 0) (mNil)))) (sExpr (mCall 1 (c .need_world) (mCons (mVar 1) (mNil))))
/-- steps_of(design) slots: design -/
def b_steps_of (c : Fid → Fn) : Ms :=
  sRet (mFn fTuple (mCons (mSplit (mOp oIx (mVar 0) (mC (.int 0))) (mC (.str " "))) (mNil)))
/-- is_passed_by(design) slots: design -/
def b_is_passed_by (c : Fid → Fn) : Ms :=
  sRet (mAnd (mOp oEq (mOp oIx (mVar 0) (mC (.int 1))) (mC (.str "never"))) (mOp oNe (mOp oIx (mVar 0) (mC (.int 0))) (mC (.str "store set"))))
/-- is_climbing(design, world) slots: design, world -/
def b_is_climbing (c : Fid → Fn) : Ms :=
  sRet (mAnd (mOp oEq (mOp oIx (mVar 0) (mC (.int 0))) (mC (.str "store set"))) (mAnd (mOp oIn (mOp oIx (mVar 0) (mC (.int 1))) (mC k_VERSIONED)) (mOp oEq (mOp oIx (mVar 1) (mC (.int 1))) (mC (.str "keeps")))))
/-- is_guarded(design, world) slots: design, world -/
def b_is_guarded (c : Fid → Fn) : Ms :=
  sSeq (sIf (mTest (mOp oNi (mOp oIx (mVar 0) (mC (.int 0))) (mC k_DROPS_LAST))) (sRet (mC (.bl false))) (sSkip)) (sRet (mOr (mOp oEq (mOp oIx (mVar 0) (mC (.int 1))) (mC (.str "token"))) (mAnd (mOp oEq (mOp oIx (mVar 0) (mC (.int 1))) (mC (.str "mark"))) (mOp oEq (mOp oIx (mVar 1) (mC (.int 1))) (mC (.str "keeps"))))))
/-- rest_holds(design, world) slots: design, world, is_token_late -/
def b_rest_holds (c : Fid → Fn) : Ms :=
  sSeq (sIf (mTest (mCall 1 (c .is_passed_by) (mCons (mVar 0) (mNil)))) (sRet (mC (.bl true))) (sSkip)) (sSeq (sIf (mTest (mOp oEq (mOp oIx (mVar 1) (mC (.int 2))) (mC (.str "stops")))) (sRet (mC (.bl false))) (sSkip)) (sSeq (sSet 2 (mAnd (mOp oEq (mOp oIx (mVar 0) (mC (.int 1))) (mC (.str "token"))) (mOp oEq (mOp oIx (mVar 1) (mC (.int 0))) (mC (.str "replica"))))) (sRet (mOr (mCall 2 (c .is_climbing) (mCons (mVar 0) (mCons (mVar 1) (mNil)))) (mAnd (mCall 2 (c .is_guarded) (mCons (mVar 0) (mCons (mVar 1) (mNil)))) (mNot (mVar 2)))))))
/-- spelled(design, world, word, number) slots: design, world, word, number, words, found, one -/
def b_spelled (c : Fid → Fn) : Ms :=
  sSeq (sSet 4 (mDic [(mC (.str "read"), mOp oAdd (mTup (mCons (mC (.str "look")) (mCons (mC (.str "fetch")) (mNil)))) (mOp oMulT (mTup (mCons (mC (.str "fill")) (mNil))) (mFn fInt (mCons (mOp oNe (mOp oIx (mVar 0) (mC (.int 1))) (mC (.str "never"))) (mNil))))), (mC (.str "write"), mCall 1 (c .steps_of) (mCons (mVar 0) (mNil)))])) (sSeq (sSet 5 (mLc [6] (mItT (mDGet2 (mVar 4) (mVar 2) (mTup (mCons (mIf (mTest (mOp oEq (mVar 2) (mC (.str "told")))) (mC (.str "store")) (mVar 2)) (mNil))))) (.nm 6) (mYes) (mTup (mCons (mVar 6) (mCons (mVar 3) (mNil)))))) (sRet (mOp oAdd (mVar 5) (mOp oMulL (mLst (mCons (mTup (mCons (mC (.str "copy")) (mNil))) (mNil))) (mFn fInt (mCons (mAnd (mOp oEq (mVar 2) (mC (.str "told"))) (mOp oEq (mOp oIx (mVar 1) (mC (.int 0))) (mC (.str "replica")))) (mNil)))))))
/-- events_of(design, world, recipe) slots: design, world, recipe, found, part, word, space, number -/
def b_events_of (c : Fid → Fn) : Ms :=
  sSeq (sSet 3 (mNewL (mNil))) (sSeq (sFor (mItL (mIf (mTest (mOp oNe (mVar 2) (mC (.str "")))) (mSplit (mVar 2) (mC (.str ", "))) (mLst (mNil)))) (.nm 4) (sSeq (sAsgT (mMt (fun _ => isStr) gPart (mVar 4) (mCons (mC (.str " ")) (mNil))) (kTup [kName 5, kName 6, kName 7])) (sExpr (mMt isLst gExt (mVar 3) (mCons (mIf (mTest (mOp oEq (mVar 5) (mC (.str "evict")))) (mLst (mCons (mTup (mCons (mC (.str "evict")) (mNil))) (mNil))) (mCall 4 (c .spelled) (mCons (mVar 0) (mCons (mVar 1) (mCons (mVar 5) (mCons (mFn fIntS (mCons (mVar 7) (mNil))) (mNil))))))) (mNil)))))) (sRet (mVar 3)))
/-- each(word, numbers) slots: word, numbers, number -/
def b_each (c : Fid → Fn) : Ms :=
  sRet (mLc [2] (mItL (mVar 1)) (.nm 2) (mYes) (mOp oAdd (mOp oAdd (mVar 0) (mC (.str " "))) (mFn fStr (mCons (mVar 2) (mNil)))))
/-- late_recipe(design, world, many) slots: design, world, many, evict -/
def b_late_recipe (c : Fid → Fn) : Ms :=
  sSeq (sSet 3 (mOp oMulL (mLst (mCons (mC (.str "evict")) (mNil))) (mFn fInt (mCons (mOp oEq (mOp oIx (mVar 0) (mC (.int 1))) (mC (.str "mark"))) (mNil))))) (sSeq (sIf (mAndT (mTest (mOp oNe (mOp oIx (mVar 0) (mC (.int 1))) (mC (.str "token")))) (mOrT (mTest (mOp oNe (mOp oIx (mVar 0) (mC (.int 1))) (mC (.str "mark")))) (mTest (mOp oEq (mOp oIx (mVar 1) (mC (.int 1))) (mC (.str "evicts")))))) (sRet (mOp oAdd (mOp oAdd (mOp oAdd (mLst (mCons (mC (.str "look 0")) (mCons (mC (.str "fetch 0")) (mNil)))) (mCall 2 (c .each) (mCons (mC (.str "write")) (mCons (mListRg2 (mC (.int 1)) (mOp oAdd (mVar 2) (mC (.int 1)))) (mNil))))) (mVar 3)) (mLst (mCons (mC (.str "fill 0")) (mNil))))) (sSkip)) (sSeq (sIf (mAndT (mTest (mOp oEq (mOp oIx (mVar 0) (mC (.int 1))) (mC (.str "token")))) (mTest (mOp oEq (mOp oIx (mVar 1) (mC (.int 0))) (mC (.str "replica"))))) (sRet (mOp oAdd (mCall 2 (c .each) (mCons (mC (.str "write")) (mCons (mListRg1 (mVar 2)) (mNil)))) (mCall 2 (c .each) (mCons (mC (.str "read")) (mCons (mLst (mCons (mVar 2) (mNil))) (mNil)))))) (sSkip)) (sSeq (sIf (mTest (mOp oEq (mOp oIx (mVar 0) (mC (.int 0))) (mC (.str "store drop")))) (sRet (mOp oAdd (mLst (mCons (mC (.str "read 0")) (mNil))) (mCall 1 (c .stopped) (mCons (mListRg2 (mC (.int 1)) (mOp oAdd (mVar 2) (mC (.int 1)))) (mNil))))) (sSkip)) (sRet (mOp oAdd (mOp oAdd (mCall 2 (c .each) (mCons (mC (.str "drop")) (mCons (mListRg1 (mVar 2)) (mNil)))) (mCall 2 (c .each) (mCons (mC (.str "read")) (mCons (mLst (mCons (mVar 2) (mNil))) (mNil))))) (mCall 1 (c .stopped) (mCons (mListRg1 (mVar 2)) (mNil))))))))
/-- stopped(numbers) slots: numbers, found, number -/
def b_stopped (c : Fid → Fn) : Ms :=
  sSeq (sSet 1 (mLst (mNil))) (sSeq (sFor (mItL (mVar 0)) (.nm 2) (sSet 1 (mOp oAdd (mOp oAdd (mVar 1) (mCall 2 (c .each) (mCons (mC (.str "store")) (mCons (mLst (mCons (mVar 2) (mNil))) (mNil))))) (mCall 2 (c .each) (mCons (mC (.str "stop")) (mCons (mLst (mCons (mVar 2) (mNil))) (mNil))))))) (sRet (mVar 1)))
/-- set_recipe(design, world, many) slots: design, world, many, evict -/
def b_set_recipe (c : Fid → Fn) : Ms :=
  sSeq (sIf (mAndT (mTest (mOp oIn (mOp oIx (mVar 0) (mC (.int 1))) (mC k_VERSIONED))) (mTest (mOp oEq (mOp oIx (mVar 1) (mC (.int 1))) (mC (.str "keeps"))))) (sRet (mOp oAdd (mLst (mCons (mC (.str "read 0")) (mNil))) (mCall 1 (c .stopped) (mCons (mListRg2 (mC (.int 1)) (mOp oAdd (mVar 2) (mC (.int 1)))) (mNil))))) (sSkip)) (sSeq (sSet 3 (mOp oMulL (mLst (mCons (mC (.str "evict")) (mNil))) (mFn fInt (mCons (mOp oIn (mOp oIx (mVar 0) (mC (.int 1))) (mC k_VERSIONED)) (mNil))))) (sRet (mOp oAdd (mOp oAdd (mOp oAdd (mCall 2 (c .each) (mCons (mC (.str "store")) (mCons (mListRg1 (mOp oAdd (mVar 2) (mC (.int 1)))) (mNil)))) (mCall 2 (c .each) (mCons (mC (.str "set")) (mCons (mListRg2 (mC (.int 1)) (mOp oAdd (mVar 2) (mC (.int 1)))) (mNil))))) (mVar 3)) (mLst (mCons (mC (.str "set 0")) (mNil))))))
/-- behind(design, world, many) slots: design, world, many, parts -/
def b_behind (c : Fid → Fn) : Ms :=
  sSeq (sExpr (mCall 2 (c .need_both) (mCons (mVar 0) (mCons (mVar 1) (mNil))))) (sSeq (sIf (mNotT (mTest (mCall 3 (c .is_in) (mCons (mVar 2) (mCons (mC (.int 1)) (mCons (mC k_MOST_BEHIND) (mNil))))))) (sRaise0 "BadNumber") (sSkip)) (sSeq (sIf (mTest (mCall 2 (c .rest_holds) (mCons (mVar 0) (mCons (mVar 1) (mNil))))) (sRaise0 "NotBroken") (sSkip)) (sSeq (sIf (mTest (mOp oIn (mOp oIx (mVar 0) (mC (.int 0))) (mC k_DROPS_LAST))) (sSet 3 (mCall 3 (c .late_recipe) (mCons (mVar 0) (mCons (mVar 1) (mCons (mVar 2) (mNil)))))) (sIf (mTest (mOp oEq (mOp oIx (mVar 0) (mC (.int 0))) (mC (.str "store set")))) (sSet 3 (mCall 3 (c .set_recipe) (mCons (mVar 0) (mCons (mVar 1) (mCons (mVar 2) (mNil)))))) (sIf (mTest (mOp oEq (mOp oIx (mVar 0) (mC (.int 0))) (mC (.str "store")))) (sSet 3 (mOp oAdd (mLst (mCons (mC (.str "read 0")) (mNil))) (mCall 2 (c .each) (mCons (mC (.str "write")) (mCons (mListRg2 (mC (.int 1)) (mOp oAdd (mVar 2) (mC (.int 1)))) (mNil)))))) (sSet 3 (mOp oAdd (mOp oAdd (mCall 2 (c .each) (mCons (mC (.str "drop")) (mCons (mListRg1 (mVar 2)) (mNil)))) (mCall 2 (c .each) (mCons (mC (.str "read")) (mCons (mLst (mCons (mVar 2) (mNil))) (mNil))))) (mCall 2 (c .each) (mCons (mC (.str "store")) (mCons (mListRg1 (mVar 2)) (mNil))))))))) (sRet (mFn fTuple (mCons (mCall 3 (c .events_of) (mCons (mVar 0) (mCons (mVar 1) (mCons (mMt (fun _ => isStr) gJoin (mC (.str ", ")) (mCons (mVar 3) (mNil))) (mNil))))) (mNil)))))))
/-- _law_taken(_law_row, _law_many) slots: _law_row, _law_many, _law_cell, _law_found -/
def b_l_taken (c : Fid → Fn) : Ms :=
  sSeq (sIf (mTest (mOp oGt (mOp oIx (mVar 0) (mC (.int 3))) (mC (.int 0)))) (sSeq (sSet 3 (mOp oMod (mFn fInt (mCons (mOp oIx (mVar 0) (mC (.int 3))) (mNil))) (mVar 1))) (sSeq (sLSet (mVar 0) (mC (.int 3)) (mOp oDiv (mOp oIx (mVar 0) (mC (.int 3))) (mVar 1))) (sRet (mVar 3)))) (sSkip)) (sSeq (sLSet (mVar 0) (mC (.int 1)) (mOp oAdd (mOp oIx (mVar 0) (mC (.int 1))) (mC (.int 1)))) (sSeq (sIf (mTest (mOp oGt (mOp oIx (mVar 0) (mC (.int 1))) (mFn fLen (mCons (mOp oIx (mVar 0) (mC (.int 0))) (mNil))))) (sSeq (sLSet (mVar 0) (mC (.int 2)) (mOp oMod (mFn fInt (mCons (mOp oAdd (mOp oMul (mOp oIx (mVar 0) (mC (.int 2))) (mC (.int 48271))) (mC (.int 11))) (mNil))) (mC (.int 2147483647)))) (sRet (mOp oMod (mFn fInt (mCons (mOp oDiv (mOp oIx (mVar 0) (mC (.int 2))) (mC (.int 7))) (mNil))) (mVar 1)))) (sSkip)) (sSeq (sSet 2 (mOp oIx (mOp oIx (mVar 0) (mC (.int 0))) (mOp oSub (mOp oIx (mVar 0) (mC (.int 1))) (mC (.int 1))))) (sSeq (sLSet (mVar 0) (mC (.int 2)) (mOp oMod (mFn fInt (mCons (mOp oAdd (mOp oAdd (mOp oMul (mOp oIx (mVar 0) (mC (.int 2))) (mC (.int 48271))) (mVar 2)) (mC (.int 11))) (mNil))) (mC (.int 2147483647)))) (sSeq (sIf (mTest (mOp oGe (mVar 2) (mOp oPow (mC (.int 10)) (mC (.int 18))))) (sLSet (mVar 0) (mC (.int 3)) (mOp oDiv (mVar 2) (mVar 1))) (sSkip)) (sRet (mOp oMod (mFn fInt (mCons (mVar 2) (mNil))) (mVar 1))))))))
/-- _law_pick(_law_row, _law_kinds) slots: _law_row, _law_kinds -/
def b_l_pick (c : Fid → Fn) : Ms :=
  sRet (mOp oIx (mVar 1) (mCall 2 (c .l_taken) (mCons (mVar 0) (mCons (mFn fLen (mCons (mVar 1) (mNil))) (mNil)))))
/-- _law_paths() slots:  -/
def b_l_paths (c : Fid → Fn) : Ms :=
  sRet (mLst (mCons (mC (.str "drop store")) (mCons (mC (.str "drop store drop")) (mCons (mC (.str "store")) (mCons (mC (.str "store drop")) (mCons (mC (.str "store set")) (mNil)))))))
/-- _law_begin(_law_design, _law_world) slots: _law_design, _law_world -/
def b_l_begin (c : Fid → Fn) : Ms :=
  sRet (mNewD [(mC (.str "design"), mVar 0), (mC (.str "world"), mVar 1), (mC (.str "db"), mC (.int 0)), (mC (.str "rep"), mC (.int 0)), (mC (.str "cache"), mC .non), (mC (.str "mark"), mC (.int 0)), (mC (.str "open"), mC .non), (mC (.str "ops"), mNewL (mNil)), (mC (.str "past"), mNewL (mNil))])
/-- _law_going(_law_h) slots: _law_h, _law_one -/
def b_l_going (c : Fid → Fn) : Ms :=
  sRet (mLcH [1] (mOp oDGet (mVar 0) (mC (.str "ops"))) (.nm 1) (mTest (mOp oNi (mOp oDGet (mVar 1) (mC (.str "stage"))) (mLst (mCons (mC (.str "ended")) (mCons (mC (.str "stopped")) (mNil)))))) (mVar 1))
/-- _law_next(_law_h, _law_one) slots: _law_h, _law_one -/
def b_l_next (c : Fid → Fn) : Ms :=
  sSeq (sIf (mTest (mOp oNe (mOp oDGet (mVar 1) (mC (.str "stage"))) (mC (.str "waits")))) (sRet (mOp oDGet (mVar 1) (mC (.str "stage")))) (sSkip)) (sRet (mIf (mTest (mOp oEq (mOp oDGet (mOp oIx (mOp oDGet (mVar 0) (mC (.str "ops"))) (mOp oDGet (mVar 1) (mC (.str "leader")))) (mC (.str "stage"))) (mC (.str "ended")))) (mC (.str "take")) (mC .non)))
/-- _law_events(_law_h) slots: _law_h, _law_found, _law_many, _law_going_here, _law_one -/
def b_l_events (c : Fid → Fn) : Ms :=
  sSeq (sPar 2 3 (mCons (mFn fLen (mCons (mOp oDGet (mVar 0) (mC (.str "ops"))) (mNil))) (mCons (mCall 1 (c .l_going) (mCons (mVar 0) (mNil))) (mNil)))) (sSeq (sSet 1 (mNewL (mCons (mTup (mCons (mC (.str "look")) (mCons (mVar 2) (mNil)))) (mCons (mTup (mCons (mOp oIx (mSplit (mOp oIx (mOp oDGet (mVar 0) (mC (.str "design"))) (mC (.int 0))) (mC (.str " "))) (mC (.int 0))) (mCons (mVar 2) (mNil)))) (mNil))))) (sSeq (sSet 1 (mOp oAddL (mVar 1) (mLc [4] (mItL (mVar 3)) (.nm 4) (mTest (mOp oNotN (mCall 2 (c .l_next) (mCons (mVar 0) (mCons (mVar 4) (mNil)))) (mC .non))) (mTup (mCons (mCall 2 (c .l_next) (mCons (mVar 0) (mCons (mVar 4) (mNil)))) (mCons (mOp oDGet (mVar 4) (mC (.str "number"))) (mNil))))))) (sSeq (sIf (mTest (mOp oEq (mOp oIx (mOp oDGet (mVar 0) (mC (.str "world"))) (mC (.int 2))) (mC (.str "stops")))) (sSet 1 (mOp oAddL (mVar 1) (mLc [4] (mItL (mVar 3)) (.nm 4) (mYes) (mTup (mCons (mC (.str "stop")) (mCons (mOp oDGet (mVar 4) (mC (.str "number"))) (mNil))))))) (sSkip)) (sSeq (sIf (mAndT (mTest (mOp oEq (mOp oIx (mOp oDGet (mVar 0) (mC (.str "world"))) (mC (.int 1))) (mC (.str "evicts")))) (mOrT (mTest (mOp oNotN (mOp oDGet (mVar 0) (mC (.str "cache"))) (mC .non))) (mTest (mOp oGt (mOp oDGet (mVar 0) (mC (.str "mark"))) (mC (.int 0)))))) (sExpr (mMt isLst gApp (mVar 1) (mCons (mTup (mCons (mC (.str "evict")) (mNil))) (mNil)))) (sSkip)) (sSeq (sIf (mAndT (mTest (mOp oEq (mOp oIx (mOp oDGet (mVar 0) (mC (.str "world"))) (mC (.int 0))) (mC (.str "replica")))) (mTest (mOp oLt (mOp oDGet (mVar 0) (mC (.str "rep"))) (mOp oDGet (mVar 0) (mC (.str "db")))))) (sExpr (mMt isLst gApp (mVar 1) (mCons (mTup (mCons (mC (.str "copy")) (mNil))) (mNil)))) (sSkip)) (sRet (mFn fSorted (mCons (mVar 1) (mNil)))))))))
/-- _law_end(_law_h, _law_one, _law_stage) slots: _law_h, _law_one, _law_stage -/
def b_l_end (c : Fid → Fn) : Ms :=
  sSeq (sAsgT (mTup (mCons (mVar 2) (mCons (mFn fLen (mCons (mOp oDGet (mVar 0) (mC (.str "past"))) (mNil))) (mNil)))) (kTup [kDSub (mVar 1) (mC (.str "stage")), kDSub (mVar 1) (mC (.str "over"))])) (sIf (mAndT (mTest (mOp oEq (mVar 2) (mC (.str "ended")))) (mTest (mOp oEq (mOp oDGet (mVar 0) (mC (.str "open"))) (mOp oDGet (mVar 1) (mC (.str "number")))))) (sDSet (mVar 0) (mC (.str "open")) (mC .non)) (sSkip))
/-- _law_hold(_law_h, _law_version) slots: _law_h, _law_version -/
def b_l_hold (c : Fid → Fn) : Ms :=
  sSeq (sDSet (mVar 0) (mC (.str "cache")) (mVar 1)) (sIf (mTest (mOp oEq (mOp oIx (mOp oDGet (mVar 0) (mC (.str "design"))) (mC (.int 1))) (mC (.str "mark")))) (sDSet (mVar 0) (mC (.str "mark")) (mFn fMax2 (mCons (mOp oDGet (mVar 0) (mC (.str "mark"))) (mCons (mVar 1) (mNil))))) (sSkip))
/-- _law_newer(_law_h, _law_version) slots: _law_h, _law_version -/
def b_l_newer (c : Fid → Fn) : Ms :=
  sRet (mOr (mOp oIsN (mOp oDGet (mVar 0) (mC (.str "cache"))) (mC .non)) (mOp oLt (mOp oDGet (mVar 0) (mC (.str "cache"))) (mVar 1)))
/-- _law_lets(_law_h, _law_one) slots: _law_h, _law_one, _law_guard, _law_version -/
def b_l_lets (c : Fid → Fn) : Ms :=
  sSeq (sPar 2 3 (mCons (mOp oIx (mOp oDGet (mVar 0) (mC (.str "design"))) (mC (.int 1))) (mCons (mOp oDGet (mVar 1) (mC (.str "version"))) (mNil)))) (sSeq (sIf (mTest (mOp oEq (mVar 2) (mC (.str "token")))) (sRet (mOp oDGet (mVar 1) (mC (.str "clean")))) (sSkip)) (sSeq (sIf (mTest (mOp oEq (mVar 2) (mC (.str "mark")))) (sRet (mOp oGe (mVar 3) (mOp oDGet (mVar 0) (mC (.str "mark"))))) (sSkip)) (sRet (mOr (mOp oEq (mVar 2) (mC (.str "always"))) (mIf (mTest (mOp oEq (mVar 2) (mC (.str "newer")))) (mCall 2 (c .l_newer) (mCons (mVar 0) (mCons (mVar 3) (mNil)))) (mOp oIsN (mOp oDGet (mVar 0) (mC (.str "cache"))) (mC .non)))))))
/-- _law_write(_law_h, _law_one, _law_word) slots: _law_h, _law_one, _law_word, _law_steps, _law_guard, _law_other, _law_good -/
def b_l_write (c : Fid → Fn) : Ms :=
  sSeq (sPar 3 4 (mCons (mSplit (mOp oIx (mOp oDGet (mVar 0) (mC (.str "design"))) (mC (.int 0))) (mC (.str " "))) (mCons (mOp oIx (mOp oDGet (mVar 0) (mC (.str "design"))) (mC (.int 1))) (mNil)))) (sSeq (sIf (mTest (mOp oEq (mVar 2) (mC (.str "store")))) (sSeq (sDSet (mVar 0) (mC (.str "db")) (mOp oAdd (mOp oDGet (mVar 0) (mC (.str "db"))) (mC (.int 1)))) (sDSet (mVar 1) (mC (.str "version")) (mOp oDGet (mVar 0) (mC (.str "db"))))) (sForH (mOp oDGet (mVar 0) (mC (.str "ops"))) (.nm 5) (sDSet (mVar 5) (mC (.str "clean")) (mC (.bl false))))) (sSeq (sIf (mTest (mOp oEq (mVar 2) (mC (.str "drop")))) (sSeq (sDSet (mVar 0) (mC (.str "cache")) (mC .non)) (sIf (mAndT (mTest (mOp oEq (mVar 4) (mC (.str "mark")))) (mTest (mOp oNotN (mOp oDGet (mVar 1) (mC (.str "version"))) (mC .non)))) (sDSet (mVar 0) (mC (.str "mark")) (mFn fMax2 (mCons (mOp oDGet (mVar 0) (mC (.str "mark"))) (mCons (mOp oDGet (mVar 1) (mC (.str "version"))) (mNil))))) (sSkip))) (sSkip)) (sSeq (sIf (mTest (mOp oEq (mVar 2) (mC (.str "set")))) (sSeq (sSet 6 (mIf (mTest (mOp oEq (mVar 4) (mC (.str "mark")))) (mOp oGe (mOp oDGet (mVar 1) (mC (.str "version"))) (mOp oDGet (mVar 0) (mC (.str "mark")))) (mOr (mOp oNe (mVar 4) (mC (.str "newer"))) (mCall 2 (c .l_newer) (mCons (mVar 0) (mCons (mOp oDGet (mVar 1) (mC (.str "version"))) (mNil))))))) (sIf (mTest (mVar 6)) (sExpr (mCall 2 (c .l_hold) (mCons (mVar 0) (mCons (mOp oDGet (mVar 1) (mC (.str "version"))) (mNil))))) (sSkip))) (sSkip)) (sSeq (sDSet (mVar 1) (mC (.str "step")) (mOp oAdd (mOp oDGet (mVar 1) (mC (.str "step"))) (mC (.int 1)))) (sIf (mTest (mOp oEq (mOp oDGet (mVar 1) (mC (.str "step"))) (mFn fLen (mCons (mVar 3) (mNil))))) (sExpr (mCall 3 (c .l_end) (mCons (mVar 0) (mCons (mVar 1) (mCons (mC (.str "ended")) (mNil)))))) (sDSet (mVar 1) (mC (.str "stage")) (mOp oIx (mVar 3) (mOp oDGet (mVar 1) (mC (.str "step"))))))))))
/-- _law_read(_law_h, _law_one, _law_word) slots: _law_h, _law_one, _law_word -/
def b_l_read (c : Fid → Fn) : Ms :=
  sIf (mAndT (mTest (mOp oEq (mVar 2) (mC (.str "look")))) (mTest (mOp oNotN (mOp oDGet (mVar 0) (mC (.str "cache"))) (mC .non)))) (sSeq (sDSet (mVar 1) (mC (.str "version")) (mOp oDGet (mVar 0) (mC (.str "cache")))) (sExpr (mCall 3 (c .l_end) (mCons (mVar 0) (mCons (mVar 1) (mCons (mC (.str "ended")) (mNil))))))) (sIf (mAndT (mTest (mOp oEq (mVar 2) (mC (.str "look")))) (mTest (mOp oNotN (mOp oDGet (mVar 0) (mC (.str "open"))) (mC .non)))) (sAsgT (mTup (mCons (mC (.str "waits")) (mCons (mOp oDGet (mVar 0) (mC (.str "open"))) (mNil)))) (kTup [kDSub (mVar 1) (mC (.str "stage")), kDSub (mVar 1) (mC (.str "leader"))])) (sIf (mTest (mOp oEq (mVar 2) (mC (.str "look")))) (sSeq (sDSet (mVar 1) (mC (.str "stage")) (mC (.str "fetch"))) (sDSet (mVar 0) (mC (.str "open")) (mIf (mTest (mOp oEq (mOp oIx (mOp oDGet (mVar 0) (mC (.str "design"))) (mC (.int 2))) (mC (.str "shared")))) (mOp oDGet (mVar 1) (mC (.str "number"))) (mC .non)))) (sIf (mTest (mOp oEq (mVar 2) (mC (.str "fetch")))) (sSeq (sDSet (mVar 1) (mC (.str "version")) (mIf (mTest (mOp oEq (mOp oIx (mOp oDGet (mVar 0) (mC (.str "world"))) (mC (.int 0))) (mC (.str "replica")))) (mOp oDGet (mVar 0) (mC (.str "rep"))) (mOp oDGet (mVar 0) (mC (.str "db"))))) (sSeq (sDSet (mVar 1) (mC (.str "stage")) (mC (.str "fill"))) (sIf (mTest (mOp oEq (mOp oIx (mOp oDGet (mVar 0) (mC (.str "design"))) (mC (.int 1))) (mC (.str "never")))) (sExpr (mCall 3 (c .l_end) (mCons (mVar 0) (mCons (mVar 1) (mCons (mC (.str "ended")) (mNil)))))) (sSkip)))) (sIf (mTest (mOp oEq (mVar 2) (mC (.str "take")))) (sSeq (sDSet (mVar 1) (mC (.str "version")) (mOp oDGet (mOp oIx (mOp oDGet (mVar 0) (mC (.str "ops"))) (mOp oDGet (mVar 1) (mC (.str "leader")))) (mC (.str "version")))) (sExpr (mCall 3 (c .l_end) (mCons (mVar 0) (mCons (mVar 1) (mCons (mC (.str "ended")) (mNil))))))) (sSeq (sIf (mTest (mCall 2 (c .l_lets) (mCons (mVar 0) (mCons (mVar 1) (mNil))))) (sExpr (mCall 2 (c .l_hold) (mCons (mVar 0) (mCons (mOp oDGet (mVar 1) (mC (.str "version"))) (mNil))))) (sSkip)) (sExpr (mCall 3 (c .l_end) (mCons (mVar 0) (mCons (mVar 1) (mCons (mC (.str "ended")) (mNil)))))))))))
/-- _law_do(_law_h, _law_event) slots: _law_h, _law_event, _law_one, _law_word, _law_number, _law_kind -/
def b_l_do (c : Fid → Fn) : Ms :=
  sSeq (sIf (mTest (mOp oEq (mVar 1) (mTup (mCons (mC (.str "evict")) (mNil))))) (sAsgT (mTup (mCons (mC .non) (mCons (mC (.int 0)) (mNil)))) (kTup [kDSub (mVar 0) (mC (.str "cache")), kDSub (mVar 0) (mC (.str "mark"))])) (sIf (mTest (mOp oEq (mVar 1) (mTup (mCons (mC (.str "copy")) (mNil))))) (sDSet (mVar 0) (mC (.str "rep")) (mOp oAdd (mOp oDGet (mVar 0) (mC (.str "rep"))) (mC (.int 1)))) (sSeq (sAsgT (mVar 1) (kTup [kName 3, kName 4])) (sSeq (sIf (mTest (mOp oEq (mVar 4) (mFn fLen (mCons (mOp oDGet (mVar 0) (mC (.str "ops"))) (mNil))))) (sSeq (sSet 5 (mIf (mTest (mOp oEq (mVar 3) (mC (.str "look")))) (mC (.str "read")) (mC (.str "write")))) (sSeq (sSet 2 (mDic [(mC (.str "number"), mVar 4), (mC (.str "kind"), mVar 5), (mC (.str "stage"), mVar 3), (mC (.str "version"), mC .non), (mC (.str "begun"), mFn fLen (mCons (mOp oDGet (mVar 0) (mC (.str "past"))) (mNil))), (mC (.str "over"), mC .non)])) (sExpr (mMt isLst gApp (mOp oDGet (mVar 0) (mC (.str "ops"))) (mCons (mFn fDict (mCons (mOp oAdd (mListItems (mVar 2)) (mLst (mCons (mTup (mCons (mC (.str "step")) (mCons (mC (.int 0)) (mNil)))) (mCons (mTup (mCons (mC (.str "clean")) (mCons (mC (.bl true)) (mNil)))) (mCons (mTup (mCons (mC (.str "leader")) (mCons (mC .non) (mNil)))) (mNil)))))) (mNil))) (mNil)))))) (sSkip)) (sSeq (sSet 2 (mOp oIx (mOp oDGet (mVar 0) (mC (.str "ops"))) (mVar 4))) (sIf (mTest (mOp oEq (mVar 3) (mC (.str "stop")))) (sExpr (mCall 3 (c .l_end) (mCons (mVar 0) (mCons (mVar 2) (mCons (mC (.str "stopped")) (mNil)))))) (sIf (mTest (mOp oEq (mOp oDGet (mVar 2) (mC (.str "kind"))) (mC (.str "write")))) (sExpr (mCall 3 (c .l_write) (mCons (mVar 0) (mCons (mVar 2) (mCons (mVar 3) (mNil)))))) (sExpr (mCall 3 (c .l_read) (mCons (mVar 0) (mCons (mVar 2) (mCons (mVar 3) (mNil))))))))))))) (sExpr (mMt isLst gApp (mOp oDGet (mVar 0) (mC (.str "past"))) (mCons (mVar 1) (mNil))))
/-- _law_holds(_law_design, _law_world, _law_promise) slots: _law_design, _law_world, _law_promise, _law_by, _law_climbs, _law_guards, _law_fresh, _law_low, _law_forward, _law_late, _law_whole, _law_found, _law_path, _law_guard, _law_flight -/
def b_l_holds (c : Fid → Fn) : Ms :=
  sSeq (sAsgT (mVar 0) (kTup [kName 12, kName 13, kName 14])) (sSeq (sSet 3 (mAnd (mOp oEq (mVar 13) (mC (.str "never"))) (mOp oNe (mVar 12) (mC (.str "store set"))))) (sSeq (sSet 4 (mAnd (mOp oEq (mVar 12) (mC (.str "store set"))) (mAnd (mOp oIn (mVar 13) (mLst (mCons (mC (.str "mark")) (mCons (mC (.str "newer")) (mNil))))) (mOp oEq (mOp oIx (mVar 1) (mC (.int 1))) (mC (.str "keeps")))))) (sSeq (sSet 5 (mAnd (mMt (fun _ => isStr) gEnds (mVar 12) (mCons (mC (.str "drop")) (mNil))) (mOr (mOp oEq (mVar 13) (mC (.str "token"))) (mAnd (mOp oEq (mVar 13) (mC (.str "mark"))) (mOp oEq (mOp oIx (mVar 1) (mC (.int 1))) (mC (.str "keeps"))))))) (sSeq (sSet 6 (mOr (mVar 4) (mAnd (mOp oEq (mOp oIx (mVar 1) (mC (.int 0))) (mC (.str "primary"))) (mOr (mVar 3) (mAnd (mVar 5) (mOp oEq (mVar 14) (mC (.str "alone")))))))) (sSeq (sSet 7 (mOr (mOp oEq (mVar 13) (mC (.str "mark"))) (mAnd (mOp oEq (mVar 13) (mC (.str "newer"))) (mOp oIn (mVar 12) (mLst (mCons (mC (.str "store")) (mCons (mC (.str "store set")) (mNil)))))))) (sSeq (sSet 8 (mOr (mVar 3) (mOr (mAnd (mOp oEq (mVar 14) (mC (.str "shared"))) (mOp oNe (mVar 12) (mC (.str "store set")))) (mAnd (mOp oEq (mOp oIx (mVar 1) (mC (.int 1))) (mC (.str "keeps"))) (mVar 7))))) (sSeq (sSet 9 (mAnd (mOp oEq (mVar 13) (mC (.str "token"))) (mOp oEq (mOp oIx (mVar 1) (mC (.int 0))) (mC (.str "replica"))))) (sSeq (sSet 10 (mOp oEq (mOp oIx (mVar 1) (mC (.int 2))) (mC (.str "finishes")))) (sSeq (sSet 11 (mNewD [(mC (.str "ending"), mOr (mOp oEq (mVar 14) (mC (.str "alone"))) (mVar 10)), (mC (.str "fresh"), mVar 6), (mC (.str "forward"), mVar 8), (mC (.str "linear"), mAnd (mVar 6) (mVar 8))])) (sSeq (sDSet (mVar 11) (mC (.str "filled")) (mAnd (mOp oNe (mVar 13) (mC (.str "never"))) (mOr (mVar 10) (mOp oEq (mVar 14) (mC (.str "alone")))))) (sSeq (sDSet (mVar 11) (mC (.str "filled")) (mAnd (mOp oDGet (mVar 11) (mC (.str "filled"))) (mNot (mAnd (mOp oEq (mVar 13) (mC (.str "mark"))) (mAnd (mOp oEq (mOp oIx (mVar 1) (mC (.int 0))) (mC (.str "replica"))) (mMt (fun _ => isStr) gEnds (mVar 12) (mCons (mC (.str "drop")) (mNil)))))))) (sSeq (sAsgT (mTup (mCons (mOr (mOp oNe (mVar 12) (mC (.str "store"))) (mOp oEq (mVar 13) (mC (.str "never")))) (mCons (mOp oEq (mVar 14) (mC (.str "alone"))) (mNil)))) (kTup [kDSub (mVar 11) (mC (.str "mended")), kDSub (mVar 11) (mC (.str "moving"))])) (sSeq (sDSet (mVar 11) (mC (.str "quiet")) (mIf (mTest (mVar 3)) (mOp oEq (mOp oIx (mVar 1) (mC (.int 0))) (mC (.str "primary"))) (mAnd (mVar 10) (mVar 6)))) (sSeq (sDSet (mVar 11) (mC (.str "rest")) (mOr (mVar 3) (mAnd (mVar 10) (mOr (mVar 4) (mAnd (mVar 5) (mNot (mVar 9))))))) (sSeq (sDSet (mVar 11) (mC (.str "single")) (mOp oEq (mVar 14) (mC (.str "shared")))) (sRet (mOp oDGet (mVar 11) (mVar 2))))))))))))))))))
/-- _law_designs() slots: _law_found, _law_path, _law_guard -/
def b_l_designs (c : Fid → Fn) : Ms :=
  sSeq (sSet 0 (mLst (mNil))) (sSeq (sFor (mItL (mCall 0 (c .l_paths) mNil)) (.nm 1) (sFor (mItL (mLst (mCons (mC (.str "always")) (mCons (mC (.str "empty")) (mCons (mC (.str "mark")) (mCons (mC (.str "never")) (mCons (mC (.str "newer")) (mCons (mC (.str "token")) (mNil))))))))) (.nm 2) (sSet 0 (mOp oAdd (mVar 0) (mLst (mCons (mTup (mCons (mVar 1) (mCons (mVar 2) (mCons (mC (.str "alone")) (mNil))))) (mCons (mTup (mCons (mVar 1) (mCons (mVar 2) (mCons (mC (.str "shared")) (mNil))))) (mNil)))))))) (sRet (mVar 0)))
/-- _law_worlds() slots: _law_found, _law_source, _law_evictions -/
def b_l_worlds (c : Fid → Fn) : Ms :=
  sSeq (sSet 0 (mLst (mNil))) (sSeq (sFor (mItL (mLst (mCons (mC (.str "primary")) (mCons (mC (.str "replica")) (mNil))))) (.nm 1) (sFor (mItL (mLst (mCons (mC (.str "evicts")) (mCons (mC (.str "keeps")) (mNil))))) (.nm 2) (sSet 0 (mOp oAdd (mVar 0) (mLst (mCons (mTup (mCons (mVar 1) (mCons (mVar 2) (mCons (mC (.str "finishes")) (mNil))))) (mCons (mTup (mCons (mVar 1) (mCons (mVar 2) (mCons (mC (.str "stops")) (mNil))))) (mNil)))))))) (sRet (mVar 0)))
def toldTab : List (Str × Str) := [("BadNumber", "number"), ("NotBroken", "not broken")]
def toldSuite (b1 b2 : Bool) : Ms := sSeq (sSet 2 (mC (.lst [.bl b1, .bl b2]))) (sRet (mIf (mTest (mOp oEq (mMt isLst gCnt2 (mVar 2) (mCons (mC (.bl true)) mNil)) (mC (.int 1)))) (mOp oIx (mLst (mCons (mC (.str "number")) (mCons (mC (.str "not broken")) mNil))) (mMt isLst gIdx2 (mVar 2) (mCons (mC (.bl true)) mNil))) (mC (.str "other"))))
/-- law(_law_script) slots: _law_script, _law_row, _law_turn, _law_many, _law_told_here, _law_design, _law_world, _law_h, _law_event -/
def b_law_ (c : Fid → Fn) : Ms :=
  sSeq (sSet 1 (mNewL (mCons (mVar 0) (mCons (mC (.int 0)) (mCons (mC (.int 15553)) (mCons (mC (.int 0)) (mNil))))))) (sSeq (sFor (mItR1 (mCons (mC (.int 4)) (mNil))) (.nm 2) (sSeq (sAsgT (mTup (mCons (mCall 2 (c .l_pick) (mCons (mVar 1) (mCons (mCall 0 (c .l_designs) mNil) (mNil)))) (mCons (mCall 2 (c .l_pick) (mCons (mVar 1) (mCons (mCall 0 (c .l_worlds) mNil) (mNil)))) (mNil)))) (kTup [kName 5, kName 6])) (sSeq (sSet 3 (mOp oAdd (mC (.int 1)) (mCall 2 (c .l_taken) (mCons (mVar 1) (mCons (mC (.int 12)) (mNil)))))) (sSeq (sSet 4 (mTold toldTab (mCall 3 (c .behind) (mCons (mVar 5) (mCons (mVar 6) (mCons (mVar 3) (mNil))))))) (sSeq (sIf (mTest (mCall 3 (c .l_holds) (mCons (mVar 5) (mCons (mVar 6) (mCons (mC (.str "rest")) (mNil)))))) (sIf (mTest (mOp oNe (mVar 4) (mC (.str "not broken")))) (sRet (mC (.bl false))) (sSkip)) (sSeq (sSet 7 (mCall 2 (c .l_begin) (mCons (mVar 5) (mCons (mVar 6) (mNil))))) (sSeq (sIf (mOrT (mNotT (mTest (mFn fIsi (mCons (mVar 4) (mCons (mC (.ty "tuple")) (mNil)))))) (mTest (mOp oGt (mFn fLen (mCons (mVar 4) (mNil))) (mC (.int 60))))) (sRet (mC (.bl false))) (sSkip)) (sSeq (sFor (mItT (mVar 4)) (.nm 8) (sSeq (sIf (mTest (mOp oNi (mVar 8) (mCall 1 (c .l_events) (mCons (mVar 7) (mNil))))) (sRet (mC (.bl false))) (sSkip)) (sExpr (mCall 2 (c .l_do) (mCons (mVar 7) (mCons (mVar 8) (mNil))))))) (sIf (mOrT (mTest (mOp oNeE (mCall 1 (c .l_going) (mCons (mVar 7) (mNil))) (mLst (mNil)))) (mOrT (mTest (mOp oIsN (mOp oDGet (mVar 7) (mC (.str "cache"))) (mC .non))) (mTest (mOp oNe (mOp oSub (mOp oDGet (mVar 7) (mC (.str "db"))) (mOp oDGet (mVar 7) (mC (.str "cache")))) (mVar 3))))) (sRet (mC (.bl false))) (sSkip)))))) (sIf (mTest (mOp oNe (mTold toldTab (mCall 3 (c .behind) (mCons (mVar 5) (mCons (mVar 6) (mCons (mCall 2 (c .l_pick) (mCons (mVar 1) (mCons (mLst (mCons (mC (.int 0)) (mCons (mC (.int 13)) (mCons (mUn oNeg (mC (.int 1))) (mCons (mC .non) (mCons (mC (.bl true)) (mCons (mC (.str "1")) (mNil)))))))) (mNil)))) (mNil)))))) (mC (.str "number")))) (sRet (mC (.bl false))) (sSkip))))))) (sRet (mC (.bl true))))
noncomputable def bodyOf (c : Fid → Fn) : Fid → Fn
  | .is_integer => (runB 1 (b_is_integer c))
  | .is_in => (runB 3 (b_is_in c))
  | .is_list => (runB 3 (b_is_list c))
  | .is_choice => (runB 4 (b_is_choice c))
  | .is_design => (runB 1 (b_is_design c))
  | .is_world => (runB 1 (b_is_world c))
  | .need_design => (runB 1 (b_need_design c))
  | .need_world => (runB 1 (b_need_world c))
  | .need_both => (runB 2 (b_need_both c))
  | .steps_of => (runB 1 (b_steps_of c))
  | .is_passed_by => (runB 1 (b_is_passed_by c))
  | .is_climbing => (runB 2 (b_is_climbing c))
  | .is_guarded => (runB 2 (b_is_guarded c))
  | .rest_holds => (runB 3 (b_rest_holds c))
  | .spelled => (runB 7 (b_spelled c))
  | .events_of => (runB 8 (b_events_of c))
  | .each => (runB 3 (b_each c))
  | .late_recipe => (runB 4 (b_late_recipe c))
  | .stopped => (runB 3 (b_stopped c))
  | .set_recipe => (runB 4 (b_set_recipe c))
  | .behind => gcR (runB 4 (b_behind c))
  | .l_taken => (runB 4 (b_l_taken c))
  | .l_pick => (runB 2 (b_l_pick c))
  | .l_paths => (runB 0 (b_l_paths c))
  | .l_begin => (runB 2 (b_l_begin c))
  | .l_going => (runB 2 (b_l_going c))
  | .l_next => (runB 2 (b_l_next c))
  | .l_events => gcR (runB 5 (b_l_events c))
  | .l_end => (runB 3 (b_l_end c))
  | .l_hold => (runB 2 (b_l_hold c))
  | .l_newer => (runB 2 (b_l_newer c))
  | .l_lets => (runB 4 (b_l_lets c))
  | .l_write => (runB 7 (b_l_write c))
  | .l_read => (runB 3 (b_l_read c))
  | .l_do => (runB 6 (b_l_do c))
  | .l_holds => gcR (runB 15 (b_l_holds c))
  | .l_designs => (runB 3 (b_l_designs c))
  | .l_worlds => (runB 3 (b_l_worlds c))
  | .law_ => (runB 9 (b_law_ c))
noncomputable def callF : Nat → Fid → Fn
  | 0, _ => fun _ _ => .bad
  | n + 1, f => bodyOf (callF n) f
end CH

/-! the derivations, the head -/
namespace CH
open PySem PySem.Spec PyProof.Rows L2

def topS (i : Nat) : Stmt := PySem.Challenge.pw_cacheheld_k06_whole_behind.main.body.getD i (.Pass ⟨0, 0, 0, 0⟩)
abbrev s_is_integer : Stmt := topS 1
abbrev N_is_integer : List Str := ["value"]
theorem sc_is_integer : FnScope N_is_integer ["value"] (defScope s_is_integer) := ⟨rfl, rfl, rfl, by decide +kernel, rfl, by decide +kernel, by decide +kernel⟩
abbrev s_is_in : Stmt := topS 2
abbrev N_is_in : List Str := ["value", "least", "most"]
theorem sc_is_in : FnScope N_is_in ["value", "least", "most"] (defScope s_is_in) := ⟨rfl, rfl, rfl, by decide +kernel, rfl, by decide +kernel, by decide +kernel⟩
abbrev s_is_list : Stmt := topS 3
abbrev N_is_list : List Str := ["value", "least", "most"]
theorem sc_is_list : FnScope N_is_list ["value", "least", "most"] (defScope s_is_list) := ⟨rfl, rfl, rfl, by decide +kernel, rfl, by decide +kernel, by decide +kernel⟩
abbrev s_is_choice : Stmt := topS 16
abbrev N_is_choice : List Str := ["value", "options", "one", "some"]
theorem sc_is_choice : FnScope N_is_choice ["value", "options"] (defScope s_is_choice) := ⟨rfl, rfl, rfl, by decide +kernel, rfl, by decide +kernel, by decide +kernel⟩
abbrev s_is_design : Stmt := topS 17
abbrev N_is_design : List Str := ["value"]
theorem sc_is_design : FnScope N_is_design ["value"] (defScope s_is_design) := ⟨rfl, rfl, rfl, by decide +kernel, rfl, by decide +kernel, by decide +kernel⟩
abbrev s_is_world : Stmt := topS 18
abbrev N_is_world : List Str := ["value"]
theorem sc_is_world : FnScope N_is_world ["value"] (defScope s_is_world) := ⟨rfl, rfl, rfl, by decide +kernel, rfl, by decide +kernel, by decide +kernel⟩
abbrev s_need_design : Stmt := topS 19
abbrev N_need_design : List Str := ["design"]
theorem sc_need_design : FnScope N_need_design ["design"] (defScope s_need_design) := ⟨rfl, rfl, rfl, by decide +kernel, rfl, by decide +kernel, by decide +kernel⟩
abbrev s_need_world : Stmt := topS 20
abbrev N_need_world : List Str := ["world"]
theorem sc_need_world : FnScope N_need_world ["world"] (defScope s_need_world) := ⟨rfl, rfl, rfl, by decide +kernel, rfl, by decide +kernel, by decide +kernel⟩
abbrev s_need_both : Stmt := topS 21
abbrev N_need_both : List Str := ["design", "world"]
theorem sc_need_both : FnScope N_need_both ["design", "world"] (defScope s_need_both) := ⟨rfl, rfl, rfl, by decide +kernel, rfl, by decide +kernel, by decide +kernel⟩
abbrev s_steps_of : Stmt := topS 22
abbrev N_steps_of : List Str := ["design"]
theorem sc_steps_of : FnScope N_steps_of ["design"] (defScope s_steps_of) := ⟨rfl, rfl, rfl, by decide +kernel, rfl, by decide +kernel, by decide +kernel⟩
abbrev s_is_passed_by : Stmt := topS 26
abbrev N_is_passed_by : List Str := ["design"]
theorem sc_is_passed_by : FnScope N_is_passed_by ["design"] (defScope s_is_passed_by) := ⟨rfl, rfl, rfl, by decide +kernel, rfl, by decide +kernel, by decide +kernel⟩
abbrev s_is_climbing : Stmt := topS 27
abbrev N_is_climbing : List Str := ["design", "world"]
theorem sc_is_climbing : FnScope N_is_climbing ["design", "world"] (defScope s_is_climbing) := ⟨rfl, rfl, rfl, by decide +kernel, rfl, by decide +kernel, by decide +kernel⟩
abbrev s_is_guarded : Stmt := topS 28
abbrev N_is_guarded : List Str := ["design", "world"]
theorem sc_is_guarded : FnScope N_is_guarded ["design", "world"] (defScope s_is_guarded) := ⟨rfl, rfl, rfl, by decide +kernel, rfl, by decide +kernel, by decide +kernel⟩
abbrev s_rest_holds : Stmt := topS 29
abbrev N_rest_holds : List Str := ["design", "world", "is_token_late"]
theorem sc_rest_holds : FnScope N_rest_holds ["design", "world"] (defScope s_rest_holds) := ⟨rfl, rfl, rfl, by decide +kernel, rfl, by decide +kernel, by decide +kernel⟩
abbrev s_spelled : Stmt := topS 32
abbrev N_spelled : List Str := ["design", "world", "word", "number", "words", "found", "one"]
theorem sc_spelled : FnScope N_spelled ["design", "world", "word", "number"] (defScope s_spelled) := ⟨rfl, rfl, rfl, by decide +kernel, rfl, by decide +kernel, by decide +kernel⟩
abbrev s_events_of : Stmt := topS 33
abbrev N_events_of : List Str := ["design", "world", "recipe", "found", "part", "word", "space", "number"]
theorem sc_events_of : FnScope N_events_of ["design", "world", "recipe"] (defScope s_events_of) := ⟨rfl, rfl, rfl, by decide +kernel, rfl, by decide +kernel, by decide +kernel⟩
abbrev s_each : Stmt := topS 34
abbrev N_each : List Str := ["word", "numbers", "number"]
theorem sc_each : FnScope N_each ["word", "numbers"] (defScope s_each) := ⟨rfl, rfl, rfl, by decide +kernel, rfl, by decide +kernel, by decide +kernel⟩
abbrev s_late_recipe : Stmt := topS 35
abbrev N_late_recipe : List Str := ["design", "world", "many", "evict"]
theorem sc_late_recipe : FnScope N_late_recipe ["design", "world", "many"] (defScope s_late_recipe) := ⟨rfl, rfl, rfl, by decide +kernel, rfl, by decide +kernel, by decide +kernel⟩
abbrev s_stopped : Stmt := topS 36
abbrev N_stopped : List Str := ["numbers", "found", "number"]
theorem sc_stopped : FnScope N_stopped ["numbers"] (defScope s_stopped) := ⟨rfl, rfl, rfl, by decide +kernel, rfl, by decide +kernel, by decide +kernel⟩
abbrev s_set_recipe : Stmt := topS 37
abbrev N_set_recipe : List Str := ["design", "world", "many", "evict"]
theorem sc_set_recipe : FnScope N_set_recipe ["design", "world", "many"] (defScope s_set_recipe) := ⟨rfl, rfl, rfl, by decide +kernel, rfl, by decide +kernel, by decide +kernel⟩
abbrev s_behind : Stmt := topS 38
abbrev N_behind : List Str := ["design", "world", "many", "parts"]
theorem sc_behind : FnScope N_behind ["design", "world", "many"] (defScope s_behind) := ⟨rfl, rfl, rfl, by decide +kernel, rfl, by decide +kernel, by decide +kernel⟩
abbrev s_l_taken : Stmt := topS 40
abbrev N_l_taken : List Str := ["_law_row", "_law_many", "_law_cell", "_law_found"]
theorem sc_l_taken : FnScope N_l_taken ["_law_row", "_law_many"] (defScope s_l_taken) := ⟨rfl, rfl, rfl, by decide +kernel, rfl, by decide +kernel, by decide +kernel⟩
abbrev s_l_pick : Stmt := topS 41
abbrev N_l_pick : List Str := ["_law_row", "_law_kinds"]
theorem sc_l_pick : FnScope N_l_pick ["_law_row", "_law_kinds"] (defScope s_l_pick) := ⟨rfl, rfl, rfl, by decide +kernel, rfl, by decide +kernel, by decide +kernel⟩
abbrev s_l_paths : Stmt := topS 42
abbrev N_l_paths : List Str := []
theorem sc_l_paths : FnScope N_l_paths [] (defScope s_l_paths) := ⟨rfl, rfl, rfl, by decide +kernel, rfl, by decide +kernel, by decide +kernel⟩
abbrev s_l_begin : Stmt := topS 43
abbrev N_l_begin : List Str := ["_law_design", "_law_world"]
theorem sc_l_begin : FnScope N_l_begin ["_law_design", "_law_world"] (defScope s_l_begin) := ⟨rfl, rfl, rfl, by decide +kernel, rfl, by decide +kernel, by decide +kernel⟩
abbrev s_l_going : Stmt := topS 44
abbrev N_l_going : List Str := ["_law_h", "_law_one"]
theorem sc_l_going : FnScope N_l_going ["_law_h"] (defScope s_l_going) := ⟨rfl, rfl, rfl, by decide +kernel, rfl, by decide +kernel, by decide +kernel⟩
abbrev s_l_next : Stmt := topS 45
abbrev N_l_next : List Str := ["_law_h", "_law_one"]
theorem sc_l_next : FnScope N_l_next ["_law_h", "_law_one"] (defScope s_l_next) := ⟨rfl, rfl, rfl, by decide +kernel, rfl, by decide +kernel, by decide +kernel⟩
abbrev s_l_events : Stmt := topS 46
abbrev N_l_events : List Str := ["_law_h", "_law_found", "_law_many", "_law_going_here", "_law_one"]
theorem sc_l_events : FnScope N_l_events ["_law_h"] (defScope s_l_events) := ⟨rfl, rfl, rfl, by decide +kernel, rfl, by decide +kernel, by decide +kernel⟩
abbrev s_l_end : Stmt := topS 47
abbrev N_l_end : List Str := ["_law_h", "_law_one", "_law_stage"]
theorem sc_l_end : FnScope N_l_end ["_law_h", "_law_one", "_law_stage"] (defScope s_l_end) := ⟨rfl, rfl, rfl, by decide +kernel, rfl, by decide +kernel, by decide +kernel⟩
abbrev s_l_hold : Stmt := topS 48
abbrev N_l_hold : List Str := ["_law_h", "_law_version"]
theorem sc_l_hold : FnScope N_l_hold ["_law_h", "_law_version"] (defScope s_l_hold) := ⟨rfl, rfl, rfl, by decide +kernel, rfl, by decide +kernel, by decide +kernel⟩
abbrev s_l_newer : Stmt := topS 49
abbrev N_l_newer : List Str := ["_law_h", "_law_version"]
theorem sc_l_newer : FnScope N_l_newer ["_law_h", "_law_version"] (defScope s_l_newer) := ⟨rfl, rfl, rfl, by decide +kernel, rfl, by decide +kernel, by decide +kernel⟩
abbrev s_l_lets : Stmt := topS 50
abbrev N_l_lets : List Str := ["_law_h", "_law_one", "_law_guard", "_law_version"]
theorem sc_l_lets : FnScope N_l_lets ["_law_h", "_law_one"] (defScope s_l_lets) := ⟨rfl, rfl, rfl, by decide +kernel, rfl, by decide +kernel, by decide +kernel⟩
abbrev s_l_write : Stmt := topS 51
abbrev N_l_write : List Str := ["_law_h", "_law_one", "_law_word", "_law_steps", "_law_guard", "_law_other", "_law_good"]
theorem sc_l_write : FnScope N_l_write ["_law_h", "_law_one", "_law_word"] (defScope s_l_write) := ⟨rfl, rfl, rfl, by decide +kernel, rfl, by decide +kernel, by decide +kernel⟩
abbrev s_l_read : Stmt := topS 52
abbrev N_l_read : List Str := ["_law_h", "_law_one", "_law_word"]
theorem sc_l_read : FnScope N_l_read ["_law_h", "_law_one", "_law_word"] (defScope s_l_read) := ⟨rfl, rfl, rfl, by decide +kernel, rfl, by decide +kernel, by decide +kernel⟩
abbrev s_l_do : Stmt := topS 53
abbrev N_l_do : List Str := ["_law_h", "_law_event", "_law_one", "_law_word", "_law_number", "_law_kind"]
theorem sc_l_do : FnScope N_l_do ["_law_h", "_law_event"] (defScope s_l_do) := ⟨rfl, rfl, rfl, by decide +kernel, rfl, by decide +kernel, by decide +kernel⟩
abbrev s_l_holds : Stmt := topS 54
abbrev N_l_holds : List Str := ["_law_design", "_law_world", "_law_promise", "_law_by", "_law_climbs", "_law_guards", "_law_fresh", "_law_low", "_law_forward", "_law_late", "_law_whole", "_law_found", "_law_path", "_law_guard", "_law_flight"]
theorem sc_l_holds : FnScope N_l_holds ["_law_design", "_law_world", "_law_promise"] (defScope s_l_holds) := ⟨rfl, rfl, rfl, by decide +kernel, rfl, by decide +kernel, by decide +kernel⟩
abbrev s_l_designs : Stmt := topS 55
abbrev N_l_designs : List Str := ["_law_found", "_law_path", "_law_guard"]
theorem sc_l_designs : FnScope N_l_designs [] (defScope s_l_designs) := ⟨rfl, rfl, rfl, by decide +kernel, rfl, by decide +kernel, by decide +kernel⟩
abbrev s_l_worlds : Stmt := topS 56
abbrev N_l_worlds : List Str := ["_law_found", "_law_source", "_law_evictions"]
theorem sc_l_worlds : FnScope N_l_worlds [] (defScope s_l_worlds) := ⟨rfl, rfl, rfl, by decide +kernel, rfl, by decide +kernel, by decide +kernel⟩
abbrev s_law_ : Stmt := topS 58
abbrev N_law_ : List Str := ["_law_script", "_law_row", "_law_turn", "_law_many", "_law_told_here", "_law_design", "_law_world", "_law_h", "_law_event"]
theorem sc_law_ : FnScope N_law_ ["_law_script"] (defScope s_law_) := ⟨rfl, rfl, rfl, by decide +kernel, rfl, by decide +kernel, by decide +kernel⟩
def psOf : Fid → List Str
  | .is_integer => ["value"]
  | .is_in => ["value", "least", "most"]
  | .is_list => ["value", "least", "most"]
  | .is_choice => ["value", "options"]
  | .is_design => ["value"]
  | .is_world => ["value"]
  | .need_design => ["design"]
  | .need_world => ["world"]
  | .need_both => ["design", "world"]
  | .steps_of => ["design"]
  | .is_passed_by => ["design"]
  | .is_climbing => ["design", "world"]
  | .is_guarded => ["design", "world"]
  | .rest_holds => ["design", "world"]
  | .spelled => ["design", "world", "word", "number"]
  | .events_of => ["design", "world", "recipe"]
  | .each => ["word", "numbers"]
  | .late_recipe => ["design", "world", "many"]
  | .stopped => ["numbers"]
  | .set_recipe => ["design", "world", "many"]
  | .behind => ["design", "world", "many"]
  | .l_taken => ["_law_row", "_law_many"]
  | .l_pick => ["_law_row", "_law_kinds"]
  | .l_paths => []
  | .l_begin => ["_law_design", "_law_world"]
  | .l_going => ["_law_h"]
  | .l_next => ["_law_h", "_law_one"]
  | .l_events => ["_law_h"]
  | .l_end => ["_law_h", "_law_one", "_law_stage"]
  | .l_hold => ["_law_h", "_law_version"]
  | .l_newer => ["_law_h", "_law_version"]
  | .l_lets => ["_law_h", "_law_one"]
  | .l_write => ["_law_h", "_law_one", "_law_word"]
  | .l_read => ["_law_h", "_law_one", "_law_word"]
  | .l_do => ["_law_h", "_law_event"]
  | .l_holds => ["_law_design", "_law_world", "_law_promise"]
  | .l_designs => []
  | .l_worlds => []
  | .law_ => ["_law_script"]
def atOf : Fid → Str × Option Str
  | .is_integer => ("is_integer", none)
  | .is_in => ("is_in", none)
  | .is_list => ("is_list", none)
  | .is_choice => ("is_choice", none)
  | .is_design => ("is_design", none)
  | .is_world => ("is_world", none)
  | .need_design => ("need_design", none)
  | .need_world => ("need_world", none)
  | .need_both => ("need_both", none)
  | .steps_of => ("steps_of", none)
  | .is_passed_by => ("is_passed_by", none)
  | .is_climbing => ("is_climbing", none)
  | .is_guarded => ("is_guarded", none)
  | .rest_holds => ("rest_holds", none)
  | .spelled => ("spelled", none)
  | .events_of => ("events_of", none)
  | .each => ("each", none)
  | .late_recipe => ("late_recipe", none)
  | .stopped => ("stopped", none)
  | .set_recipe => ("set_recipe", none)
  | .behind => ("behind", none)
  | .l_taken => ("_law_taken", none)
  | .l_pick => ("_law_pick", none)
  | .l_paths => ("_law_paths", none)
  | .l_begin => ("_law_begin", none)
  | .l_going => ("_law_going", none)
  | .l_next => ("_law_next", none)
  | .l_events => ("_law_events", none)
  | .l_end => ("_law_end", none)
  | .l_hold => ("_law_hold", none)
  | .l_newer => ("_law_newer", none)
  | .l_lets => ("_law_lets", none)
  | .l_write => ("_law_write", none)
  | .l_read => ("_law_read", none)
  | .l_do => ("_law_do", none)
  | .l_holds => ("_law_holds", none)
  | .l_designs => ("_law_designs", none)
  | .l_worlds => ("_law_worlds", none)
  | .law_ => ("law", none)
abbrev s_l_told : Stmt := topS 57
abbrev N_l_told : List Str := ["_law_work", "e", "_law_known"]
theorem sc_l_told : FnScope N_l_told ["_law_work"] (defScope s_l_told) := ⟨rfl, rfl, rfl, by decide +kernel, rfl, by decide +kernel, by decide +kernel⟩
structure Tab (P : Program) (w : World) (K : PySem.W.Frag) (mg : Str → Option Value) (base : Heap) (n : Nat) : Prop where
  fn : ∀ f : Fid, FT P w K mg base (4 * n) (psOf f) (callF n f) (He.fAd K (atOf f))
  gl_is_integer : mg "is_integer" = some (.ref (He.ga K "is_integer"))
  gl_is_in : mg "is_in" = some (.ref (He.ga K "is_in"))
  gl_is_list : mg "is_list" = some (.ref (He.ga K "is_list"))
  gl_is_choice : mg "is_choice" = some (.ref (He.ga K "is_choice"))
  gl_is_design : mg "is_design" = some (.ref (He.ga K "is_design"))
  gl_is_world : mg "is_world" = some (.ref (He.ga K "is_world"))
  gl_need_design : mg "need_design" = some (.ref (He.ga K "need_design"))
  gl_need_world : mg "need_world" = some (.ref (He.ga K "need_world"))
  gl_need_both : mg "need_both" = some (.ref (He.ga K "need_both"))
  gl_steps_of : mg "steps_of" = some (.ref (He.ga K "steps_of"))
  gl_is_passed_by : mg "is_passed_by" = some (.ref (He.ga K "is_passed_by"))
  gl_is_climbing : mg "is_climbing" = some (.ref (He.ga K "is_climbing"))
  gl_is_guarded : mg "is_guarded" = some (.ref (He.ga K "is_guarded"))
  gl_rest_holds : mg "rest_holds" = some (.ref (He.ga K "rest_holds"))
  gl_spelled : mg "spelled" = some (.ref (He.ga K "spelled"))
  gl_events_of : mg "events_of" = some (.ref (He.ga K "events_of"))
  gl_each : mg "each" = some (.ref (He.ga K "each"))
  gl_late_recipe : mg "late_recipe" = some (.ref (He.ga K "late_recipe"))
  gl_stopped : mg "stopped" = some (.ref (He.ga K "stopped"))
  gl_set_recipe : mg "set_recipe" = some (.ref (He.ga K "set_recipe"))
  gl_behind : mg "behind" = some (.ref (He.ga K "behind"))
  gl_l_taken : mg "_law_taken" = some (.ref (He.ga K "_law_taken"))
  gl_l_pick : mg "_law_pick" = some (.ref (He.ga K "_law_pick"))
  gl_l_paths : mg "_law_paths" = some (.ref (He.ga K "_law_paths"))
  gl_l_begin : mg "_law_begin" = some (.ref (He.ga K "_law_begin"))
  gl_l_going : mg "_law_going" = some (.ref (He.ga K "_law_going"))
  gl_l_next : mg "_law_next" = some (.ref (He.ga K "_law_next"))
  gl_l_events : mg "_law_events" = some (.ref (He.ga K "_law_events"))
  gl_l_end : mg "_law_end" = some (.ref (He.ga K "_law_end"))
  gl_l_hold : mg "_law_hold" = some (.ref (He.ga K "_law_hold"))
  gl_l_newer : mg "_law_newer" = some (.ref (He.ga K "_law_newer"))
  gl_l_lets : mg "_law_lets" = some (.ref (He.ga K "_law_lets"))
  gl_l_write : mg "_law_write" = some (.ref (He.ga K "_law_write"))
  gl_l_read : mg "_law_read" = some (.ref (He.ga K "_law_read"))
  gl_l_do : mg "_law_do" = some (.ref (He.ga K "_law_do"))
  gl_l_holds : mg "_law_holds" = some (.ref (He.ga K "_law_holds"))
  gl_l_designs : mg "_law_designs" = some (.ref (He.ga K "_law_designs"))
  gl_l_worlds : mg "_law_worlds" = some (.ref (He.ga K "_law_worlds"))
  gl_law_ : mg "law" = some (.ref (He.ga K "law"))
  m_all : mg "all" = none
  m_bool : mg "bool" = none
  m_dict : mg "dict" = none
  m_int : mg "int" = none
  m_isinstance : mg "isinstance" = none
  m_len : mg "len" = none
  m_list : mg "list" = none
  m_max : mg "max" = none
  m_range : mg "range" = none
  m_sorted : mg "sorted" = none
  m_str : mg "str" = none
  m_tuple : mg "tuple" = none
  m_zip : mg "zip" = none
  gle_BadNumber : mg "BadNumber" = some (.ref (He.ga K "BadNumber"))
  gle_NotBroken : mg "NotBroken" = some (.ref (He.ga K "NotBroken"))
  gle_CacheError : mg "CacheError" = some (.ref (He.ga K "CacheError"))
  ex0_BadNumber : PySem.W.excIn K (He.ga K "BadNumber") He.veBase "ValueError.__new__" = true ∧ PySem.W.keepIn K (.ref (He.ga K "BadNumber")) = true ∧ PySem.W.subIn K (.ref (He.ga K "BadNumber")) (.type "BaseException") = some true ∧ PySem.W.typeIn K (.ref (He.ga K "BadNumber")) = some (.type "type")
  ex0_NotBroken : PySem.W.excIn K (He.ga K "NotBroken") He.veBase "ValueError.__new__" = true ∧ PySem.W.keepIn K (.ref (He.ga K "NotBroken")) = true ∧ PySem.W.subIn K (.ref (He.ga K "NotBroken")) (.type "BaseException") = some true ∧ PySem.W.typeIn K (.ref (He.ga K "NotBroken")) = some (.type "type")
  exm_BadNumber_CacheError : PySem.W.exmOne K (.ref (He.ga K "BadNumber")) (.ref (He.ga K "CacheError")) = some true
  exm_NotBroken_CacheError : PySem.W.exmOne K (.ref (He.ga K "NotBroken")) (.ref (He.ga K "CacheError")) = some true
  c_MOST_BEHIND : CoD ⟨K, mg⟩ "MOST_BEHIND" k_MOST_BEHIND
  c_DROPS_LAST : CoD ⟨K, mg⟩ "DROPS_LAST" k_DROPS_LAST
  c_VERSIONED : CoD ⟨K, mg⟩ "VERSIONED" k_VERSIONED
  c_PATHS : CoD ⟨K, mg⟩ "PATHS" k_PATHS
  c_GUARDS : CoD ⟨K, mg⟩ "GUARDS" k_GUARDS
  c_FLIGHTS : CoD ⟨K, mg⟩ "FLIGHTS" k_FLIGHTS
  c_DESIGNS : CoD ⟨K, mg⟩ "DESIGNS" k_DESIGNS
  c_WORLDS : CoD ⟨K, mg⟩ "WORLDS" k_WORLDS
  gl_told : mg "_law_told" = some (.ref (He.ga K "_law_told"))
  told_fn : ∃ fd, FunD K "_law_told" "_law_told" (defArgs s_l_told) (defBody s_l_told) (defScope s_l_told) [] [] (He.ga K "_law_told") fd ∧ Binds K fd ["_law_work"] []
  told_c : ToldC K "BadNumber" "NotBroken"
  tb : LamX.TabB base mg (He.cT K ("law", none)).1 (lawT K)
section
variable {P : Program} {w : World} {K : PySem.W.Frag} {mg : Str → Option Value} {base : Heap} {n : Nat}
theorem told_gv {X : Cx} {k : Nat} (T : Tab X.prog X.w X.K X.mg X.base n) (hr : Room (k + 1) X.A) {cdv : Value} {q : Str} : LamX.GivesTo X N_l_told "_law_told" (defScope s_l_told) (He.ga X.K "_law_told") cdv (defBody s_l_told) "_law_work" q (TTws (evOf X) toldTab) := by
  refine told_givesW (n := "e") (e := "CacheError") rfl T.gle_CacheError (by decide) (fun _ => rfl) sc_l_told.nd rfl rfl rfl fun c w C e1 e2 => ?_
  unfold toldTab at e1
  simp only [List.lookup] at e1
  split at e1
  · rename_i hy
    have ey := eq_of_beq hy
    cases e1
    rw [ey] at e2
    cases e2.symm.trans T.gle_BadNumber
    exact ⟨T.exm_BadNumber_CacheError, toldSuite true false, fun _ => rfl, fun s H a oe pn hz hf => dss_preT (ds_setIs (j := 2) sc_l_told.nd rfl (.inl rfl) (pe_isZ (i := 1) T.told_c.e1 hz hf (pv 1) rfl T.m_isinstance rfl T.gle_BadNumber (by decide) T.told_c.k11) (pe_isZ (i := 1) T.told_c.e1 hz hf (pv 1) rfl T.m_isinstance rfl T.gle_NotBroken (by decide) T.told_c.k12)) (dss_one (ds_ret (de_if (dt_cmp (opr_eqS (hr.deeper _)) ops_eq (de_bm PySem.F.plainAttrs_list PySem.F.slot_list_count PySem.F.type_list_count mt_lcntF mts_cnt2 rc_lst (de_var (pv 2)) (da_cons (de_bl) (da_nil))) (de_int) (by rfl)) (de_ix ixr ops_ix (de_lst (da_cons (de_str) (da_cons (de_str) (da_nil)))) (de_bm PySem.F.plainAttrs_list PySem.F.slot_list_index PySem.F.type_list_index mt_index mts_idx2 rc_lst (de_var (pv 2)) (da_cons (de_bl) (da_nil))) (fun _ _ => rfl)) (de_str))))⟩
  · split at e1
    · rename_i hy
      have ey := eq_of_beq hy
      cases e1
      rw [ey] at e2
      cases e2.symm.trans T.gle_NotBroken
      exact ⟨T.exm_NotBroken_CacheError, toldSuite false true, fun _ => rfl, fun s H a oe pn hz hf => dss_preT (ds_setIs (j := 2) sc_l_told.nd rfl (.inl rfl) (pe_isZ (i := 1) T.told_c.e2 hz hf (pv 1) rfl T.m_isinstance rfl T.gle_BadNumber (by decide) T.told_c.k21) (pe_isZ (i := 1) T.told_c.e2 hz hf (pv 1) rfl T.m_isinstance rfl T.gle_NotBroken (by decide) T.told_c.k22)) (dss_one (ds_ret (de_if (dt_cmp (opr_eqS (hr.deeper _)) ops_eq (de_bm PySem.F.plainAttrs_list PySem.F.slot_list_count PySem.F.type_list_count mt_lcntF mts_cnt2 rc_lst (de_var (pv 2)) (da_cons (de_bl) (da_nil))) (de_int) (by rfl)) (de_ix ixr ops_ix (de_lst (da_cons (de_str) (da_cons (de_str) (da_nil)))) (de_bm PySem.F.plainAttrs_list PySem.F.slot_list_index PySem.F.type_list_index mt_index mts_idx2 rc_lst (de_var (pv 2)) (da_cons (de_bl) (da_nil))) (fun _ _ => rfl)) (de_str))))⟩
    · cases e1
theorem d_is_integer (T : Tab P w K mg base n) {cdv : Value} {A : Around} {outer : List Env} {s : Shared} {H : Hp} {E : XK} {f : Addr} (hr1 : Room (4 * n + 3) (A.deeper (envOfC "is_integer" (defScope s_is_integer) s.heap.objs.size f cdv))) :
    PSs (cxOf (L2.CX P w) P w K mg base N_is_integer "is_integer" (defScope s_is_integer) f cdv A outer s H E) (defBody s_is_integer) (tS ⟨K, mg⟩ (WX0 E) (b_is_integer (callF n))) := by
  have hr := hr1.mono (Nat.le_add_right (4 * n) 3)
  have tk := takes_cx (P := P) (w := w) (K := K) (mg := mg) (base := base) (N := N_is_integer) (qual := "is_integer") (scope := defScope s_is_integer) (f := f) (cd := cdv) (A := A) (outer := outer) (s := s) (H := H) (E := E)
  exact dss_one (ds_ret (de_and (de_callB callr_isi calls_isi rfl T.m_isinstance boot_isinstance (da_cons (de_var (pv 0)) (da_cons (de_ty rfl T.m_int boot_int) (da_nil)))) (de_one (de_not (de_callB callr_isi calls_isi rfl T.m_isinstance boot_isinstance (da_cons (de_var (pv 0)) (da_cons (de_ty rfl T.m_bool boot_bool) (da_nil))))))))
theorem d_is_in (T : Tab P w K mg base n) {cdv : Value} {A : Around} {outer : List Env} {s : Shared} {H : Hp} {E : XK} {f : Addr} (hr1 : Room (4 * n + 3) (A.deeper (envOfC "is_in" (defScope s_is_in) s.heap.objs.size f cdv))) :
    PSs (cxOf (L2.CX P w) P w K mg base N_is_in "is_in" (defScope s_is_in) f cdv A outer s H E) (defBody s_is_in) (tS ⟨K, mg⟩ (WX0 E) (b_is_in (callF n))) := by
  have hr := hr1.mono (Nat.le_add_right (4 * n) 3)
  have tk := takes_cx (P := P) (w := w) (K := K) (mg := mg) (base := base) (N := N_is_in) (qual := "is_in") (scope := defScope s_is_in) (f := f) (cd := cdv) (A := A) (outer := outer) (s := s) (H := H) (E := E)
  exact dss_one (ds_ret (de_and (de_call (T.fn .is_integer) hr rfl T.gl_is_integer tk (da_cons (de_var (pv 0)) (da_nil))) (de_one (de_chain op_le ops_le op_le ops_le (de_var (pv 1)) (de_var (pv 0)) (de_var (pv 2))))))
theorem d_is_list (T : Tab P w K mg base n) {cdv : Value} {A : Around} {outer : List Env} {s : Shared} {H : Hp} {E : XK} {f : Addr} (hr1 : Room (4 * n + 3) (A.deeper (envOfC "is_list" (defScope s_is_list) s.heap.objs.size f cdv))) :
    PSs (cxOf (L2.CX P w) P w K mg base N_is_list "is_list" (defScope s_is_list) f cdv A outer s H E) (defBody s_is_list) (tS ⟨K, mg⟩ (WX0 E) (b_is_list (callF n))) := by
  have hr := hr1.mono (Nat.le_add_right (4 * n) 3)
  have tk := takes_cx (P := P) (w := w) (K := K) (mg := mg) (base := base) (N := N_is_list) (qual := "is_list") (scope := defScope s_is_list) (f := f) (cd := cdv) (A := A) (outer := outer) (s := s) (H := H) (E := E)
  exact dss_one (ds_ret (de_and (de_callB callr_isi calls_isi rfl T.m_isinstance boot_isinstance (da_cons (de_var (pv 0)) (da_cons (de_ty rfl T.m_tuple boot_tuple) (da_nil)))) (de_one (de_chain op_le ops_le op_le ops_le (de_var (pv 1)) (de_callB callr_len calls_len rfl T.m_len boot_len (da_cons (de_var (pv 0)) (da_nil))) (de_var (pv 2))))))
theorem d_is_choice (T : Tab P w K mg base n) {cdv : Value} {A : Around} {outer : List Env} {s : Shared} {H : Hp} {E : XK} {f : Addr} (hr1 : Room (4 * n + 3) (A.deeper (envOfC "is_choice" (defScope s_is_choice) s.heap.objs.size f cdv))) :
    PSs (cxOf (L2.CX P w) P w K mg base N_is_choice "is_choice" (defScope s_is_choice) f cdv A outer s H E) (defBody s_is_choice) (tS ⟨K, mg⟩ (WX0 E) (b_is_choice (callF n))) := by
  have hr := hr1.mono (Nat.le_add_right (4 * n) 3)
  have tk := takes_cx (P := P) (w := w) (K := K) (mg := mg) (base := base) (N := N_is_choice) (qual := "is_choice") (scope := defScope s_is_choice) (f := f) (cd := cdv) (A := A) (outer := outer) (s := s) (H := H) (E := E)
  exact dss_cons (ds_if (PW.pt (dw_or (dt_not (dt_val (de_call (T.fn .is_list) hr rfl T.gl_is_list tk (da_cons (de_var (pv 0)) (da_cons (de_callB callr_len calls_len rfl T.m_len boot_len (da_cons (de_var (pv 1)) (da_nil))) (da_cons (de_callB callr_len calls_len rfl T.m_len boot_len (da_cons (de_var (pv 1)) (da_nil))) (da_nil))))))) (dw_or1 (dt_not (dt_val (de_callB (cr_all rfl) calls_all rfl T.m_all boot_all (da_cons (de_lc (tg := (.nm 2)) (own := [("one", 2)]) rfl sc_is_choice.nd (di_tup (de_var (pv 0))) (blkOk_by (N := N_is_choice) (sc := defScope s_is_choice) (own := [("one", 2)]) (by decide +kernel)) (by decide) (fun _ _ _ _ _ => pg_name (i := 2) sc_is_choice.nd rfl (by first | exact Or.inl rfl | exact Or.inr rfl)) (fun _ _ _ _ _ => dt_yes) (fun _ _ _ _ _ => de_callB callr_isi calls_isi rfl T.m_isinstance boot_isinstance (da_cons (de_var (pv 2)) (da_cons (de_ty rfl T.m_str boot_str) (da_nil))))) (da_nil)))))))) (dss_one (ds_ret (de_bl))) (dss_nil)) (dss_one (ds_ret (de_callB (cr_all rfl) calls_all rfl T.m_all boot_all (da_cons (de_lc (tg := (.tp [2, 3])) (own := [("one", 2), ("some", 3)]) rfl sc_is_choice.nd (di_zipT rfl T.m_zip (da_cons (de_var (pv 0)) (da_cons (de_var (pv 1)) (da_nil)))) (blkOk_by (N := N_is_choice) (sc := defScope s_is_choice) (own := [("one", 2), ("some", 3)]) (by decide +kernel)) (by decide) (fun _ _ _ _ _ => pg_tup rfl (pgs_cons (pg_name (i := 2) sc_is_choice.nd rfl (by first | exact Or.inl rfl | exact Or.inr rfl)) (pgs_cons (pg_name (i := 3) sc_is_choice.nd rfl (by first | exact Or.inl rfl | exact Or.inr rfl)) (pgs_nil)))) (fun _ _ _ _ _ => dt_yes) (fun _ _ _ _ _ => de_cmp (opr_in hr) ops_in (de_var (pv 2)) (de_var (pv 3)) (by rfl))) (da_nil)))))
theorem d_is_design (T : Tab P w K mg base n) {cdv : Value} {A : Around} {outer : List Env} {s : Shared} {H : Hp} {E : XK} {f : Addr} (hr1 : Room (4 * n + 3) (A.deeper (envOfC "is_design" (defScope s_is_design) s.heap.objs.size f cdv))) :
    PSs (cxOf (L2.CX P w) P w K mg base N_is_design "is_design" (defScope s_is_design) f cdv A outer s H E) (defBody s_is_design) (tS ⟨K, mg⟩ (WX0 E) (b_is_design (callF n))) := by
  have hr := hr1.mono (Nat.le_add_right (4 * n) 3)
  have tk := takes_cx (P := P) (w := w) (K := K) (mg := mg) (base := base) (N := N_is_design) (qual := "is_design") (scope := defScope s_is_design) (f := f) (cd := cdv) (A := A) (outer := outer) (s := s) (H := H) (E := E)
  exact dss_one (ds_ret (de_call (T.fn .is_choice) hr rfl T.gl_is_choice tk (da_cons (de_var (pv 0)) (da_cons (de_con rfl T.c_DESIGNS) (da_nil)))))
theorem d_is_world (T : Tab P w K mg base n) {cdv : Value} {A : Around} {outer : List Env} {s : Shared} {H : Hp} {E : XK} {f : Addr} (hr1 : Room (4 * n + 3) (A.deeper (envOfC "is_world" (defScope s_is_world) s.heap.objs.size f cdv))) :
    PSs (cxOf (L2.CX P w) P w K mg base N_is_world "is_world" (defScope s_is_world) f cdv A outer s H E) (defBody s_is_world) (tS ⟨K, mg⟩ (WX0 E) (b_is_world (callF n))) := by
  have hr := hr1.mono (Nat.le_add_right (4 * n) 3)
  have tk := takes_cx (P := P) (w := w) (K := K) (mg := mg) (base := base) (N := N_is_world) (qual := "is_world") (scope := defScope s_is_world) (f := f) (cd := cdv) (A := A) (outer := outer) (s := s) (H := H) (E := E)
  exact dss_one (ds_ret (de_call (T.fn .is_choice) hr rfl T.gl_is_choice tk (da_cons (de_var (pv 0)) (da_cons (de_con rfl T.c_WORLDS) (da_nil)))))
theorem d_need_design (T : Tab P w K mg base n) {cdv : Value} {A : Around} {outer : List Env} {s : Shared} {H : Hp} {E : XK} {f : Addr} (hr1 : Room (4 * n + 3) (A.deeper (envOfC "need_design" (defScope s_need_design) s.heap.objs.size f cdv))) :
    PSs (cxOf (L2.CX P w) P w K mg base N_need_design "need_design" (defScope s_need_design) f cdv A outer s H E) (defBody s_need_design) (tS ⟨K, mg⟩ (WX0 E) (b_need_design (callF n))) := by
  have hr := hr1.mono (Nat.le_add_right (4 * n) 3)
  have tk := takes_cx (P := P) (w := w) (K := K) (mg := mg) (base := base) (N := N_need_design) (qual := "need_design") (scope := defScope s_need_design) (f := f) (cd := cdv) (A := A) (outer := outer) (s := s) (H := H) (E := E)
  exact dss_one (ds_if (dt_not (dt_val (de_call (T.fn .is_design) hr rfl T.gl_is_design tk (da_cons (de_var (pv 0)) (da_nil))))) (dss_one (ds_never)) (dss_nil))
theorem d_need_world (T : Tab P w K mg base n) {cdv : Value} {A : Around} {outer : List Env} {s : Shared} {H : Hp} {E : XK} {f : Addr} (hr1 : Room (4 * n + 3) (A.deeper (envOfC "need_world" (defScope s_need_world) s.heap.objs.size f cdv))) :
    PSs (cxOf (L2.CX P w) P w K mg base N_need_world "need_world" (defScope s_need_world) f cdv A outer s H E) (defBody s_need_world) (tS ⟨K, mg⟩ (WX0 E) (b_need_world (callF n))) := by
  have hr := hr1.mono (Nat.le_add_right (4 * n) 3)
  have tk := takes_cx (P := P) (w := w) (K := K) (mg := mg) (base := base) (N := N_need_world) (qual := "need_world") (scope := defScope s_need_world) (f := f) (cd := cdv) (A := A) (outer := outer) (s := s) (H := H) (E := E)
  exact dss_one (ds_if (dt_not (dt_val (de_call (T.fn .is_world) hr rfl T.gl_is_world tk (da_cons (de_var (pv 0)) (da_nil))))) (dss_one (ds_never)) (dss_nil))
theorem d_need_both (T : Tab P w K mg base n) {cdv : Value} {A : Around} {outer : List Env} {s : Shared} {H : Hp} {E : XK} {f : Addr} (hr1 : Room (4 * n + 3) (A.deeper (envOfC "need_both" (defScope s_need_both) s.heap.objs.size f cdv))) :
    PSs (cxOf (L2.CX P w) P w K mg base N_need_both "need_both" (defScope s_need_both) f cdv A outer s H E) (defBody s_need_both) (tS ⟨K, mg⟩ (WX0 E) (b_need_both (callF n))) := by
  have hr := hr1.mono (Nat.le_add_right (4 * n) 3)
  have tk := takes_cx (P := P) (w := w) (K := K) (mg := mg) (base := base) (N := N_need_both) (qual := "need_both") (scope := defScope s_need_both) (f := f) (cd := cdv) (A := A) (outer := outer) (s := s) (H := H) (E := E)
  exact dss_cons (ds_expr (de_call (T.fn .need_design) hr rfl T.gl_need_design tk (da_cons (de_var (pv 0)) (da_nil)))) (dss_one (ds_expr (de_call (T.fn .need_world) hr rfl T.gl_need_world tk (da_cons (de_var (pv 1)) (da_nil)))))
theorem d_steps_of (T : Tab P w K mg base n) {cdv : Value} {A : Around} {outer : List Env} {s : Shared} {H : Hp} {E : XK} {f : Addr} (hr1 : Room (4 * n + 3) (A.deeper (envOfC "steps_of" (defScope s_steps_of) s.heap.objs.size f cdv))) :
    PSs (cxOf (L2.CX P w) P w K mg base N_steps_of "steps_of" (defScope s_steps_of) f cdv A outer s H E) (defBody s_steps_of) (tS ⟨K, mg⟩ (WX0 E) (b_steps_of (callF n))) := by
  have hr := hr1.mono (Nat.le_add_right (4 * n) 3)
  have tk := takes_cx (P := P) (w := w) (K := K) (mg := mg) (base := base) (N := N_steps_of) (qual := "steps_of") (scope := defScope s_steps_of) (f := f) (cd := cdv) (A := A) (outer := outer) (s := s) (H := H) (E := E)
  exact dss_one (ds_ret (de_callTy call_tuple_of calls_tuple rfl T.m_tuple boot_tuple (da_cons (de_split (de_ix ixr ops_ix (de_var (pv 0)) (de_int) (fun _ _ => rfl)) (de_str)) (da_nil))))
theorem d_is_passed_by (T : Tab P w K mg base n) {cdv : Value} {A : Around} {outer : List Env} {s : Shared} {H : Hp} {E : XK} {f : Addr} (hr1 : Room (4 * n + 3) (A.deeper (envOfC "is_passed_by" (defScope s_is_passed_by) s.heap.objs.size f cdv))) :
    PSs (cxOf (L2.CX P w) P w K mg base N_is_passed_by "is_passed_by" (defScope s_is_passed_by) f cdv A outer s H E) (defBody s_is_passed_by) (tS ⟨K, mg⟩ (WX0 E) (b_is_passed_by (callF n))) := by
  have hr := hr1.mono (Nat.le_add_right (4 * n) 3)
  have tk := takes_cx (P := P) (w := w) (K := K) (mg := mg) (base := base) (N := N_is_passed_by) (qual := "is_passed_by") (scope := defScope s_is_passed_by) (f := f) (cd := cdv) (A := A) (outer := outer) (s := s) (H := H) (E := E)
  exact dss_one (ds_ret (de_and (de_cmp (opr_eq hr) ops_eq (de_ix ixr ops_ix (de_var (pv 0)) (de_int) (fun _ _ => rfl)) (de_str) (by rfl)) (de_one (de_cmp (opr_ne hr) ops_ne (de_ix ixr ops_ix (de_var (pv 0)) (de_int) (fun _ _ => rfl)) (de_str) (by rfl)))))
theorem d_is_climbing (T : Tab P w K mg base n) {cdv : Value} {A : Around} {outer : List Env} {s : Shared} {H : Hp} {E : XK} {f : Addr} (hr1 : Room (4 * n + 3) (A.deeper (envOfC "is_climbing" (defScope s_is_climbing) s.heap.objs.size f cdv))) :
    PSs (cxOf (L2.CX P w) P w K mg base N_is_climbing "is_climbing" (defScope s_is_climbing) f cdv A outer s H E) (defBody s_is_climbing) (tS ⟨K, mg⟩ (WX0 E) (b_is_climbing (callF n))) := by
  have hr := hr1.mono (Nat.le_add_right (4 * n) 3)
  have tk := takes_cx (P := P) (w := w) (K := K) (mg := mg) (base := base) (N := N_is_climbing) (qual := "is_climbing") (scope := defScope s_is_climbing) (f := f) (cd := cdv) (A := A) (outer := outer) (s := s) (H := H) (E := E)
  exact dss_one (ds_ret (de_and (de_cmp (opr_eq hr) ops_eq (de_ix ixr ops_ix (de_var (pv 0)) (de_int) (fun _ _ => rfl)) (de_str) (by rfl)) (de_and (de_cmp (opr_in hr) ops_in (de_ix ixr ops_ix (de_var (pv 0)) (de_int) (fun _ _ => rfl)) (de_con rfl T.c_VERSIONED) (by rfl)) (de_one (de_cmp (opr_eq hr) ops_eq (de_ix ixr ops_ix (de_var (pv 1)) (de_int) (fun _ _ => rfl)) (de_str) (by rfl))))))
theorem d_is_guarded (T : Tab P w K mg base n) {cdv : Value} {A : Around} {outer : List Env} {s : Shared} {H : Hp} {E : XK} {f : Addr} (hr1 : Room (4 * n + 3) (A.deeper (envOfC "is_guarded" (defScope s_is_guarded) s.heap.objs.size f cdv))) :
    PSs (cxOf (L2.CX P w) P w K mg base N_is_guarded "is_guarded" (defScope s_is_guarded) f cdv A outer s H E) (defBody s_is_guarded) (tS ⟨K, mg⟩ (WX0 E) (b_is_guarded (callF n))) := by
  have hr := hr1.mono (Nat.le_add_right (4 * n) 3)
  have tk := takes_cx (P := P) (w := w) (K := K) (mg := mg) (base := base) (N := N_is_guarded) (qual := "is_guarded") (scope := defScope s_is_guarded) (f := f) (cd := cdv) (A := A) (outer := outer) (s := s) (H := H) (E := E)
  exact dss_cons (ds_if (dt_cmp (opr_ni hr) ops_ni (de_ix ixr ops_ix (de_var (pv 0)) (de_int) (fun _ _ => rfl)) (de_con rfl T.c_DROPS_LAST) (by rfl)) (dss_one (ds_ret (de_bl))) (dss_nil)) (dss_one (ds_ret (de_or (de_cmp (opr_eq hr) ops_eq (de_ix ixr ops_ix (de_var (pv 0)) (de_int) (fun _ _ => rfl)) (de_str) (by rfl)) (de_one (de_and (de_cmp (opr_eq hr) ops_eq (de_ix ixr ops_ix (de_var (pv 0)) (de_int) (fun _ _ => rfl)) (de_str) (by rfl)) (de_one (de_cmp (opr_eq hr) ops_eq (de_ix ixr ops_ix (de_var (pv 1)) (de_int) (fun _ _ => rfl)) (de_str) (by rfl))))))))
theorem d_rest_holds (T : Tab P w K mg base n) {cdv : Value} {A : Around} {outer : List Env} {s : Shared} {H : Hp} {E : XK} {f : Addr} (hr1 : Room (4 * n + 3) (A.deeper (envOfC "rest_holds" (defScope s_rest_holds) s.heap.objs.size f cdv))) :
    PSs (cxOf (L2.CX P w) P w K mg base N_rest_holds "rest_holds" (defScope s_rest_holds) f cdv A outer s H E) (defBody s_rest_holds) (tS ⟨K, mg⟩ (WX0 E) (b_rest_holds (callF n))) := by
  have hr := hr1.mono (Nat.le_add_right (4 * n) 3)
  have tk := takes_cx (P := P) (w := w) (K := K) (mg := mg) (base := base) (N := N_rest_holds) (qual := "rest_holds") (scope := defScope s_rest_holds) (f := f) (cd := cdv) (A := A) (outer := outer) (s := s) (H := H) (E := E)
  exact dss_cons (ds_if (dt_val (de_call (T.fn .is_passed_by) hr rfl T.gl_is_passed_by tk (da_cons (de_var (pv 0)) (da_nil)))) (dss_one (ds_ret (de_bl))) (dss_nil)) (dss_cons (ds_if (dt_cmp (opr_eq hr) ops_eq (de_ix ixr ops_ix (de_var (pv 1)) (de_int) (fun _ _ => rfl)) (de_str) (by rfl)) (dss_one (ds_ret (de_bl))) (dss_nil)) (dss_cons (ds_set (i := 2) sc_rest_holds.nd rfl (by first | exact Or.inl rfl | exact Or.inr rfl) (de_and (de_cmp (opr_eq hr) ops_eq (de_ix ixr ops_ix (de_var (pv 0)) (de_int) (fun _ _ => rfl)) (de_str) (by rfl)) (de_one (de_cmp (opr_eq hr) ops_eq (de_ix ixr ops_ix (de_var (pv 1)) (de_int) (fun _ _ => rfl)) (de_str) (by rfl))))) (dss_one (ds_ret (de_or (de_call (T.fn .is_climbing) hr rfl T.gl_is_climbing tk (da_cons (de_var (pv 0)) (da_cons (de_var (pv 1)) (da_nil)))) (de_one (de_and (de_call (T.fn .is_guarded) hr rfl T.gl_is_guarded tk (da_cons (de_var (pv 0)) (da_cons (de_var (pv 1)) (da_nil)))) (de_one (de_not (de_var (pv 2)))))))))))
theorem d_spelled (T : Tab P w K mg base n) {cdv : Value} {A : Around} {outer : List Env} {s : Shared} {H : Hp} {E : XK} {f : Addr} (hr1 : Room (4 * n + 3) (A.deeper (envOfC "spelled" (defScope s_spelled) s.heap.objs.size f cdv))) :
    PSs (cxOf (L2.CX P w) P w K mg base N_spelled "spelled" (defScope s_spelled) f cdv A outer s H E) (defBody s_spelled) (tS ⟨K, mg⟩ (WX0 E) (b_spelled (callF n))) := by
  have hr := hr1.mono (Nat.le_add_right (4 * n) 3)
  have tk := takes_cx (P := P) (w := w) (K := K) (mg := mg) (base := base) (N := N_spelled) (qual := "spelled") (scope := defScope s_spelled) (f := f) (cd := cdv) (A := A) (outer := outer) (s := s) (H := H) (E := E)
  exact dss_cons (ds_set (i := 4) sc_spelled.nd rfl (by first | exact Or.inl rfl | exact Or.inr rfl) (de_dic (dp_cons (de_str) (de_op opr_add ops_add (de_tup (da_cons (de_str) (da_cons (de_str) (da_nil)))) (de_op op_mulT ops_mulT (de_tup (da_cons (de_str) (da_nil))) (de_callTy call_int1 calls_int rfl T.m_int boot_int (da_cons (de_cmp (opr_ne hr) ops_ne (de_ix ixr ops_ix (de_var (pv 0)) (de_int) (fun _ _ => rfl)) (de_str) (by rfl)) (da_nil))))) (dp_cons (de_str) (de_call (T.fn .steps_of) hr rfl T.gl_steps_of tk (da_cons (de_var (pv 0)) (da_nil))) (dp_nil))))) (dss_cons (ds_setLc (i := 5) (tg := (.nm 6)) (own := [("one", 6)]) rfl sc_spelled.nd rfl rfl (sw_true rfl rfl rfl (by decide +kernel)) (di_tup (de_dget2 hr (de_var (pv 4)) (de_var (pv 2)) (de_tup (da_cons (de_if (dt_cmp (opr_eq hr) ops_eq (de_var (pv 2)) (de_str) (by rfl)) (de_str) (de_var (pv 2))) (da_nil))))) (blkOk_by (N := N_spelled) (sc := defScope s_spelled) (own := [("one", 6)]) (by decide +kernel)) (by decide) (fun _ _ _ _ _ => pg_name (i := 6) sc_spelled.nd rfl (by first | exact Or.inl rfl | exact Or.inr rfl)) (fun _ _ _ _ _ => dt_yes) (fun _ _ _ _ _ => de_tup (da_cons (de_var (pv 6)) (da_cons (de_var (pv 3)) (da_nil))))) (dss_one (ds_ret (de_op opr_add ops_add (de_var (pv 5)) (de_op op_rep ops_mulL (de_lst (da_cons (de_tup (da_cons (de_str) (da_nil))) (da_nil))) (de_callTy call_int1 calls_int rfl T.m_int boot_int (da_cons (de_and (de_cmp (opr_eq hr) ops_eq (de_var (pv 2)) (de_str) (by rfl)) (de_one (de_cmp (opr_eq hr) ops_eq (de_ix ixr ops_ix (de_var (pv 1)) (de_int) (fun _ _ => rfl)) (de_str) (by rfl)))) (da_nil))))))))
theorem d_events_of (T : Tab P w K mg base n) {cdv : Value} {A : Around} {outer : List Env} {s : Shared} {H : Hp} {E : XK} {f : Addr} (hr1 : Room (4 * n + 3) (A.deeper (envOfC "events_of" (defScope s_events_of) s.heap.objs.size f cdv))) :
    PSs (cxOf (L2.CX P w) P w K mg base N_events_of "events_of" (defScope s_events_of) f cdv A outer s H E) (defBody s_events_of) (tS ⟨K, mg⟩ (WX0 E) (b_events_of (callF n))) := by
  have hr := hr1.mono (Nat.le_add_right (4 * n) 3)
  have tk := takes_cx (P := P) (w := w) (K := K) (mg := mg) (base := base) (N := N_events_of) (qual := "events_of") (scope := defScope s_events_of) (f := f) (cd := cdv) (A := A) (outer := outer) (s := s) (H := H) (E := E)
  exact dss_cons (ds_set (i := 3) sc_events_of.nd rfl (by first | exact Or.inl rfl | exact Or.inr rfl) (de_newL (da_nil))) (dss_cons (ds_for (tg := (.nm 4)) (passes_of rfl) rfl (di_lst (de_if (dt_cmp (opr_ne hr) ops_ne (de_var (pv 2)) (de_str) (by rfl)) (de_split (de_var (pv 2)) (de_str)) (de_lst (da_nil)))) (pg_name (i := 4) sc_events_of.nd rfl (by first | exact Or.inl rfl | exact Or.inr rfl)) (dss_cons (ds_asg (de_bm PySem.F.plainAttrs_str PySem.F.slot_str_partition PySem.F.type_str_partition mt_partition mts_part rc_str (de_var (pv 4)) (da_cons (de_str) (da_nil))) (dg_tup rfl (dgs_cons (dg_name (pg_name (i := 5) sc_events_of.nd rfl (by first | exact Or.inl rfl | exact Or.inr rfl))) (dgs_cons (dg_name (pg_name (i := 6) sc_events_of.nd rfl (by first | exact Or.inl rfl | exact Or.inr rfl))) (dgs_cons (dg_name (pg_name (i := 7) sc_events_of.nd rfl (by first | exact Or.inl rfl | exact Or.inr rfl))) (dgs_nil)))) rfl)) (dss_one (ds_expr (de_bm PySem.F.plainAttrs_list PySem.F.slot_list_extend PySem.F.type_list_extend mt_extend mts_ext rc_lst (de_var (pv 3)) (da_cons (de_if (dt_cmp (opr_eq hr) ops_eq (de_var (pv 5)) (de_str) (by rfl)) (de_lst (da_cons (de_tup (da_cons (de_str) (da_nil))) (da_nil))) (de_call (T.fn .spelled) hr rfl T.gl_spelled tk (da_cons (de_var (pv 0)) (da_cons (de_var (pv 1)) (da_cons (de_var (pv 5)) (da_cons (de_callTy call_int_str calls_intS rfl T.m_int boot_int (da_cons (de_var (pv 7)) (da_nil))) (da_nil))))))) (da_nil))))))) (dss_one (ds_ret (de_var (pv 3)))))
theorem d_each (T : Tab P w K mg base n) {cdv : Value} {A : Around} {outer : List Env} {s : Shared} {H : Hp} {E : XK} {f : Addr} (hr1 : Room (4 * n + 3) (A.deeper (envOfC "each" (defScope s_each) s.heap.objs.size f cdv))) :
    PSs (cxOf (L2.CX P w) P w K mg base N_each "each" (defScope s_each) f cdv A outer s H E) (defBody s_each) (tS ⟨K, mg⟩ (WX0 E) (b_each (callF n))) := by
  have hr := hr1.mono (Nat.le_add_right (4 * n) 3)
  have tk := takes_cx (P := P) (w := w) (K := K) (mg := mg) (base := base) (N := N_each) (qual := "each") (scope := defScope s_each) (f := f) (cd := cdv) (A := A) (outer := outer) (s := s) (H := H) (E := E)
  exact dss_one (ds_ret (de_lc (tg := (.nm 2)) (own := [("number", 2)]) rfl sc_each.nd (di_lst (de_var (pv 1))) (blkOk_by (N := N_each) (sc := defScope s_each) (own := [("number", 2)]) (by decide +kernel)) (by decide) (fun _ _ _ _ _ => pg_name (i := 2) sc_each.nd rfl (by first | exact Or.inl rfl | exact Or.inr rfl)) (fun _ _ _ _ _ => dt_yes) (fun _ _ _ _ _ => de_op opr_add ops_add (de_op opr_add ops_add (de_var (pv 0)) (de_str)) (de_callTy call_str_int calls_str rfl T.m_str boot_str (da_cons (de_var (pv 2)) (da_nil))))))
theorem d_late_recipe (T : Tab P w K mg base n) {cdv : Value} {A : Around} {outer : List Env} {s : Shared} {H : Hp} {E : XK} {f : Addr} (hr1 : Room (4 * n + 3) (A.deeper (envOfC "late_recipe" (defScope s_late_recipe) s.heap.objs.size f cdv))) :
    PSs (cxOf (L2.CX P w) P w K mg base N_late_recipe "late_recipe" (defScope s_late_recipe) f cdv A outer s H E) (defBody s_late_recipe) (tS ⟨K, mg⟩ (WX0 E) (b_late_recipe (callF n))) := by
  have hr := hr1.mono (Nat.le_add_right (4 * n) 3)
  have tk := takes_cx (P := P) (w := w) (K := K) (mg := mg) (base := base) (N := N_late_recipe) (qual := "late_recipe") (scope := defScope s_late_recipe) (f := f) (cd := cdv) (A := A) (outer := outer) (s := s) (H := H) (E := E)
  exact dss_cons (ds_set (i := 3) sc_late_recipe.nd rfl (by first | exact Or.inl rfl | exact Or.inr rfl) (de_op op_rep ops_mulL (de_lst (da_cons (de_str) (da_nil))) (de_callTy call_int1 calls_int rfl T.m_int boot_int (da_cons (de_cmp (opr_eq hr) ops_eq (de_ix ixr ops_ix (de_var (pv 0)) (de_int) (fun _ _ => rfl)) (de_str) (by rfl)) (da_nil))))) (dss_cons (ds_if (PW.pt (dw_and (dt_cmp (opr_ne hr) ops_ne (de_ix ixr ops_ix (de_var (pv 0)) (de_int) (fun _ _ => rfl)) (de_str) (by rfl)) (dw_and1 (PW.pt (dw_or (dt_cmp (opr_ne hr) ops_ne (de_ix ixr ops_ix (de_var (pv 0)) (de_int) (fun _ _ => rfl)) (de_str) (by rfl)) (dw_or1 (dt_cmp (opr_eq hr) ops_eq (de_ix ixr ops_ix (de_var (pv 1)) (de_int) (fun _ _ => rfl)) (de_str) (by rfl)))))))) (dss_one (ds_ret (de_op opr_add ops_add (de_op opr_add ops_add (de_op opr_add ops_add (de_lst (da_cons (de_str) (da_cons (de_str) (da_nil)))) (de_call (T.fn .each) hr rfl T.gl_each tk (da_cons (de_str) (da_cons (de_listRg2 rfl rfl T.m_list rfl T.m_range (de_int) (de_op opr_add ops_add (de_var (pv 2)) (de_int))) (da_nil))))) (de_var (pv 3))) (de_lst (da_cons (de_str) (da_nil)))))) (dss_nil)) (dss_cons (ds_if (PW.pt (dw_and (dt_cmp (opr_eq hr) ops_eq (de_ix ixr ops_ix (de_var (pv 0)) (de_int) (fun _ _ => rfl)) (de_str) (by rfl)) (dw_and1 (dt_cmp (opr_eq hr) ops_eq (de_ix ixr ops_ix (de_var (pv 1)) (de_int) (fun _ _ => rfl)) (de_str) (by rfl))))) (dss_one (ds_ret (de_op opr_add ops_add (de_call (T.fn .each) hr rfl T.gl_each tk (da_cons (de_str) (da_cons (de_listRg1 rfl rfl T.m_list rfl T.m_range (de_var (pv 2))) (da_nil)))) (de_call (T.fn .each) hr rfl T.gl_each tk (da_cons (de_str) (da_cons (de_lst (da_cons (de_var (pv 2)) (da_nil))) (da_nil))))))) (dss_nil)) (dss_cons (ds_if (dt_cmp (opr_eq hr) ops_eq (de_ix ixr ops_ix (de_var (pv 0)) (de_int) (fun _ _ => rfl)) (de_str) (by rfl)) (dss_one (ds_ret (de_op opr_add ops_add (de_lst (da_cons (de_str) (da_nil))) (de_call (T.fn .stopped) hr rfl T.gl_stopped tk (da_cons (de_listRg2 rfl rfl T.m_list rfl T.m_range (de_int) (de_op opr_add ops_add (de_var (pv 2)) (de_int))) (da_nil)))))) (dss_nil)) (dss_one (ds_ret (de_op opr_add ops_add (de_op opr_add ops_add (de_call (T.fn .each) hr rfl T.gl_each tk (da_cons (de_str) (da_cons (de_listRg1 rfl rfl T.m_list rfl T.m_range (de_var (pv 2))) (da_nil)))) (de_call (T.fn .each) hr rfl T.gl_each tk (da_cons (de_str) (da_cons (de_lst (da_cons (de_var (pv 2)) (da_nil))) (da_nil))))) (de_call (T.fn .stopped) hr rfl T.gl_stopped tk (da_cons (de_listRg1 rfl rfl T.m_list rfl T.m_range (de_var (pv 2))) (da_nil)))))))))
theorem d_stopped (T : Tab P w K mg base n) {cdv : Value} {A : Around} {outer : List Env} {s : Shared} {H : Hp} {E : XK} {f : Addr} (hr1 : Room (4 * n + 3) (A.deeper (envOfC "stopped" (defScope s_stopped) s.heap.objs.size f cdv))) :
    PSs (cxOf (L2.CX P w) P w K mg base N_stopped "stopped" (defScope s_stopped) f cdv A outer s H E) (defBody s_stopped) (tS ⟨K, mg⟩ (WX0 E) (b_stopped (callF n))) := by
  have hr := hr1.mono (Nat.le_add_right (4 * n) 3)
  have tk := takes_cx (P := P) (w := w) (K := K) (mg := mg) (base := base) (N := N_stopped) (qual := "stopped") (scope := defScope s_stopped) (f := f) (cd := cdv) (A := A) (outer := outer) (s := s) (H := H) (E := E)
  exact dss_cons (ds_set (i := 1) sc_stopped.nd rfl (by first | exact Or.inl rfl | exact Or.inr rfl) (de_lst (da_nil))) (dss_cons (ds_for (tg := (.nm 2)) (passes_of rfl) rfl (di_lst (de_var (pv 0))) (pg_name (i := 2) sc_stopped.nd rfl (by first | exact Or.inl rfl | exact Or.inr rfl)) (dss_one (ds_set (i := 1) sc_stopped.nd rfl (by first | exact Or.inl rfl | exact Or.inr rfl) (de_op opr_add ops_add (de_op opr_add ops_add (de_var (pv 1)) (de_call (T.fn .each) hr rfl T.gl_each tk (da_cons (de_str) (da_cons (de_lst (da_cons (de_var (pv 2)) (da_nil))) (da_nil))))) (de_call (T.fn .each) hr rfl T.gl_each tk (da_cons (de_str) (da_cons (de_lst (da_cons (de_var (pv 2)) (da_nil))) (da_nil)))))))) (dss_one (ds_ret (de_var (pv 1)))))
theorem d_set_recipe (T : Tab P w K mg base n) {cdv : Value} {A : Around} {outer : List Env} {s : Shared} {H : Hp} {E : XK} {f : Addr} (hr1 : Room (4 * n + 3) (A.deeper (envOfC "set_recipe" (defScope s_set_recipe) s.heap.objs.size f cdv))) :
    PSs (cxOf (L2.CX P w) P w K mg base N_set_recipe "set_recipe" (defScope s_set_recipe) f cdv A outer s H E) (defBody s_set_recipe) (tS ⟨K, mg⟩ (WX0 E) (b_set_recipe (callF n))) := by
  have hr := hr1.mono (Nat.le_add_right (4 * n) 3)
  have tk := takes_cx (P := P) (w := w) (K := K) (mg := mg) (base := base) (N := N_set_recipe) (qual := "set_recipe") (scope := defScope s_set_recipe) (f := f) (cd := cdv) (A := A) (outer := outer) (s := s) (H := H) (E := E)
  exact dss_cons (ds_if (PW.pt (dw_and (dt_cmp (opr_in hr) ops_in (de_ix ixr ops_ix (de_var (pv 0)) (de_int) (fun _ _ => rfl)) (de_con rfl T.c_VERSIONED) (by rfl)) (dw_and1 (dt_cmp (opr_eq hr) ops_eq (de_ix ixr ops_ix (de_var (pv 1)) (de_int) (fun _ _ => rfl)) (de_str) (by rfl))))) (dss_one (ds_ret (de_op opr_add ops_add (de_lst (da_cons (de_str) (da_nil))) (de_call (T.fn .stopped) hr rfl T.gl_stopped tk (da_cons (de_listRg2 rfl rfl T.m_list rfl T.m_range (de_int) (de_op opr_add ops_add (de_var (pv 2)) (de_int))) (da_nil)))))) (dss_nil)) (dss_cons (ds_set (i := 3) sc_set_recipe.nd rfl (by first | exact Or.inl rfl | exact Or.inr rfl) (de_op op_rep ops_mulL (de_lst (da_cons (de_str) (da_nil))) (de_callTy call_int1 calls_int rfl T.m_int boot_int (da_cons (de_cmp (opr_in hr) ops_in (de_ix ixr ops_ix (de_var (pv 0)) (de_int) (fun _ _ => rfl)) (de_con rfl T.c_VERSIONED) (by rfl)) (da_nil))))) (dss_one (ds_ret (de_op opr_add ops_add (de_op opr_add ops_add (de_op opr_add ops_add (de_call (T.fn .each) hr rfl T.gl_each tk (da_cons (de_str) (da_cons (de_listRg1 rfl rfl T.m_list rfl T.m_range (de_op opr_add ops_add (de_var (pv 2)) (de_int))) (da_nil)))) (de_call (T.fn .each) hr rfl T.gl_each tk (da_cons (de_str) (da_cons (de_listRg2 rfl rfl T.m_list rfl T.m_range (de_int) (de_op opr_add ops_add (de_var (pv 2)) (de_int))) (da_nil))))) (de_var (pv 3))) (de_lst (da_cons (de_str) (da_nil)))))))
theorem d_behind (T : Tab P w K mg base n) {cdv : Value} {A : Around} {outer : List Env} {s : Shared} {H : Hp} {E : XK} {f : Addr} (hr1 : Room (4 * n + 3) (A.deeper (envOfC "behind" (defScope s_behind) s.heap.objs.size f cdv))) :
    PSs (cxOf (L2.CX P w) P w K mg base N_behind "behind" (defScope s_behind) f cdv A outer s H E) (defBody s_behind) (tS ⟨K, mg⟩ (WX0 E) (b_behind (callF n))) := by
  have hr := hr1.mono (Nat.le_add_right (4 * n) 3)
  have tk := takes_cx (P := P) (w := w) (K := K) (mg := mg) (base := base) (N := N_behind) (qual := "behind") (scope := defScope s_behind) (f := f) (cd := cdv) (A := A) (outer := outer) (s := s) (H := H) (E := E)
  exact dss_cons (ds_expr (de_call (T.fn .need_both) hr rfl T.gl_need_both tk (da_cons (de_var (pv 0)) (da_cons (de_var (pv 1)) (da_nil))))) (dss_cons (ds_if (dt_not (dt_val (de_call (T.fn .is_in) hr rfl T.gl_is_in tk (da_cons (de_var (pv 2)) (da_cons (de_int) (da_cons (de_con rfl T.c_MOST_BEHIND) (da_nil))))))) (dss_one (ds_raise0 rfl tk T.ex0_BadNumber rfl T.gle_BadNumber)) (dss_nil)) (dss_cons (ds_if (dt_val (de_call (T.fn .rest_holds) hr rfl T.gl_rest_holds tk (da_cons (de_var (pv 0)) (da_cons (de_var (pv 1)) (da_nil))))) (dss_one (ds_raise0 rfl tk T.ex0_NotBroken rfl T.gle_NotBroken)) (dss_nil)) (dss_cons (ds_if (dt_cmp (opr_in hr) ops_in (de_ix ixr ops_ix (de_var (pv 0)) (de_int) (fun _ _ => rfl)) (de_con rfl T.c_DROPS_LAST) (by rfl)) (dss_one (ds_set (i := 3) sc_behind.nd rfl (by first | exact Or.inl rfl | exact Or.inr rfl) (de_call (T.fn .late_recipe) hr rfl T.gl_late_recipe tk (da_cons (de_var (pv 0)) (da_cons (de_var (pv 1)) (da_cons (de_var (pv 2)) (da_nil))))))) (dss_one (ds_if (dt_cmp (opr_eq hr) ops_eq (de_ix ixr ops_ix (de_var (pv 0)) (de_int) (fun _ _ => rfl)) (de_str) (by rfl)) (dss_one (ds_set (i := 3) sc_behind.nd rfl (by first | exact Or.inl rfl | exact Or.inr rfl) (de_call (T.fn .set_recipe) hr rfl T.gl_set_recipe tk (da_cons (de_var (pv 0)) (da_cons (de_var (pv 1)) (da_cons (de_var (pv 2)) (da_nil))))))) (dss_one (ds_if (dt_cmp (opr_eq hr) ops_eq (de_ix ixr ops_ix (de_var (pv 0)) (de_int) (fun _ _ => rfl)) (de_str) (by rfl)) (dss_one (ds_set (i := 3) sc_behind.nd rfl (by first | exact Or.inl rfl | exact Or.inr rfl) (de_op opr_add ops_add (de_lst (da_cons (de_str) (da_nil))) (de_call (T.fn .each) hr rfl T.gl_each tk (da_cons (de_str) (da_cons (de_listRg2 rfl rfl T.m_list rfl T.m_range (de_int) (de_op opr_add ops_add (de_var (pv 2)) (de_int))) (da_nil))))))) (dss_one (ds_set (i := 3) sc_behind.nd rfl (by first | exact Or.inl rfl | exact Or.inr rfl) (de_op opr_add ops_add (de_op opr_add ops_add (de_call (T.fn .each) hr rfl T.gl_each tk (da_cons (de_str) (da_cons (de_listRg1 rfl rfl T.m_list rfl T.m_range (de_var (pv 2))) (da_nil)))) (de_call (T.fn .each) hr rfl T.gl_each tk (da_cons (de_str) (da_cons (de_lst (da_cons (de_var (pv 2)) (da_nil))) (da_nil))))) (de_call (T.fn .each) hr rfl T.gl_each tk (da_cons (de_str) (da_cons (de_listRg1 rfl rfl T.m_list rfl T.m_range (de_var (pv 2))) (da_nil)))))))))))) (dss_one (ds_ret (de_callTy call_tuple_of calls_tuple rfl T.m_tuple boot_tuple (da_cons (de_call (T.fn .events_of) hr rfl T.gl_events_of tk (da_cons (de_var (pv 0)) (da_cons (de_var (pv 1)) (da_cons (de_bm PySem.F.plainAttrs_str PySem.F.slot_str_join PySem.F.type_str_join mt_join mts_join rc_str (de_str) (da_cons (de_var (pv 3)) (da_nil))) (da_nil))))) (da_nil))))))))
theorem d_l_taken (T : Tab P w K mg base n) {cdv : Value} {A : Around} {outer : List Env} {s : Shared} {H : Hp} {E : XK} {f : Addr} (hr1 : Room (4 * n + 3) (A.deeper (envOfC "_law_taken" (defScope s_l_taken) s.heap.objs.size f cdv))) :
    PSs (cxOf (L2.CX P w) P w K mg base N_l_taken "_law_taken" (defScope s_l_taken) f cdv A outer s H E) (defBody s_l_taken) (tS ⟨K, mg⟩ (WX0 E) (b_l_taken (callF n))) := by
  have hr := hr1.mono (Nat.le_add_right (4 * n) 3)
  have tk := takes_cx (P := P) (w := w) (K := K) (mg := mg) (base := base) (N := N_l_taken) (qual := "_law_taken") (scope := defScope s_l_taken) (f := f) (cd := cdv) (A := A) (outer := outer) (s := s) (H := H) (E := E)
  exact dss_cons (ds_if (dt_cmp op_gt ops_gt (de_ix ixr ops_ix (de_var (pv 0)) (de_int) (fun _ _ => rfl)) (de_int) (by rfl)) (dss_cons (ds_set (i := 3) sc_l_taken.nd rfl (by first | exact Or.inl rfl | exact Or.inr rfl) (de_op op_mod ops_mod (de_callTy call_int1 calls_int rfl T.m_int boot_int (da_cons (de_ix ixr ops_ix (de_var (pv 0)) (de_int) (fun _ _ => rfl)) (da_nil))) (de_var (pv 1)))) (dss_cons (ds_lset (by intro _; rfl) (de_var (pv 0)) (de_int) (de_op op_fdiv ops_div (de_ix ixr ops_ix (de_var (pv 0)) (de_int) (fun _ _ => rfl)) (de_var (pv 1)))) (dss_one (ds_ret (de_var (pv 3)))))) (dss_nil)) (dss_cons (ds_lset (by intro _; rfl) (de_var (pv 0)) (de_int) (de_op opr_add ops_add (de_ix ixr ops_ix (de_var (pv 0)) (de_int) (fun _ _ => rfl)) (de_int))) (dss_cons (ds_if (dt_cmp op_gt ops_gt (de_ix ixr ops_ix (de_var (pv 0)) (de_int) (fun _ _ => rfl)) (de_callB callr_len calls_len rfl T.m_len boot_len (da_cons (de_ix ixr ops_ix (de_var (pv 0)) (de_int) (fun _ _ => rfl)) (da_nil))) (by rfl)) (dss_cons (ds_lset (by intro _; rfl) (de_var (pv 0)) (de_int) (de_op op_mod ops_mod (de_callTy call_int1 calls_int rfl T.m_int boot_int (da_cons (de_op opr_add ops_add (de_op op_mul ops_mul (de_ix ixr ops_ix (de_var (pv 0)) (de_int) (fun _ _ => rfl)) (de_int)) (de_int)) (da_nil))) (de_int))) (dss_one (ds_ret (de_op op_mod ops_mod (de_callTy call_int1 calls_int rfl T.m_int boot_int (da_cons (de_op op_fdiv ops_div (de_ix ixr ops_ix (de_var (pv 0)) (de_int) (fun _ _ => rfl)) (de_int)) (da_nil))) (de_var (pv 1)))))) (dss_nil)) (dss_cons (ds_set (i := 2) sc_l_taken.nd rfl (by first | exact Or.inl rfl | exact Or.inr rfl) (de_ix ixr ops_ix (de_ix ixr ops_ix (de_var (pv 0)) (de_int) (fun _ _ => rfl)) (de_op op_sub ops_sub (de_ix ixr ops_ix (de_var (pv 0)) (de_int) (fun _ _ => rfl)) (de_int)) (fun _ _ => rfl))) (dss_cons (ds_lset (by intro _; rfl) (de_var (pv 0)) (de_int) (de_op op_mod ops_mod (de_callTy call_int1 calls_int rfl T.m_int boot_int (da_cons (de_op opr_add ops_add (de_op opr_add ops_add (de_op op_mul ops_mul (de_ix ixr ops_ix (de_var (pv 0)) (de_int) (fun _ _ => rfl)) (de_int)) (de_var (pv 2))) (de_int)) (da_nil))) (de_int))) (dss_cons (ds_if (dt_cmp op_ge ops_ge (de_var (pv 2)) (de_op op_pow ops_pow (de_int) (de_int)) (by rfl)) (dss_one (ds_lset (by intro _; rfl) (de_var (pv 0)) (de_int) (de_op op_fdiv ops_div (de_var (pv 2)) (de_var (pv 1))))) (dss_nil)) (dss_one (ds_ret (de_op op_mod ops_mod (de_callTy call_int1 calls_int rfl T.m_int boot_int (da_cons (de_var (pv 2)) (da_nil))) (de_var (pv 1))))))))))
theorem d_l_pick (T : Tab P w K mg base n) {cdv : Value} {A : Around} {outer : List Env} {s : Shared} {H : Hp} {E : XK} {f : Addr} (hr1 : Room (4 * n + 3) (A.deeper (envOfC "_law_pick" (defScope s_l_pick) s.heap.objs.size f cdv))) :
    PSs (cxOf (L2.CX P w) P w K mg base N_l_pick "_law_pick" (defScope s_l_pick) f cdv A outer s H E) (defBody s_l_pick) (tS ⟨K, mg⟩ (WX0 E) (b_l_pick (callF n))) := by
  have hr := hr1.mono (Nat.le_add_right (4 * n) 3)
  have tk := takes_cx (P := P) (w := w) (K := K) (mg := mg) (base := base) (N := N_l_pick) (qual := "_law_pick") (scope := defScope s_l_pick) (f := f) (cd := cdv) (A := A) (outer := outer) (s := s) (H := H) (E := E)
  exact dss_one (ds_ret (de_ix ixr ops_ix (de_var (pv 1)) (de_call (T.fn .l_taken) hr rfl T.gl_l_taken tk (da_cons (de_var (pv 0)) (da_cons (de_callB callr_len calls_len rfl T.m_len boot_len (da_cons (de_var (pv 1)) (da_nil))) (da_nil)))) (fun _ _ => rfl)))
theorem d_l_paths (T : Tab P w K mg base n) {cdv : Value} {A : Around} {outer : List Env} {s : Shared} {H : Hp} {E : XK} {f : Addr} (hr1 : Room (4 * n + 3) (A.deeper (envOfC "_law_paths" (defScope s_l_paths) s.heap.objs.size f cdv))) :
    PSs (cxOf (L2.CX P w) P w K mg base N_l_paths "_law_paths" (defScope s_l_paths) f cdv A outer s H E) (defBody s_l_paths) (tS ⟨K, mg⟩ (WX0 E) (b_l_paths (callF n))) := by
  have hr := hr1.mono (Nat.le_add_right (4 * n) 3)
  have tk := takes_cx (P := P) (w := w) (K := K) (mg := mg) (base := base) (N := N_l_paths) (qual := "_law_paths") (scope := defScope s_l_paths) (f := f) (cd := cdv) (A := A) (outer := outer) (s := s) (H := H) (E := E)
  exact dss_one (ds_ret (de_lst (da_cons (de_str) (da_cons (de_str) (da_cons (de_str) (da_cons (de_str) (da_cons (de_str) (da_nil))))))))
theorem d_l_begin (T : Tab P w K mg base n) {cdv : Value} {A : Around} {outer : List Env} {s : Shared} {H : Hp} {E : XK} {f : Addr} (hr1 : Room (4 * n + 3) (A.deeper (envOfC "_law_begin" (defScope s_l_begin) s.heap.objs.size f cdv))) :
    PSs (cxOf (L2.CX P w) P w K mg base N_l_begin "_law_begin" (defScope s_l_begin) f cdv A outer s H E) (defBody s_l_begin) (tS ⟨K, mg⟩ (WX0 E) (b_l_begin (callF n))) := by
  have hr := hr1.mono (Nat.le_add_right (4 * n) 3)
  have tk := takes_cx (P := P) (w := w) (K := K) (mg := mg) (base := base) (N := N_l_begin) (qual := "_law_begin") (scope := defScope s_l_begin) (f := f) (cd := cdv) (A := A) (outer := outer) (s := s) (H := H) (E := E)
  exact dss_one (ds_ret (de_newD (dp_cons (de_str) (de_var (pv 0)) (dp_cons (de_str) (de_var (pv 1)) (dp_cons (de_str) (de_int) (dp_cons (de_str) (de_int) (dp_cons (de_str) (de_non) (dp_cons (de_str) (de_int) (dp_cons (de_str) (de_non) (dp_cons (de_str) (de_newL (da_nil)) (dp_cons (de_str) (de_newL (da_nil)) (dp_nil))))))))))))
theorem d_l_going (T : Tab P w K mg base n) {cdv : Value} {A : Around} {outer : List Env} {s : Shared} {H : Hp} {E : XK} {f : Addr} (hr1 : Room (4 * n + 3) (A.deeper (envOfC "_law_going" (defScope s_l_going) s.heap.objs.size f cdv))) :
    PSs (cxOf (L2.CX P w) P w K mg base N_l_going "_law_going" (defScope s_l_going) f cdv A outer s H E) (defBody s_l_going) (tS ⟨K, mg⟩ (WX0 E) (b_l_going (callF n))) := by
  have hr := hr1.mono (Nat.le_add_right (4 * n) 3)
  have tk := takes_cx (P := P) (w := w) (K := K) (mg := mg) (base := base) (N := N_l_going) (qual := "_law_going") (scope := defScope s_l_going) (f := f) (cd := cdv) (A := A) (outer := outer) (s := s) (H := H) (E := E)
  exact dss_one (ds_ret (de_lcH (tg := (.nm 1)) (own := [("_law_one", 1)]) rfl sc_l_going.nd (de_dget hr (de_var (pv 0)) (de_str) (fun _ _ => rfl)) (blkOk_by (N := N_l_going) (sc := defScope s_l_going) (own := [("_law_one", 1)]) (by decide +kernel)) (by decide) (fun _ _ _ _ _ => pg_name (i := 1) sc_l_going.nd rfl (by first | exact Or.inl rfl | exact Or.inr rfl)) (fun _ _ _ _ _ => dt_cond (dt_cmp (opr_ni hr) ops_ni (de_dget hr (de_var (pv 1)) (de_str) (fun _ _ => rfl)) (de_lst (da_cons (de_str) (da_cons (de_str) (da_nil)))) (by rfl))) (fun _ _ _ _ _ => de_var (pv 1))))
theorem d_l_next (T : Tab P w K mg base n) {cdv : Value} {A : Around} {outer : List Env} {s : Shared} {H : Hp} {E : XK} {f : Addr} (hr1 : Room (4 * n + 3) (A.deeper (envOfC "_law_next" (defScope s_l_next) s.heap.objs.size f cdv))) :
    PSs (cxOf (L2.CX P w) P w K mg base N_l_next "_law_next" (defScope s_l_next) f cdv A outer s H E) (defBody s_l_next) (tS ⟨K, mg⟩ (WX0 E) (b_l_next (callF n))) := by
  have hr := hr1.mono (Nat.le_add_right (4 * n) 3)
  have tk := takes_cx (P := P) (w := w) (K := K) (mg := mg) (base := base) (N := N_l_next) (qual := "_law_next") (scope := defScope s_l_next) (f := f) (cd := cdv) (A := A) (outer := outer) (s := s) (H := H) (E := E)
  exact dss_cons (ds_if (dt_cmp (opr_ne hr) ops_ne (de_dget hr (de_var (pv 1)) (de_str) (fun _ _ => rfl)) (de_str) (by rfl)) (dss_one (ds_ret (de_dget hr (de_var (pv 1)) (de_str) (fun _ _ => rfl)))) (dss_nil)) (dss_one (ds_ret (de_if (dt_cmp (opr_eq hr) ops_eq (de_dget hr (de_ix ixr ops_ix (de_dget hr (de_var (pv 0)) (de_str) (fun _ _ => rfl)) (de_dget hr (de_var (pv 1)) (de_str) (fun _ _ => rfl)) (fun _ _ => rfl)) (de_str) (fun _ _ => rfl)) (de_str) (by rfl)) (de_str) (de_non))))
theorem d_l_events (T : Tab P w K mg base n) {cdv : Value} {A : Around} {outer : List Env} {s : Shared} {H : Hp} {E : XK} {f : Addr} (hr1 : Room (4 * n + 3) (A.deeper (envOfC "_law_events" (defScope s_l_events) s.heap.objs.size f cdv))) :
    PSs (cxOf (L2.CX P w) P w K mg base N_l_events "_law_events" (defScope s_l_events) f cdv A outer s H E) (defBody s_l_events) (tS ⟨K, mg⟩ (WX0 E) (b_l_events (callF n))) := by
  have hr := hr1.mono (Nat.le_add_right (4 * n) 3)
  have tk := takes_cx (P := P) (w := w) (K := K) (mg := mg) (base := base) (N := N_l_events) (qual := "_law_events") (scope := defScope s_l_events) (f := f) (cd := cdv) (A := A) (outer := outer) (s := s) (H := H) (E := E)
  exact dss_cons (ds_par rfl sc_l_events.nd (i := 2) (j := 3) rfl rfl (by decide) (ps_par (i := 2) (j := 3) rfl sc_l_events.nd rfl rfl (by decide) rfl rfl (da_cons (de_callB callr_len calls_len rfl T.m_len boot_len (da_cons (de_dget hr (de_var (pv 0)) (de_str) (fun _ _ => rfl)) (da_nil))) (da_cons (de_call (T.fn .l_going) hr rfl T.gl_l_going tk (da_cons (de_var (pv 0)) (da_nil))) (da_nil))) rfl)) (dss_cons (ds_set (i := 1) sc_l_events.nd rfl (by first | exact Or.inl rfl | exact Or.inr rfl) (de_newL (da_cons (de_tup (da_cons (de_str) (da_cons (de_var (pv 2)) (da_nil)))) (da_cons (de_tup (da_cons (de_ix ixr ops_ix (de_split (de_ix ixr ops_ix (de_dget hr (de_var (pv 0)) (de_str) (fun _ _ => rfl)) (de_int) (fun _ _ => rfl)) (de_str)) (de_int) (fun _ _ => rfl)) (da_cons (de_var (pv 2)) (da_nil)))) (da_nil))))) (dss_cons (ds_set (i := 1) sc_l_events.nd rfl (by first | exact Or.inl rfl | exact Or.inr rfl) (de_op opr_add ops_addL (de_var (pv 1)) (de_lc (tg := (.nm 4)) (own := [("_law_one", 4)]) rfl sc_l_events.nd (di_lst (de_var (pv 3))) (blkOk_by (N := N_l_events) (sc := defScope s_l_events) (own := [("_law_one", 4)]) (by decide +kernel)) (by decide) (fun _ _ _ _ _ => pg_name (i := 4) sc_l_events.nd rfl (by first | exact Or.inl rfl | exact Or.inr rfl)) (fun _ _ _ _ _ => dt_cond (dt_cmp op_notN ops_notN (de_call (T.fn .l_next) hr rfl T.gl_l_next takes0 (da_cons (de_var (pv 0)) (da_cons (de_var (pv 4)) (da_nil)))) (de_non) (by rfl))) (fun _ _ _ _ _ => de_tup (da_cons (de_call (T.fn .l_next) hr rfl T.gl_l_next takes0 (da_cons (de_var (pv 0)) (da_cons (de_var (pv 4)) (da_nil)))) (da_cons (de_dget hr (de_var (pv 4)) (de_str) (fun _ _ => rfl)) (da_nil))))))) (dss_cons (ds_if (dt_cmp (opr_eq hr) ops_eq (de_ix ixr ops_ix (de_dget hr (de_var (pv 0)) (de_str) (fun _ _ => rfl)) (de_int) (fun _ _ => rfl)) (de_str) (by rfl)) (dss_one (ds_set (i := 1) sc_l_events.nd rfl (by first | exact Or.inl rfl | exact Or.inr rfl) (de_op opr_add ops_addL (de_var (pv 1)) (de_lc (tg := (.nm 4)) (own := [("_law_one", 4)]) rfl sc_l_events.nd (di_lst (de_var (pv 3))) (blkOk_by (N := N_l_events) (sc := defScope s_l_events) (own := [("_law_one", 4)]) (by decide +kernel)) (by decide) (fun _ _ _ _ _ => pg_name (i := 4) sc_l_events.nd rfl (by first | exact Or.inl rfl | exact Or.inr rfl)) (fun _ _ _ _ _ => dt_yes) (fun _ _ _ _ _ => de_tup (da_cons (de_str) (da_cons (de_dget hr (de_var (pv 4)) (de_str) (fun _ _ => rfl)) (da_nil)))))))) (dss_nil)) (dss_cons (ds_if (PW.pt (dw_and (dt_cmp (opr_eq hr) ops_eq (de_ix ixr ops_ix (de_dget hr (de_var (pv 0)) (de_str) (fun _ _ => rfl)) (de_int) (fun _ _ => rfl)) (de_str) (by rfl)) (dw_and1 (PW.pt (dw_or (dt_cmp op_notN ops_notN (de_dget hr (de_var (pv 0)) (de_str) (fun _ _ => rfl)) (de_non) (by rfl)) (dw_or1 (dt_cmp op_gt ops_gt (de_dget hr (de_var (pv 0)) (de_str) (fun _ _ => rfl)) (de_int) (by rfl)))))))) (dss_one (ds_expr (de_bm PySem.F.plainAttrs_list PySem.F.slot_list_append PySem.F.type_list_append mt_append mts_app rc_lst (de_var (pv 1)) (da_cons (de_tup (da_cons (de_str) (da_nil))) (da_nil))))) (dss_nil)) (dss_cons (ds_if (PW.pt (dw_and (dt_cmp (opr_eq hr) ops_eq (de_ix ixr ops_ix (de_dget hr (de_var (pv 0)) (de_str) (fun _ _ => rfl)) (de_int) (fun _ _ => rfl)) (de_str) (by rfl)) (dw_and1 (dt_cmp op_lt ops_lt (de_dget hr (de_var (pv 0)) (de_str) (fun _ _ => rfl)) (de_dget hr (de_var (pv 0)) (de_str) (fun _ _ => rfl)) (by rfl))))) (dss_one (ds_expr (de_bm PySem.F.plainAttrs_list PySem.F.slot_list_append PySem.F.type_list_append mt_append mts_app rc_lst (de_var (pv 1)) (da_cons (de_tup (da_cons (de_str) (da_nil))) (da_nil))))) (dss_nil)) (dss_one (ds_ret (de_callB (cr_sortD hr) calls_sorted rfl T.m_sorted boot_sorted (da_cons (de_var (pv 1)) (da_nil))))))))))
theorem d_l_end (T : Tab P w K mg base n) {cdv : Value} {A : Around} {outer : List Env} {s : Shared} {H : Hp} {E : XK} {f : Addr} (hr1 : Room (4 * n + 3) (A.deeper (envOfC "_law_end" (defScope s_l_end) s.heap.objs.size f cdv))) :
    PSs (cxOf (L2.CX P w) P w K mg base N_l_end "_law_end" (defScope s_l_end) f cdv A outer s H E) (defBody s_l_end) (tS ⟨K, mg⟩ (WX0 E) (b_l_end (callF n))) := by
  have hr := hr1.mono (Nat.le_add_right (4 * n) 3)
  have tk := takes_cx (P := P) (w := w) (K := K) (mg := mg) (base := base) (N := N_l_end) (qual := "_law_end") (scope := defScope s_l_end) (f := f) (cd := cdv) (A := A) (outer := outer) (s := s) (H := H) (E := E)
  exact dss_cons (ds_asg (de_tup (da_cons (de_var (pv 2)) (da_cons (de_callB callr_len calls_len rfl T.m_len boot_len (da_cons (de_dget hr (de_var (pv 0)) (de_str) (fun _ _ => rfl)) (da_nil))) (da_nil)))) (dg_tup rfl (dgs_cons (dg_dsub (W := WX0 E) hr (de_var (pv 1)) (de_str)) (dgs_cons (dg_dsub (W := WX0 E) hr (de_var (pv 1)) (de_str)) (dgs_nil))) rfl)) (dss_one (ds_if (PW.pt (dw_and (dt_cmp (opr_eq hr) ops_eq (de_var (pv 2)) (de_str) (by rfl)) (dw_and1 (dt_cmp (opr_eq hr) ops_eq (de_dget hr (de_var (pv 0)) (de_str) (fun _ _ => rfl)) (de_dget hr (de_var (pv 1)) (de_str) (fun _ _ => rfl)) (by rfl))))) (dss_one (ds_dset hr (de_var (pv 0)) (de_str) (de_non))) (dss_nil)))
theorem d_l_hold (T : Tab P w K mg base n) {cdv : Value} {A : Around} {outer : List Env} {s : Shared} {H : Hp} {E : XK} {f : Addr} (hr1 : Room (4 * n + 3) (A.deeper (envOfC "_law_hold" (defScope s_l_hold) s.heap.objs.size f cdv))) :
    PSs (cxOf (L2.CX P w) P w K mg base N_l_hold "_law_hold" (defScope s_l_hold) f cdv A outer s H E) (defBody s_l_hold) (tS ⟨K, mg⟩ (WX0 E) (b_l_hold (callF n))) := by
  have hr := hr1.mono (Nat.le_add_right (4 * n) 3)
  have tk := takes_cx (P := P) (w := w) (K := K) (mg := mg) (base := base) (N := N_l_hold) (qual := "_law_hold") (scope := defScope s_l_hold) (f := f) (cd := cdv) (A := A) (outer := outer) (s := s) (H := H) (E := E)
  exact dss_cons (ds_dset hr (de_var (pv 0)) (de_str) (de_var (pv 1))) (dss_one (ds_if (dt_cmp (opr_eq hr) ops_eq (de_ix ixr ops_ix (de_dget hr (de_var (pv 0)) (de_str) (fun _ _ => rfl)) (de_int) (fun _ _ => rfl)) (de_str) (by rfl)) (dss_one (ds_dset hr (de_var (pv 0)) (de_str) (de_callB (call_max2 rfl) calls_max2 rfl T.m_max boot_max (da_cons (de_dget hr (de_var (pv 0)) (de_str) (fun _ _ => rfl)) (da_cons (de_var (pv 1)) (da_nil)))))) (dss_nil)))
theorem d_l_newer (T : Tab P w K mg base n) {cdv : Value} {A : Around} {outer : List Env} {s : Shared} {H : Hp} {E : XK} {f : Addr} (hr1 : Room (4 * n + 3) (A.deeper (envOfC "_law_newer" (defScope s_l_newer) s.heap.objs.size f cdv))) :
    PSs (cxOf (L2.CX P w) P w K mg base N_l_newer "_law_newer" (defScope s_l_newer) f cdv A outer s H E) (defBody s_l_newer) (tS ⟨K, mg⟩ (WX0 E) (b_l_newer (callF n))) := by
  have hr := hr1.mono (Nat.le_add_right (4 * n) 3)
  have tk := takes_cx (P := P) (w := w) (K := K) (mg := mg) (base := base) (N := N_l_newer) (qual := "_law_newer") (scope := defScope s_l_newer) (f := f) (cd := cdv) (A := A) (outer := outer) (s := s) (H := H) (E := E)
  exact dss_one (ds_ret (de_or (de_cmp op_isN ops_isN (de_dget hr (de_var (pv 0)) (de_str) (fun _ _ => rfl)) (de_non) (by rfl)) (de_one (de_cmp op_lt ops_lt (de_dget hr (de_var (pv 0)) (de_str) (fun _ _ => rfl)) (de_var (pv 1)) (by rfl)))))
theorem d_l_lets (T : Tab P w K mg base n) {cdv : Value} {A : Around} {outer : List Env} {s : Shared} {H : Hp} {E : XK} {f : Addr} (hr1 : Room (4 * n + 3) (A.deeper (envOfC "_law_lets" (defScope s_l_lets) s.heap.objs.size f cdv))) :
    PSs (cxOf (L2.CX P w) P w K mg base N_l_lets "_law_lets" (defScope s_l_lets) f cdv A outer s H E) (defBody s_l_lets) (tS ⟨K, mg⟩ (WX0 E) (b_l_lets (callF n))) := by
  have hr := hr1.mono (Nat.le_add_right (4 * n) 3)
  have tk := takes_cx (P := P) (w := w) (K := K) (mg := mg) (base := base) (N := N_l_lets) (qual := "_law_lets") (scope := defScope s_l_lets) (f := f) (cd := cdv) (A := A) (outer := outer) (s := s) (H := H) (E := E)
  exact dss_cons (ds_par rfl sc_l_lets.nd (i := 2) (j := 3) rfl rfl (by decide) (ps_par (i := 2) (j := 3) rfl sc_l_lets.nd rfl rfl (by decide) rfl rfl (da_cons (de_ix ixr ops_ix (de_dget hr (de_var (pv 0)) (de_str) (fun _ _ => rfl)) (de_int) (fun _ _ => rfl)) (da_cons (de_dget hr (de_var (pv 1)) (de_str) (fun _ _ => rfl)) (da_nil))) rfl)) (dss_cons (ds_if (dt_cmp (opr_eq hr) ops_eq (de_var (pv 2)) (de_str) (by rfl)) (dss_one (ds_ret (de_dget hr (de_var (pv 1)) (de_str) (fun _ _ => rfl)))) (dss_nil)) (dss_cons (ds_if (dt_cmp (opr_eq hr) ops_eq (de_var (pv 2)) (de_str) (by rfl)) (dss_one (ds_ret (de_cmp op_ge ops_ge (de_var (pv 3)) (de_dget hr (de_var (pv 0)) (de_str) (fun _ _ => rfl)) (by rfl)))) (dss_nil)) (dss_one (ds_ret (de_or (de_cmp (opr_eq hr) ops_eq (de_var (pv 2)) (de_str) (by rfl)) (de_one (de_if (dt_cmp (opr_eq hr) ops_eq (de_var (pv 2)) (de_str) (by rfl)) (de_call (T.fn .l_newer) hr rfl T.gl_l_newer tk (da_cons (de_var (pv 0)) (da_cons (de_var (pv 3)) (da_nil)))) (de_cmp op_isN ops_isN (de_dget hr (de_var (pv 0)) (de_str) (fun _ _ => rfl)) (de_non) (by rfl)))))))))
theorem d_l_write (T : Tab P w K mg base n) {cdv : Value} {A : Around} {outer : List Env} {s : Shared} {H : Hp} {E : XK} {f : Addr} (hr1 : Room (4 * n + 3) (A.deeper (envOfC "_law_write" (defScope s_l_write) s.heap.objs.size f cdv))) :
    PSs (cxOf (L2.CX P w) P w K mg base N_l_write "_law_write" (defScope s_l_write) f cdv A outer s H E) (defBody s_l_write) (tS ⟨K, mg⟩ (WX0 E) (b_l_write (callF n))) := by
  have hr := hr1.mono (Nat.le_add_right (4 * n) 3)
  have tk := takes_cx (P := P) (w := w) (K := K) (mg := mg) (base := base) (N := N_l_write) (qual := "_law_write") (scope := defScope s_l_write) (f := f) (cd := cdv) (A := A) (outer := outer) (s := s) (H := H) (E := E)
  exact dss_cons (ds_par rfl sc_l_write.nd (i := 3) (j := 4) rfl rfl (by decide) (ps_par (i := 3) (j := 4) rfl sc_l_write.nd rfl rfl (by decide) rfl rfl (da_cons (de_split (de_ix ixr ops_ix (de_dget hr (de_var (pv 0)) (de_str) (fun _ _ => rfl)) (de_int) (fun _ _ => rfl)) (de_str)) (da_cons (de_ix ixr ops_ix (de_dget hr (de_var (pv 0)) (de_str) (fun _ _ => rfl)) (de_int) (fun _ _ => rfl)) (da_nil))) rfl)) (dss_cons (ds_if (dt_cmp (opr_eq hr) ops_eq (de_var (pv 2)) (de_str) (by rfl)) (dss_cons (ds_dset hr (de_var (pv 0)) (de_str) (de_op opr_add ops_add (de_dget hr (de_var (pv 0)) (de_str) (fun _ _ => rfl)) (de_int))) (dss_one (ds_dset hr (de_var (pv 1)) (de_str) (de_dget hr (de_var (pv 0)) (de_str) (fun _ _ => rfl))))) (dss_one (ds_forH (tg := (.nm 5)) (passes_of rfl) rfl (de_dget hr (de_var (pv 0)) (de_str) (fun _ _ => rfl)) (pg_name (i := 5) sc_l_write.nd rfl (by first | exact Or.inl rfl | exact Or.inr rfl)) (dss_one (ds_dset hr (de_var (pv 5)) (de_str) (de_bl)))))) (dss_cons (ds_if (dt_cmp (opr_eq hr) ops_eq (de_var (pv 2)) (de_str) (by rfl)) (dss_cons (ds_dset hr (de_var (pv 0)) (de_str) (de_non)) (dss_one (ds_if (PW.pt (dw_and (dt_cmp (opr_eq hr) ops_eq (de_var (pv 4)) (de_str) (by rfl)) (dw_and1 (dt_cmp op_notN ops_notN (de_dget hr (de_var (pv 1)) (de_str) (fun _ _ => rfl)) (de_non) (by rfl))))) (dss_one (ds_dset hr (de_var (pv 0)) (de_str) (de_callB (call_max2 rfl) calls_max2 rfl T.m_max boot_max (da_cons (de_dget hr (de_var (pv 0)) (de_str) (fun _ _ => rfl)) (da_cons (de_dget hr (de_var (pv 1)) (de_str) (fun _ _ => rfl)) (da_nil)))))) (dss_nil)))) (dss_nil)) (dss_cons (ds_if (dt_cmp (opr_eq hr) ops_eq (de_var (pv 2)) (de_str) (by rfl)) (dss_cons (ds_set (i := 6) sc_l_write.nd rfl (by first | exact Or.inl rfl | exact Or.inr rfl) (de_if (dt_cmp (opr_eq hr) ops_eq (de_var (pv 4)) (de_str) (by rfl)) (de_cmp op_ge ops_ge (de_dget hr (de_var (pv 1)) (de_str) (fun _ _ => rfl)) (de_dget hr (de_var (pv 0)) (de_str) (fun _ _ => rfl)) (by rfl)) (de_or (de_cmp (opr_ne hr) ops_ne (de_var (pv 4)) (de_str) (by rfl)) (de_one (de_call (T.fn .l_newer) hr rfl T.gl_l_newer tk (da_cons (de_var (pv 0)) (da_cons (de_dget hr (de_var (pv 1)) (de_str) (fun _ _ => rfl)) (da_nil)))))))) (dss_one (ds_if (dt_val (de_var (pv 6))) (dss_one (ds_expr (de_call (T.fn .l_hold) hr rfl T.gl_l_hold tk (da_cons (de_var (pv 0)) (da_cons (de_dget hr (de_var (pv 1)) (de_str) (fun _ _ => rfl)) (da_nil)))))) (dss_nil)))) (dss_nil)) (dss_cons (ds_dset hr (de_var (pv 1)) (de_str) (de_op opr_add ops_add (de_dget hr (de_var (pv 1)) (de_str) (fun _ _ => rfl)) (de_int))) (dss_one (ds_if (dt_cmp (opr_eq hr) ops_eq (de_dget hr (de_var (pv 1)) (de_str) (fun _ _ => rfl)) (de_callB callr_len calls_len rfl T.m_len boot_len (da_cons (de_var (pv 3)) (da_nil))) (by rfl)) (dss_one (ds_expr (de_call (T.fn .l_end) hr rfl T.gl_l_end tk (da_cons (de_var (pv 0)) (da_cons (de_var (pv 1)) (da_cons (de_str) (da_nil))))))) (dss_one (ds_dset hr (de_var (pv 1)) (de_str) (de_ix ixr ops_ix (de_var (pv 3)) (de_dget hr (de_var (pv 1)) (de_str) (fun _ _ => rfl)) (fun _ _ => rfl))))))))))
theorem d_l_read (T : Tab P w K mg base n) {cdv : Value} {A : Around} {outer : List Env} {s : Shared} {H : Hp} {E : XK} {f : Addr} (hr1 : Room (4 * n + 3) (A.deeper (envOfC "_law_read" (defScope s_l_read) s.heap.objs.size f cdv))) :
    PSs (cxOf (L2.CX P w) P w K mg base N_l_read "_law_read" (defScope s_l_read) f cdv A outer s H E) (defBody s_l_read) (tS ⟨K, mg⟩ (WX0 E) (b_l_read (callF n))) := by
  have hr := hr1.mono (Nat.le_add_right (4 * n) 3)
  have tk := takes_cx (P := P) (w := w) (K := K) (mg := mg) (base := base) (N := N_l_read) (qual := "_law_read") (scope := defScope s_l_read) (f := f) (cd := cdv) (A := A) (outer := outer) (s := s) (H := H) (E := E)
  exact dss_one (ds_if (PW.pt (dw_and (dt_cmp (opr_eq hr) ops_eq (de_var (pv 2)) (de_str) (by rfl)) (dw_and1 (dt_cmp op_notN ops_notN (de_dget hr (de_var (pv 0)) (de_str) (fun _ _ => rfl)) (de_non) (by rfl))))) (dss_cons (ds_dset hr (de_var (pv 1)) (de_str) (de_dget hr (de_var (pv 0)) (de_str) (fun _ _ => rfl))) (dss_one (ds_expr (de_call (T.fn .l_end) hr rfl T.gl_l_end tk (da_cons (de_var (pv 0)) (da_cons (de_var (pv 1)) (da_cons (de_str) (da_nil)))))))) (dss_one (ds_if (PW.pt (dw_and (dt_cmp (opr_eq hr) ops_eq (de_var (pv 2)) (de_str) (by rfl)) (dw_and1 (dt_cmp op_notN ops_notN (de_dget hr (de_var (pv 0)) (de_str) (fun _ _ => rfl)) (de_non) (by rfl))))) (dss_one (ds_asg (de_tup (da_cons (de_str) (da_cons (de_dget hr (de_var (pv 0)) (de_str) (fun _ _ => rfl)) (da_nil)))) (dg_tup rfl (dgs_cons (dg_dsub (W := WX0 E) hr (de_var (pv 1)) (de_str)) (dgs_cons (dg_dsub (W := WX0 E) hr (de_var (pv 1)) (de_str)) (dgs_nil))) rfl))) (dss_one (ds_if (dt_cmp (opr_eq hr) ops_eq (de_var (pv 2)) (de_str) (by rfl)) (dss_cons (ds_dset hr (de_var (pv 1)) (de_str) (de_str)) (dss_one (ds_dset hr (de_var (pv 0)) (de_str) (de_if (dt_cmp (opr_eq hr) ops_eq (de_ix ixr ops_ix (de_dget hr (de_var (pv 0)) (de_str) (fun _ _ => rfl)) (de_int) (fun _ _ => rfl)) (de_str) (by rfl)) (de_dget hr (de_var (pv 1)) (de_str) (fun _ _ => rfl)) (de_non))))) (dss_one (ds_if (dt_cmp (opr_eq hr) ops_eq (de_var (pv 2)) (de_str) (by rfl)) (dss_cons (ds_dset hr (de_var (pv 1)) (de_str) (de_if (dt_cmp (opr_eq hr) ops_eq (de_ix ixr ops_ix (de_dget hr (de_var (pv 0)) (de_str) (fun _ _ => rfl)) (de_int) (fun _ _ => rfl)) (de_str) (by rfl)) (de_dget hr (de_var (pv 0)) (de_str) (fun _ _ => rfl)) (de_dget hr (de_var (pv 0)) (de_str) (fun _ _ => rfl)))) (dss_cons (ds_dset hr (de_var (pv 1)) (de_str) (de_str)) (dss_one (ds_if (dt_cmp (opr_eq hr) ops_eq (de_ix ixr ops_ix (de_dget hr (de_var (pv 0)) (de_str) (fun _ _ => rfl)) (de_int) (fun _ _ => rfl)) (de_str) (by rfl)) (dss_one (ds_expr (de_call (T.fn .l_end) hr rfl T.gl_l_end tk (da_cons (de_var (pv 0)) (da_cons (de_var (pv 1)) (da_cons (de_str) (da_nil))))))) (dss_nil))))) (dss_one (ds_if (dt_cmp (opr_eq hr) ops_eq (de_var (pv 2)) (de_str) (by rfl)) (dss_cons (ds_dset hr (de_var (pv 1)) (de_str) (de_dget hr (de_ix ixr ops_ix (de_dget hr (de_var (pv 0)) (de_str) (fun _ _ => rfl)) (de_dget hr (de_var (pv 1)) (de_str) (fun _ _ => rfl)) (fun _ _ => rfl)) (de_str) (fun _ _ => rfl))) (dss_one (ds_expr (de_call (T.fn .l_end) hr rfl T.gl_l_end tk (da_cons (de_var (pv 0)) (da_cons (de_var (pv 1)) (da_cons (de_str) (da_nil)))))))) (dss_cons (ds_if (dt_val (de_call (T.fn .l_lets) hr rfl T.gl_l_lets tk (da_cons (de_var (pv 0)) (da_cons (de_var (pv 1)) (da_nil))))) (dss_one (ds_expr (de_call (T.fn .l_hold) hr rfl T.gl_l_hold tk (da_cons (de_var (pv 0)) (da_cons (de_dget hr (de_var (pv 1)) (de_str) (fun _ _ => rfl)) (da_nil)))))) (dss_nil)) (dss_one (ds_expr (de_call (T.fn .l_end) hr rfl T.gl_l_end tk (da_cons (de_var (pv 0)) (da_cons (de_var (pv 1)) (da_cons (de_str) (da_nil)))))))))))))))))
theorem d_l_do (T : Tab P w K mg base n) {cdv : Value} {A : Around} {outer : List Env} {s : Shared} {H : Hp} {E : XK} {f : Addr} (hr1 : Room (4 * n + 3) (A.deeper (envOfC "_law_do" (defScope s_l_do) s.heap.objs.size f cdv))) :
    PSs (cxOf (L2.CX P w) P w K mg base N_l_do "_law_do" (defScope s_l_do) f cdv A outer s H E) (defBody s_l_do) (tS ⟨K, mg⟩ (WX0 E) (b_l_do (callF n))) := by
  have hr := hr1.mono (Nat.le_add_right (4 * n) 3)
  have tk := takes_cx (P := P) (w := w) (K := K) (mg := mg) (base := base) (N := N_l_do) (qual := "_law_do") (scope := defScope s_l_do) (f := f) (cd := cdv) (A := A) (outer := outer) (s := s) (H := H) (E := E)
  exact dss_cons (ds_if (dt_cmp (opr_eq hr) ops_eq (de_var (pv 1)) (de_tup (da_cons (de_str) (da_nil))) (by rfl)) (dss_one (ds_asg (de_tup (da_cons (de_non) (da_cons (de_int) (da_nil)))) (dg_tup rfl (dgs_cons (dg_dsub (W := WX0 E) hr (de_var (pv 0)) (de_str)) (dgs_cons (dg_dsub (W := WX0 E) hr (de_var (pv 0)) (de_str)) (dgs_nil))) rfl))) (dss_one (ds_if (dt_cmp (opr_eq hr) ops_eq (de_var (pv 1)) (de_tup (da_cons (de_str) (da_nil))) (by rfl)) (dss_one (ds_dset hr (de_var (pv 0)) (de_str) (de_op opr_add ops_add (de_dget hr (de_var (pv 0)) (de_str) (fun _ _ => rfl)) (de_int)))) (dss_cons (ds_asg (de_var (pv 1)) (dg_tup rfl (dgs_cons (dg_name (pg_name (i := 3) sc_l_do.nd rfl (by first | exact Or.inl rfl | exact Or.inr rfl))) (dgs_cons (dg_name (pg_name (i := 4) sc_l_do.nd rfl (by first | exact Or.inl rfl | exact Or.inr rfl))) (dgs_nil))) rfl)) (dss_cons (ds_if (dt_cmp (opr_eq hr) ops_eq (de_var (pv 4)) (de_callB callr_len calls_len rfl T.m_len boot_len (da_cons (de_dget hr (de_var (pv 0)) (de_str) (fun _ _ => rfl)) (da_nil))) (by rfl)) (dss_cons (ds_set (i := 5) sc_l_do.nd rfl (by first | exact Or.inl rfl | exact Or.inr rfl) (de_if (dt_cmp (opr_eq hr) ops_eq (de_var (pv 3)) (de_str) (by rfl)) (de_str) (de_str))) (dss_cons (ds_set (i := 2) sc_l_do.nd rfl (by first | exact Or.inl rfl | exact Or.inr rfl) (de_dic (dp_cons (de_str) (de_var (pv 4)) (dp_cons (de_str) (de_var (pv 5)) (dp_cons (de_str) (de_var (pv 3)) (dp_cons (de_str) (de_non) (dp_cons (de_str) (de_callB callr_len calls_len rfl T.m_len boot_len (da_cons (de_dget hr (de_var (pv 0)) (de_str) (fun _ _ => rfl)) (da_nil))) (dp_cons (de_str) (de_non) (dp_nil))))))))) (dss_one (ds_expr (de_bm PySem.F.plainAttrs_list PySem.F.slot_list_append PySem.F.type_list_append mt_append mts_app rc_lst (de_dget hr (de_var (pv 0)) (de_str) (fun _ _ => rfl)) (da_cons (de_callTy (call_dictP rfl) calls_dict rfl T.m_dict boot_dict (da_cons (de_op opr_add ops_add (de_listItems rfl (de_var (pv 2)) rfl T.m_list boot_list) (de_lst (da_cons (de_tup (da_cons (de_str) (da_cons (de_int) (da_nil)))) (da_cons (de_tup (da_cons (de_str) (da_cons (de_bl) (da_nil)))) (da_cons (de_tup (da_cons (de_str) (da_cons (de_non) (da_nil)))) (da_nil)))))) (da_nil))) (da_nil))))))) (dss_nil)) (dss_cons (ds_set (i := 2) sc_l_do.nd rfl (by first | exact Or.inl rfl | exact Or.inr rfl) (de_ix ixr ops_ix (de_dget hr (de_var (pv 0)) (de_str) (fun _ _ => rfl)) (de_var (pv 4)) (fun _ _ => rfl))) (dss_one (ds_if (dt_cmp (opr_eq hr) ops_eq (de_var (pv 3)) (de_str) (by rfl)) (dss_one (ds_expr (de_call (T.fn .l_end) hr rfl T.gl_l_end tk (da_cons (de_var (pv 0)) (da_cons (de_var (pv 2)) (da_cons (de_str) (da_nil))))))) (dss_one (ds_if (dt_cmp (opr_eq hr) ops_eq (de_dget hr (de_var (pv 2)) (de_str) (fun _ _ => rfl)) (de_str) (by rfl)) (dss_one (ds_expr (de_call (T.fn .l_write) hr rfl T.gl_l_write tk (da_cons (de_var (pv 0)) (da_cons (de_var (pv 2)) (da_cons (de_var (pv 3)) (da_nil))))))) (dss_one (ds_expr (de_call (T.fn .l_read) hr rfl T.gl_l_read tk (da_cons (de_var (pv 0)) (da_cons (de_var (pv 2)) (da_cons (de_var (pv 3)) (da_nil))))))))))))))))) (dss_one (ds_expr (de_bm PySem.F.plainAttrs_list PySem.F.slot_list_append PySem.F.type_list_append mt_append mts_app rc_lst (de_dget hr (de_var (pv 0)) (de_str) (fun _ _ => rfl)) (da_cons (de_var (pv 1)) (da_nil)))))
theorem d_l_holds (T : Tab P w K mg base n) {cdv : Value} {A : Around} {outer : List Env} {s : Shared} {H : Hp} {E : XK} {f : Addr} (hr1 : Room (4 * n + 3) (A.deeper (envOfC "_law_holds" (defScope s_l_holds) s.heap.objs.size f cdv))) :
    PSs (cxOf (L2.CX P w) P w K mg base N_l_holds "_law_holds" (defScope s_l_holds) f cdv A outer s H E) (defBody s_l_holds) (tS ⟨K, mg⟩ (WX0 E) (b_l_holds (callF n))) := by
  have hr := hr1.mono (Nat.le_add_right (4 * n) 3)
  have tk := takes_cx (P := P) (w := w) (K := K) (mg := mg) (base := base) (N := N_l_holds) (qual := "_law_holds") (scope := defScope s_l_holds) (f := f) (cd := cdv) (A := A) (outer := outer) (s := s) (H := H) (E := E)
  exact dss_cons (ds_asg (de_var (pv 0)) (dg_tup rfl (dgs_cons (dg_name (pg_name (i := 12) sc_l_holds.nd rfl (by first | exact Or.inl rfl | exact Or.inr rfl))) (dgs_cons (dg_name (pg_name (i := 13) sc_l_holds.nd rfl (by first | exact Or.inl rfl | exact Or.inr rfl))) (dgs_cons (dg_name (pg_name (i := 14) sc_l_holds.nd rfl (by first | exact Or.inl rfl | exact Or.inr rfl))) (dgs_nil)))) rfl)) (dss_cons (ds_set (i := 3) sc_l_holds.nd rfl (by first | exact Or.inl rfl | exact Or.inr rfl) (de_and (de_cmp (opr_eq hr) ops_eq (de_var (pv 13)) (de_str) (by rfl)) (de_one (de_cmp (opr_ne hr) ops_ne (de_var (pv 12)) (de_str) (by rfl))))) (dss_cons (ds_set (i := 4) sc_l_holds.nd rfl (by first | exact Or.inl rfl | exact Or.inr rfl) (de_and (de_cmp (opr_eq hr) ops_eq (de_var (pv 12)) (de_str) (by rfl)) (de_and (de_cmp (opr_in hr) ops_in (de_var (pv 13)) (de_lst (da_cons (de_str) (da_cons (de_str) (da_nil)))) (by rfl)) (de_one (de_cmp (opr_eq hr) ops_eq (de_ix ixr ops_ix (de_var (pv 1)) (de_int) (fun _ _ => rfl)) (de_str) (by rfl)))))) (dss_cons (ds_set (i := 5) sc_l_holds.nd rfl (by first | exact Or.inl rfl | exact Or.inr rfl) (de_and (de_bm PySem.F.plainAttrs_str PySem.F.slot_str_endswith PySem.F.type_str_endswith mt_endswith mts_ends rc_str (de_var (pv 12)) (da_cons (de_str) (da_nil))) (de_one (de_or (de_cmp (opr_eq hr) ops_eq (de_var (pv 13)) (de_str) (by rfl)) (de_one (de_and (de_cmp (opr_eq hr) ops_eq (de_var (pv 13)) (de_str) (by rfl)) (de_one (de_cmp (opr_eq hr) ops_eq (de_ix ixr ops_ix (de_var (pv 1)) (de_int) (fun _ _ => rfl)) (de_str) (by rfl))))))))) (dss_cons (ds_set (i := 6) sc_l_holds.nd rfl (by first | exact Or.inl rfl | exact Or.inr rfl) (de_or (de_var (pv 4)) (de_one (de_and (de_cmp (opr_eq hr) ops_eq (de_ix ixr ops_ix (de_var (pv 1)) (de_int) (fun _ _ => rfl)) (de_str) (by rfl)) (de_one (de_or (de_var (pv 3)) (de_one (de_and (de_var (pv 5)) (de_one (de_cmp (opr_eq hr) ops_eq (de_var (pv 14)) (de_str) (by rfl))))))))))) (dss_cons (ds_set (i := 7) sc_l_holds.nd rfl (by first | exact Or.inl rfl | exact Or.inr rfl) (de_or (de_cmp (opr_eq hr) ops_eq (de_var (pv 13)) (de_str) (by rfl)) (de_one (de_and (de_cmp (opr_eq hr) ops_eq (de_var (pv 13)) (de_str) (by rfl)) (de_one (de_cmp (opr_in hr) ops_in (de_var (pv 12)) (de_lst (da_cons (de_str) (da_cons (de_str) (da_nil)))) (by rfl))))))) (dss_cons (ds_set (i := 8) sc_l_holds.nd rfl (by first | exact Or.inl rfl | exact Or.inr rfl) (de_or (de_var (pv 3)) (de_or (de_and (de_cmp (opr_eq hr) ops_eq (de_var (pv 14)) (de_str) (by rfl)) (de_one (de_cmp (opr_ne hr) ops_ne (de_var (pv 12)) (de_str) (by rfl)))) (de_one (de_and (de_cmp (opr_eq hr) ops_eq (de_ix ixr ops_ix (de_var (pv 1)) (de_int) (fun _ _ => rfl)) (de_str) (by rfl)) (de_one (de_var (pv 7)))))))) (dss_cons (ds_set (i := 9) sc_l_holds.nd rfl (by first | exact Or.inl rfl | exact Or.inr rfl) (de_and (de_cmp (opr_eq hr) ops_eq (de_var (pv 13)) (de_str) (by rfl)) (de_one (de_cmp (opr_eq hr) ops_eq (de_ix ixr ops_ix (de_var (pv 1)) (de_int) (fun _ _ => rfl)) (de_str) (by rfl))))) (dss_cons (ds_set (i := 10) sc_l_holds.nd rfl (by first | exact Or.inl rfl | exact Or.inr rfl) (de_cmp (opr_eq hr) ops_eq (de_ix ixr ops_ix (de_var (pv 1)) (de_int) (fun _ _ => rfl)) (de_str) (by rfl))) (dss_cons (ds_set (i := 11) sc_l_holds.nd rfl (by first | exact Or.inl rfl | exact Or.inr rfl) (de_newD (dp_cons (de_str) (de_or (de_cmp (opr_eq hr) ops_eq (de_var (pv 14)) (de_str) (by rfl)) (de_one (de_var (pv 10)))) (dp_cons (de_str) (de_var (pv 6)) (dp_cons (de_str) (de_var (pv 8)) (dp_cons (de_str) (de_and (de_var (pv 6)) (de_one (de_var (pv 8)))) (dp_nil))))))) (dss_cons (ds_dset hr (de_var (pv 11)) (de_str) (de_and (de_cmp (opr_ne hr) ops_ne (de_var (pv 13)) (de_str) (by rfl)) (de_one (de_or (de_var (pv 10)) (de_one (de_cmp (opr_eq hr) ops_eq (de_var (pv 14)) (de_str) (by rfl))))))) (dss_cons (ds_dset hr (de_var (pv 11)) (de_str) (de_and (de_dget hr (de_var (pv 11)) (de_str) (fun _ _ => rfl)) (de_one (de_not (de_and (de_cmp (opr_eq hr) ops_eq (de_var (pv 13)) (de_str) (by rfl)) (de_and (de_cmp (opr_eq hr) ops_eq (de_ix ixr ops_ix (de_var (pv 1)) (de_int) (fun _ _ => rfl)) (de_str) (by rfl)) (de_one (de_bm PySem.F.plainAttrs_str PySem.F.slot_str_endswith PySem.F.type_str_endswith mt_endswith mts_ends rc_str (de_var (pv 12)) (da_cons (de_str) (da_nil)))))))))) (dss_cons (ds_asg (de_tup (da_cons (de_or (de_cmp (opr_ne hr) ops_ne (de_var (pv 12)) (de_str) (by rfl)) (de_one (de_cmp (opr_eq hr) ops_eq (de_var (pv 13)) (de_str) (by rfl)))) (da_cons (de_cmp (opr_eq hr) ops_eq (de_var (pv 14)) (de_str) (by rfl)) (da_nil)))) (dg_tup rfl (dgs_cons (dg_dsub (W := WX0 E) hr (de_var (pv 11)) (de_str)) (dgs_cons (dg_dsub (W := WX0 E) hr (de_var (pv 11)) (de_str)) (dgs_nil))) rfl)) (dss_cons (ds_dset hr (de_var (pv 11)) (de_str) (de_if (dt_val (de_var (pv 3))) (de_cmp (opr_eq hr) ops_eq (de_ix ixr ops_ix (de_var (pv 1)) (de_int) (fun _ _ => rfl)) (de_str) (by rfl)) (de_and (de_var (pv 10)) (de_one (de_var (pv 6)))))) (dss_cons (ds_dset hr (de_var (pv 11)) (de_str) (de_or (de_var (pv 3)) (de_one (de_and (de_var (pv 10)) (de_one (de_or (de_var (pv 4)) (de_one (de_and (de_var (pv 5)) (de_one (de_not (de_var (pv 9)))))))))))) (dss_cons (ds_dset hr (de_var (pv 11)) (de_str) (de_cmp (opr_eq hr) ops_eq (de_var (pv 14)) (de_str) (by rfl))) (dss_one (ds_ret (de_dget hr (de_var (pv 11)) (de_var (pv 2)) (fun _ _ => rfl)))))))))))))))))))
theorem d_l_designs (T : Tab P w K mg base n) {cdv : Value} {A : Around} {outer : List Env} {s : Shared} {H : Hp} {E : XK} {f : Addr} (hr1 : Room (4 * n + 3) (A.deeper (envOfC "_law_designs" (defScope s_l_designs) s.heap.objs.size f cdv))) :
    PSs (cxOf (L2.CX P w) P w K mg base N_l_designs "_law_designs" (defScope s_l_designs) f cdv A outer s H E) (defBody s_l_designs) (tS ⟨K, mg⟩ (WX0 E) (b_l_designs (callF n))) := by
  have hr := hr1.mono (Nat.le_add_right (4 * n) 3)
  have tk := takes_cx (P := P) (w := w) (K := K) (mg := mg) (base := base) (N := N_l_designs) (qual := "_law_designs") (scope := defScope s_l_designs) (f := f) (cd := cdv) (A := A) (outer := outer) (s := s) (H := H) (E := E)
  exact dss_cons (ds_set (i := 0) sc_l_designs.nd rfl (by first | exact Or.inl rfl | exact Or.inr rfl) (de_lst (da_nil))) (dss_cons (ds_for (tg := (.nm 1)) (passes_of rfl) rfl (di_lst (de_call0 (T.fn .l_paths) hr rfl T.gl_l_paths tk)) (pg_name (i := 1) sc_l_designs.nd rfl (by first | exact Or.inl rfl | exact Or.inr rfl)) (dss_one (ds_for (tg := (.nm 2)) (passes_of rfl) rfl (di_lst (de_lst (da_cons (de_str) (da_cons (de_str) (da_cons (de_str) (da_cons (de_str) (da_cons (de_str) (da_cons (de_str) (da_nil))))))))) (pg_name (i := 2) sc_l_designs.nd rfl (by first | exact Or.inl rfl | exact Or.inr rfl)) (dss_one (ds_set (i := 0) sc_l_designs.nd rfl (by first | exact Or.inl rfl | exact Or.inr rfl) (de_op opr_add ops_add (de_var (pv 0)) (de_lst (da_cons (de_tup (da_cons (de_var (pv 1)) (da_cons (de_var (pv 2)) (da_cons (de_str) (da_nil))))) (da_cons (de_tup (da_cons (de_var (pv 1)) (da_cons (de_var (pv 2)) (da_cons (de_str) (da_nil))))) (da_nil)))))))))) (dss_one (ds_ret (de_var (pv 0)))))
theorem d_l_worlds (T : Tab P w K mg base n) {cdv : Value} {A : Around} {outer : List Env} {s : Shared} {H : Hp} {E : XK} {f : Addr} (hr1 : Room (4 * n + 3) (A.deeper (envOfC "_law_worlds" (defScope s_l_worlds) s.heap.objs.size f cdv))) :
    PSs (cxOf (L2.CX P w) P w K mg base N_l_worlds "_law_worlds" (defScope s_l_worlds) f cdv A outer s H E) (defBody s_l_worlds) (tS ⟨K, mg⟩ (WX0 E) (b_l_worlds (callF n))) := by
  have hr := hr1.mono (Nat.le_add_right (4 * n) 3)
  have tk := takes_cx (P := P) (w := w) (K := K) (mg := mg) (base := base) (N := N_l_worlds) (qual := "_law_worlds") (scope := defScope s_l_worlds) (f := f) (cd := cdv) (A := A) (outer := outer) (s := s) (H := H) (E := E)
  exact dss_cons (ds_set (i := 0) sc_l_worlds.nd rfl (by first | exact Or.inl rfl | exact Or.inr rfl) (de_lst (da_nil))) (dss_cons (ds_for (tg := (.nm 1)) (passes_of rfl) rfl (di_lst (de_lst (da_cons (de_str) (da_cons (de_str) (da_nil))))) (pg_name (i := 1) sc_l_worlds.nd rfl (by first | exact Or.inl rfl | exact Or.inr rfl)) (dss_one (ds_for (tg := (.nm 2)) (passes_of rfl) rfl (di_lst (de_lst (da_cons (de_str) (da_cons (de_str) (da_nil))))) (pg_name (i := 2) sc_l_worlds.nd rfl (by first | exact Or.inl rfl | exact Or.inr rfl)) (dss_one (ds_set (i := 0) sc_l_worlds.nd rfl (by first | exact Or.inl rfl | exact Or.inr rfl) (de_op opr_add ops_add (de_var (pv 0)) (de_lst (da_cons (de_tup (da_cons (de_var (pv 1)) (da_cons (de_var (pv 2)) (da_cons (de_str) (da_nil))))) (da_cons (de_tup (da_cons (de_var (pv 1)) (da_cons (de_var (pv 2)) (da_cons (de_str) (da_nil))))) (da_nil)))))))))) (dss_one (ds_ret (de_var (pv 0)))))
theorem d_law_ (T : Tab P w K mg base n) {cdv : Value} {A : Around} {outer : List Env} {s : Shared} {H : Hp} {E : XK} {f : Addr} (hr1 : Room (4 * n + 3) (A.deeper (envOfC "law" (defScope s_law_) s.heap.objs.size f cdv))) (hcdv : cdv = .ref (He.cT K ("law", none)).1) :
    PSs (cxOf (L2.CX P w) P w K mg base N_law_ "law" (defScope s_law_) f cdv A outer s H E) (defBody s_law_) (tS ⟨K, mg⟩ (WX0 E) (b_law_ (callF n))) := by
  have hr := hr1.mono (Nat.le_add_right (4 * n) 3)
  have tk := takes_cx (P := P) (w := w) (K := K) (mg := mg) (base := base) (N := N_law_) (qual := "law") (scope := defScope s_law_) (f := f) (cd := cdv) (A := A) (outer := outer) (s := s) (H := H) (E := E)
  have hr3 : Room (4 * n + 2) _ := hr1.mono (Nat.le_succ (4 * n + 2))
  obtain ⟨fdg, FDg, hbg⟩ := T.told_fn
  exact dss_cons (ds_set (i := 1) sc_law_.nd rfl (by first | exact Or.inl rfl | exact Or.inr rfl) (de_newL (da_cons (de_var (pv 0)) (da_cons (de_int) (da_cons (de_int) (da_cons (de_int) (da_nil))))))) (dss_cons (ds_for (tg := (.nm 2)) (passes_of rfl) rfl (di_range1 rfl T.m_range (da_cons (de_int) (da_nil))) (pg_name (i := 2) sc_law_.nd rfl (by first | exact Or.inl rfl | exact Or.inr rfl)) (dss_cons (ds_asg (de_tup (da_cons (de_call (T.fn .l_pick) hr rfl T.gl_l_pick tk (da_cons (de_var (pv 1)) (da_cons (de_call0 (T.fn .l_designs) hr rfl T.gl_l_designs tk) (da_nil)))) (da_cons (de_call (T.fn .l_pick) hr rfl T.gl_l_pick tk (da_cons (de_var (pv 1)) (da_cons (de_call0 (T.fn .l_worlds) hr rfl T.gl_l_worlds tk) (da_nil)))) (da_nil)))) (dg_tup rfl (dgs_cons (dg_name (pg_name (i := 5) sc_law_.nd rfl (by first | exact Or.inl rfl | exact Or.inr rfl))) (dgs_cons (dg_name (pg_name (i := 6) sc_law_.nd rfl (by first | exact Or.inl rfl | exact Or.inr rfl))) (dgs_nil))) rfl)) (dss_cons (ds_set (i := 3) sc_law_.nd rfl (by first | exact Or.inl rfl | exact Or.inr rfl) (de_op opr_add ops_add (de_int) (de_call (T.fn .l_taken) hr rfl T.gl_l_taken tk (da_cons (de_var (pv 1)) (da_cons (de_int) (da_nil)))))) (dss_cons (ds_set (i := 4) sc_law_.nd rfl (by first | exact Or.inl rfl | exact Or.inr rfl) (de_told (k := 4 * n) (a := "_law_work") rfl T.gl_told FDg hbg sc_l_told rfl (by first | exact .inl rfl | exact .inr (.inl rfl)) (fun _ => told_gv T hr3) T.tb hcdv hr3 (LamX.lamS_by (sc := defScope s_law_) (by decide +kernel)) rfl (fun _ _ _ _ _ => rfl) (fun A outer s H E f' c' hr tk => de_call (T.fn .behind) hr rfl T.gl_behind tk (da_cons (de_var (pv 5)) (da_cons (de_var (pv 6)) (da_cons (de_var (pv 3)) (da_nil))))))) (dss_cons (ds_if (dt_val (de_call (T.fn .l_holds) hr rfl T.gl_l_holds tk (da_cons (de_var (pv 5)) (da_cons (de_var (pv 6)) (da_cons (de_str) (da_nil)))))) (dss_one (ds_if (dt_cmp (opr_ne hr) ops_ne (de_var (pv 4)) (de_str) (by rfl)) (dss_one (ds_ret (de_bl))) (dss_nil))) (dss_cons (ds_set (i := 7) sc_law_.nd rfl (by first | exact Or.inl rfl | exact Or.inr rfl) (de_call (T.fn .l_begin) hr rfl T.gl_l_begin tk (da_cons (de_var (pv 5)) (da_cons (de_var (pv 6)) (da_nil))))) (dss_cons (ds_if (PW.pt (dw_or (dt_not (dt_val (de_callB callr_isi calls_isi rfl T.m_isinstance boot_isinstance (da_cons (de_var (pv 4)) (da_cons (de_ty rfl T.m_tuple boot_tuple) (da_nil)))))) (dw_or1 (dt_cmp op_gt ops_gt (de_callB callr_len calls_len rfl T.m_len boot_len (da_cons (de_var (pv 4)) (da_nil))) (de_int) (by rfl))))) (dss_one (ds_ret (de_bl))) (dss_nil)) (dss_cons (ds_for (tg := (.nm 8)) (passes_of rfl) rfl (di_tup (de_var (pv 4))) (pg_name (i := 8) sc_law_.nd rfl (by first | exact Or.inl rfl | exact Or.inr rfl)) (dss_cons (ds_if (dt_cmp (opr_ni hr) ops_ni (de_var (pv 8)) (de_call (T.fn .l_events) hr rfl T.gl_l_events tk (da_cons (de_var (pv 7)) (da_nil))) (by rfl)) (dss_one (ds_ret (de_bl))) (dss_nil)) (dss_one (ds_expr (de_call (T.fn .l_do) hr rfl T.gl_l_do tk (da_cons (de_var (pv 7)) (da_cons (de_var (pv 8)) (da_nil)))))))) (dss_one (ds_if (PW.pt (dw_or (dt_cmp (opr_neE hr) ops_neE (de_call (T.fn .l_going) hr rfl T.gl_l_going tk (da_cons (de_var (pv 7)) (da_nil))) (de_lst (da_nil)) (by rfl)) (dw_or (dt_cmp op_isN ops_isN (de_dget hr (de_var (pv 7)) (de_str) (fun _ _ => rfl)) (de_non) (by rfl)) (dw_or1 (dt_cmp (opr_ne hr) ops_ne (de_op op_sub ops_sub (de_dget hr (de_var (pv 7)) (de_str) (fun _ _ => rfl)) (de_dget hr (de_var (pv 7)) (de_str) (fun _ _ => rfl))) (de_var (pv 3)) (by rfl)))))) (dss_one (ds_ret (de_bl))) (dss_nil))))))) (dss_one (ds_if (dt_cmp (opr_ne hr) ops_ne (de_told (k := 4 * n) (a := "_law_work") rfl T.gl_told FDg hbg sc_l_told rfl (by first | exact .inl rfl | exact .inr (.inl rfl)) (fun _ => told_gv T hr3) T.tb hcdv hr3 (LamX.lamS_by (sc := defScope s_law_) (by decide +kernel)) rfl (fun _ _ _ _ _ => rfl) (fun A outer s H E f' c' hr tk => de_call (T.fn .behind) hr rfl T.gl_behind tk (da_cons (de_var (pv 5)) (da_cons (de_var (pv 6)) (da_cons (de_call (T.fn .l_pick) hr rfl T.gl_l_pick tk (da_cons (de_var (pv 1)) (da_cons (de_lst (da_cons (de_int) (da_cons (de_int) (da_cons (de_neg (de_int)) (da_cons (de_non) (da_cons (de_bl) (da_cons (de_str) (da_nil)))))))) (da_nil)))) (da_nil)))))) (de_str) (by rfl)) (dss_one (ds_ret (de_bl))) (dss_nil)))))))) (dss_one (ds_ret (de_bl))))
end
end CH

namespace CH
open PySem PySem.Spec PyProof.Rows L2
abbrev FnP (K : PySem.W.Frag) (x q : Str) (st : Stmt) (f : Addr) (fd : FuncData) : Prop := FunD K x q (defArgs st) (defBody st) (defScope st) [] [] f fd
def dOf : Fid → He.DefD
  | .is_integer => ⟨atOf .is_integer, "is_integer", "is_integer", defArgs s_is_integer, defBody s_is_integer, defScope s_is_integer, [], []⟩
  | .is_in => ⟨atOf .is_in, "is_in", "is_in", defArgs s_is_in, defBody s_is_in, defScope s_is_in, [], []⟩
  | .is_list => ⟨atOf .is_list, "is_list", "is_list", defArgs s_is_list, defBody s_is_list, defScope s_is_list, [], []⟩
  | .is_choice => ⟨atOf .is_choice, "is_choice", "is_choice", defArgs s_is_choice, defBody s_is_choice, defScope s_is_choice, [], []⟩
  | .is_design => ⟨atOf .is_design, "is_design", "is_design", defArgs s_is_design, defBody s_is_design, defScope s_is_design, [], []⟩
  | .is_world => ⟨atOf .is_world, "is_world", "is_world", defArgs s_is_world, defBody s_is_world, defScope s_is_world, [], []⟩
  | .need_design => ⟨atOf .need_design, "need_design", "need_design", defArgs s_need_design, defBody s_need_design, defScope s_need_design, [], []⟩
  | .need_world => ⟨atOf .need_world, "need_world", "need_world", defArgs s_need_world, defBody s_need_world, defScope s_need_world, [], []⟩
  | .need_both => ⟨atOf .need_both, "need_both", "need_both", defArgs s_need_both, defBody s_need_both, defScope s_need_both, [], []⟩
  | .steps_of => ⟨atOf .steps_of, "steps_of", "steps_of", defArgs s_steps_of, defBody s_steps_of, defScope s_steps_of, [], []⟩
  | .is_passed_by => ⟨atOf .is_passed_by, "is_passed_by", "is_passed_by", defArgs s_is_passed_by, defBody s_is_passed_by, defScope s_is_passed_by, [], []⟩
  | .is_climbing => ⟨atOf .is_climbing, "is_climbing", "is_climbing", defArgs s_is_climbing, defBody s_is_climbing, defScope s_is_climbing, [], []⟩
  | .is_guarded => ⟨atOf .is_guarded, "is_guarded", "is_guarded", defArgs s_is_guarded, defBody s_is_guarded, defScope s_is_guarded, [], []⟩
  | .rest_holds => ⟨atOf .rest_holds, "rest_holds", "rest_holds", defArgs s_rest_holds, defBody s_rest_holds, defScope s_rest_holds, [], []⟩
  | .spelled => ⟨atOf .spelled, "spelled", "spelled", defArgs s_spelled, defBody s_spelled, defScope s_spelled, [], []⟩
  | .events_of => ⟨atOf .events_of, "events_of", "events_of", defArgs s_events_of, defBody s_events_of, defScope s_events_of, [], []⟩
  | .each => ⟨atOf .each, "each", "each", defArgs s_each, defBody s_each, defScope s_each, [], []⟩
  | .late_recipe => ⟨atOf .late_recipe, "late_recipe", "late_recipe", defArgs s_late_recipe, defBody s_late_recipe, defScope s_late_recipe, [], []⟩
  | .stopped => ⟨atOf .stopped, "stopped", "stopped", defArgs s_stopped, defBody s_stopped, defScope s_stopped, [], []⟩
  | .set_recipe => ⟨atOf .set_recipe, "set_recipe", "set_recipe", defArgs s_set_recipe, defBody s_set_recipe, defScope s_set_recipe, [], []⟩
  | .behind => ⟨atOf .behind, "behind", "behind", defArgs s_behind, defBody s_behind, defScope s_behind, [], []⟩
  | .l_taken => ⟨atOf .l_taken, "_law_taken", "_law_taken", defArgs s_l_taken, defBody s_l_taken, defScope s_l_taken, [], []⟩
  | .l_pick => ⟨atOf .l_pick, "_law_pick", "_law_pick", defArgs s_l_pick, defBody s_l_pick, defScope s_l_pick, [], []⟩
  | .l_paths => ⟨atOf .l_paths, "_law_paths", "_law_paths", defArgs s_l_paths, defBody s_l_paths, defScope s_l_paths, [], []⟩
  | .l_begin => ⟨atOf .l_begin, "_law_begin", "_law_begin", defArgs s_l_begin, defBody s_l_begin, defScope s_l_begin, [], []⟩
  | .l_going => ⟨atOf .l_going, "_law_going", "_law_going", defArgs s_l_going, defBody s_l_going, defScope s_l_going, [], []⟩
  | .l_next => ⟨atOf .l_next, "_law_next", "_law_next", defArgs s_l_next, defBody s_l_next, defScope s_l_next, [], []⟩
  | .l_events => ⟨atOf .l_events, "_law_events", "_law_events", defArgs s_l_events, defBody s_l_events, defScope s_l_events, [], []⟩
  | .l_end => ⟨atOf .l_end, "_law_end", "_law_end", defArgs s_l_end, defBody s_l_end, defScope s_l_end, [], []⟩
  | .l_hold => ⟨atOf .l_hold, "_law_hold", "_law_hold", defArgs s_l_hold, defBody s_l_hold, defScope s_l_hold, [], []⟩
  | .l_newer => ⟨atOf .l_newer, "_law_newer", "_law_newer", defArgs s_l_newer, defBody s_l_newer, defScope s_l_newer, [], []⟩
  | .l_lets => ⟨atOf .l_lets, "_law_lets", "_law_lets", defArgs s_l_lets, defBody s_l_lets, defScope s_l_lets, [], []⟩
  | .l_write => ⟨atOf .l_write, "_law_write", "_law_write", defArgs s_l_write, defBody s_l_write, defScope s_l_write, [], []⟩
  | .l_read => ⟨atOf .l_read, "_law_read", "_law_read", defArgs s_l_read, defBody s_l_read, defScope s_l_read, [], []⟩
  | .l_do => ⟨atOf .l_do, "_law_do", "_law_do", defArgs s_l_do, defBody s_l_do, defScope s_l_do, [], []⟩
  | .l_holds => ⟨atOf .l_holds, "_law_holds", "_law_holds", defArgs s_l_holds, defBody s_l_holds, defScope s_l_holds, [], []⟩
  | .l_designs => ⟨atOf .l_designs, "_law_designs", "_law_designs", defArgs s_l_designs, defBody s_l_designs, defScope s_l_designs, [], []⟩
  | .l_worlds => ⟨atOf .l_worlds, "_law_worlds", "_law_worlds", defArgs s_l_worlds, defBody s_l_worlds, defScope s_l_worlds, [], []⟩
  | .law_ => ⟨atOf .law_, "law", "law", defArgs s_law_, defBody s_law_, defScope s_law_, [], []⟩
def allF : List Fid := [.is_integer, .is_in, .is_list, .is_choice, .is_design, .is_world, .need_design, .need_world, .need_both, .steps_of, .is_passed_by, .is_climbing, .is_guarded, .rest_holds, .spelled, .events_of, .each, .late_recipe, .stopped, .set_recipe, .behind, .l_taken, .l_pick, .l_paths, .l_begin, .l_going, .l_next, .l_events, .l_end, .l_hold, .l_newer, .l_lets, .l_write, .l_read, .l_do, .l_holds, .l_designs, .l_worlds, .law_]
theorem allF_mem : ∀ f : Fid, f ∈ allF := by
  intro f
  unfold allF
  cases f <;> simp
def toldD : He.DefD := ⟨("_law_told", none), "_law_told", "_law_told", defArgs s_l_told, defBody s_l_told, defScope s_l_told, [], []⟩
def fnL : List He.DefD := allF.map dOf ++ [toldD]
def xdL : List ExDef := []
def faL0 : List He.Fa := [.glo "is_integer", .glo "is_in", .glo "is_list", .glo "is_choice", .glo "is_design", .glo "is_world", .glo "need_design", .glo "need_world", .glo "need_both", .glo "steps_of", .glo "is_passed_by", .glo "is_climbing", .glo "is_guarded", .glo "rest_holds", .glo "spelled", .glo "events_of", .glo "each", .glo "late_recipe", .glo "stopped", .glo "set_recipe", .glo "behind", .glo "_law_taken", .glo "_law_pick", .glo "_law_paths", .glo "_law_begin", .glo "_law_going", .glo "_law_next", .glo "_law_events", .glo "_law_end", .glo "_law_hold"]
def faL1 : List He.Fa := [.glo "_law_newer", .glo "_law_lets", .glo "_law_write", .glo "_law_read", .glo "_law_do", .glo "_law_holds", .glo "_law_designs", .glo "_law_worlds", .glo "law", .free "all", .free "bool", .free "dict", .free "int", .free "isinstance", .free "len", .free "list", .free "max", .free "range", .free "sorted", .free "str", .free "tuple", .free "zip", .glo "BadNumber", .glo "NotBroken", .glo "CacheError", .exc "BadNumber", .exc "NotBroken", .exm "BadNumber" "CacheError" true, .exm "NotBroken" "CacheError" true, .glo "_law_told"]
def faL : List He.Fa := faL0 ++ faL1
def coL : List (Str × D) := [("MOST_BEHIND", k_MOST_BEHIND), ("DROPS_LAST", k_DROPS_LAST), ("VERSIONED", k_VERSIONED), ("PATHS", k_PATHS), ("GUARDS", k_GUARDS), ("FLIGHTS", k_FLIGHTS), ("DESIGNS", k_DESIGNS), ("WORLDS", k_WORLDS)]
def exL (K : PySem.W.Frag) : Bool := (coL.all fun p => chkC K p) && toldB K "BadNumber" "NotBroken"
theorem bind_of {K : PySem.W.Frag} : ∀ (f : Fid) (fd : FuncData), FnP K (dOf f).name (dOf f).qual (match f with
  | .is_integer => s_is_integer
  | .is_in => s_is_in
  | .is_list => s_is_list
  | .is_choice => s_is_choice
  | .is_design => s_is_design
  | .is_world => s_is_world
  | .need_design => s_need_design
  | .need_world => s_need_world
  | .need_both => s_need_both
  | .steps_of => s_steps_of
  | .is_passed_by => s_is_passed_by
  | .is_climbing => s_is_climbing
  | .is_guarded => s_is_guarded
  | .rest_holds => s_rest_holds
  | .spelled => s_spelled
  | .events_of => s_events_of
  | .each => s_each
  | .late_recipe => s_late_recipe
  | .stopped => s_stopped
  | .set_recipe => s_set_recipe
  | .behind => s_behind
  | .l_taken => s_l_taken
  | .l_pick => s_l_pick
  | .l_paths => s_l_paths
  | .l_begin => s_l_begin
  | .l_going => s_l_going
  | .l_next => s_l_next
  | .l_events => s_l_events
  | .l_end => s_l_end
  | .l_hold => s_l_hold
  | .l_newer => s_l_newer
  | .l_lets => s_l_lets
  | .l_write => s_l_write
  | .l_read => s_l_read
  | .l_do => s_l_do
  | .l_holds => s_l_holds
  | .l_designs => s_l_designs
  | .l_worlds => s_l_worlds
  | .law_ => s_law_) (He.fAd K (atOf f)) fd → Binds K fd (psOf f) [] ∧ ∀ (s : Shared) (us : List Value), us.length = (psOf f).length → BindsTo s fd ⟨us, []⟩ ((psOf f).zip us)
  | .is_integer, fd, F => ⟨FunD.bindsN (ps := psOf .is_integer) F (fun _ _ _ _ _ _ us hl => match us, hl with | [_], _ => rfl), FunD.bindsA (ps := psOf .is_integer) F fun _ _ _ _ _ _ us hl => match us, hl with | [_], _ => rfl⟩
  | .is_in, fd, F => ⟨FunD.bindsN (ps := psOf .is_in) F (fun _ _ _ _ _ _ us hl => match us, hl with | [_, _, _], _ => rfl), FunD.bindsA (ps := psOf .is_in) F fun _ _ _ _ _ _ us hl => match us, hl with | [_, _, _], _ => rfl⟩
  | .is_list, fd, F => ⟨FunD.bindsN (ps := psOf .is_list) F (fun _ _ _ _ _ _ us hl => match us, hl with | [_, _, _], _ => rfl), FunD.bindsA (ps := psOf .is_list) F fun _ _ _ _ _ _ us hl => match us, hl with | [_, _, _], _ => rfl⟩
  | .is_choice, fd, F => ⟨FunD.bindsN (ps := psOf .is_choice) F (fun _ _ _ _ _ _ us hl => match us, hl with | [_, _], _ => rfl), FunD.bindsA (ps := psOf .is_choice) F fun _ _ _ _ _ _ us hl => match us, hl with | [_, _], _ => rfl⟩
  | .is_design, fd, F => ⟨FunD.bindsN (ps := psOf .is_design) F (fun _ _ _ _ _ _ us hl => match us, hl with | [_], _ => rfl), FunD.bindsA (ps := psOf .is_design) F fun _ _ _ _ _ _ us hl => match us, hl with | [_], _ => rfl⟩
  | .is_world, fd, F => ⟨FunD.bindsN (ps := psOf .is_world) F (fun _ _ _ _ _ _ us hl => match us, hl with | [_], _ => rfl), FunD.bindsA (ps := psOf .is_world) F fun _ _ _ _ _ _ us hl => match us, hl with | [_], _ => rfl⟩
  | .need_design, fd, F => ⟨FunD.bindsN (ps := psOf .need_design) F (fun _ _ _ _ _ _ us hl => match us, hl with | [_], _ => rfl), FunD.bindsA (ps := psOf .need_design) F fun _ _ _ _ _ _ us hl => match us, hl with | [_], _ => rfl⟩
  | .need_world, fd, F => ⟨FunD.bindsN (ps := psOf .need_world) F (fun _ _ _ _ _ _ us hl => match us, hl with | [_], _ => rfl), FunD.bindsA (ps := psOf .need_world) F fun _ _ _ _ _ _ us hl => match us, hl with | [_], _ => rfl⟩
  | .need_both, fd, F => ⟨FunD.bindsN (ps := psOf .need_both) F (fun _ _ _ _ _ _ us hl => match us, hl with | [_, _], _ => rfl), FunD.bindsA (ps := psOf .need_both) F fun _ _ _ _ _ _ us hl => match us, hl with | [_, _], _ => rfl⟩
  | .steps_of, fd, F => ⟨FunD.bindsN (ps := psOf .steps_of) F (fun _ _ _ _ _ _ us hl => match us, hl with | [_], _ => rfl), FunD.bindsA (ps := psOf .steps_of) F fun _ _ _ _ _ _ us hl => match us, hl with | [_], _ => rfl⟩
  | .is_passed_by, fd, F => ⟨FunD.bindsN (ps := psOf .is_passed_by) F (fun _ _ _ _ _ _ us hl => match us, hl with | [_], _ => rfl), FunD.bindsA (ps := psOf .is_passed_by) F fun _ _ _ _ _ _ us hl => match us, hl with | [_], _ => rfl⟩
  | .is_climbing, fd, F => ⟨FunD.bindsN (ps := psOf .is_climbing) F (fun _ _ _ _ _ _ us hl => match us, hl with | [_, _], _ => rfl), FunD.bindsA (ps := psOf .is_climbing) F fun _ _ _ _ _ _ us hl => match us, hl with | [_, _], _ => rfl⟩
  | .is_guarded, fd, F => ⟨FunD.bindsN (ps := psOf .is_guarded) F (fun _ _ _ _ _ _ us hl => match us, hl with | [_, _], _ => rfl), FunD.bindsA (ps := psOf .is_guarded) F fun _ _ _ _ _ _ us hl => match us, hl with | [_, _], _ => rfl⟩
  | .rest_holds, fd, F => ⟨FunD.bindsN (ps := psOf .rest_holds) F (fun _ _ _ _ _ _ us hl => match us, hl with | [_, _], _ => rfl), FunD.bindsA (ps := psOf .rest_holds) F fun _ _ _ _ _ _ us hl => match us, hl with | [_, _], _ => rfl⟩
  | .spelled, fd, F => ⟨FunD.bindsN (ps := psOf .spelled) F (fun _ _ _ _ _ _ us hl => match us, hl with | [_, _, _, _], _ => rfl), FunD.bindsA (ps := psOf .spelled) F fun _ _ _ _ _ _ us hl => match us, hl with | [_, _, _, _], _ => rfl⟩
  | .events_of, fd, F => ⟨FunD.bindsN (ps := psOf .events_of) F (fun _ _ _ _ _ _ us hl => match us, hl with | [_, _, _], _ => rfl), FunD.bindsA (ps := psOf .events_of) F fun _ _ _ _ _ _ us hl => match us, hl with | [_, _, _], _ => rfl⟩
  | .each, fd, F => ⟨FunD.bindsN (ps := psOf .each) F (fun _ _ _ _ _ _ us hl => match us, hl with | [_, _], _ => rfl), FunD.bindsA (ps := psOf .each) F fun _ _ _ _ _ _ us hl => match us, hl with | [_, _], _ => rfl⟩
  | .late_recipe, fd, F => ⟨FunD.bindsN (ps := psOf .late_recipe) F (fun _ _ _ _ _ _ us hl => match us, hl with | [_, _, _], _ => rfl), FunD.bindsA (ps := psOf .late_recipe) F fun _ _ _ _ _ _ us hl => match us, hl with | [_, _, _], _ => rfl⟩
  | .stopped, fd, F => ⟨FunD.bindsN (ps := psOf .stopped) F (fun _ _ _ _ _ _ us hl => match us, hl with | [_], _ => rfl), FunD.bindsA (ps := psOf .stopped) F fun _ _ _ _ _ _ us hl => match us, hl with | [_], _ => rfl⟩
  | .set_recipe, fd, F => ⟨FunD.bindsN (ps := psOf .set_recipe) F (fun _ _ _ _ _ _ us hl => match us, hl with | [_, _, _], _ => rfl), FunD.bindsA (ps := psOf .set_recipe) F fun _ _ _ _ _ _ us hl => match us, hl with | [_, _, _], _ => rfl⟩
  | .behind, fd, F => ⟨FunD.bindsN (ps := psOf .behind) F (fun _ _ _ _ _ _ us hl => match us, hl with | [_, _, _], _ => rfl), FunD.bindsA (ps := psOf .behind) F fun _ _ _ _ _ _ us hl => match us, hl with | [_, _, _], _ => rfl⟩
  | .l_taken, fd, F => ⟨FunD.bindsN (ps := psOf .l_taken) F (fun _ _ _ _ _ _ us hl => match us, hl with | [_, _], _ => rfl), FunD.bindsA (ps := psOf .l_taken) F fun _ _ _ _ _ _ us hl => match us, hl with | [_, _], _ => rfl⟩
  | .l_pick, fd, F => ⟨FunD.bindsN (ps := psOf .l_pick) F (fun _ _ _ _ _ _ us hl => match us, hl with | [_, _], _ => rfl), FunD.bindsA (ps := psOf .l_pick) F fun _ _ _ _ _ _ us hl => match us, hl with | [_, _], _ => rfl⟩
  | .l_paths, fd, F => ⟨FunD.bindsN (ps := psOf .l_paths) F (fun _ _ _ _ _ _ us hl => match us, hl with | [], _ => rfl), FunD.bindsA (ps := psOf .l_paths) F fun _ _ _ _ _ _ us hl => match us, hl with | [], _ => rfl⟩
  | .l_begin, fd, F => ⟨FunD.bindsN (ps := psOf .l_begin) F (fun _ _ _ _ _ _ us hl => match us, hl with | [_, _], _ => rfl), FunD.bindsA (ps := psOf .l_begin) F fun _ _ _ _ _ _ us hl => match us, hl with | [_, _], _ => rfl⟩
  | .l_going, fd, F => ⟨FunD.bindsN (ps := psOf .l_going) F (fun _ _ _ _ _ _ us hl => match us, hl with | [_], _ => rfl), FunD.bindsA (ps := psOf .l_going) F fun _ _ _ _ _ _ us hl => match us, hl with | [_], _ => rfl⟩
  | .l_next, fd, F => ⟨FunD.bindsN (ps := psOf .l_next) F (fun _ _ _ _ _ _ us hl => match us, hl with | [_, _], _ => rfl), FunD.bindsA (ps := psOf .l_next) F fun _ _ _ _ _ _ us hl => match us, hl with | [_, _], _ => rfl⟩
  | .l_events, fd, F => ⟨FunD.bindsN (ps := psOf .l_events) F (fun _ _ _ _ _ _ us hl => match us, hl with | [_], _ => rfl), FunD.bindsA (ps := psOf .l_events) F fun _ _ _ _ _ _ us hl => match us, hl with | [_], _ => rfl⟩
  | .l_end, fd, F => ⟨FunD.bindsN (ps := psOf .l_end) F (fun _ _ _ _ _ _ us hl => match us, hl with | [_, _, _], _ => rfl), FunD.bindsA (ps := psOf .l_end) F fun _ _ _ _ _ _ us hl => match us, hl with | [_, _, _], _ => rfl⟩
  | .l_hold, fd, F => ⟨FunD.bindsN (ps := psOf .l_hold) F (fun _ _ _ _ _ _ us hl => match us, hl with | [_, _], _ => rfl), FunD.bindsA (ps := psOf .l_hold) F fun _ _ _ _ _ _ us hl => match us, hl with | [_, _], _ => rfl⟩
  | .l_newer, fd, F => ⟨FunD.bindsN (ps := psOf .l_newer) F (fun _ _ _ _ _ _ us hl => match us, hl with | [_, _], _ => rfl), FunD.bindsA (ps := psOf .l_newer) F fun _ _ _ _ _ _ us hl => match us, hl with | [_, _], _ => rfl⟩
  | .l_lets, fd, F => ⟨FunD.bindsN (ps := psOf .l_lets) F (fun _ _ _ _ _ _ us hl => match us, hl with | [_, _], _ => rfl), FunD.bindsA (ps := psOf .l_lets) F fun _ _ _ _ _ _ us hl => match us, hl with | [_, _], _ => rfl⟩
  | .l_write, fd, F => ⟨FunD.bindsN (ps := psOf .l_write) F (fun _ _ _ _ _ _ us hl => match us, hl with | [_, _, _], _ => rfl), FunD.bindsA (ps := psOf .l_write) F fun _ _ _ _ _ _ us hl => match us, hl with | [_, _, _], _ => rfl⟩
  | .l_read, fd, F => ⟨FunD.bindsN (ps := psOf .l_read) F (fun _ _ _ _ _ _ us hl => match us, hl with | [_, _, _], _ => rfl), FunD.bindsA (ps := psOf .l_read) F fun _ _ _ _ _ _ us hl => match us, hl with | [_, _, _], _ => rfl⟩
  | .l_do, fd, F => ⟨FunD.bindsN (ps := psOf .l_do) F (fun _ _ _ _ _ _ us hl => match us, hl with | [_, _], _ => rfl), FunD.bindsA (ps := psOf .l_do) F fun _ _ _ _ _ _ us hl => match us, hl with | [_, _], _ => rfl⟩
  | .l_holds, fd, F => ⟨FunD.bindsN (ps := psOf .l_holds) F (fun _ _ _ _ _ _ us hl => match us, hl with | [_, _, _], _ => rfl), FunD.bindsA (ps := psOf .l_holds) F fun _ _ _ _ _ _ us hl => match us, hl with | [_, _, _], _ => rfl⟩
  | .l_designs, fd, F => ⟨FunD.bindsN (ps := psOf .l_designs) F (fun _ _ _ _ _ _ us hl => match us, hl with | [], _ => rfl), FunD.bindsA (ps := psOf .l_designs) F fun _ _ _ _ _ _ us hl => match us, hl with | [], _ => rfl⟩
  | .l_worlds, fd, F => ⟨FunD.bindsN (ps := psOf .l_worlds) F (fun _ _ _ _ _ _ us hl => match us, hl with | [], _ => rfl), FunD.bindsA (ps := psOf .l_worlds) F fun _ _ _ _ _ _ us hl => match us, hl with | [], _ => rfl⟩
  | .law_, fd, F => ⟨FunD.bindsN (ps := psOf .law_) F (fun _ _ _ _ _ _ us hl => match us, hl with | [_], _ => rfl), FunD.bindsA (ps := psOf .law_) F fun _ _ _ _ _ _ us hl => match us, hl with | [_], _ => rfl⟩
section
variable {P : Program} {w : World} {K : PySem.W.Frag} {mg : Str → Option Value} {h : Heap}
theorem fun_of (c : He.SaysD faL fnL K) (f : Fid) : ∃ fd, FnP K (dOf f).name (dOf f).qual (match f with
  | .is_integer => s_is_integer
  | .is_in => s_is_in
  | .is_list => s_is_list
  | .is_choice => s_is_choice
  | .is_design => s_is_design
  | .is_world => s_is_world
  | .need_design => s_need_design
  | .need_world => s_need_world
  | .need_both => s_need_both
  | .steps_of => s_steps_of
  | .is_passed_by => s_is_passed_by
  | .is_climbing => s_is_climbing
  | .is_guarded => s_is_guarded
  | .rest_holds => s_rest_holds
  | .spelled => s_spelled
  | .events_of => s_events_of
  | .each => s_each
  | .late_recipe => s_late_recipe
  | .stopped => s_stopped
  | .set_recipe => s_set_recipe
  | .behind => s_behind
  | .l_taken => s_l_taken
  | .l_pick => s_l_pick
  | .l_paths => s_l_paths
  | .l_begin => s_l_begin
  | .l_going => s_l_going
  | .l_next => s_l_next
  | .l_events => s_l_events
  | .l_end => s_l_end
  | .l_hold => s_l_hold
  | .l_newer => s_l_newer
  | .l_lets => s_l_lets
  | .l_write => s_l_write
  | .l_read => s_l_read
  | .l_do => s_l_do
  | .l_holds => s_l_holds
  | .l_designs => s_l_designs
  | .l_worlds => s_l_worlds
  | .law_ => s_law_) (He.fAd K (atOf f)) fd := by
  have hm : dOf f ∈ fnL := List.mem_append_left _ (List.mem_map_of_mem (allF_mem f))
  obtain ⟨fd, F⟩ := He.SaysD.defs c hm
  cases f <;> exact ⟨fd, F⟩
theorem tab_of (X : K.In h) (G : h.Ns mainGlobals mg) (c : He.SaysD faL fnL K) (ce : exL K = true) {base : Heap} {n : Nat} (tb : LamX.TabB base mg (He.cT K ("law", none)).1 (lawT K)) (fn : ∀ f : Fid, FT P w K mg base (4 * n) (psOf f) (callF n f) (He.fAd K (atOf f))) : Tab P w K mg base n where
  fn := fn
  tb := tb
  told_c := toldB_ok (He.ba ce).2
  told_fn := by
    obtain ⟨fd, F⟩ := He.SaysD.defs c (d := toldD) (List.mem_append_right _ (List.mem_singleton_self _))
    exact ⟨fd, F, FunD.bindsN (ps := ["_law_work"]) F (fun _ _ _ _ _ _ us hl => match us, hl with | [_], _ => rfl)⟩
  gl_is_integer := He.glo_ok X G (c.fact 0 (f := .glo "is_integer") rfl)
  gl_is_in := He.glo_ok X G (c.fact 1 (f := .glo "is_in") rfl)
  gl_is_list := He.glo_ok X G (c.fact 2 (f := .glo "is_list") rfl)
  gl_is_choice := He.glo_ok X G (c.fact 3 (f := .glo "is_choice") rfl)
  gl_is_design := He.glo_ok X G (c.fact 4 (f := .glo "is_design") rfl)
  gl_is_world := He.glo_ok X G (c.fact 5 (f := .glo "is_world") rfl)
  gl_need_design := He.glo_ok X G (c.fact 6 (f := .glo "need_design") rfl)
  gl_need_world := He.glo_ok X G (c.fact 7 (f := .glo "need_world") rfl)
  gl_need_both := He.glo_ok X G (c.fact 8 (f := .glo "need_both") rfl)
  gl_steps_of := He.glo_ok X G (c.fact 9 (f := .glo "steps_of") rfl)
  gl_is_passed_by := He.glo_ok X G (c.fact 10 (f := .glo "is_passed_by") rfl)
  gl_is_climbing := He.glo_ok X G (c.fact 11 (f := .glo "is_climbing") rfl)
  gl_is_guarded := He.glo_ok X G (c.fact 12 (f := .glo "is_guarded") rfl)
  gl_rest_holds := He.glo_ok X G (c.fact 13 (f := .glo "rest_holds") rfl)
  gl_spelled := He.glo_ok X G (c.fact 14 (f := .glo "spelled") rfl)
  gl_events_of := He.glo_ok X G (c.fact 15 (f := .glo "events_of") rfl)
  gl_each := He.glo_ok X G (c.fact 16 (f := .glo "each") rfl)
  gl_late_recipe := He.glo_ok X G (c.fact 17 (f := .glo "late_recipe") rfl)
  gl_stopped := He.glo_ok X G (c.fact 18 (f := .glo "stopped") rfl)
  gl_set_recipe := He.glo_ok X G (c.fact 19 (f := .glo "set_recipe") rfl)
  gl_behind := He.glo_ok X G (c.fact 20 (f := .glo "behind") rfl)
  gl_l_taken := He.glo_ok X G (c.fact 21 (f := .glo "_law_taken") rfl)
  gl_l_pick := He.glo_ok X G (c.fact 22 (f := .glo "_law_pick") rfl)
  gl_l_paths := He.glo_ok X G (c.fact 23 (f := .glo "_law_paths") rfl)
  gl_l_begin := He.glo_ok X G (c.fact 24 (f := .glo "_law_begin") rfl)
  gl_l_going := He.glo_ok X G (c.fact 25 (f := .glo "_law_going") rfl)
  gl_l_next := He.glo_ok X G (c.fact 26 (f := .glo "_law_next") rfl)
  gl_l_events := He.glo_ok X G (c.fact 27 (f := .glo "_law_events") rfl)
  gl_l_end := He.glo_ok X G (c.fact 28 (f := .glo "_law_end") rfl)
  gl_l_hold := He.glo_ok X G (c.fact 29 (f := .glo "_law_hold") rfl)
  gl_l_newer := He.glo_ok X G (c.fact 30 (f := .glo "_law_newer") rfl)
  gl_l_lets := He.glo_ok X G (c.fact 31 (f := .glo "_law_lets") rfl)
  gl_l_write := He.glo_ok X G (c.fact 32 (f := .glo "_law_write") rfl)
  gl_l_read := He.glo_ok X G (c.fact 33 (f := .glo "_law_read") rfl)
  gl_l_do := He.glo_ok X G (c.fact 34 (f := .glo "_law_do") rfl)
  gl_l_holds := He.glo_ok X G (c.fact 35 (f := .glo "_law_holds") rfl)
  gl_l_designs := He.glo_ok X G (c.fact 36 (f := .glo "_law_designs") rfl)
  gl_l_worlds := He.glo_ok X G (c.fact 37 (f := .glo "_law_worlds") rfl)
  gl_law_ := He.glo_ok X G (c.fact 38 (f := .glo "law") rfl)
  m_all := He.free_ok X G (c.fact 39 (f := .free "all") rfl)
  m_bool := He.free_ok X G (c.fact 40 (f := .free "bool") rfl)
  m_dict := He.free_ok X G (c.fact 41 (f := .free "dict") rfl)
  m_int := He.free_ok X G (c.fact 42 (f := .free "int") rfl)
  m_isinstance := He.free_ok X G (c.fact 43 (f := .free "isinstance") rfl)
  m_len := He.free_ok X G (c.fact 44 (f := .free "len") rfl)
  m_list := He.free_ok X G (c.fact 45 (f := .free "list") rfl)
  m_max := He.free_ok X G (c.fact 46 (f := .free "max") rfl)
  m_range := He.free_ok X G (c.fact 47 (f := .free "range") rfl)
  m_sorted := He.free_ok X G (c.fact 48 (f := .free "sorted") rfl)
  m_str := He.free_ok X G (c.fact 49 (f := .free "str") rfl)
  m_tuple := He.free_ok X G (c.fact 50 (f := .free "tuple") rfl)
  m_zip := He.free_ok X G (c.fact 51 (f := .free "zip") rfl)
  c_MOST_BEHIND := chkC_ok X G (List.all_eq_true.mp (He.ba ce).1 _ (List.mem_of_getElem? (i := 0) (show coL[0]? = some (("MOST_BEHIND" : Str), k_MOST_BEHIND) from rfl)))
  c_DROPS_LAST := chkC_ok X G (List.all_eq_true.mp (He.ba ce).1 _ (List.mem_of_getElem? (i := 1) (show coL[1]? = some (("DROPS_LAST" : Str), k_DROPS_LAST) from rfl)))
  c_VERSIONED := chkC_ok X G (List.all_eq_true.mp (He.ba ce).1 _ (List.mem_of_getElem? (i := 2) (show coL[2]? = some (("VERSIONED" : Str), k_VERSIONED) from rfl)))
  c_PATHS := chkC_ok X G (List.all_eq_true.mp (He.ba ce).1 _ (List.mem_of_getElem? (i := 3) (show coL[3]? = some (("PATHS" : Str), k_PATHS) from rfl)))
  c_GUARDS := chkC_ok X G (List.all_eq_true.mp (He.ba ce).1 _ (List.mem_of_getElem? (i := 4) (show coL[4]? = some (("GUARDS" : Str), k_GUARDS) from rfl)))
  c_FLIGHTS := chkC_ok X G (List.all_eq_true.mp (He.ba ce).1 _ (List.mem_of_getElem? (i := 5) (show coL[5]? = some (("FLIGHTS" : Str), k_FLIGHTS) from rfl)))
  c_DESIGNS := chkC_ok X G (List.all_eq_true.mp (He.ba ce).1 _ (List.mem_of_getElem? (i := 6) (show coL[6]? = some (("DESIGNS" : Str), k_DESIGNS) from rfl)))
  c_WORLDS := chkC_ok X G (List.all_eq_true.mp (He.ba ce).1 _ (List.mem_of_getElem? (i := 7) (show coL[7]? = some (("WORLDS" : Str), k_WORLDS) from rfl)))
  gle_BadNumber := He.glo_ok X G (c.fact 52 (f := .glo "BadNumber") rfl)
  gle_NotBroken := He.glo_ok X G (c.fact 53 (f := .glo "NotBroken") rfl)
  gle_CacheError := He.glo_ok X G (c.fact 54 (f := .glo "CacheError") rfl)
  ex0_BadNumber := He.exc_ok (c.fact 55 (f := .exc "BadNumber") rfl)
  ex0_NotBroken := He.exc_ok (c.fact 56 (f := .exc "NotBroken") rfl)
  exm_BadNumber_CacheError := He.exm_ok (c.fact 57 (f := .exm "BadNumber" "CacheError" true) rfl)
  exm_NotBroken_CacheError := He.exm_ok (c.fact 58 (f := .exm "NotBroken" "CacheError" true) rfl)
  gl_told := He.glo_ok X G (c.fact 59 (f := .glo "_law_told") rfl)
theorem step_of {base : Heap} {n : Nat} (T : Tab P w K mg base n) (c : He.SaysD faL fnL K) : ∀ f : Fid, FT P w K mg base (4 * (n + 1)) (psOf f) (callF (n + 1) f) (He.fAd K (atOf f))
  | .is_integer => by
    obtain ⟨fd, F⟩ := fun_of c .is_integer
    exact (FT.of (N := N_is_integer) (b := b_is_integer (callF n)) F sc_is_integer (bind_of .is_integer fd F) fun cdv A outer s H E hr => d_is_integer T hr)
  | .is_in => by
    obtain ⟨fd, F⟩ := fun_of c .is_in
    exact (FT.of (N := N_is_in) (b := b_is_in (callF n)) F sc_is_in (bind_of .is_in fd F) fun cdv A outer s H E hr => d_is_in T hr)
  | .is_list => by
    obtain ⟨fd, F⟩ := fun_of c .is_list
    exact (FT.of (N := N_is_list) (b := b_is_list (callF n)) F sc_is_list (bind_of .is_list fd F) fun cdv A outer s H E hr => d_is_list T hr)
  | .is_choice => by
    obtain ⟨fd, F⟩ := fun_of c .is_choice
    exact (FT.of (N := N_is_choice) (b := b_is_choice (callF n)) F sc_is_choice (bind_of .is_choice fd F) fun cdv A outer s H E hr => d_is_choice T hr)
  | .is_design => by
    obtain ⟨fd, F⟩ := fun_of c .is_design
    exact (FT.of (N := N_is_design) (b := b_is_design (callF n)) F sc_is_design (bind_of .is_design fd F) fun cdv A outer s H E hr => d_is_design T hr)
  | .is_world => by
    obtain ⟨fd, F⟩ := fun_of c .is_world
    exact (FT.of (N := N_is_world) (b := b_is_world (callF n)) F sc_is_world (bind_of .is_world fd F) fun cdv A outer s H E hr => d_is_world T hr)
  | .need_design => by
    obtain ⟨fd, F⟩ := fun_of c .need_design
    exact (FT.of (N := N_need_design) (b := b_need_design (callF n)) F sc_need_design (bind_of .need_design fd F) fun cdv A outer s H E hr => d_need_design T hr)
  | .need_world => by
    obtain ⟨fd, F⟩ := fun_of c .need_world
    exact (FT.of (N := N_need_world) (b := b_need_world (callF n)) F sc_need_world (bind_of .need_world fd F) fun cdv A outer s H E hr => d_need_world T hr)
  | .need_both => by
    obtain ⟨fd, F⟩ := fun_of c .need_both
    exact (FT.of (N := N_need_both) (b := b_need_both (callF n)) F sc_need_both (bind_of .need_both fd F) fun cdv A outer s H E hr => d_need_both T hr)
  | .steps_of => by
    obtain ⟨fd, F⟩ := fun_of c .steps_of
    exact (FT.of (N := N_steps_of) (b := b_steps_of (callF n)) F sc_steps_of (bind_of .steps_of fd F) fun cdv A outer s H E hr => d_steps_of T hr)
  | .is_passed_by => by
    obtain ⟨fd, F⟩ := fun_of c .is_passed_by
    exact (FT.of (N := N_is_passed_by) (b := b_is_passed_by (callF n)) F sc_is_passed_by (bind_of .is_passed_by fd F) fun cdv A outer s H E hr => d_is_passed_by T hr)
  | .is_climbing => by
    obtain ⟨fd, F⟩ := fun_of c .is_climbing
    exact (FT.of (N := N_is_climbing) (b := b_is_climbing (callF n)) F sc_is_climbing (bind_of .is_climbing fd F) fun cdv A outer s H E hr => d_is_climbing T hr)
  | .is_guarded => by
    obtain ⟨fd, F⟩ := fun_of c .is_guarded
    exact (FT.of (N := N_is_guarded) (b := b_is_guarded (callF n)) F sc_is_guarded (bind_of .is_guarded fd F) fun cdv A outer s H E hr => d_is_guarded T hr)
  | .rest_holds => by
    obtain ⟨fd, F⟩ := fun_of c .rest_holds
    exact (FT.of (N := N_rest_holds) (b := b_rest_holds (callF n)) F sc_rest_holds (bind_of .rest_holds fd F) fun cdv A outer s H E hr => d_rest_holds T hr)
  | .spelled => by
    obtain ⟨fd, F⟩ := fun_of c .spelled
    exact (FT.of (N := N_spelled) (b := b_spelled (callF n)) F sc_spelled (bind_of .spelled fd F) fun cdv A outer s H E hr => d_spelled T hr)
  | .events_of => by
    obtain ⟨fd, F⟩ := fun_of c .events_of
    exact (FT.of (N := N_events_of) (b := b_events_of (callF n)) F sc_events_of (bind_of .events_of fd F) fun cdv A outer s H E hr => d_events_of T hr)
  | .each => by
    obtain ⟨fd, F⟩ := fun_of c .each
    exact (FT.of (N := N_each) (b := b_each (callF n)) F sc_each (bind_of .each fd F) fun cdv A outer s H E hr => d_each T hr)
  | .late_recipe => by
    obtain ⟨fd, F⟩ := fun_of c .late_recipe
    exact (FT.of (N := N_late_recipe) (b := b_late_recipe (callF n)) F sc_late_recipe (bind_of .late_recipe fd F) fun cdv A outer s H E hr => d_late_recipe T hr)
  | .stopped => by
    obtain ⟨fd, F⟩ := fun_of c .stopped
    exact (FT.of (N := N_stopped) (b := b_stopped (callF n)) F sc_stopped (bind_of .stopped fd F) fun cdv A outer s H E hr => d_stopped T hr)
  | .set_recipe => by
    obtain ⟨fd, F⟩ := fun_of c .set_recipe
    exact (FT.of (N := N_set_recipe) (b := b_set_recipe (callF n)) F sc_set_recipe (bind_of .set_recipe fd F) fun cdv A outer s H E hr => d_set_recipe T hr)
  | .behind => by
    obtain ⟨fd, F⟩ := fun_of c .behind
    exact FT.gc (FT.of (N := N_behind) (b := b_behind (callF n)) F sc_behind (bind_of .behind fd F) fun cdv A outer s H E hr => d_behind T hr)
  | .l_taken => by
    obtain ⟨fd, F⟩ := fun_of c .l_taken
    exact (FT.of (N := N_l_taken) (b := b_l_taken (callF n)) F sc_l_taken (bind_of .l_taken fd F) fun cdv A outer s H E hr => d_l_taken T hr)
  | .l_pick => by
    obtain ⟨fd, F⟩ := fun_of c .l_pick
    exact (FT.of (N := N_l_pick) (b := b_l_pick (callF n)) F sc_l_pick (bind_of .l_pick fd F) fun cdv A outer s H E hr => d_l_pick T hr)
  | .l_paths => by
    obtain ⟨fd, F⟩ := fun_of c .l_paths
    exact (FT.of (N := N_l_paths) (b := b_l_paths (callF n)) F sc_l_paths (bind_of .l_paths fd F) fun cdv A outer s H E hr => d_l_paths T hr)
  | .l_begin => by
    obtain ⟨fd, F⟩ := fun_of c .l_begin
    exact (FT.of (N := N_l_begin) (b := b_l_begin (callF n)) F sc_l_begin (bind_of .l_begin fd F) fun cdv A outer s H E hr => d_l_begin T hr)
  | .l_going => by
    obtain ⟨fd, F⟩ := fun_of c .l_going
    exact (FT.of (N := N_l_going) (b := b_l_going (callF n)) F sc_l_going (bind_of .l_going fd F) fun cdv A outer s H E hr => d_l_going T hr)
  | .l_next => by
    obtain ⟨fd, F⟩ := fun_of c .l_next
    exact (FT.of (N := N_l_next) (b := b_l_next (callF n)) F sc_l_next (bind_of .l_next fd F) fun cdv A outer s H E hr => d_l_next T hr)
  | .l_events => by
    obtain ⟨fd, F⟩ := fun_of c .l_events
    exact FT.gc (FT.of (N := N_l_events) (b := b_l_events (callF n)) F sc_l_events (bind_of .l_events fd F) fun cdv A outer s H E hr => d_l_events T hr)
  | .l_end => by
    obtain ⟨fd, F⟩ := fun_of c .l_end
    exact (FT.of (N := N_l_end) (b := b_l_end (callF n)) F sc_l_end (bind_of .l_end fd F) fun cdv A outer s H E hr => d_l_end T hr)
  | .l_hold => by
    obtain ⟨fd, F⟩ := fun_of c .l_hold
    exact (FT.of (N := N_l_hold) (b := b_l_hold (callF n)) F sc_l_hold (bind_of .l_hold fd F) fun cdv A outer s H E hr => d_l_hold T hr)
  | .l_newer => by
    obtain ⟨fd, F⟩ := fun_of c .l_newer
    exact (FT.of (N := N_l_newer) (b := b_l_newer (callF n)) F sc_l_newer (bind_of .l_newer fd F) fun cdv A outer s H E hr => d_l_newer T hr)
  | .l_lets => by
    obtain ⟨fd, F⟩ := fun_of c .l_lets
    exact (FT.of (N := N_l_lets) (b := b_l_lets (callF n)) F sc_l_lets (bind_of .l_lets fd F) fun cdv A outer s H E hr => d_l_lets T hr)
  | .l_write => by
    obtain ⟨fd, F⟩ := fun_of c .l_write
    exact (FT.of (N := N_l_write) (b := b_l_write (callF n)) F sc_l_write (bind_of .l_write fd F) fun cdv A outer s H E hr => d_l_write T hr)
  | .l_read => by
    obtain ⟨fd, F⟩ := fun_of c .l_read
    exact (FT.of (N := N_l_read) (b := b_l_read (callF n)) F sc_l_read (bind_of .l_read fd F) fun cdv A outer s H E hr => d_l_read T hr)
  | .l_do => by
    obtain ⟨fd, F⟩ := fun_of c .l_do
    exact (FT.of (N := N_l_do) (b := b_l_do (callF n)) F sc_l_do (bind_of .l_do fd F) fun cdv A outer s H E hr => d_l_do T hr)
  | .l_holds => by
    obtain ⟨fd, F⟩ := fun_of c .l_holds
    exact FT.gc (FT.of (N := N_l_holds) (b := b_l_holds (callF n)) F sc_l_holds (bind_of .l_holds fd F) fun cdv A outer s H E hr => d_l_holds T hr)
  | .l_designs => by
    obtain ⟨fd, F⟩ := fun_of c .l_designs
    exact (FT.of (N := N_l_designs) (b := b_l_designs (callF n)) F sc_l_designs (bind_of .l_designs fd F) fun cdv A outer s H E hr => d_l_designs T hr)
  | .l_worlds => by
    obtain ⟨fd, F⟩ := fun_of c .l_worlds
    exact (FT.of (N := N_l_worlds) (b := b_l_worlds (callF n)) F sc_l_worlds (bind_of .l_worlds fd F) fun cdv A outer s H E hr => d_l_worlds T hr)
  | .law_ => by
    obtain ⟨fd, F⟩ := fun_of c .law_
    exact (FT.ofC (p := atOf .law_) (N := N_law_) (b := b_law_ (callF n)) F sc_law_ (bind_of .law_ fd F) fun cdv hcdv A outer s H E hr => d_law_ T hr hcdv)
theorem all_of (X : K.In h) (G : h.Ns mainGlobals mg) (c : He.SaysD faL fnL K) (ce : exL K = true) {base : Heap} (tb : LamX.TabB base mg (He.cT K ("law", none)).1 (lawT K)) : ∀ (n : Nat) (f : Fid), FT P w K mg base (4 * n) (psOf f) (callF n f) (He.fAd K (atOf f))
  | 0, f => by
    obtain ⟨fd, F⟩ := fun_of c f
    exact FT.bad (bind_of f fd F) F.kp
  | n + 1, f => step_of (tab_of X G c ce tb (all_of X G c ce tb n)) c f
theorem law_ok {base : Heap} {n : Nat} (T : Tab P w K mg base n) {fd : FuncData} (F : FnP K (dOf .law_).name (dOf .law_).qual s_law_ (He.fAd K (atOf .law_)) fd) : FnOk P w K mg base (L2.CX P w) (4 * (n + 1)) (He.fAd K (atOf .law_)) fd (psOf .law_) (spD ⟨K, mg⟩ 1 (callF (n + 1) .law_)) :=
  FT.of_okC (p := atOf .law_) (N := N_law_) (b := b_law_ (callF n)) F sc_law_ fun cdv hcdv A outer s H E hr => d_law_ T hr hcdv
end
def loose0 : List Str := ["__name__", "is_integer", "is_in", "is_list", "CacheError", "BadDesign", "BadWorld", "BadNumber", "NotBroken", "PATHS", "GUARDS", "FLIGHTS"]
def loose1 : List Str := ["DESIGNS", "WORLDS", "is_choice", "is_design", "is_world", "need_design", "need_world", "need_both", "steps_of", "DROPS_LAST", "VERSIONED", "is_passed_by"]
def loose2 : List Str := ["is_climbing", "is_guarded", "rest_holds", "MOST_BEHIND", "spelled", "events_of", "each", "late_recipe", "stopped", "set_recipe", "behind", "_law_taken"]
def loose3 : List Str := ["_law_pick", "_law_paths", "_law_begin", "_law_going", "_law_next", "_law_events", "_law_end", "_law_hold", "_law_newer", "_law_lets", "_law_write", "_law_read"]
def loose4 : List Str := ["_law_do", "_law_holds", "_law_designs", "_law_worlds", "_law_told"]
def looseL : List Str := loose0 ++ loose1 ++ loose2 ++ loose3 ++ loose4
abbrev RR : PySem.W.OpenRow := PySem.W.OpenLaw.row PySem.Challenge.rw_cacheheld_k06_whole_behind
abbrev hkL : PySem.W.Hook := hookFT (PySem.Challenge.rw_cacheheld_k06_whole_behind).prog.main.file faL fnL [("law", none)] exL xdL
def obL (s : PySem.W.SharedT) : AlE := obsFT (PySem.Challenge.rw_cacheheld_k06_whole_behind).prog.main.file faL fnL [("law", none)] exL xdL (HandSHeadRun.getT s)
theorem obL_eq (s : PySem.W.SharedT) : obL s = hkL.obs s.abs := obsFT_eq (HandSHeadRun.getT_eq s)
theorem runL (w : World) : HandSHeadRun.RunEq RR (PySem.W.view RR.prog [58]) hkL obL 6000 looseL w := by
  intro os
  kernel_rfl
end CH
open PySem PySem.W PySem.Calls PyProof.Rows
theorem CH.law_red (hlaw : ∀ ns : List Int, ns.length ≤ 63 → ∃ h', CH.callF 20 .law_ [.scr ns] [.tbl] = .ok (.bl true) h') : PySem.Challenge.rw_cacheheld_k06_whole_behind.Holds := by
  w_on; o_law
  refine HandSHeadRun.head_any (r := OpenLaw.row PySem.Challenge.rw_cacheheld_k06_whole_behind) (q := view (OpenLaw.row PySem.Challenge.rw_cacheheld_k06_whole_behind).prog [58]) (H := CH.hkL) (ob := CH.obL) (M := 6000) (loose := CH.looseL) (d := HandSHeadRun.topDef (OpenLaw.row PySem.Challenge.rw_cacheheld_k06_whole_behind).prog 58) (kwd := []) CH.obL_eq
    (by kernel_rfl) (fun s => by kernel_rfl) CH.runL (by kernel_rfl) (by kernel_rfl) (by kernel_rfl) (by rfl) (by first | assumption | decide +kernel) (by decide +kernel) ⟨rfl, rfl, rfl, rfl, rfl, by decide +kernel⟩ ?hw ?hc
  case hw => w_witness2
  case hc =>
    refine LamX.walk_ofTsE (l := PySem.Challenge.rw_cacheheld_k06_whole_behind) (n := 63) (k := 80) (x := "_law_script") (CX := fun w => L2.CX (PySem.Challenge.rw_cacheheld_k06_whole_behind).prog w) rfl (by decide) (by kernel_rfl) ⟨rfl, by decide, by decide⟩ ?F (fun w => CH.cx_no)
    intro w mg fa h Y G hmg0
    obtain ⟨K, KX, c, cx⟩ := Y
    have hmg : mg ("law" : PySem.Str) = some (.ref fa) := by
      have e : (HandSHeadRun.topDef (OpenLaw.row PySem.Challenge.rw_cacheheld_k06_whole_behind).prog 58).name = ("law" : PySem.Str) := by kernel_rfl
      rw [← e]
      exact hmg0
    have cd : He.SaysD CH.faL CH.fnL K := c.t.d
    have e := hmg.symm.trans (He.glo_ok KX G (cd.fact 38 (f := .glo "law") rfl))
    cases e
    obtain ⟨fd, F⟩ := CH.fun_of cd .law_
    have hm : (("law" : PySem.Str), (none : Option PySem.Str)) ∈ [(("law" : PySem.Str), (none : Option PySem.Str))] := List.mem_singleton_self _
    refine ⟨K, KX, fd, [He.cT K ("law", none)], CH.spD ⟨K, mg⟩ 1 (CH.callF 20 .law_), fun p hp => ?_, fun p hp => ?_, fun p hp => ?_, fun s u => (CH.bind_of .law_ fd F).2 s [u] rfl, fun H a ns hl hb hH hS => CH.sp_lawT (hH _ (List.mem_singleton_self _)) hS (hlaw ns hl), fun base hb hg hTB => ?_⟩
    · rw [List.mem_singleton.mp hp]; exact c.empty _ hm
    · rw [List.mem_singleton.mp hp]; exact c.out _ hm
    · rw [List.mem_singleton.mp hp]; exact PySem.W.codeHd_of_K KX (c.hd _ hm)
    · have tb := hTB _ (List.mem_singleton_self _)
      exact CH.law_ok (CH.tab_of KX G cd c.more tb (CH.all_of (P := (PySem.Challenge.rw_cacheheld_k06_whole_behind).prog) (w := w) KX G cd c.more (base := base) tb 19)) F

/-! P0: rules for reckoning with mirrors. -/
namespace CH
open PySem L2
theorem ofString_inj {a b : String} : (Str.ofString a = Str.ofString b) = (a = b) := by
  apply propext
  constructor
  · intro h
    rw [Str.ofString_eq_toList, Str.ofString_eq_toList] at h
    injection h with h
    have h := congrArg Array.toList h
    exact String.toList_inj.mp ((List.map_inj_right (f := Char.toNat) (fun a b e => Char.toNat_inj.mp e)).mp h)
  · rintro rfl; rfl
theorem atI0 {α : Type} {a : α} {xs : List α} : atI (a :: xs) 0 = some a := by
  have := atI_nat (xs := a :: xs) (j := 0) (v := a) rfl
  simpa using this
theorem atI1 {α : Type} {a b : α} {xs : List α} : atI (a :: b :: xs) 1 = some b := by
  have := atI_nat (xs := a :: b :: xs) (j := 1) (v := b) rfl
  simpa using this
theorem atI2 {α : Type} {a b c : α} {xs : List α} : atI (a :: b :: c :: xs) 2 = some c := by
  have := atI_nat (xs := a :: b :: c :: xs) (j := 2) (v := c) rfl
  simpa using this
theorem atI3 {α : Type} {a b c d : α} {xs : List α} : atI (a :: b :: c :: d :: xs) 3 = some d := by
  have := atI_nat (xs := a :: b :: c :: d :: xs) (j := 3) (v := d) rfl
  simpa using this
/-! shaped texts -/
theorem char_lt (c : Char) : c.toNat < 0x110000 := by
  have h := c.valid
  rcases h with h | ⟨_, h⟩
  · exact Nat.lt_of_lt_of_le h (by decide)
  · exact h
theorem strOk_of (x : String) : PyData.strOk (Str.ofString x) = true := by
  unfold PyData.strOk
  rw [Str.ofString_eq_toList]
  rw [← Array.all_toList, List.all_eq_true]
  intro n hn
  obtain ⟨c, _, rfl⟩ := List.mem_map.mp hn
  exact decide_eq_true (char_lt c)
theorem pyOk_str {n : Nat} {x : String} : pyOk n (.str (Str.ofString x)) = true := by
  have h : SeqAt.shaped (.str (Str.ofString x)) = true := by
    unfold SeqAt.shaped PyData.canLay0
    rw [strOk_of]
    rfl
  cases n <;> exact h
theorem pyOk_non {n : Nat} : pyOk n .non = true := by cases n <;> rfl
theorem pyOk_bl {n : Nat} {b : Bool} : pyOk n (.bl b) = true := by cases n <;> rfl
theorem pyOk_int {n : Nat} {i : Int} : pyOk n (.int i) = true := by cases n <;> rfl
theorem pyOk_tup {n : Nat} {xs : List D} : pyOk (n + 1) (.tup xs) = pyOkL n xs := rfl
theorem pyOk_lst {n : Nat} {xs : List D} : pyOk (n + 1) (.lst xs) = pyOkL n xs := rfl
theorem pyOkL_nil {n : Nat} : pyOkL n [] = true := by cases n <;> rfl
theorem pyOkL_cons {n : Nat} {d : D} {ds : List D} : pyOkL n (d :: ds) = (pyOk n d && pyOkL n ds) := by cases n <;> rfl
/-! ### one step of a mirror, applied -/
@[simp] theorem bindR_ok {α β : Type} {a : α} {h : MH} {k : α → MH → Res β} : bindR (.ok a h) k = k a h := rfl
@[simp] theorem bindR_exc {α β : Type} {c : Str} {a : Option (Str × D)} {h : MH} {k : α → MH → Res β} : bindR (.exc c a h) k = .exc c a h := rfl
@[simp] theorem bindR_bad {α β : Type} {k : α → MH → Res β} : bindR .bad k = .bad := rfl
@[simp] theorem optR_some {α : Type} {a : α} {h : MH} : optR (some a) h = .ok a h := rfl
@[simp] theorem bindS_ok {α : Type} {sl : Sl} {a : α} {h : MH} {k : α → MH → SRes} : bindS sl (.ok a h) k = k a h := rfl
@[simp] theorem bindS_exc {α : Type} {sl : Sl} {c : Str} {a : Option (Str × D)} {h : MH} {k : α → MH → SRes} : bindS sl (.exc c a h) k = .exc c a sl h := rfl
@[simp] theorem seqR_nx {sl : Sl} {h : MH} {k : Ms} : seqR (.nx sl h) k = k sl h := rfl
@[simp] theorem seqR_rt {d : D} {h : MH} {k : Ms} : seqR (.rt d h) k = .rt d h := rfl
@[simp] theorem seqR_exc {c : Str} {a : Option (Str × D)} {sl : Sl} {h : MH} {k : Ms} : seqR (.exc c a sl h) k = .exc c a sl h := rfl
@[simp] theorem seqR_ite {P : Prop} [Decidable P] {a b : SRes} {k : Ms} : seqR (if P then a else b) k = if P then seqR a k else seqR b k := by split <;> rfl
@[simp] theorem bindR_ite {α β : Type} {P : Prop} [Decidable P] {a b : Res α} {k : α → MH → Res β} : bindR (if P then a else b) k = if P then bindR a k else bindR b k := by split <;> rfl
@[simp] theorem bindS_ite {α : Type} {sl : Sl} {P : Prop} [Decidable P] {a b : Res α} {k : α → MH → SRes} : bindS sl (if P then a else b) k = if P then bindS sl a k else bindS sl b k := by split <;> rfl
@[simp] theorem endB_nx {sl : Sl} {h : MH} : endB (.nx sl h) = .ok .non h := rfl
@[simp] theorem endB_rt {d : D} {h : MH} : endB (.rt d h) = .ok d h := rfl
@[simp] theorem endB_exc {c : Str} {a : Option (Str × D)} {sl : Sl} {h : MH} : endB (.exc c a sl h) = .exc c a h := rfl
@[simp] theorem endB_ite {P : Prop} [Decidable P] {a b : SRes} : endB (if P then a else b) = if P then endB a else endB b := by split <;> rfl
@[simp] theorem ite_ok {α : Type} {P : Prop} [Decidable P] {a b : α} {h : MH} : (if P then Res.ok a h else Res.ok b h) = Res.ok (if P then a else b) h := by split <;> rfl
@[simp] theorem ite_blD {P : Prop} [Decidable P] {a b : Bool} : (if P then D.bl a else D.bl b) = D.bl (if P then a else b) := by split <;> rfl
theorem runB_ap {n : Nat} {b : Ms} {ds : List D} {h : MH} : runB n b ds h = endB (b (slots0 n ds) h) := rfl
@[simp] theorem slots0_ap {n : Nat} {ds : List D} : slots0 n ds = ds.map some ++ List.replicate (n - ds.length) none := rfl
@[simp] theorem mVar_ap {i : Nat} {sl : Sl} {h : MH} : mVar i sl h = optR (sl[i]?.join) h := rfl
@[simp] theorem mC_ap {d : D} {sl : Sl} {h : MH} : mC d sl h = .ok d h := rfl
@[simp] theorem mBind_ap {α β : Type} {m : Mo α} {k : α → Mo β} {sl : Sl} {h : MH} : mBind m k sl h = bindR (m sl h) fun a h1 => k a sl h1 := rfl
@[simp] theorem mNil_ap {sl : Sl} {h : MH} : mNil sl h = .ok [] h := rfl
@[simp] theorem mCons_ap {a : Mo D} {b : Mo (List D)} {sl : Sl} {h : MH} : mCons a b sl h = bindR (a sl h) fun x h1 => bindR (b sl h1) fun xs h2 => .ok (x :: xs) h2 := rfl
@[simp] theorem mOp_ap {g : D → D → MH → Res D} {a b : Mo D} {sl : Sl} {h : MH} : mOp g a b sl h = bindR (a sl h) fun x h1 => bindR (b sl h1) fun y h2 => g x y h2 := rfl
def andK (b : Mo D) (sl : Sl) : D → MH → Res D
  | .bl c, h => if c = true then b sl h else .ok (.bl false) h
  | _, _ => .bad
def orK (b : Mo D) (sl : Sl) : D → MH → Res D
  | .bl c, h => if c = true then .ok (.bl true) h else b sl h
  | _, _ => .bad
@[simp] theorem mAnd_ap {a b : Mo D} {sl : Sl} {h : MH} : mAnd a b sl h = bindR (a sl h) fun x h1 => andK b sl x h1 := by
  show bindR (a sl h) _ = _
  refine congrArg _ (funext fun x => funext fun h1 => ?_)
  cases x with
  | bl c => cases c <;> rfl
  | _ => rfl
@[simp] theorem mOr_ap {a b : Mo D} {sl : Sl} {h : MH} : mOr a b sl h = bindR (a sl h) fun x h1 => orK b sl x h1 := by
  show bindR (a sl h) _ = _
  refine congrArg _ (funext fun x => funext fun h1 => ?_)
  cases x with
  | bl c => cases c <;> rfl
  | _ => rfl
@[simp] theorem andK_bl {b : Mo D} {sl : Sl} {c : Bool} {h : MH} : andK b sl (.bl c) h = if c = true then b sl h else .ok (.bl false) h := rfl
@[simp] theorem orK_bl {b : Mo D} {sl : Sl} {c : Bool} {h : MH} : orK b sl (.bl c) h = if c = true then .ok (.bl true) h else b sl h := rfl
def notK : D → MH → Res D
  | .bl c, h => .ok (.bl (!c)) h
  | _, _ => .bad
@[simp] theorem mNot_ap {a : Mo D} {sl : Sl} {h : MH} : mNot a sl h = bindR (a sl h) fun x h1 => notK x h1 := by
  show bindR (a sl h) _ = _
  refine congrArg _ (funext fun x => funext fun h1 => ?_)
  cases x <;> rfl
@[simp] theorem notK_bl {c : Bool} {h : MH} : notK (.bl c) h = .ok (.bl (!c)) h := rfl
@[simp] theorem mTest_ap {a : Mo D} {sl : Sl} {h : MH} : mTest a sl h = bindR (a sl h) fun x h1 => optR (truthD x) h1 := rfl
@[simp] theorem truthD_bl {b : Bool} : truthD (.bl b) = some b := rfl
@[simp] theorem mAndT_ap {a b : Mo Bool} {sl : Sl} {h : MH} : mAndT a b sl h = bindR (a sl h) fun x h1 => if x = true then b sl h1 else .ok false h1 := by
  show bindR (a sl h) _ = _
  refine congrArg _ (funext fun x => funext fun h1 => ?_)
  cases x <;> rfl
@[simp] theorem mOrT_ap {a b : Mo Bool} {sl : Sl} {h : MH} : mOrT a b sl h = bindR (a sl h) fun x h1 => if x = true then .ok true h1 else b sl h1 := by
  show bindR (a sl h) _ = _
  refine congrArg _ (funext fun x => funext fun h1 => ?_)
  cases x <;> rfl
@[simp] theorem mNotT_ap {a : Mo Bool} {sl : Sl} {h : MH} : mNotT a sl h = bindR (a sl h) fun x h1 => .ok (!x) h1 := rfl
@[simp] theorem mIf_ap {c : Mo Bool} {a b : Mo D} {sl : Sl} {h : MH} : mIf c a b sl h = bindR (c sl h) fun x h1 => if x = true then a sl h1 else b sl h1 := by
  show bindR (c sl h) _ = _
  refine congrArg _ (funext fun x => funext fun h1 => ?_)
  cases x <;> rfl
@[simp] theorem mTup_ap {a : Mo (List D)} {sl : Sl} {h : MH} : mTup a sl h = bindR (a sl h) fun ds h1 => tupR ds h1 := rfl
@[simp] theorem mLst_ap {a : Mo (List D)} {sl : Sl} {h : MH} : mLst a sl h = bindR (a sl h) fun ds h1 => lstR ds h1 := rfl
@[simp] theorem mFn_ap {g : List D → MH → Res D} {fl : Mo (List D)} {sl : Sl} {h : MH} : mFn g fl sl h = bindR (fl sl h) fun ds h1 => g ds h1 := rfl
@[simp] theorem mCall_ap {n : Nat} {c : Fn} {fl : Mo (List D)} {sl : Sl} {h : MH} : mCall n c fl sl h = bindR (fl sl h) fun ds h1 => ckN n c ds h1 := rfl
@[simp] theorem sRet_ap {f : Mo D} {sl : Sl} {h : MH} : sRet f sl h = bindS sl (f sl h) fun d h1 => .rt d h1 := rfl
@[simp] theorem sExpr_ap {f : Mo D} {sl : Sl} {h : MH} : sExpr f sl h = bindS sl (f sl h) fun _ h1 => .nx sl h1 := rfl
@[simp] theorem sSkip_ap {sl : Sl} {h : MH} : sSkip sl h = .nx sl h := rfl
@[simp] theorem sSeq_ap {a b : Ms} {sl : Sl} {h : MH} : sSeq a b sl h = seqR (a sl h) b := rfl
@[simp] theorem sSet_ap {i : Nat} {f : Mo D} {sl : Sl} {h : MH} : sSet i f sl h = bindS sl (f sl h) fun d h1 => .nx (sl.set i (some d)) h1 := rfl
@[simp] theorem sIf_ap {c : Mo Bool} {a b : Ms} {sl : Sl} {h : MH} : sIf c a b sl h = bindS sl (c sl h) fun x h1 => if x = true then a sl h1 else b sl h1 := by
  show bindS sl (c sl h) _ = _
  refine congrArg _ (funext fun x => funext fun h1 => ?_)
  cases x <;> rfl
@[simp] theorem eqD_str {a b : Str} : eqD (.str a) (.str b) = some (decide (a = b)) := rfl
@[simp] theorem eqD_int {a b : Int} : eqD (.int a) (.int b) = some (decide (a = b)) := rfl
@[simp] theorem eqD_bl {a b : Bool} : eqD (.bl a) (.bl b) = some (decide (a = b)) := rfl
@[simp] theorem blR_some {b : Bool} {h : MH} : blR (some b) h = .ok (.bl b) h := rfl
@[simp] theorem oEq_ap {x y : D} {h : MH} : oEq x y h = blR (eqD x y) h := rfl
@[simp] theorem oNe_ap {x y : D} {h : MH} : oNe x y h = blR ((eqD x y).map not) h := rfl
@[simp] theorem oIx_int {x : D} {i : Int} {h : MH} : oIx x (.int i) h = optR (ixD h i x) h := rfl
@[simp] theorem ixD_tup {xs : List D} {i : Int} {h : MH} : ixD h i (.tup xs) = atI xs i := rfl
@[simp] theorem ixD_lst {xs : List D} {i : Int} {h : MH} : ixD h i (.lst xs) = atI xs i := rfl
@[simp] theorem ckN_ap {n : Nat} {c : Fn} {ds : List D} {h : MH} : ckN n c ds h = if ds.length = n then c ds h else .bad := rfl
@[simp] theorem eqv_str {a b : Str} : PyData.eqv (.str a) (.str b) = decide (b = a) := by
  simp only [PyData.eqv]
  by_cases h : b = a
  · subst h; simp
  · have h' : ¬ a = b := fun e => h e.symm
    simp [h, h']
@[simp] theorem inD_tup {x : D} {ys : List D} : inD x (.tup ys) = if (pyOk 40 x && pyOkL 39 ys) = true then some ((toPyL ys).any fun z => PyData.eqv z (toPy x)) else none := rfl
@[simp] theorem inD_lst {x : D} {ys : List D} : inD x (.lst ys) = if (pyOk 40 x && pyOkL 39 ys) = true then some ((toPyL ys).any fun z => PyData.eqv z (toPy x)) else none := rfl
@[simp] theorem toPy_str {x : Str} : toPy (.str x) = .str x := rfl
@[simp] theorem toPy_int {x : Int} : toPy (.int x) = .int x := rfl
@[simp] theorem toPyL_nil : toPyL [] = [] := rfl
@[simp] theorem toPyL_cons {d : D} {ds : List D} : toPyL (d :: ds) = toPy d :: toPyL ds := rfl
@[simp] theorem oIn_ap {x y : D} {h : MH} : oIn x y h = blR (inD x y) h := rfl
@[simp] theorem oNi_ap {x y : D} {h : MH} : oNi x y h = blR ((inD x y).map not) h := rfl
@[simp] theorem tupR_ap {ds : List D} {h : MH} : tupR ds h = if ds.length ≤ lim then .ok (.tup ds) h else .bad := rfl
@[simp] theorem lstR_ap {ds : List D} {h : MH} : lstR ds h = if ds.length ≤ lim then .ok (.lst ds) h else .bad := rfl
theorem lim_eq : lim = 100000 := rfl
@[simp] theorem le_lim {n : Nat} (h : n ≤ 100000) : (n ≤ lim) = True := eq_true h
@[simp] theorem lt_lim {n : Nat} (h : n < 100000) : (n < lim) = True := eq_true h
@[simp] theorem mDic_ap {ps : List (Mo D × Mo D)} {sl : Sl} {h : MH} : mDic ps sl h = bindR (mPairs ps sl h) fun kds h1 => if kds.length ≤ 15 then .ok (.dic (mergeD kds [] []).1 (mergeD kds [] []).2) h1 else .bad := rfl
@[simp] theorem mNewD_ap {ps : List (Mo D × Mo D)} {sl : Sl} {h : MH} : mNewD ps sl h = bindR (mPairs ps sl h) fun kds h1 => if kds.length ≤ 15 then .ok (.ref h1.length) (h1 ++ [.dic (mergeD kds [] []).1 (mergeD kds [] []).2]) else .bad := rfl
@[simp] theorem mPairs_nil {sl : Sl} {h : MH} : mPairs [] sl h = .ok [] h := rfl
def pairK (fs : List (Mo D × Mo D)) (sl : Sl) (y : D) (h : MH) : Option Key → Res (List (Key × D))
  | some k => bindR (mPairs fs sl h) fun rest h3 => .ok ((k, y) :: rest) h3
  | none => .bad
@[simp] theorem pairK_some {fs : List (Mo D × Mo D)} {sl : Sl} {y : D} {h : MH} {k : Key} : pairK fs sl y h (some k) = bindR (mPairs fs sl h) fun rest h3 => .ok ((k, y) :: rest) h3 := rfl
@[simp] theorem mPairs_cons {fk fv : Mo D} {ps : List (Mo D × Mo D)} {sl : Sl} {h : MH} : mPairs ((fk, fv) :: ps) sl h = bindR (fk sl h) fun x h1 => bindR (fv sl h1) fun y h2 => pairK ps sl y h2 (keyD x) := by
  show bindR _ _ = _
  refine congrArg _ (funext fun x => funext fun h1 => congrArg _ (funext fun y => funext fun h2 => ?_))
  cases keyD x <;> rfl
@[simp] theorem keyD_str {x : Str} : keyD (.str x) = some (.inr x) := rfl
@[simp] theorem keyD_int {x : Int} : keyD (.int x) = some (.inl x) := rfl
@[simp] theorem mergeD_nil {ks : List Key} {vs : List D} : mergeD [] ks vs = (ks, vs) := rfl
@[simp] theorem mergeD_cons {k : Key} {d : D} {ps : List (Key × D)} {ks : List Key} {vs : List D} : mergeD ((k, d) :: ps) ks vs = mergeD ps (dputK k ks) (dputV k d ks vs) := rfl
@[simp] theorem mDGet2_ap {fo fk fx : Mo D} {sl : Sl} {h : MH} : mDGet2 fo fk fx sl h = bindR (fo sl h) fun x h0 => if (dicD h0 x).isSome = true then bindR (fk sl h0) fun y h1 => bindR (fx sl h1) fun z h2 => optR (getOr h2 x y z) h2 else .bad := rfl
@[simp] theorem dicD_dic {ks : List Key} {vs : List D} {h : MH} : dicD h (.dic ks vs) = some (ks, vs) := rfl
@[simp] theorem mItT_ap {f : Mo D} {sl : Sl} {h : MH} : mItT f sl h = bindR (f sl h) fun d h1 => optR (itemsT d) h1 := rfl
@[simp] theorem mItL_ap {f : Mo D} {sl : Sl} {h : MH} : mItL f sl h = bindR (f sl h) fun d h1 => optR (itemsL d) h1 := rfl
@[simp] theorem itemsT_tup {ds : List D} : itemsT (.tup ds) = some ds := rfl
@[simp] theorem itemsL_lst {ds : List D} : itemsL (.lst ds) = some ds := rfl
def zipK (h : MH) : List D → Res (List D)
  | [.tup xs, .tup ys] => .ok (zipD xs ys) h
  | _ => .bad
@[simp] theorem mItZ_ap {f : Mo (List D)} {sl : Sl} {h : MH} : mItZ f sl h = bindR (f sl h) fun d h1 => zipK h1 d := by
  show bindR _ _ = _
  refine congrArg _ (funext fun x => funext fun h1 => ?_)
  unfold zipK
  rfl
@[simp] theorem zipK_two {xs ys : List D} {h : MH} : zipK h [.tup xs, .tup ys] = .ok (zipD xs ys) h := rfl
@[simp] theorem mLc_ap {vs : List Nat} {fi : Mo (List D)} {tg : Tg} {c : Mo Bool} {f : Mo D} {sl : Sl} {h : MH} : mLc vs fi tg c f sl h = bindR (fi sl h) fun ds h1 => bindR (lcD tg c f (wipeD sl vs) [] ds h1) fun xs h2 => .ok (.lst xs) h2 := rfl
@[simp] theorem mYes_ap {sl : Sl} {h : MH} : mYes sl h = .ok true h := rfl
@[simp] theorem fIsi_ap {x c : D} {h : MH} : fIsi [x, c] h = (match tyD h x with
    | some t => blR (isiV t c) h
    | none => .bad) := rfl
@[simp] theorem tyD_str {x : Str} {h : MH} : tyD h (.str x) = some "str" := rfl
@[simp] theorem tyD_tup {x : List D} {h : MH} : tyD h (.tup x) = some "tuple" := rfl
@[simp] theorem tyD_lst {x : List D} {h : MH} : tyD h (.lst x) = some "list" := rfl
@[simp] theorem tyD_bl {x : Bool} {h : MH} : tyD h (.bl x) = some "bool" := rfl
@[simp] theorem tyD_int {x : Int} {h : MH} : tyD h (.int x) = some "int" := rfl
@[simp] theorem isiV_ty {t n : String} : isiV t (.ty n) = isiT t n := rfl
@[simp] theorem isiV_tup {t : String} {cs : List D} : isiV t (.tup cs) = isiL t cs := rfl
@[simp] theorem fLen_ap {x : D} {h : MH} : fLen [x] h = optR ((lenD h x).map fun n => .int (n : Nat)) h := rfl
@[simp] theorem lenD_tup {xs : List D} {h : MH} : lenD h (.tup xs) = some xs.length := rfl
@[simp] theorem lenD_lst {xs : List D} {h : MH} : lenD h (.lst xs) = some xs.length := rfl
@[simp] theorem fAll_ap {xs : List D} {h : MH} : fAll [.lst xs] h = optR ((blsD xs).map fun bs => .bl (bs.all id)) h := rfl
@[simp] theorem fTuple_ap {x : D} {h : MH} : fTuple [x] h = optR ((seqD h x).map D.tup) h := rfl
@[simp] theorem seqD_lst {xs : List D} {h : MH} : seqD h (.lst xs) = some xs := rfl
@[simp] theorem oLe_int {i j : Int} {h : MH} : oLe (.int i) (.int j) h = .ok (.bl (decide (i ≤ j))) h := rfl
def chK (g' : D → D → MH → Res D) (y : D) (c : Mo D) (sl : Sl) : D → MH → Res D
  | .bl true, h1 => bindR (c sl h1) fun w h2 => g' y w h2
  | .bl false, h1 => .ok (.bl false) h1
  | _, _ => .bad
@[simp] theorem mChain_ap {g g' : D → D → MH → Res D} {a b c : Mo D} {sl : Sl} {h : MH} : mChain g g' a b c sl h = bindR (a sl h) fun x h0 => bindR (b sl h0) fun y h1 => bindR (g x y h1) fun z h2 => chK g' y c sl z h2 := by
  show bindR _ _ = _
  refine congrArg _ (funext fun x => funext fun h1 => ?_)
  show bindR _ _ = _
  refine congrArg _ (funext fun y => funext fun h2 => ?_)
  show bindR _ _ = _
  refine congrArg _ (funext fun z => funext fun h3 => ?_)
  cases z with
  | bl b => cases b <;> rfl
  | _ => rfl
@[simp] theorem chK_t {g' : D → D → MH → Res D} {y : D} {c : Mo D} {sl : Sl} {h1 : MH} : chK g' y c sl (.bl true) h1 = bindR (c sl h1) fun w h2 => g' y w h2 := rfl
@[simp] theorem chK_f {g' : D → D → MH → Res D} {y : D} {c : Mo D} {sl : Sl} {h1 : MH} : chK g' y c sl (.bl false) h1 = .ok (.bl false) h1 := rfl
@[simp] theorem mCallV_ap {tab : VTab} {fe : Mo D} {fl : Mo (List D)} {sl : Sl} {h : MH} : mCallV tab fe fl sl h = bindR (fe sl h) fun d h1 => (match vFn tab d with
  | some p => bindR (fl sl h1) fun ds h2 => ckN p.1 p.2 ds h2
  | none => .bad) := by
  show bindR _ _ = _
  refine congrArg _ (funext fun x => funext fun h1 => ?_)
  show (match vFn tab x with
  | some p => mBind fl fun ds => fun _ h => ckN p.1 p.2 ds h
  | none => fun _ _ => .bad : Mo D) sl h1 = _
  cases vFn tab x <;> rfl
@[simp] theorem vFn_gl {tab : VTab} {x : Str} : vFn tab (.gl x) = tab.lookup x := rfl
@[simp] theorem mMt_ap {rc : MH → D → Bool} {g : D → List D → MH → Res D} {fo : Mo D} {fl : Mo (List D)} {sl : Sl} {h : MH} : mMt rc g fo fl sl h = bindR (fo sl h) fun x h0 => if rc h0 x = true then bindR (fl sl h0) fun ds h1 => g x ds h1 else .bad := rfl
@[simp] theorem isStr_str {x : Str} : isStr (.str x) = true := rfl
@[simp] theorem gEnds_ap {a b : Str} {h : MH} : gEnds (.str a) [.str b] h = .ok (.bl (Txt.endswith a b)) h := rfl
/-! comprehensions -/
@[simp] theorem lcD_nil {tg : Tg} {c : Mo Bool} {f : Mo D} {sl : Sl} {acc : List D} {h : MH} : lcD tg c f sl acc [] h = .ok acc h := by unfold lcD; rfl
@[simp] theorem noX_ok {α : Type} {a : α} {h : MH} : noX (.ok a h) = .ok a h := rfl
theorem lcD_cons {tg : Tg} {c : Mo Bool} {f : Mo D} {sl : Sl} {acc ds : List D} {d : D} {h : MH} : lcD tg c f sl acc (d :: ds) h = (match tgD tg d sl with
    | none => .bad
    | some sl1 => bindR (noX (c sl1 h)) fun b h1 => if b then (if acc.length < lim then bindR (noX (f sl1 h1)) fun x h2 => lcD tg c f sl (acc ++ [x]) ds h2 else .bad) else lcD tg c f sl acc ds h1) := by rw [lcD]; try rfl
@[simp] theorem tgD_nm {i : Nat} {d : D} {sl : Sl} : tgD (.nm i) d sl = some (sl.set i (some d)) := rfl
@[simp] theorem tgD_tp {is : List Nat} {ds : List D} {sl : Sl} : tgD (.tp is) (.tup ds) sl = setAll is ds sl := rfl
/-- a comprehension whose parts change no heap -/
theorem lcD_pure {i : Nat} {c : Mo Bool} {f : Mo D} {sl : Sl} {h : MH} {p : D → Bool} {g : D → D} : ∀ (ds acc : List D), (∀ d ∈ ds, c (sl.set i (some d)) h = .ok (p d) h ∧ f (sl.set i (some d)) h = .ok (g d) h) → acc.length + ds.length < lim →
    lcD (.nm i) c f sl acc ds h = .ok (acc ++ (ds.filter p).map g) h := by
  intro ds
  induction ds with
  | nil => intro acc _ _; simp
  | cons d ds ih =>
    intro acc hd hl
    have h1 := hd d (by simp)
    rw [lcD_cons]
    simp only [tgD_nm, h1.1, noX_ok, bindR_ok]
    simp only [List.length_cons] at hl
    cases e : p d with
    | true =>
      simp only [if_true]
      rw [if_pos (by omega), h1.2]
      simp only [noX_ok, bindR_ok]
      rw [ih _ (fun d' hd' => hd d' (by simp [hd'])) (by simp only [List.length_append, List.length_cons, List.length_nil]; omega)]
      simp [e]
    | false =>
      simp only [Bool.false_eq_true, if_false]
      rw [ih _ (fun d' hd' => hd d' (by simp [hd'])) (by omega)]
      simp [e]
abbrev S (a : String) : D := .str (Str.ofString a)
abbrev St3 (a b c : String) : D := .tup [S a, S b, S c]
@[simp] theorem pyOk_str' {n : Nat} {x : String} : pyOk n (.str (Str.ofString x)) = true := pyOk_str
@[simp] theorem pyOkL_nil' {n : Nat} : pyOkL n [] = true := pyOkL_nil
@[simp] theorem pyOkL_cons' {n : Nat} {d : D} {ds : List D} : pyOkL n (d :: ds) = (pyOk n d && pyOkL n ds) := pyOkL_cons
@[simp] theorem ofString_inj' {a b : String} : (Str.ofString a = Str.ofString b) = (a = b) := ofString_inj
@[simp] theorem atI0' {α : Type} {a : α} {xs : List α} : atI (a :: xs) 0 = some a := atI0
@[simp] theorem atI1' {α : Type} {a b : α} {xs : List α} : atI (a :: b :: xs) 1 = some b := atI1
@[simp] theorem atI2' {α : Type} {a b c : α} {xs : List α} : atI (a :: b :: c :: xs) 2 = some c := atI2
@[simp] theorem atI3' {α : Type} {a b c d : α} {xs : List α} : atI (a :: b :: c :: d :: xs) 3 = some d := atI3
@[simp] theorem runB_ap' {n : Nat} {b : Ms} {ds : List D} {h : MH} : runB n b ds h = endB (b (slots0 n ds) h) := rfl
@[simp] theorem dget_nil {α : Type} {k : Key} {vs : List α} : dget k [] vs = none := by cases vs <;> rfl
@[simp] theorem dget_cons {α : Type} {k k' : Key} {ks : List Key} {v : α} {vs : List α} : dget k (k' :: ks) (v :: vs) = if k' = k then some v else dget k ks vs := rfl
@[simp] theorem dhas_nil {k : Key} : dhas k [] = false := rfl
@[simp] theorem dhas_cons {k k' : Key} {ks : List Key} : dhas k (k' :: ks) = if k' = k then true else dhas k ks := rfl
@[simp] theorem drep_nil {α : Type} {k : Key} {x : α} {vs : List α} : drep k x [] vs = vs := by cases vs <;> rfl
@[simp] theorem drep_cons {α : Type} {k k' : Key} {ks : List Key} {x v : α} {vs : List α} : drep k x (k' :: ks) (v :: vs) = (if k' = k then x else v) :: drep k x ks vs := rfl
@[simp] theorem dputK_ap {k : Key} {ks : List Key} : dputK k ks = if dhas k ks = true then ks else ks ++ [k] := rfl
@[simp] theorem dputV_ap {α : Type} {k : Key} {x : α} {ks : List Key} {vs : List α} : dputV k x ks vs = if dhas k ks = true then drep k x ks vs else vs ++ [x] := rfl
@[simp] theorem str_beq {a b : String} : (Str.ofString a == Str.ofString b) = decide (a = b) := by
  by_cases h : a = b
  · subst h; simp
  · have h' : ¬ (Str.ofString a = Str.ofString b) := fun e => h (ofString_inj.mp e)
    simp [h]
@[simp] theorem getOr_ap {h : MH} {x y z : D} : getOr h x y z = (dicD h x).bind fun p => (keyD y).map fun k => (dget k p.1 p.2).getD z := rfl
@[simp] theorem optR_none {α : Type} {h : MH} : optR (none : Option α) h = .bad := rfl
@[simp] theorem sDSet_ap {fo fi fv : Mo D} {sl : Sl} {h : MH} : sDSet fo fi fv sl h = bindS sl (fv sl h) fun v h1 => bindS sl (fo sl h1) fun x h2 => bindS sl (fi sl h2) fun y h3 => match dSet h3 x y v with
  | some h4 => .nx sl h4
  | none => .bad := rfl
@[simp] theorem sLSet_ap {fo fi fv : Mo D} {sl : Sl} {h : MH} : sLSet fo fi fv sl h = bindS sl (fv sl h) fun v h1 => bindS sl (fo sl h1) fun x h2 => bindS sl (fi sl h2) fun y h3 => match lSet h3 x y v with
  | some h4 => .nx sl h4
  | none => .bad := rfl
@[simp] theorem oDGet_ap {x y : D} {h : MH} : oDGet x y h = optR (atKeyD h x y) h := rfl
@[simp] theorem lookS {β : Type} {a b : String} {v : β} {l : List (Str × β)} : List.lookup (Str.ofString a) ((Str.ofString b, v) :: l) = if a = b then some v else List.lookup (Str.ofString a) l := by
  rw [List.lookup_cons, str_beq]
  by_cases h : a = b
  · simp [h]
  · simp [h]
theorem lcD_map {α : Type} {to : α → D} {i : Nat} {c : Mo Bool} {f : Mo D} {sl : Sl} {h : MH} {p : α → Bool} {g : α → D} : ∀ (xs : List α) (acc : List D), (∀ x ∈ xs, c (sl.set i (some (to x))) h = .ok (p x) h ∧ (p x = true → f (sl.set i (some (to x))) h = .ok (g x) h)) → acc.length + xs.length < lim →
    lcD (.nm i) c f sl acc (xs.map to) h = .ok (acc ++ (xs.filter p).map g) h := by
  intro xs
  induction xs with
  | nil => intro acc _ _; simp
  | cons d ds ih =>
    intro acc hd hl
    have h1 := hd d (by simp)
    rw [List.map_cons, lcD_cons]
    simp only [tgD_nm, h1.1, noX_ok, bindR_ok]
    simp only [List.length_cons] at hl
    cases e : p d with
    | true =>
      simp only [if_true]
      rw [if_pos (by omega), h1.2 e]
      simp only [noX_ok, bindR_ok]
      rw [ih _ (fun d' hd' => hd d' (by simp [hd'])) (by simp only [List.length_append, List.length_cons, List.length_nil]; omega)]
      simp [e]
    | false =>
      simp only [Bool.false_eq_true, if_false]
      rw [ih _ (fun d' hd' => hd d' (by simp [hd'])) (by omega)]
      simp [e]
theorem lcD_map0 {α : Type} {to : α → D} {i : Nat} {c : Mo Bool} {f : Mo D} {sl : Sl} {h : MH} {p : α → Bool} {g : α → D} (xs : List α) (H : ∀ x ∈ xs, c (sl.set i (some (to x))) h = .ok (p x) h ∧ (p x = true → f (sl.set i (some (to x))) h = .ok (g x) h)) (hl : xs.length < lim) :
    lcD (.nm i) c f sl [] (xs.map to) h = .ok ((xs.filter p).map g) h := by
  have := lcD_map (to := to) xs [] H (by simpa using hl)
  simpa using this
@[simp] theorem oSub_int {i j : Int} {h : MH} : oSub (.int i) (.int j) h = .ok (.int (i - j)) h := rfl
@[simp] theorem oLt_int {i j : Int} {h : MH} : oLt (.int i) (.int j) h = .ok (.bl (decide (i < j))) h := rfl
@[simp] theorem oGt_int {i j : Int} {h : MH} : oGt (.int i) (.int j) h = .ok (.bl (decide (j < i))) h := rfl
@[simp] theorem oGe_int {i j : Int} {h : MH} : oGe (.int i) (.int j) h = .ok (.bl (decide (j ≤ i))) h := rfl
@[simp] theorem oAdd_int {i j : Int} {h : MH} : oAdd (.int i) (.int j) h = .ok (.int (i + j)) h := rfl
@[simp] theorem oDiv_int {i j : Int} {h : MH} : oDiv (.int i) (.int j) h = if cDiv i j = true then .ok (.int (i / j)) h else .bad := rfl
@[simp] theorem oMod_int {i j : Int} {h : MH} : oMod (.int i) (.int j) h = if decide (0 < j) = true then .ok (.int (i % j)) h else .bad := rfl
@[simp] theorem oPow_int {i j : Int} {h : MH} : oPow (.int i) (.int j) h = if cPow i j = true then .ok (.int (i ^ j.toNat)) h else .bad := rfl
@[simp] theorem oMul_int {i j : Int} {h : MH} : oMul (.int i) (.int j) h = if cMul i j = true then .ok (.int (i * j)) h else .bad := rfl
@[simp] theorem fInt_int {i : Int} {h : MH} : fInt [.int i] h = .ok (.int i) h := rfl
@[simp] theorem ixD_ref {k : Nat} {i : Int} {h : MH} : ixD h i (.ref k) = (oLst h[k]?).bind fun xs => atI xs i := rfl
@[simp] theorem ixD_scr {ns : List Int} {i : Int} {h : MH} : ixD h i (.scr ns) = (atI ns i).map D.int := rfl
@[simp] theorem lenD_scr {xs : List Int} {h : MH} : lenD h (.scr xs) = some xs.length := rfl
@[simp] theorem oLst_lst {xs : List D} : oLst (some (.lst xs)) = some xs := rfl
theorem seq_set {i : Nat} {f : Mo D} {rest : Ms} {sl : Sl} {h h1 : MH} (d : D) (e : f sl h = .ok d h1) : sSeq (sSet i f) rest sl h = rest (sl.set i (some d)) h1 := by
  simp [e]
theorem seq_nx {a b : Ms} {sl sl1 : Sl} {h h1 : MH} (e : a sl h = .nx sl1 h1) : sSeq a b sl h = b sl1 h1 := by
  simp [e]
theorem dSet_ref {h : MH} {k : Nat} {key : Key} {y v : D} {ks : List Key} {vs : List D} (hk : h[k]? = some (.dic ks vs)) (hy : keyD y = some key) (hl : ks.length < lim) : dSet h (.ref k) y v = some (h.set k (.dic (dputK key ks) (dputV key v ks vs))) := by
  simp [dSet, hk, oDic, hy, hl]
theorem seq_dset {fo fi fv : Mo D} {rest : Ms} {sl : Sl} {h : MH} {k : Nat} {key : Key} {y v : D} {ks : List Key} {vs : List D} (e1 : fv sl h = .ok v h) (e2 : fo sl h = .ok (.ref k) h) (e3 : fi sl h = .ok y h) (hk : h[k]? = some (.dic ks vs)) (hy : keyD y = some key) (hl : ks.length < lim) :
    sSeq (sDSet fo fi fv) rest sl h = rest sl (h.set k (.dic (dputK key ks) (dputV key v ks vs))) := by
  simp [e1, e2, e3, dSet_ref hk hy hl]
def r1K (h : MH) : List D → Res (List D)
  | [.int j] => if -big ≤ j ∧ j ≤ big then .ok (rangeD 0 j.toNat) h else .bad
  | _ => .bad
@[simp] theorem r1K_int {j : Int} {h : MH} : r1K h [.int j] = if -big ≤ j ∧ j ≤ big then .ok (rangeD 0 j.toNat) h else .bad := rfl
@[simp] theorem mItR1_ap {f : Mo (List D)} {sl : Sl} {h : MH} : mItR1 f sl h = bindR (f sl h) fun d h1 => r1K h1 d := by
  show bindR _ _ = _
  refine congrArg _ (funext fun x => funext fun h1 => ?_)
  unfold r1K
  rfl
theorem forD_inv {i : Nat} {body : Ms} {Inv : Sl → MH → Prop} : ∀ (ds : List D) (sl : Sl) (h : MH), (∀ d ∈ ds, ∀ sl h, Inv sl h → ∃ sl' h', body (sl.set i (some d)) h = .nx sl' h' ∧ Inv sl' h') → Inv sl h → ∃ sl' h', forD (.nm i) body ds sl h = .nx sl' h' ∧ Inv sl' h' := by
  intro ds
  induction ds with
  | nil => intro sl h _ hi; exact ⟨sl, h, by unfold forD; rfl, hi⟩
  | cons d ds ih =>
    intro sl h hb hi
    obtain ⟨sl1, h1, e1, hi1⟩ := hb d (by simp) sl h hi
    obtain ⟨sl2, h2, e2, hi2⟩ := ih sl1 h1 (fun d' hd' => hb d' (by simp [hd'])) hi1
    refine ⟨sl2, h2, ?_, hi2⟩
    rw [forD]
    simp only [tgD_nm, e1]
    exact e2
@[simp] theorem sFor_ap {fi : Mo (List D)} {tg : Tg} {body : Ms} {sl : Sl} {h : MH} : sFor fi tg body sl h = bindS sl (fi sl h) fun ds h1 => forD tg body ds sl h1 := rfl
@[simp] theorem newLst_ap {ds : List D} {h : MH} : newLst ds h = if ds.length ≤ lim then .ok (.ref h.length) (h ++ [.lst ds]) else .bad := rfl
@[simp] theorem mNewL_ap {a : Mo (List D)} {sl : Sl} {h : MH} : mNewL a sl h = bindR (a sl h) fun ds h1 => newLst ds h1 := rfl
theorem forD_ex {i : Nat} {body : Ms} {Inv : Sl → MH → Prop} {ds : List D} {sl : Sl} {h : MH} (hi : Inv sl h) (hb : ∀ d ∈ ds, ∀ sl h, Inv sl h → ∃ sl' h', body (sl.set i (some d)) h = .nx sl' h' ∧ Inv sl' h') : ∃ sl' h', forD (.nm i) body ds sl h = .nx sl' h' ∧ True := by
  obtain ⟨sl', h', e, _⟩ := forD_inv ds sl h hb hi
  exact ⟨sl', h', e, trivial⟩
theorem rangeD_eq {lo : Int} {m : Nat} : rangeD lo m = (List.range m).map fun (i : Nat) => D.int (lo + i) := by
  induction m generalizing lo with
  | zero => rfl
  | succ m ih =>
    rw [rangeD, ih, List.range_succ_eq_map]
    simp
    intro a _
    omega
theorem range0_eq {m : Nat} : rangeD 0 m = (List.range m).map fun (i : Nat) => D.int i := by
  rw [rangeD_eq]; simp
@[simp] theorem toPy_tup {xs : List D} : toPy (.tup xs) = .tuple (toPyL xs) := rfl
@[simp] theorem toPy_lst {xs : List D} : toPy (.lst xs) = .list (toPyL xs) := rfl
theorem pyOkL_S {m : Nat} {xs : List String} : pyOkL m (xs.map S) = true := by
  induction xs with
  | nil => exact pyOkL_nil
  | cons x xs ih => rw [List.map_cons, pyOkL_cons, ih, pyOk_str]; rfl
theorem toPyL_S {xs : List String} : toPyL (xs.map S) = xs.map fun x => PyData.str (Str.ofString x) := by
  induction xs with
  | nil => rfl
  | cons x xs ih => simp [ih]
theorem inD_S {xs : List String} {q : String} : inD (S q) (.lst (xs.map S)) = some (decide (q ∈ xs)) := by
  rw [inD_lst, pyOkL_S, pyOk_str, toPyL_S]
  simp only [Bool.and_true, if_true, Option.some.injEq]
  induction xs with
  | nil => simp
  | cons x xs ih => simp at ih ⊢; rw [ih]
theorem inD_ST {xs : List String} {q : String} : inD (S q) (.tup (xs.map S)) = some (decide (q ∈ xs)) := inD_S (xs := xs) (q := q)
theorem blsD_map : ∀ (bs : List Bool), blsD (bs.map D.bl) = some bs
  | [] => rfl
  | b :: bs => by simp [blsD, blsD_map bs]
theorem lcD_mapT {α : Type} {to : α → D} {tg : Tg} {c : Mo Bool} {f : Mo D} {sl : Sl} {h : MH} {p : α → Bool} {g : α → D} : ∀ (xs : List α) (acc : List D), (∀ x ∈ xs, ∃ sl1, tgD tg (to x) sl = some sl1 ∧ c sl1 h = .ok (p x) h ∧ (p x = true → f sl1 h = .ok (g x) h)) → acc.length + xs.length < lim →
    lcD tg c f sl acc (xs.map to) h = .ok (acc ++ (xs.filter p).map g) h := by
  intro xs
  induction xs with
  | nil => intro acc _ _; simp
  | cons d ds ih =>
    intro acc hd hl
    obtain ⟨sl1, h0, h1, h2⟩ := hd d (by simp)
    rw [List.map_cons, lcD_cons]
    simp only [h0, h1, noX_ok, bindR_ok]
    simp only [List.length_cons] at hl
    cases e : p d with
    | true =>
      simp only [if_true]
      rw [if_pos (by omega), h2 e]
      simp only [noX_ok, bindR_ok]
      rw [ih _ (fun d' hd' => hd d' (by simp [hd'])) (by simp only [List.length_append, List.length_cons, List.length_nil]; omega)]
      simp [e]
    | false =>
      simp only [Bool.false_eq_true, if_false]
      rw [ih _ (fun d' hd' => hd d' (by simp [hd'])) (by omega)]
      simp [e]
theorem lcD_mapT0 {α : Type} {to : α → D} {tg : Tg} {c : Mo Bool} {f : Mo D} {sl : Sl} {h : MH} {p : α → Bool} {g : α → D} (xs : List α) (H : ∀ x ∈ xs, ∃ sl1, tgD tg (to x) sl = some sl1 ∧ c sl1 h = .ok (p x) h ∧ (p x = true → f sl1 h = .ok (g x) h)) (hl : xs.length < lim) :
    lcD tg c f sl [] (xs.map to) h = .ok ((xs.filter p).map g) h := by
  have := lcD_mapT (to := to) xs [] H (by simpa using hl)
  simpa using this
/-- a loop that is left at the first find -/
theorem forD_find {α : Type} {to : α → D} {i : Nat} {body : Ms} {h : MH} {P : α → Bool} {r : α → D} {Inv : Sl → Prop} : ∀ (xs : List α) (sl : Sl), (∀ x ∈ xs, ∀ sl, Inv sl → (P x = true → body (sl.set i (some (to x))) h = .rt (r x) h) ∧ (P x = false → ∃ sl', body (sl.set i (some (to x))) h = .nx sl' h ∧ Inv sl')) → Inv sl →
    (∀ x, xs.find? P = some x → forD (.nm i) body (xs.map to) sl h = .rt (r x) h) ∧ (xs.find? P = none → ∃ sl', forD (.nm i) body (xs.map to) sl h = .nx sl' h ∧ Inv sl') := by
  intro xs
  induction xs with
  | nil => intro sl _ hi; exact ⟨fun x e => by simp at e, fun _ => ⟨sl, by rw [List.map_nil]; unfold forD; rfl, hi⟩⟩
  | cons d ds ih =>
    intro sl hb hi
    obtain ⟨h1, h2⟩ := hb d (by simp) sl hi
    rw [List.map_cons, forD]
    simp only [tgD_nm]
    cases e : P d with
    | true =>
      rw [h1 e]
      refine ⟨fun x ex => ?_, fun ex => by simp [e] at ex⟩
      simp [e] at ex
      subst ex
      rfl
    | false =>
      obtain ⟨sl', e', hi'⟩ := h2 e
      rw [e']
      have := ih sl' (fun x hx => hb x (by simp [hx])) hi'
      refine ⟨fun x ex => ?_, fun ex => ?_⟩
      · exact this.1 x (by simpa [e] using ex)
      · exact this.2 (by simpa [e] using ex)
/-- a loop as a fold -/
theorem forD_fold {α σ : Type} {to : α → D} {i : Nat} {body : Ms} {step : σ → α → σ} {Inv : σ → Sl → MH → Prop} : ∀ (xs : List α) (s : σ) (sl : Sl) (h : MH), (∀ x ∈ xs, ∀ s sl h, Inv s sl h → ∃ sl' h', body (sl.set i (some (to x))) h = .nx sl' h' ∧ Inv (step s x) sl' h') → Inv s sl h →
    ∃ sl' h', forD (.nm i) body (xs.map to) sl h = .nx sl' h' ∧ Inv (xs.foldl step s) sl' h' := by
  intro xs
  induction xs with
  | nil => intro s sl h _ hi; exact ⟨sl, h, by rw [List.map_nil]; unfold forD; rfl, hi⟩
  | cons d ds ih =>
    intro s sl h hb hi
    obtain ⟨sl1, h1, e1, hi1⟩ := hb d (by simp) s sl h hi
    obtain ⟨sl2, h2, e2, hi2⟩ := ih (step s d) sl1 h1 (fun x hx => hb x (by simp [hx])) hi1
    refine ⟨sl2, h2, ?_, hi2⟩
    rw [List.map_cons, forD]
    simp only [tgD_nm, e1]
    exact e2
theorem foldl_find {α : Type} {P : α → Bool} : ∀ (xs : List α) (o : Option α), xs.foldl (fun o x => if (o.isNone && P x) = true then some x else o) o = (o.or (xs.find? P)) := by
  intro xs
  induction xs with
  | nil => intro o; simp
  | cons d ds ih =>
    intro o
    rw [List.foldl_cons, ih]
    cases o with
    | some y => simp
    | none => cases e : P d <;> simp [e]
@[simp] theorem filter_tt {α : Type} (xs : List α) : xs.filter (fun _ => true) = xs := List.filter_eq_self.mpr (by simp)
@[simp] theorem filter_ff {α : Type} (xs : List α) : xs.filter (fun _ => false) = [] := List.filter_eq_nil_iff.mpr (by simp)
theorem forD_some {α β : Type} {to : α → D} {i : Nat} {body : Ms} {h : MH} {G : α → Option β} {r : β → D} {Inv : Sl → Prop} : ∀ (xs : List α) (sl : Sl), (∀ x ∈ xs, ∀ sl, Inv sl → (∀ b, G x = some b → body (sl.set i (some (to x))) h = .rt (r b) h) ∧ (G x = none → ∃ sl', body (sl.set i (some (to x))) h = .nx sl' h ∧ Inv sl')) → Inv sl →
    (∀ b, xs.findSome? G = some b → forD (.nm i) body (xs.map to) sl h = .rt (r b) h) ∧ (xs.findSome? G = none → ∃ sl', forD (.nm i) body (xs.map to) sl h = .nx sl' h ∧ Inv sl') := by
  intro xs
  induction xs with
  | nil => intro sl _ hi; exact ⟨fun x e => by simp at e, fun _ => ⟨sl, by rw [List.map_nil]; unfold forD; rfl, hi⟩⟩
  | cons d ds ih =>
    intro sl hb hi
    obtain ⟨h1, h2⟩ := hb d (by simp) sl hi
    rw [List.map_cons, forD]
    simp only [tgD_nm]
    cases e : G d with
    | some b =>
      rw [h1 b e]
      refine ⟨fun x ex => ?_, fun ex => by simp [e] at ex⟩
      simp [e] at ex
      subst ex
      rfl
    | none =>
      obtain ⟨sl', e', hi'⟩ := h2 e
      rw [e']
      have := ih sl' (fun x hx => hb x (by simp [hx])) hi'
      refine ⟨fun x ex => ?_, fun ex => ?_⟩
      · exact this.1 x (by simpa [e] using ex)
      · exact this.2 (by simpa [e] using ex)
theorem foldl_or {α β : Type} {G : α → Option β} : ∀ (xs : List α) (o : Option β), xs.foldl (fun o x => o.or (G x)) o = o.or (xs.findSome? G) := by
  intro xs
  induction xs with
  | nil => intro o; simp
  | cons d ds ih =>
    intro o
    rw [List.foldl_cons, ih]
    cases o with
    | some y => simp
    | none => cases e : G d <;> simp [e]
theorem all_map {α : Type} (xs : List α) (f : α → Bool) {h : MH} : fAll [.lst (xs.map fun x => D.bl (f x))] h = .ok (.bl (xs.all f)) h := by
  have : (xs.map fun x => D.bl (f x)) = ((xs.map f).map D.bl) := by simp
  rw [this, fAll_ap, blsD_map]
  simp [List.all_map]
/-- goes on, with P -/
def NxP (P : Sl → MH → Prop) (R : SRes) : Prop := ∃ sl' h', R = .nx sl' h' ∧ P sl' h'
/-- gives a value -/
def RtP (d : D) (R : SRes) : Prop := ∃ h', endB R = .ok d h'
theorem seq_g (G : SRes → Prop) {a b : Ms} {sl : Sl} {h : MH} (P : Sl → MH → Prop) (h1 : NxP P (a sl h)) (h2 : ∀ sl1 h1, P sl1 h1 → G (b sl1 h1)) : G (sSeq a b sl h) := by
  obtain ⟨sl1, h1, e, p⟩ := h1
  rw [seq_nx e]
  exact h2 sl1 h1 p
theorem seq_np {a b : Ms} {sl : Sl} {h : MH} {Q : Sl → MH → Prop} (P : Sl → MH → Prop) (h1 : NxP P (a sl h)) (h2 : ∀ sl1 h1, P sl1 h1 → NxP Q (b sl1 h1)) : NxP Q (sSeq a b sl h) := seq_g (NxP Q) P h1 h2
theorem seq_rp {a b : Ms} {sl : Sl} {h : MH} {d : D} (P : Sl → MH → Prop) (h1 : NxP P (a sl h)) (h2 : ∀ sl1 h1, P sl1 h1 → RtP d (b sl1 h1)) : RtP d (sSeq a b sl h) := seq_g (RtP d) P h1 h2
theorem nxp_of {P : Sl → MH → Prop} {R : SRes} (sl : Sl) (h : MH) (e : R = .nx sl h) (p : P sl h) : NxP P R := ⟨sl, h, e, p⟩
theorem for_fold {α σ : Type} {fi : Mo (List D)} {i : Nat} {body : Ms} {sl : Sl} {h : MH} {P : Sl → MH → Prop} (to : α → D) (xs : List α) (step : σ → α → σ) (Inv : σ → Sl → MH → Prop) (s0 : σ) (hfi : fi sl h = .ok (xs.map to) h) (h0 : Inv s0 sl h)
    (hb : ∀ x ∈ xs, ∀ s sl h, Inv s sl h → NxP (Inv (step s x)) (body (sl.set i (some (to x))) h)) (hP : ∀ sl h, Inv (xs.foldl step s0) sl h → P sl h) : NxP P (sFor fi (.nm i) body sl h) := by
  obtain ⟨sl', h', e, p⟩ := forD_fold (to := to) (i := i) (body := body) (step := step) (Inv := Inv) xs s0 sl h hb h0
  exact ⟨sl', h', by simp [hfi, e], hP _ _ p⟩
/-- a loop whose state is not told -/
theorem for_inv {fi : Mo (List D)} {i : Nat} {body : Ms} {sl : Sl} {h : MH} {P : Sl → MH → Prop} (ds : List D) (Inv : Sl → MH → Prop) (hfi : fi sl h = .ok ds h) (h0 : Inv sl h)
    (hb : ∀ x ∈ ds, ∀ sl h, Inv sl h → NxP Inv (body (sl.set i (some x)) h)) (hP : ∀ sl h, Inv sl h → P sl h) : NxP P (sFor fi (.nm i) body sl h) := by
  obtain ⟨sl', h', e, p⟩ := forD_inv (i := i) (body := body) (Inv := Inv) ds sl h hb h0
  exact ⟨sl', h', by simp [hfi, e], hP _ _ p⟩
@[simp] theorem sPar_ap {i j : Nat} {f : Mo (List D)} {sl : Sl} {h : MH} : sPar i j f sl h = bindS sl (f sl h) fun ds h1 => (match ds with
  | [d, e] => .nx ((sl.set i (some d)).set j (some e)) h1
  | _ => .bad) := rfl
end CH

/-! P2: rules for reckoning with objects. -/
namespace CH
open PySem L2
@[simp] theorem mFld_ap {cs : List Str} {f : Str} {fo : Mo D} {sl : Sl} {h : MH} : mFld cs f fo sl h = bindR (fo sl h) fun x h1 => optR (fldD h1 cs f x) h1 := rfl
def nxO (sl : Sl) : Option MH → SRes
  | some h => .nx sl h
  | none => .bad
@[simp] theorem nxO_some {sl : Sl} {h : MH} : nxO sl (some h) = .nx sl h := rfl
@[simp] theorem sFldSet_ap {cs : List Str} {f : Str} {fo fv : Mo D} {sl : Sl} {h : MH} : sFldSet cs f fo fv sl h = bindS sl (fv sl h) fun v h1 => bindS sl (fo sl h1) fun x h2 => nxO sl (fldS h2 cs f x v) := by
  show bindS sl _ _ = _
  refine congrArg _ (funext fun v => funext fun h1 => ?_)
  show bindS sl _ _ = _
  refine congrArg _ (funext fun x => funext fun h2 => ?_)
  show (match fldS h2 cs f x v with
    | some h3 => SRes.nx sl h3
    | none => .bad) = _
  cases fldS h2 cs f x v <;> rfl
@[simp] theorem kFld_ap {cs : List Str} {f : Str} {fo : Mo D} {v : D} {sl : Sl} {h : MH} : kFld cs f fo v sl h = bindS sl (fo sl h) fun x h2 => nxO sl (fldS h2 cs f x v) := by
  show bindS sl _ _ = _
  refine congrArg _ (funext fun x => funext fun h2 => ?_)
  show (match fldS h2 cs f x v with
    | some h3 => SRes.nx sl h3
    | none => .bad) = _
  cases fldS h2 cs f x v <;> rfl
def addK (sl : Sl) (c f : Str) (x : D) (fv : Mo D) (h1 : MH) : Option D → SRes
  | none => .bad
  | some v => bindS sl (fv sl h1) fun y h2 => match addI v y with
    | none => .bad
    | some z => nxO sl (fldS h2 [c] f x z)
@[simp] theorem addK_int {sl : Sl} {c f : Str} {x : D} {fv : Mo D} {h1 : MH} {i : Int} : addK sl c f x fv h1 (some (.int i)) = bindS sl (fv sl h1) fun y h2 => match addI (.int i) y with
    | none => .bad
    | some z => nxO sl (fldS h2 [c] f x z) := rfl
@[simp] theorem addI_int {i j : Int} : addI (.int i) (.int j) = some (.int (i + j)) := rfl
@[simp] theorem sFldAdd_ap {c f : Str} {fo fv : Mo D} {sl : Sl} {h : MH} : sFldAdd c f fo fv sl h = bindS sl (fo sl h) fun x h1 => addK sl c f x fv h1 (fldD h1 [c] f x) := by
  show bindS sl _ _ = _
  refine congrArg _ (funext fun x => funext fun h1 => ?_)
  show (match fldD h1 [c] f x with
    | none => SRes.bad
    | some v => bindS sl (fv sl h1) fun y h2 => match addI v y with
      | none => .bad
      | some z => match fldS h2 [c] f x z with
        | some h3 => .nx sl h3
        | none => .bad) = _
  cases fldD h1 [c] f x with
  | none => rfl
  | some v =>
    show bindS sl _ _ = bindS sl _ _
    refine congrArg _ (funext fun y => funext fun h2 => ?_)
    show (match addI v y with
      | none => SRes.bad
      | some z => match fldS h2 [c] f x z with
        | some h3 => .nx sl h3
        | none => .bad) = (match addI v y with
      | none => SRes.bad
      | some z => nxO sl (fldS h2 [c] f x z))
    cases addI v y with
    | none => rfl
    | some z =>
      show (match fldS h2 [c] f x z with
        | some h3 => SRes.nx sl h3
        | none => .bad) = nxO sl (fldS h2 [c] f x z)
      cases fldS h2 [c] f x z <;> rfl
def methK (m : Str) (r : Res D) : Option (Str × List Str × List D) → Res D
  | some p => if fhas m p.2.1 = false then r else .bad
  | none => .bad
@[simp] theorem methK_some {m : Str} {r : Res D} {c : Str} {ks : List Str} {vs : List D} : methK m r (some (c, ks, vs)) = if fhas m ks = false then r else .bad := rfl
@[simp] theorem mMeth_ap {c m : Str} {n : Nat} {g : Fn} {fo : Mo D} {fl : Mo (List D)} {sl : Sl} {h : MH} : mMeth c m n g fo fl sl h = bindR (fo sl h) fun x h1 => methK m (bindR (fl sl h1) fun ds h2 => ckN n g (x :: ds) h2) (insD h1 [c] x) := by
  show bindR _ _ = _
  refine congrArg _ (funext fun x => funext fun h1 => ?_)
  show (match insD h1 [c] x with
    | some p => if fhas m p.2.1 = false then bindR (fl sl h1) fun ds h2 => ckN n g (x :: ds) h2 else .bad
    | none => .bad) = _
  cases insD h1 [c] x <;> rfl
@[simp] theorem mMake_ap {c : Str} {n : Nat} {g : Fn} {fl : Mo (List D)} {sl : Sl} {h : MH} : mMake c n g fl sl h = bindR (fl sl h) fun ds h1 => makK h1.length (ckN n g (.ref h1.length :: ds) (h1 ++ [.ins c [] []])) := rfl
@[simp] theorem makK_non {i : Nat} {h : MH} : makK i (.ok .non h) = .ok (.ref i) h := rfl
@[simp] theorem sAsgT_ap {f : Mo D} {k : Tgt} {sl : Sl} {h : MH} : sAsgT f k sl h = bindS sl (f sl h) fun d h1 => onlyNx (k d sl h1) := rfl
@[simp] theorem onlyNx_nx {sl : Sl} {h : MH} : onlyNx (.nx sl h) = .nx sl h := rfl
@[simp] theorem kTup_ap {fs : List Tgt} {ds : List D} {sl : Sl} {h : MH} : kTup fs (.tup ds) sl h = if ds.length = fs.length then runT fs ds sl h else .bad := rfl
@[simp] theorem runT_nil {sl : Sl} {h : MH} : runT [] [] sl h = .nx sl h := rfl
@[simp] theorem runT_cons {f : Tgt} {fs : List Tgt} {d : D} {ds : List D} {sl : Sl} {h : MH} : runT (f :: fs) (d :: ds) sl h = seqR (f d sl h) (runT fs ds) := rfl
@[simp] theorem kName_ap {i : Nat} {d : D} {sl : Sl} {h : MH} : kName i d sl h = .nx (sl.set i (some d)) h := rfl
@[simp] theorem isLst_ref {h : MH} {k : Nat} : isLst h (.ref k) = (oLst h[k]?).isSome := rfl
@[simp] theorem gApp_ref {h : MH} {k : Nat} {d : D} : gApp (.ref k) [d] h = appD h k d (oLst h[k]?) := rfl
@[simp] theorem appD_some {h : MH} {k : Nat} {d : D} {xs : List D} : appD h k d (some xs) = if xs.length < lim then .ok .non (h.set k (.lst (xs ++ [d]))) else .bad := rfl
@[simp] theorem fMax2_int {i j : Int} {h : MH} : fMax2 [.int i, .int j] h = .ok (.int (if j > i then j else i)) h := rfl
@[simp] theorem fAny_ap {xs : List D} {h : MH} : fAny [.lst xs] h = optR ((blsD xs).map fun bs => .bl (bs.any id)) h := rfl
@[simp] theorem lenD_ref {h : MH} {k : Nat} : lenD h (.ref k) = (oLst h[k]?).map List.length := rfl
@[simp] theorem mItL_ap' {f : Mo D} {sl : Sl} {h : MH} : mItL f sl h = bindR (f sl h) fun d h1 => optR (itemsL d) h1 := rfl
theorem any_map {α : Type} (xs : List α) (f : α → Bool) {h : MH} : fAny [.lst (xs.map fun x => D.bl (f x))] h = .ok (.bl (xs.any f)) h := by
  have : (xs.map fun x => D.bl (f x)) = ((xs.map f).map D.bl) := by simp
  rw [this, fAny_ap, blsD_map]
  simp [List.any_map]
/-- a comprehension over a list that stays -/
theorem lcH_map {α : Type} {to : α → D} {k i : Nat} {c : Mo Bool} {f : Mo D} {sl : Sl} {h : MH} {p : α → Bool} {g : α → D} {xs : List α} (hx : oLst h[k]? = some (xs.map to)) (hl : xs.length < lim) (H : ∀ x ∈ xs, c (sl.set i (some (to x))) h = .ok (p x) h ∧ (p x = true → f (sl.set i (some (to x))) h = .ok (g x) h)) :
    ∀ (n a : Nat) (acc : List D), n = xs.length - a → a ≤ xs.length → acc.length ≤ a → lcH k (.nm i) c f sl n a acc h = .ok (acc ++ ((xs.drop a).filter p).map g) h := by
  intro n
  induction n with
  | zero =>
    intro a acc hn ha _
    have : a = xs.length := by omega
    subst this
    unfold lcH
    rw [hx]
    simp
  | succ n ih =>
    intro a acc hn ha hac
    have hlt : a < xs.length := by omega
    unfold lcH
    rw [hx]
    have hg : (xs.map to)[a]? = some (to xs[a]) := by simp [hlt]
    simp only [hg, tgD_nm]
    obtain ⟨h1, h2⟩ := H xs[a] (List.getElem_mem _)
    simp only [h1, noX_ok, bindR_ok]
    rw [List.drop_eq_getElem_cons hlt]
    cases e : p xs[a] with
    | true =>
      simp only [if_true]
      rw [if_pos (by omega), h2 e]
      simp only [noX_ok, bindR_ok]
      rw [ih (a + 1) _ (by omega) hlt (by simp; omega)]
      simp only [List.filter_cons, e, if_true, List.map_cons, List.append_assoc, List.cons_append, List.nil_append]
    | false =>
      simp only [Bool.false_eq_true, if_false]
      rw [ih (a + 1) _ (by omega) hlt (by omega)]
      simp only [List.filter_cons, e, Bool.false_eq_true, if_false]
@[simp] theorem mLcH_ap {vs : List Nat} {fo : Mo D} {tg : Tg} {c : Mo Bool} {f : Mo D} {sl : Sl} {h : MH} : mLcH vs fo tg c f sl h = bindR (fo sl h) fun x h1 => match refD x with
  | some k => if (oLst h1[k]?).isSome = true then bindR (lcH k tg c f (wipeD sl vs) (lenH h1 k) 0 [] h1) fun xs h2 => .ok (.lst xs) h2 else .bad
  | none => .bad := rfl
@[simp] theorem refD_ref {k : Nat} : refD (.ref k) = some k := rfl
theorem lcH_map0 {α : Type} {to : α → D} {k i : Nat} {c : Mo Bool} {f : Mo D} {sl : Sl} {h : MH} {p : α → Bool} {g : α → D} {xs : List α} (hx : oLst h[k]? = some (xs.map to)) (hl : xs.length < lim) (H : ∀ x ∈ xs, c (sl.set i (some (to x))) h = .ok (p x) h ∧ (p x = true → f (sl.set i (some (to x))) h = .ok (g x) h)) :
    lcH k (.nm i) c f sl (lenH h k) 0 [] h = .ok ((xs.filter p).map g) h := by
  have e : lenH h k = xs.length := by simp [lenH, hx]
  rw [e]
  have := lcH_map hx hl H xs.length 0 [] (by omega) (by omega) (by simp)
  simpa using this
@[simp] theorem oNotN_non {h : MH} : oNotN .non .non h = .ok (.bl false) h := rfl
@[simp] theorem oNotN_int {i : Int} {h : MH} : oNotN (.int i) .non h = .ok (.bl true) h := rfl
@[simp] theorem oNotN_str {i : Str} {h : MH} : oNotN (.str i) .non h = .ok (.bl true) h := rfl
@[simp] theorem oNotN_ref {i : Nat} {h : MH} : oNotN (.ref i) .non h = .ok (.bl true) h := rfl
@[simp] theorem oIsN_non {h : MH} : oIsN .non .non h = .ok (.bl true) h := rfl
@[simp] theorem oIsN_int {i : Int} {h : MH} : oIsN (.int i) .non h = .ok (.bl false) h := rfl
@[simp] theorem oIsN_str {i : Str} {h : MH} : oIsN (.str i) .non h = .ok (.bl false) h := rfl
@[simp] theorem oIsN_ref {i : Nat} {h : MH} : oIsN (.ref i) .non h = .ok (.bl false) h := rfl
@[simp] theorem oIsN_tup {i : List D} {h : MH} : oIsN (.tup i) .non h = .ok (.bl false) h := rfl
/-- a loop, told by what has been walked -/
theorem forD_pre {α : Type} {to : α → D} {i : Nat} {body : Ms} {Inv : List α → Sl → MH → Prop} : ∀ (rest done : List α) (sl : Sl) (h : MH), (∀ a x b, a ++ x :: b = done ++ rest → ∀ sl h, Inv a sl h → ∃ sl' h', body (sl.set i (some (to x))) h = .nx sl' h' ∧ Inv (a ++ [x]) sl' h') → Inv done sl h →
    ∃ sl' h', forD (.nm i) body (rest.map to) sl h = .nx sl' h' ∧ Inv (done ++ rest) sl' h' := by
  intro rest
  induction rest with
  | nil => intro done sl h _ hi; exact ⟨sl, h, by rw [List.map_nil]; unfold forD; rfl, by simpa using hi⟩
  | cons x rest ih =>
    intro done sl h hb hi
    obtain ⟨sl1, h1, e1, hi1⟩ := hb done x rest rfl sl h hi
    obtain ⟨sl2, h2, e2, hi2⟩ := ih (done ++ [x]) sl1 h1 (fun a y b e => hb a y b (by rw [e]; simp)) hi1
    refine ⟨sl2, h2, ?_, by simpa using hi2⟩
    rw [List.map_cons, forD]
    simp only [tgD_nm, e1]
    exact e2
theorem for_pre {α : Type} {fi : Mo (List D)} {i : Nat} {body : Ms} {sl : Sl} {h : MH} {P : Sl → MH → Prop} (to : α → D) (xs : List α) (Inv : List α → Sl → MH → Prop) (hfi : fi sl h = .ok (xs.map to) h) (h0 : Inv [] sl h)
    (hb : ∀ a x b, a ++ x :: b = xs → ∀ sl h, Inv a sl h → NxP (Inv (a ++ [x])) (body (sl.set i (some (to x))) h)) (hP : ∀ sl h, Inv xs sl h → P sl h) : NxP P (sFor fi (.nm i) body sl h) := by
  obtain ⟨sl', h', e, p⟩ := forD_pre (to := to) (i := i) (body := body) (Inv := Inv) xs [] sl h (fun a x b e => hb a x b (by simpa using e)) h0
  exact ⟨sl', h', by simp [hfi, e], hP _ _ (by simpa using p)⟩
end CH

namespace CH
open PySem L2
theorem callF_s {n : Nat} {h : MH} {f : Fid} {ds : List D} : callF (n + 1) f ds h = bodyOf (callF n) f ds h := rfl

end CH

namespace CH
open PySem L2
/-! the state of a Run -/
structure Op where
  kind : String
  stage : String
  ver : Option Int
  begun : Int
  ended : Option Int
  step : Int
  token : Bool
  leader : Option Int
  ofin : Int
  oret : Int
  quiet : Bool
instance : Inhabited Op := ⟨⟨"", "", none, 0, none, 0, false, none, 0, 0, false⟩⟩
abbrev Evt := String × Option Int
structure St where
  p : String
  g : String
  f : String
  ws : String
  we : String
  wk : String
  db : Int
  rep : Int
  cache : Option Int
  mark : Int
  flight : Option Int
  ops : List Op
  past : List Evt
  fin : Int
  ret : Int
  last : Option Nat
def oi : Option Int → D
  | none => .non
  | some i => .int i
def olast (b : Nat) : Option Nat → D
  | none => .non
  | some j => .ref (b + 3 + j)
def toE : Evt → D
  | (w, none) => .tup [S w]
  | (w, some n) => .tup [S w, .int n]
def stepsP (p : String) : List String := if p = "drop store" then ["drop", "store"] else if p = "drop store drop" then ["drop", "store", "drop"] else if p = "store" then ["store"] else if p = "store drop" then ["store", "drop"] else ["store", "set"]
def runKeys : List Str := [Str.ofString "steps", Str.ofString "guard", Str.ofString "is_shared", Str.ofString "has_replica", Str.ofString "has_evictions", Str.ofString "has_stops", Str.ofString "database", Str.ofString "replica", Str.ofString "cache", Str.ofString "mark", Str.ofString "flight", Str.ofString "operations", Str.ofString "events_done", Str.ofString "finished", Str.ofString "returned", Str.ofString "last"]
def opKeys : List Str := [Str.ofString "number", Str.ofString "kind", Str.ofString "stage", Str.ofString "version", Str.ofString "begun", Str.ofString "ended", Str.ofString "step", Str.ofString "token", Str.ofString "leader", Str.ofString "floors", Str.ofString "is_quiet"]
def runVals (b : Nat) (s : St) : List D := [D.tup ((stepsP s.p).map S), S s.g, D.bl (decide (s.f = "shared")), D.bl (decide (s.ws = "replica")), D.bl (decide (s.we = "evicts")), D.bl (decide (s.wk = "stops")), D.int s.db, D.int s.rep, oi s.cache, D.int s.mark, oi s.flight, D.ref (b + 1), D.ref (b + 2), D.int s.fin, D.int s.ret, olast b s.last]
def opVals (j : Nat) (o : Op) : List D := [D.int (j : Int), S o.kind, S o.stage, oi o.ver, D.int o.begun, oi o.ended, D.int o.step, D.bl o.token, oi o.leader, D.tup [D.int o.ofin, D.int o.oret], D.bl o.quiet]
def runO (b : Nat) (s : St) : O := .ins "Run" runKeys (runVals b s)
def opO (j : Nat) (o : Op) : O := .ins "Operation" opKeys (opVals j o)
def opsR (b n : Nat) : List D := (List.range n).map fun j => D.ref (b + 3 + j)
def opsO : Nat → List Op → List O
  | _, [] => []
  | j, o :: os => opO j o :: opsO (j + 1) os
def encP (b : Nat) (s : St) : MH := runO b s :: .lst (opsR b s.ops.length) :: .lst (s.past.map toE) :: opsO 0 s.ops
/-- a Run as the last thing in the heap -/
def HP (pre : MH) (s : St) (post : MH) : MH := pre ++ (encP pre.length s ++ post)

def St.wDb (s : St) (v : Int) : St := { s with db := v }
def St.wRep (s : St) (v : Int) : St := { s with rep := v }
def St.wCache (s : St) (v : Option Int) : St := { s with cache := v }
def St.wMark (s : St) (v : Int) : St := { s with mark := v }
def St.wFlight (s : St) (v : Option Int) : St := { s with flight := v }
def St.wOps (s : St) (v : List Op) : St := { s with ops := v }
def St.wPast (s : St) (v : List Evt) : St := { s with past := v }
def St.wFin (s : St) (v : Int) : St := { s with fin := v }
def St.wRet (s : St) (v : Int) : St := { s with ret := v }
def St.wLast (s : St) (v : Option Nat) : St := { s with last := v }
def Op.wStage (v : String) (o : Op) : Op := { o with stage := v }
def Op.wVer (v : Option Int) (o : Op) : Op := { o with ver := v }
def Op.wEnded (v : Option Int) (o : Op) : Op := { o with ended := v }
def Op.wStep (v : Int) (o : Op) : Op := { o with step := v }
def Op.wToken (v : Bool) (o : Op) : Op := { o with token := v }
def Op.wLeader (v : Option Int) (o : Op) : Op := { o with leader := v }
def Op.wQuiet (v : Bool) (o : Op) : Op := { o with quiet := v }
def St.upd (s : St) (j : Nat) (f : Op → Op) : St := { s with ops := s.ops.modify j f }
def St.op (s : St) (j : Nat) : Op := s.ops.getD j default
@[simp] theorem wDb_p {s : St} {v : Int} : (s.wDb v).p = s.p := id rfl
@[simp] theorem wDb_g {s : St} {v : Int} : (s.wDb v).g = s.g := id rfl
@[simp] theorem wDb_f {s : St} {v : Int} : (s.wDb v).f = s.f := id rfl
@[simp] theorem wDb_ws {s : St} {v : Int} : (s.wDb v).ws = s.ws := id rfl
@[simp] theorem wDb_we {s : St} {v : Int} : (s.wDb v).we = s.we := id rfl
@[simp] theorem wDb_wk {s : St} {v : Int} : (s.wDb v).wk = s.wk := id rfl
@[simp] theorem wDb_db {s : St} {v : Int} : (s.wDb v).db = v := id rfl
@[simp] theorem wDb_rep {s : St} {v : Int} : (s.wDb v).rep = s.rep := id rfl
@[simp] theorem wDb_cache {s : St} {v : Int} : (s.wDb v).cache = s.cache := id rfl
@[simp] theorem wDb_mark {s : St} {v : Int} : (s.wDb v).mark = s.mark := id rfl
@[simp] theorem wDb_flight {s : St} {v : Int} : (s.wDb v).flight = s.flight := id rfl
@[simp] theorem wDb_ops {s : St} {v : Int} : (s.wDb v).ops = s.ops := id rfl
@[simp] theorem wDb_past {s : St} {v : Int} : (s.wDb v).past = s.past := id rfl
@[simp] theorem wDb_fin {s : St} {v : Int} : (s.wDb v).fin = s.fin := id rfl
@[simp] theorem wDb_ret {s : St} {v : Int} : (s.wDb v).ret = s.ret := id rfl
@[simp] theorem wDb_last {s : St} {v : Int} : (s.wDb v).last = s.last := id rfl
@[simp] theorem wDb_op {s : St} {v : Int} {j : Nat} : (s.wDb v).op j = s.op j := id rfl
@[simp] theorem wRep_p {s : St} {v : Int} : (s.wRep v).p = s.p := id rfl
@[simp] theorem wRep_g {s : St} {v : Int} : (s.wRep v).g = s.g := id rfl
@[simp] theorem wRep_f {s : St} {v : Int} : (s.wRep v).f = s.f := id rfl
@[simp] theorem wRep_ws {s : St} {v : Int} : (s.wRep v).ws = s.ws := id rfl
@[simp] theorem wRep_we {s : St} {v : Int} : (s.wRep v).we = s.we := id rfl
@[simp] theorem wRep_wk {s : St} {v : Int} : (s.wRep v).wk = s.wk := id rfl
@[simp] theorem wRep_db {s : St} {v : Int} : (s.wRep v).db = s.db := id rfl
@[simp] theorem wRep_rep {s : St} {v : Int} : (s.wRep v).rep = v := id rfl
@[simp] theorem wRep_cache {s : St} {v : Int} : (s.wRep v).cache = s.cache := id rfl
@[simp] theorem wRep_mark {s : St} {v : Int} : (s.wRep v).mark = s.mark := id rfl
@[simp] theorem wRep_flight {s : St} {v : Int} : (s.wRep v).flight = s.flight := id rfl
@[simp] theorem wRep_ops {s : St} {v : Int} : (s.wRep v).ops = s.ops := id rfl
@[simp] theorem wRep_past {s : St} {v : Int} : (s.wRep v).past = s.past := id rfl
@[simp] theorem wRep_fin {s : St} {v : Int} : (s.wRep v).fin = s.fin := id rfl
@[simp] theorem wRep_ret {s : St} {v : Int} : (s.wRep v).ret = s.ret := id rfl
@[simp] theorem wRep_last {s : St} {v : Int} : (s.wRep v).last = s.last := id rfl
@[simp] theorem wRep_op {s : St} {v : Int} {j : Nat} : (s.wRep v).op j = s.op j := id rfl
@[simp] theorem wCache_p {s : St} {v : Option Int} : (s.wCache v).p = s.p := id rfl
@[simp] theorem wCache_g {s : St} {v : Option Int} : (s.wCache v).g = s.g := id rfl
@[simp] theorem wCache_f {s : St} {v : Option Int} : (s.wCache v).f = s.f := id rfl
@[simp] theorem wCache_ws {s : St} {v : Option Int} : (s.wCache v).ws = s.ws := id rfl
@[simp] theorem wCache_we {s : St} {v : Option Int} : (s.wCache v).we = s.we := id rfl
@[simp] theorem wCache_wk {s : St} {v : Option Int} : (s.wCache v).wk = s.wk := id rfl
@[simp] theorem wCache_db {s : St} {v : Option Int} : (s.wCache v).db = s.db := id rfl
@[simp] theorem wCache_rep {s : St} {v : Option Int} : (s.wCache v).rep = s.rep := id rfl
@[simp] theorem wCache_cache {s : St} {v : Option Int} : (s.wCache v).cache = v := id rfl
@[simp] theorem wCache_mark {s : St} {v : Option Int} : (s.wCache v).mark = s.mark := id rfl
@[simp] theorem wCache_flight {s : St} {v : Option Int} : (s.wCache v).flight = s.flight := id rfl
@[simp] theorem wCache_ops {s : St} {v : Option Int} : (s.wCache v).ops = s.ops := id rfl
@[simp] theorem wCache_past {s : St} {v : Option Int} : (s.wCache v).past = s.past := id rfl
@[simp] theorem wCache_fin {s : St} {v : Option Int} : (s.wCache v).fin = s.fin := id rfl
@[simp] theorem wCache_ret {s : St} {v : Option Int} : (s.wCache v).ret = s.ret := id rfl
@[simp] theorem wCache_last {s : St} {v : Option Int} : (s.wCache v).last = s.last := id rfl
@[simp] theorem wCache_op {s : St} {v : Option Int} {j : Nat} : (s.wCache v).op j = s.op j := id rfl
@[simp] theorem wMark_p {s : St} {v : Int} : (s.wMark v).p = s.p := id rfl
@[simp] theorem wMark_g {s : St} {v : Int} : (s.wMark v).g = s.g := id rfl
@[simp] theorem wMark_f {s : St} {v : Int} : (s.wMark v).f = s.f := id rfl
@[simp] theorem wMark_ws {s : St} {v : Int} : (s.wMark v).ws = s.ws := id rfl
@[simp] theorem wMark_we {s : St} {v : Int} : (s.wMark v).we = s.we := id rfl
@[simp] theorem wMark_wk {s : St} {v : Int} : (s.wMark v).wk = s.wk := id rfl
@[simp] theorem wMark_db {s : St} {v : Int} : (s.wMark v).db = s.db := id rfl
@[simp] theorem wMark_rep {s : St} {v : Int} : (s.wMark v).rep = s.rep := id rfl
@[simp] theorem wMark_cache {s : St} {v : Int} : (s.wMark v).cache = s.cache := id rfl
@[simp] theorem wMark_mark {s : St} {v : Int} : (s.wMark v).mark = v := id rfl
@[simp] theorem wMark_flight {s : St} {v : Int} : (s.wMark v).flight = s.flight := id rfl
@[simp] theorem wMark_ops {s : St} {v : Int} : (s.wMark v).ops = s.ops := id rfl
@[simp] theorem wMark_past {s : St} {v : Int} : (s.wMark v).past = s.past := id rfl
@[simp] theorem wMark_fin {s : St} {v : Int} : (s.wMark v).fin = s.fin := id rfl
@[simp] theorem wMark_ret {s : St} {v : Int} : (s.wMark v).ret = s.ret := id rfl
@[simp] theorem wMark_last {s : St} {v : Int} : (s.wMark v).last = s.last := id rfl
@[simp] theorem wMark_op {s : St} {v : Int} {j : Nat} : (s.wMark v).op j = s.op j := id rfl
@[simp] theorem wFlight_p {s : St} {v : Option Int} : (s.wFlight v).p = s.p := id rfl
@[simp] theorem wFlight_g {s : St} {v : Option Int} : (s.wFlight v).g = s.g := id rfl
@[simp] theorem wFlight_f {s : St} {v : Option Int} : (s.wFlight v).f = s.f := id rfl
@[simp] theorem wFlight_ws {s : St} {v : Option Int} : (s.wFlight v).ws = s.ws := id rfl
@[simp] theorem wFlight_we {s : St} {v : Option Int} : (s.wFlight v).we = s.we := id rfl
@[simp] theorem wFlight_wk {s : St} {v : Option Int} : (s.wFlight v).wk = s.wk := id rfl
@[simp] theorem wFlight_db {s : St} {v : Option Int} : (s.wFlight v).db = s.db := id rfl
@[simp] theorem wFlight_rep {s : St} {v : Option Int} : (s.wFlight v).rep = s.rep := id rfl
@[simp] theorem wFlight_cache {s : St} {v : Option Int} : (s.wFlight v).cache = s.cache := id rfl
@[simp] theorem wFlight_mark {s : St} {v : Option Int} : (s.wFlight v).mark = s.mark := id rfl
@[simp] theorem wFlight_flight {s : St} {v : Option Int} : (s.wFlight v).flight = v := id rfl
@[simp] theorem wFlight_ops {s : St} {v : Option Int} : (s.wFlight v).ops = s.ops := id rfl
@[simp] theorem wFlight_past {s : St} {v : Option Int} : (s.wFlight v).past = s.past := id rfl
@[simp] theorem wFlight_fin {s : St} {v : Option Int} : (s.wFlight v).fin = s.fin := id rfl
@[simp] theorem wFlight_ret {s : St} {v : Option Int} : (s.wFlight v).ret = s.ret := id rfl
@[simp] theorem wFlight_last {s : St} {v : Option Int} : (s.wFlight v).last = s.last := id rfl
@[simp] theorem wFlight_op {s : St} {v : Option Int} {j : Nat} : (s.wFlight v).op j = s.op j := id rfl
@[simp] theorem wOps_p {s : St} {v : List Op} : (s.wOps v).p = s.p := id rfl
@[simp] theorem wOps_g {s : St} {v : List Op} : (s.wOps v).g = s.g := id rfl
@[simp] theorem wOps_f {s : St} {v : List Op} : (s.wOps v).f = s.f := id rfl
@[simp] theorem wOps_ws {s : St} {v : List Op} : (s.wOps v).ws = s.ws := id rfl
@[simp] theorem wOps_we {s : St} {v : List Op} : (s.wOps v).we = s.we := id rfl
@[simp] theorem wOps_wk {s : St} {v : List Op} : (s.wOps v).wk = s.wk := id rfl
@[simp] theorem wOps_db {s : St} {v : List Op} : (s.wOps v).db = s.db := id rfl
@[simp] theorem wOps_rep {s : St} {v : List Op} : (s.wOps v).rep = s.rep := id rfl
@[simp] theorem wOps_cache {s : St} {v : List Op} : (s.wOps v).cache = s.cache := id rfl
@[simp] theorem wOps_mark {s : St} {v : List Op} : (s.wOps v).mark = s.mark := id rfl
@[simp] theorem wOps_flight {s : St} {v : List Op} : (s.wOps v).flight = s.flight := id rfl
@[simp] theorem wOps_ops {s : St} {v : List Op} : (s.wOps v).ops = v := id rfl
@[simp] theorem wOps_past {s : St} {v : List Op} : (s.wOps v).past = s.past := id rfl
@[simp] theorem wOps_fin {s : St} {v : List Op} : (s.wOps v).fin = s.fin := id rfl
@[simp] theorem wOps_ret {s : St} {v : List Op} : (s.wOps v).ret = s.ret := id rfl
@[simp] theorem wOps_last {s : St} {v : List Op} : (s.wOps v).last = s.last := id rfl
@[simp] theorem wPast_p {s : St} {v : List Evt} : (s.wPast v).p = s.p := id rfl
@[simp] theorem wPast_g {s : St} {v : List Evt} : (s.wPast v).g = s.g := id rfl
@[simp] theorem wPast_f {s : St} {v : List Evt} : (s.wPast v).f = s.f := id rfl
@[simp] theorem wPast_ws {s : St} {v : List Evt} : (s.wPast v).ws = s.ws := id rfl
@[simp] theorem wPast_we {s : St} {v : List Evt} : (s.wPast v).we = s.we := id rfl
@[simp] theorem wPast_wk {s : St} {v : List Evt} : (s.wPast v).wk = s.wk := id rfl
@[simp] theorem wPast_db {s : St} {v : List Evt} : (s.wPast v).db = s.db := id rfl
@[simp] theorem wPast_rep {s : St} {v : List Evt} : (s.wPast v).rep = s.rep := id rfl
@[simp] theorem wPast_cache {s : St} {v : List Evt} : (s.wPast v).cache = s.cache := id rfl
@[simp] theorem wPast_mark {s : St} {v : List Evt} : (s.wPast v).mark = s.mark := id rfl
@[simp] theorem wPast_flight {s : St} {v : List Evt} : (s.wPast v).flight = s.flight := id rfl
@[simp] theorem wPast_ops {s : St} {v : List Evt} : (s.wPast v).ops = s.ops := id rfl
@[simp] theorem wPast_past {s : St} {v : List Evt} : (s.wPast v).past = v := id rfl
@[simp] theorem wPast_fin {s : St} {v : List Evt} : (s.wPast v).fin = s.fin := id rfl
@[simp] theorem wPast_ret {s : St} {v : List Evt} : (s.wPast v).ret = s.ret := id rfl
@[simp] theorem wPast_last {s : St} {v : List Evt} : (s.wPast v).last = s.last := id rfl
@[simp] theorem wPast_op {s : St} {v : List Evt} {j : Nat} : (s.wPast v).op j = s.op j := id rfl
@[simp] theorem wFin_p {s : St} {v : Int} : (s.wFin v).p = s.p := id rfl
@[simp] theorem wFin_g {s : St} {v : Int} : (s.wFin v).g = s.g := id rfl
@[simp] theorem wFin_f {s : St} {v : Int} : (s.wFin v).f = s.f := id rfl
@[simp] theorem wFin_ws {s : St} {v : Int} : (s.wFin v).ws = s.ws := id rfl
@[simp] theorem wFin_we {s : St} {v : Int} : (s.wFin v).we = s.we := id rfl
@[simp] theorem wFin_wk {s : St} {v : Int} : (s.wFin v).wk = s.wk := id rfl
@[simp] theorem wFin_db {s : St} {v : Int} : (s.wFin v).db = s.db := id rfl
@[simp] theorem wFin_rep {s : St} {v : Int} : (s.wFin v).rep = s.rep := id rfl
@[simp] theorem wFin_cache {s : St} {v : Int} : (s.wFin v).cache = s.cache := id rfl
@[simp] theorem wFin_mark {s : St} {v : Int} : (s.wFin v).mark = s.mark := id rfl
@[simp] theorem wFin_flight {s : St} {v : Int} : (s.wFin v).flight = s.flight := id rfl
@[simp] theorem wFin_ops {s : St} {v : Int} : (s.wFin v).ops = s.ops := id rfl
@[simp] theorem wFin_past {s : St} {v : Int} : (s.wFin v).past = s.past := id rfl
@[simp] theorem wFin_fin {s : St} {v : Int} : (s.wFin v).fin = v := id rfl
@[simp] theorem wFin_ret {s : St} {v : Int} : (s.wFin v).ret = s.ret := id rfl
@[simp] theorem wFin_last {s : St} {v : Int} : (s.wFin v).last = s.last := id rfl
@[simp] theorem wFin_op {s : St} {v : Int} {j : Nat} : (s.wFin v).op j = s.op j := id rfl
@[simp] theorem wRet_p {s : St} {v : Int} : (s.wRet v).p = s.p := id rfl
@[simp] theorem wRet_g {s : St} {v : Int} : (s.wRet v).g = s.g := id rfl
@[simp] theorem wRet_f {s : St} {v : Int} : (s.wRet v).f = s.f := id rfl
@[simp] theorem wRet_ws {s : St} {v : Int} : (s.wRet v).ws = s.ws := id rfl
@[simp] theorem wRet_we {s : St} {v : Int} : (s.wRet v).we = s.we := id rfl
@[simp] theorem wRet_wk {s : St} {v : Int} : (s.wRet v).wk = s.wk := id rfl
@[simp] theorem wRet_db {s : St} {v : Int} : (s.wRet v).db = s.db := id rfl
@[simp] theorem wRet_rep {s : St} {v : Int} : (s.wRet v).rep = s.rep := id rfl
@[simp] theorem wRet_cache {s : St} {v : Int} : (s.wRet v).cache = s.cache := id rfl
@[simp] theorem wRet_mark {s : St} {v : Int} : (s.wRet v).mark = s.mark := id rfl
@[simp] theorem wRet_flight {s : St} {v : Int} : (s.wRet v).flight = s.flight := id rfl
@[simp] theorem wRet_ops {s : St} {v : Int} : (s.wRet v).ops = s.ops := id rfl
@[simp] theorem wRet_past {s : St} {v : Int} : (s.wRet v).past = s.past := id rfl
@[simp] theorem wRet_fin {s : St} {v : Int} : (s.wRet v).fin = s.fin := id rfl
@[simp] theorem wRet_ret {s : St} {v : Int} : (s.wRet v).ret = v := id rfl
@[simp] theorem wRet_last {s : St} {v : Int} : (s.wRet v).last = s.last := id rfl
@[simp] theorem wRet_op {s : St} {v : Int} {j : Nat} : (s.wRet v).op j = s.op j := id rfl
@[simp] theorem wLast_p {s : St} {v : Option Nat} : (s.wLast v).p = s.p := id rfl
@[simp] theorem wLast_g {s : St} {v : Option Nat} : (s.wLast v).g = s.g := id rfl
@[simp] theorem wLast_f {s : St} {v : Option Nat} : (s.wLast v).f = s.f := id rfl
@[simp] theorem wLast_ws {s : St} {v : Option Nat} : (s.wLast v).ws = s.ws := id rfl
@[simp] theorem wLast_we {s : St} {v : Option Nat} : (s.wLast v).we = s.we := id rfl
@[simp] theorem wLast_wk {s : St} {v : Option Nat} : (s.wLast v).wk = s.wk := id rfl
@[simp] theorem wLast_db {s : St} {v : Option Nat} : (s.wLast v).db = s.db := id rfl
@[simp] theorem wLast_rep {s : St} {v : Option Nat} : (s.wLast v).rep = s.rep := id rfl
@[simp] theorem wLast_cache {s : St} {v : Option Nat} : (s.wLast v).cache = s.cache := id rfl
@[simp] theorem wLast_mark {s : St} {v : Option Nat} : (s.wLast v).mark = s.mark := id rfl
@[simp] theorem wLast_flight {s : St} {v : Option Nat} : (s.wLast v).flight = s.flight := id rfl
@[simp] theorem wLast_ops {s : St} {v : Option Nat} : (s.wLast v).ops = s.ops := id rfl
@[simp] theorem wLast_past {s : St} {v : Option Nat} : (s.wLast v).past = s.past := id rfl
@[simp] theorem wLast_fin {s : St} {v : Option Nat} : (s.wLast v).fin = s.fin := id rfl
@[simp] theorem wLast_ret {s : St} {v : Option Nat} : (s.wLast v).ret = s.ret := id rfl
@[simp] theorem wLast_last {s : St} {v : Option Nat} : (s.wLast v).last = v := id rfl
@[simp] theorem wLast_op {s : St} {v : Option Nat} {j : Nat} : (s.wLast v).op j = s.op j := id rfl
@[simp] theorem oStage_kind {o : Op} {v : String} : (Op.wStage v o).kind = o.kind := id rfl
@[simp] theorem oStage_stage {o : Op} {v : String} : (Op.wStage v o).stage = v := id rfl
@[simp] theorem oStage_ver {o : Op} {v : String} : (Op.wStage v o).ver = o.ver := id rfl
@[simp] theorem oStage_begun {o : Op} {v : String} : (Op.wStage v o).begun = o.begun := id rfl
@[simp] theorem oStage_ended {o : Op} {v : String} : (Op.wStage v o).ended = o.ended := id rfl
@[simp] theorem oStage_step {o : Op} {v : String} : (Op.wStage v o).step = o.step := id rfl
@[simp] theorem oStage_token {o : Op} {v : String} : (Op.wStage v o).token = o.token := id rfl
@[simp] theorem oStage_leader {o : Op} {v : String} : (Op.wStage v o).leader = o.leader := id rfl
@[simp] theorem oStage_ofin {o : Op} {v : String} : (Op.wStage v o).ofin = o.ofin := id rfl
@[simp] theorem oStage_oret {o : Op} {v : String} : (Op.wStage v o).oret = o.oret := id rfl
@[simp] theorem oStage_quiet {o : Op} {v : String} : (Op.wStage v o).quiet = o.quiet := id rfl
@[simp] theorem oVer_kind {o : Op} {v : Option Int} : (Op.wVer v o).kind = o.kind := id rfl
@[simp] theorem oVer_stage {o : Op} {v : Option Int} : (Op.wVer v o).stage = o.stage := id rfl
@[simp] theorem oVer_ver {o : Op} {v : Option Int} : (Op.wVer v o).ver = v := id rfl
@[simp] theorem oVer_begun {o : Op} {v : Option Int} : (Op.wVer v o).begun = o.begun := id rfl
@[simp] theorem oVer_ended {o : Op} {v : Option Int} : (Op.wVer v o).ended = o.ended := id rfl
@[simp] theorem oVer_step {o : Op} {v : Option Int} : (Op.wVer v o).step = o.step := id rfl
@[simp] theorem oVer_token {o : Op} {v : Option Int} : (Op.wVer v o).token = o.token := id rfl
@[simp] theorem oVer_leader {o : Op} {v : Option Int} : (Op.wVer v o).leader = o.leader := id rfl
@[simp] theorem oVer_ofin {o : Op} {v : Option Int} : (Op.wVer v o).ofin = o.ofin := id rfl
@[simp] theorem oVer_oret {o : Op} {v : Option Int} : (Op.wVer v o).oret = o.oret := id rfl
@[simp] theorem oVer_quiet {o : Op} {v : Option Int} : (Op.wVer v o).quiet = o.quiet := id rfl
@[simp] theorem oEnded_kind {o : Op} {v : Option Int} : (Op.wEnded v o).kind = o.kind := id rfl
@[simp] theorem oEnded_stage {o : Op} {v : Option Int} : (Op.wEnded v o).stage = o.stage := id rfl
@[simp] theorem oEnded_ver {o : Op} {v : Option Int} : (Op.wEnded v o).ver = o.ver := id rfl
@[simp] theorem oEnded_begun {o : Op} {v : Option Int} : (Op.wEnded v o).begun = o.begun := id rfl
@[simp] theorem oEnded_ended {o : Op} {v : Option Int} : (Op.wEnded v o).ended = v := id rfl
@[simp] theorem oEnded_step {o : Op} {v : Option Int} : (Op.wEnded v o).step = o.step := id rfl
@[simp] theorem oEnded_token {o : Op} {v : Option Int} : (Op.wEnded v o).token = o.token := id rfl
@[simp] theorem oEnded_leader {o : Op} {v : Option Int} : (Op.wEnded v o).leader = o.leader := id rfl
@[simp] theorem oEnded_ofin {o : Op} {v : Option Int} : (Op.wEnded v o).ofin = o.ofin := id rfl
@[simp] theorem oEnded_oret {o : Op} {v : Option Int} : (Op.wEnded v o).oret = o.oret := id rfl
@[simp] theorem oEnded_quiet {o : Op} {v : Option Int} : (Op.wEnded v o).quiet = o.quiet := id rfl
@[simp] theorem oStep_kind {o : Op} {v : Int} : (Op.wStep v o).kind = o.kind := id rfl
@[simp] theorem oStep_stage {o : Op} {v : Int} : (Op.wStep v o).stage = o.stage := id rfl
@[simp] theorem oStep_ver {o : Op} {v : Int} : (Op.wStep v o).ver = o.ver := id rfl
@[simp] theorem oStep_begun {o : Op} {v : Int} : (Op.wStep v o).begun = o.begun := id rfl
@[simp] theorem oStep_ended {o : Op} {v : Int} : (Op.wStep v o).ended = o.ended := id rfl
@[simp] theorem oStep_step {o : Op} {v : Int} : (Op.wStep v o).step = v := id rfl
@[simp] theorem oStep_token {o : Op} {v : Int} : (Op.wStep v o).token = o.token := id rfl
@[simp] theorem oStep_leader {o : Op} {v : Int} : (Op.wStep v o).leader = o.leader := id rfl
@[simp] theorem oStep_ofin {o : Op} {v : Int} : (Op.wStep v o).ofin = o.ofin := id rfl
@[simp] theorem oStep_oret {o : Op} {v : Int} : (Op.wStep v o).oret = o.oret := id rfl
@[simp] theorem oStep_quiet {o : Op} {v : Int} : (Op.wStep v o).quiet = o.quiet := id rfl
@[simp] theorem oToken_kind {o : Op} {v : Bool} : (Op.wToken v o).kind = o.kind := id rfl
@[simp] theorem oToken_stage {o : Op} {v : Bool} : (Op.wToken v o).stage = o.stage := id rfl
@[simp] theorem oToken_ver {o : Op} {v : Bool} : (Op.wToken v o).ver = o.ver := id rfl
@[simp] theorem oToken_begun {o : Op} {v : Bool} : (Op.wToken v o).begun = o.begun := id rfl
@[simp] theorem oToken_ended {o : Op} {v : Bool} : (Op.wToken v o).ended = o.ended := id rfl
@[simp] theorem oToken_step {o : Op} {v : Bool} : (Op.wToken v o).step = o.step := id rfl
@[simp] theorem oToken_token {o : Op} {v : Bool} : (Op.wToken v o).token = v := id rfl
@[simp] theorem oToken_leader {o : Op} {v : Bool} : (Op.wToken v o).leader = o.leader := id rfl
@[simp] theorem oToken_ofin {o : Op} {v : Bool} : (Op.wToken v o).ofin = o.ofin := id rfl
@[simp] theorem oToken_oret {o : Op} {v : Bool} : (Op.wToken v o).oret = o.oret := id rfl
@[simp] theorem oToken_quiet {o : Op} {v : Bool} : (Op.wToken v o).quiet = o.quiet := id rfl
@[simp] theorem oLeader_kind {o : Op} {v : Option Int} : (Op.wLeader v o).kind = o.kind := id rfl
@[simp] theorem oLeader_stage {o : Op} {v : Option Int} : (Op.wLeader v o).stage = o.stage := id rfl
@[simp] theorem oLeader_ver {o : Op} {v : Option Int} : (Op.wLeader v o).ver = o.ver := id rfl
@[simp] theorem oLeader_begun {o : Op} {v : Option Int} : (Op.wLeader v o).begun = o.begun := id rfl
@[simp] theorem oLeader_ended {o : Op} {v : Option Int} : (Op.wLeader v o).ended = o.ended := id rfl
@[simp] theorem oLeader_step {o : Op} {v : Option Int} : (Op.wLeader v o).step = o.step := id rfl
@[simp] theorem oLeader_token {o : Op} {v : Option Int} : (Op.wLeader v o).token = o.token := id rfl
@[simp] theorem oLeader_leader {o : Op} {v : Option Int} : (Op.wLeader v o).leader = v := id rfl
@[simp] theorem oLeader_ofin {o : Op} {v : Option Int} : (Op.wLeader v o).ofin = o.ofin := id rfl
@[simp] theorem oLeader_oret {o : Op} {v : Option Int} : (Op.wLeader v o).oret = o.oret := id rfl
@[simp] theorem oLeader_quiet {o : Op} {v : Option Int} : (Op.wLeader v o).quiet = o.quiet := id rfl
@[simp] theorem oQuiet_kind {o : Op} {v : Bool} : (Op.wQuiet v o).kind = o.kind := id rfl
@[simp] theorem oQuiet_stage {o : Op} {v : Bool} : (Op.wQuiet v o).stage = o.stage := id rfl
@[simp] theorem oQuiet_ver {o : Op} {v : Bool} : (Op.wQuiet v o).ver = o.ver := id rfl
@[simp] theorem oQuiet_begun {o : Op} {v : Bool} : (Op.wQuiet v o).begun = o.begun := id rfl
@[simp] theorem oQuiet_ended {o : Op} {v : Bool} : (Op.wQuiet v o).ended = o.ended := id rfl
@[simp] theorem oQuiet_step {o : Op} {v : Bool} : (Op.wQuiet v o).step = o.step := id rfl
@[simp] theorem oQuiet_token {o : Op} {v : Bool} : (Op.wQuiet v o).token = o.token := id rfl
@[simp] theorem oQuiet_leader {o : Op} {v : Bool} : (Op.wQuiet v o).leader = o.leader := id rfl
@[simp] theorem oQuiet_ofin {o : Op} {v : Bool} : (Op.wQuiet v o).ofin = o.ofin := id rfl
@[simp] theorem oQuiet_oret {o : Op} {v : Bool} : (Op.wQuiet v o).oret = o.oret := id rfl
@[simp] theorem oQuiet_quiet {o : Op} {v : Bool} : (Op.wQuiet v o).quiet = v := id rfl
@[simp] theorem upd_p {s : St} {j : Nat} {f : Op → Op} : (s.upd j f).p = s.p := id rfl
@[simp] theorem upd_g {s : St} {j : Nat} {f : Op → Op} : (s.upd j f).g = s.g := id rfl
@[simp] theorem upd_f {s : St} {j : Nat} {f : Op → Op} : (s.upd j f).f = s.f := id rfl
@[simp] theorem upd_ws {s : St} {j : Nat} {f : Op → Op} : (s.upd j f).ws = s.ws := id rfl
@[simp] theorem upd_we {s : St} {j : Nat} {f : Op → Op} : (s.upd j f).we = s.we := id rfl
@[simp] theorem upd_wk {s : St} {j : Nat} {f : Op → Op} : (s.upd j f).wk = s.wk := id rfl
@[simp] theorem upd_db {s : St} {j : Nat} {f : Op → Op} : (s.upd j f).db = s.db := id rfl
@[simp] theorem upd_rep {s : St} {j : Nat} {f : Op → Op} : (s.upd j f).rep = s.rep := id rfl
@[simp] theorem upd_cache {s : St} {j : Nat} {f : Op → Op} : (s.upd j f).cache = s.cache := id rfl
@[simp] theorem upd_mark {s : St} {j : Nat} {f : Op → Op} : (s.upd j f).mark = s.mark := id rfl
@[simp] theorem upd_flight {s : St} {j : Nat} {f : Op → Op} : (s.upd j f).flight = s.flight := id rfl
@[simp] theorem upd_past {s : St} {j : Nat} {f : Op → Op} : (s.upd j f).past = s.past := id rfl
@[simp] theorem upd_fin {s : St} {j : Nat} {f : Op → Op} : (s.upd j f).fin = s.fin := id rfl
@[simp] theorem upd_ret {s : St} {j : Nat} {f : Op → Op} : (s.upd j f).ret = s.ret := id rfl
@[simp] theorem upd_last {s : St} {j : Nat} {f : Op → Op} : (s.upd j f).last = s.last := id rfl
section
variable {pre post : MH} {s : St} {j : Nat} {f : Op → Op}
theorem opsO_get : ∀ (os : List Op) (i j : Nat), (opsO i os)[j]? = (os[j]?).map (opO (i + j))
  | [], i, j => by simp [opsO]
  | o :: os, i, 0 => by simp [opsO]
  | o :: os, i, j + 1 => by
    have := opsO_get os (i + 1) j
    simp only [opsO, List.getElem?_cons_succ, this]
    congr 2
    omega
theorem opsO_len : ∀ (os : List Op) (i : Nat), (opsO i os).length = os.length
  | [], i => rfl
  | o :: os, i => by simp [opsO, opsO_len os (i + 1)]
theorem opsO_modify : ∀ (os : List Op) (i j : Nat) (f : Op → Op) (x : Op), os[j]? = some x → (opsO i os).set j (opO (i + j) (f x)) = opsO i (os.modify j f)
  | [], i, j, f, x, h => by simp at h
  | o :: os, i, 0, f, x, h => by
    simp at h
    subst h
    simp [opsO]
  | o :: os, i, j + 1, f, x, h => by
    have := opsO_modify os (i + 1) j f x (by simpa using h)
    simp only [opsO, List.set_cons_succ, List.modify_succ_cons]
    rw [← this]
    congr 2
    · congr 1
      omega
theorem HP_run : (HP pre s post)[pre.length]? = some (runO pre.length s) := by simp [HP, encP]
@[simp] theorem HP_ops : (HP pre s post)[pre.length + 1]? = some (.lst (opsR pre.length s.ops.length)) := by
  unfold HP
  rw [List.getElem?_append_right (by omega)]
  simp [encP]
@[simp] theorem HP_evs : (HP pre s post)[pre.length + 2]? = some (.lst (s.past.map toE)) := by
  unfold HP
  rw [List.getElem?_append_right (by omega)]
  simp [encP]
theorem op_some (h : j < s.ops.length) : s.ops[j]? = some (s.op j) := by
  unfold St.op
  rw [List.getElem?_eq_getElem h]
  simp [List.getD, List.getElem?_eq_getElem h]
theorem HP_op (h : j < s.ops.length) : (HP pre s post)[pre.length + 3 + j]? = some (opO j (s.op j)) := by
  unfold HP
  rw [List.getElem?_append_right (by omega)]
  have e : pre.length + 3 + j - pre.length = j + 3 := by omega
  rw [e]
  show (opsO 0 s.ops ++ post)[j]? = _
  rw [List.getElem?_append_left (by rw [opsO_len]; exact h), opsO_get, op_some h]
  simp
theorem set_app {α : Type} (xs ys : List α) (i : Nat) (a : α) (h : xs.length ≤ i) : (xs ++ ys).set i a = xs ++ ys.set (i - xs.length) a := by
  rw [List.set_append, if_neg (by omega)]
theorem HP_setRun {s' : St} (h1 : s'.ops = s.ops) (h2 : s'.past = s.past) : (HP pre s post).set pre.length (runO pre.length s') = HP pre s' post := by
  unfold HP
  refine (set_app pre (encP pre.length s ++ post) pre.length _ (by omega)).trans ?_
  simp [encP, h1, h2]
theorem HP_setOp (h : j < s.ops.length) (f : Op → Op) : (HP pre s post).set (pre.length + 3 + j) (opO j (f (s.op j))) = HP pre (s.upd j f) post := by
  unfold HP
  refine (set_app pre (encP pre.length s ++ post) _ _ (by omega)).trans ?_
  have e : pre.length + 3 + j - pre.length = j + 3 := by omega
  rw [e]
  have := opsO_modify s.ops 0 j f (s.op j) (op_some h)
  simp only [Nat.zero_add] at this
  show pre ++ (runO pre.length s :: .lst (opsR pre.length s.ops.length) :: .lst (s.past.map toE) :: (opsO 0 s.ops ++ post).set j (opO j (f (s.op j)))) = pre ++ (runO pre.length s :: .lst (opsR pre.length (s.ops.modify j f).length) :: .lst (s.past.map toE) :: (opsO 0 (s.ops.modify j f) ++ post))
  rw [List.set_append_left _ _ (by rw [opsO_len]; exact h), this, List.length_modify]
@[simp] theorem len_upd : (s.upd j f).ops.length = s.ops.length := by simp [St.upd]
@[simp] theorem op_upd (h : j < s.ops.length) : (s.upd j f).op j = f (s.op j) := by
  unfold St.op St.upd
  simp [List.getD, List.getElem?_modify, List.getElem?_eq_getElem h]
theorem fldD_ref {h : MH} {cs : List Str} {f : Str} {k : Nat} : fldD h cs f (.ref k) = (oIns cs h[k]?).bind fun p => fget f p.2.1 p.2.2 := rfl
theorem fldS_ref {h : MH} {cs : List Str} {f : Str} {k : Nat} {v : D} : fldS h cs f (.ref k) v = (oIns cs h[k]?).bind fun p => if p.2.1.length < 1000 then some (h.set k (.ins p.1 (fputK f p.2.1) (fputV f v p.2.1 p.2.2))) else none := rfl
/-! reading -/
@[simp] theorem rf_steps : fldD (HP pre s post) ["Run"] "steps" (.ref pre.length) = some (D.tup ((stepsP s.p).map S)) := by
  rw [fldD_ref, HP_run]
  simp [oIns, runO, runKeys, runVals, fget]
@[simp] theorem rf_guard : fldD (HP pre s post) ["Run"] "guard" (.ref pre.length) = some (S s.g) := by
  rw [fldD_ref, HP_run]
  simp [oIns, runO, runKeys, runVals, fget]
@[simp] theorem rf_is_shared : fldD (HP pre s post) ["Run"] "is_shared" (.ref pre.length) = some (D.bl (decide (s.f = "shared"))) := by
  rw [fldD_ref, HP_run]
  simp [oIns, runO, runKeys, runVals, fget]
@[simp] theorem rf_has_replica : fldD (HP pre s post) ["Run"] "has_replica" (.ref pre.length) = some (D.bl (decide (s.ws = "replica"))) := by
  rw [fldD_ref, HP_run]
  simp [oIns, runO, runKeys, runVals, fget]
@[simp] theorem rf_has_evictions : fldD (HP pre s post) ["Run"] "has_evictions" (.ref pre.length) = some (D.bl (decide (s.we = "evicts"))) := by
  rw [fldD_ref, HP_run]
  simp [oIns, runO, runKeys, runVals, fget]
@[simp] theorem rf_has_stops : fldD (HP pre s post) ["Run"] "has_stops" (.ref pre.length) = some (D.bl (decide (s.wk = "stops"))) := by
  rw [fldD_ref, HP_run]
  simp [oIns, runO, runKeys, runVals, fget]
@[simp] theorem rf_database : fldD (HP pre s post) ["Run"] "database" (.ref pre.length) = some (D.int s.db) := by
  rw [fldD_ref, HP_run]
  simp [oIns, runO, runKeys, runVals, fget]
@[simp] theorem rf_replica : fldD (HP pre s post) ["Run"] "replica" (.ref pre.length) = some (D.int s.rep) := by
  rw [fldD_ref, HP_run]
  simp [oIns, runO, runKeys, runVals, fget]
@[simp] theorem rf_cache : fldD (HP pre s post) ["Run"] "cache" (.ref pre.length) = some (oi s.cache) := by
  rw [fldD_ref, HP_run]
  simp [oIns, runO, runKeys, runVals, fget]
@[simp] theorem rf_mark : fldD (HP pre s post) ["Run"] "mark" (.ref pre.length) = some (D.int s.mark) := by
  rw [fldD_ref, HP_run]
  simp [oIns, runO, runKeys, runVals, fget]
@[simp] theorem rf_flight : fldD (HP pre s post) ["Run"] "flight" (.ref pre.length) = some (oi s.flight) := by
  rw [fldD_ref, HP_run]
  simp [oIns, runO, runKeys, runVals, fget]
@[simp] theorem rf_operations : fldD (HP pre s post) ["Run"] "operations" (.ref pre.length) = some (D.ref (pre.length + 1)) := by
  rw [fldD_ref, HP_run]
  simp [oIns, runO, runKeys, runVals, fget]
@[simp] theorem rf_events_done : fldD (HP pre s post) ["Run"] "events_done" (.ref pre.length) = some (D.ref (pre.length + 2)) := by
  rw [fldD_ref, HP_run]
  simp [oIns, runO, runKeys, runVals, fget]
@[simp] theorem rf_finished : fldD (HP pre s post) ["Run"] "finished" (.ref pre.length) = some (D.int s.fin) := by
  rw [fldD_ref, HP_run]
  simp [oIns, runO, runKeys, runVals, fget]
@[simp] theorem rf_returned : fldD (HP pre s post) ["Run"] "returned" (.ref pre.length) = some (D.int s.ret) := by
  rw [fldD_ref, HP_run]
  simp [oIns, runO, runKeys, runVals, fget]
@[simp] theorem rf_last : fldD (HP pre s post) ["Run"] "last" (.ref pre.length) = some (olast pre.length s.last) := by
  rw [fldD_ref, HP_run]
  simp [oIns, runO, runKeys, runVals, fget]
@[simp] theorem of_number (h : j < s.ops.length) : fldD (HP pre s post) ["Operation"] "number" (.ref (pre.length + 3 + j)) = some (D.int (j : Int)) := by
  rw [fldD_ref, HP_op h]
  simp [oIns, opO, opKeys, opVals, fget]
@[simp] theorem of_kind (h : j < s.ops.length) : fldD (HP pre s post) ["Operation"] "kind" (.ref (pre.length + 3 + j)) = some (S (s.op j).kind) := by
  rw [fldD_ref, HP_op h]
  simp [oIns, opO, opKeys, opVals, fget]
@[simp] theorem of_stage (h : j < s.ops.length) : fldD (HP pre s post) ["Operation"] "stage" (.ref (pre.length + 3 + j)) = some (S (s.op j).stage) := by
  rw [fldD_ref, HP_op h]
  simp [oIns, opO, opKeys, opVals, fget]
@[simp] theorem of_version (h : j < s.ops.length) : fldD (HP pre s post) ["Operation"] "version" (.ref (pre.length + 3 + j)) = some (oi (s.op j).ver) := by
  rw [fldD_ref, HP_op h]
  simp [oIns, opO, opKeys, opVals, fget]
@[simp] theorem of_begun (h : j < s.ops.length) : fldD (HP pre s post) ["Operation"] "begun" (.ref (pre.length + 3 + j)) = some (D.int (s.op j).begun) := by
  rw [fldD_ref, HP_op h]
  simp [oIns, opO, opKeys, opVals, fget]
@[simp] theorem of_ended (h : j < s.ops.length) : fldD (HP pre s post) ["Operation"] "ended" (.ref (pre.length + 3 + j)) = some (oi (s.op j).ended) := by
  rw [fldD_ref, HP_op h]
  simp [oIns, opO, opKeys, opVals, fget]
@[simp] theorem of_step (h : j < s.ops.length) : fldD (HP pre s post) ["Operation"] "step" (.ref (pre.length + 3 + j)) = some (D.int (s.op j).step) := by
  rw [fldD_ref, HP_op h]
  simp [oIns, opO, opKeys, opVals, fget]
@[simp] theorem of_token (h : j < s.ops.length) : fldD (HP pre s post) ["Operation"] "token" (.ref (pre.length + 3 + j)) = some (D.bl (s.op j).token) := by
  rw [fldD_ref, HP_op h]
  simp [oIns, opO, opKeys, opVals, fget]
@[simp] theorem of_leader (h : j < s.ops.length) : fldD (HP pre s post) ["Operation"] "leader" (.ref (pre.length + 3 + j)) = some (oi (s.op j).leader) := by
  rw [fldD_ref, HP_op h]
  simp [oIns, opO, opKeys, opVals, fget]
@[simp] theorem of_floors (h : j < s.ops.length) : fldD (HP pre s post) ["Operation"] "floors" (.ref (pre.length + 3 + j)) = some (D.tup [D.int (s.op j).ofin, D.int (s.op j).oret]) := by
  rw [fldD_ref, HP_op h]
  simp [oIns, opO, opKeys, opVals, fget]
@[simp] theorem of_is_quiet (h : j < s.ops.length) : fldD (HP pre s post) ["Operation"] "is_quiet" (.ref (pre.length + 3 + j)) = some (D.bl (s.op j).quiet) := by
  rw [fldD_ref, HP_op h]
  simp [oIns, opO, opKeys, opVals, fget]
/-! storing -/
@[simp] theorem rs_database (v : Int) : fldS (HP pre s post) ["Run"] "database" (.ref pre.length) (D.int v) = some (HP pre (s.wDb v) post) := by
  rw [fldS_ref, HP_run]
  rw [← HP_setRun (s := s) (s' := s.wDb v) rfl rfl]
  simp [oIns, runO, runKeys, runVals, fputK, fputV, fhas, frep]
  try rfl
@[simp] theorem rs_replica (v : Int) : fldS (HP pre s post) ["Run"] "replica" (.ref pre.length) (D.int v) = some (HP pre (s.wRep v) post) := by
  rw [fldS_ref, HP_run]
  rw [← HP_setRun (s := s) (s' := s.wRep v) rfl rfl]
  simp [oIns, runO, runKeys, runVals, fputK, fputV, fhas, frep]
  try rfl
@[simp] theorem rs_cache (v : Option Int) : fldS (HP pre s post) ["Run"] "cache" (.ref pre.length) (oi v) = some (HP pre (s.wCache v) post) := by
  rw [fldS_ref, HP_run]
  rw [← HP_setRun (s := s) (s' := s.wCache v) rfl rfl]
  simp [oIns, runO, runKeys, runVals, fputK, fputV, fhas, frep]
  try rfl
@[simp] theorem rs_mark (v : Int) : fldS (HP pre s post) ["Run"] "mark" (.ref pre.length) (D.int v) = some (HP pre (s.wMark v) post) := by
  rw [fldS_ref, HP_run]
  rw [← HP_setRun (s := s) (s' := s.wMark v) rfl rfl]
  simp [oIns, runO, runKeys, runVals, fputK, fputV, fhas, frep]
  try rfl
@[simp] theorem rs_flight (v : Option Int) : fldS (HP pre s post) ["Run"] "flight" (.ref pre.length) (oi v) = some (HP pre (s.wFlight v) post) := by
  rw [fldS_ref, HP_run]
  rw [← HP_setRun (s := s) (s' := s.wFlight v) rfl rfl]
  simp [oIns, runO, runKeys, runVals, fputK, fputV, fhas, frep]
  try rfl
@[simp] theorem rs_finished (v : Int) : fldS (HP pre s post) ["Run"] "finished" (.ref pre.length) (D.int v) = some (HP pre (s.wFin v) post) := by
  rw [fldS_ref, HP_run]
  rw [← HP_setRun (s := s) (s' := s.wFin v) rfl rfl]
  simp [oIns, runO, runKeys, runVals, fputK, fputV, fhas, frep]
  try rfl
@[simp] theorem rs_returned (v : Int) : fldS (HP pre s post) ["Run"] "returned" (.ref pre.length) (D.int v) = some (HP pre (s.wRet v) post) := by
  rw [fldS_ref, HP_run]
  rw [← HP_setRun (s := s) (s' := s.wRet v) rfl rfl]
  simp [oIns, runO, runKeys, runVals, fputK, fputV, fhas, frep]
  try rfl
@[simp] theorem rs_last (v : Option Nat) : fldS (HP pre s post) ["Run"] "last" (.ref pre.length) (olast pre.length v) = some (HP pre (s.wLast v) post) := by
  rw [fldS_ref, HP_run]
  rw [← HP_setRun (s := s) (s' := s.wLast v) rfl rfl]
  simp [oIns, runO, runKeys, runVals, fputK, fputV, fhas, frep]
  try rfl
@[simp] theorem os_stage (h : j < s.ops.length) (v : String) : fldS (HP pre s post) ["Operation"] "stage" (.ref (pre.length + 3 + j)) (S v) = some (HP pre (s.upd j (Op.wStage v)) post) := by
  rw [fldS_ref, HP_op h]
  rw [← HP_setOp h]
  simp [oIns, opO, opKeys, opVals, fputK, fputV, fhas, frep]
@[simp] theorem os_version (h : j < s.ops.length) (v : Option Int) : fldS (HP pre s post) ["Operation"] "version" (.ref (pre.length + 3 + j)) (oi v) = some (HP pre (s.upd j (Op.wVer v)) post) := by
  rw [fldS_ref, HP_op h]
  rw [← HP_setOp h]
  simp [oIns, opO, opKeys, opVals, fputK, fputV, fhas, frep]
@[simp] theorem os_ended (h : j < s.ops.length) (v : Option Int) : fldS (HP pre s post) ["Operation"] "ended" (.ref (pre.length + 3 + j)) (oi v) = some (HP pre (s.upd j (Op.wEnded v)) post) := by
  rw [fldS_ref, HP_op h]
  rw [← HP_setOp h]
  simp [oIns, opO, opKeys, opVals, fputK, fputV, fhas, frep]
@[simp] theorem os_step (h : j < s.ops.length) (v : Int) : fldS (HP pre s post) ["Operation"] "step" (.ref (pre.length + 3 + j)) (D.int v) = some (HP pre (s.upd j (Op.wStep v)) post) := by
  rw [fldS_ref, HP_op h]
  rw [← HP_setOp h]
  simp [oIns, opO, opKeys, opVals, fputK, fputV, fhas, frep]
@[simp] theorem os_token (h : j < s.ops.length) (v : Bool) : fldS (HP pre s post) ["Operation"] "token" (.ref (pre.length + 3 + j)) (D.bl v) = some (HP pre (s.upd j (Op.wToken v)) post) := by
  rw [fldS_ref, HP_op h]
  rw [← HP_setOp h]
  simp [oIns, opO, opKeys, opVals, fputK, fputV, fhas, frep]
@[simp] theorem os_leader (h : j < s.ops.length) (v : Option Int) : fldS (HP pre s post) ["Operation"] "leader" (.ref (pre.length + 3 + j)) (oi v) = some (HP pre (s.upd j (Op.wLeader v)) post) := by
  rw [fldS_ref, HP_op h]
  rw [← HP_setOp h]
  simp [oIns, opO, opKeys, opVals, fputK, fputV, fhas, frep]
@[simp] theorem os_is_quiet (h : j < s.ops.length) (v : Bool) : fldS (HP pre s post) ["Operation"] "is_quiet" (.ref (pre.length + 3 + j)) (D.bl v) = some (HP pre (s.upd j (Op.wQuiet v)) post) := by
  rw [fldS_ref, HP_op h]
  rw [← HP_setOp h]
  simp [oIns, opO, opKeys, opVals, fputK, fputV, fhas, frep]
@[simp] theorem rs_cache_i (v : Int) : fldS (HP pre s post) ["Run"] "cache" (.ref pre.length) (.int v) = some (HP pre (s.wCache (some v)) post) := rs_cache (some v)
@[simp] theorem rs_cache_n : fldS (HP pre s post) ["Run"] "cache" (.ref pre.length) .non = some (HP pre (s.wCache none) post) := rs_cache none
@[simp] theorem rs_flight_i (v : Int) : fldS (HP pre s post) ["Run"] "flight" (.ref pre.length) (.int v) = some (HP pre (s.wFlight (some v)) post) := rs_flight (some v)
@[simp] theorem rs_flight_n : fldS (HP pre s post) ["Run"] "flight" (.ref pre.length) .non = some (HP pre (s.wFlight none) post) := rs_flight none
@[simp] theorem rs_last_i (v : Nat) : fldS (HP pre s post) ["Run"] "last" (.ref pre.length) (.ref (pre.length + 3 + v)) = some (HP pre (s.wLast (some v)) post) := rs_last (some v)
@[simp] theorem rs_last_n : fldS (HP pre s post) ["Run"] "last" (.ref pre.length) .non = some (HP pre (s.wLast none) post) := rs_last none
@[simp] theorem os_version_i (h : j < s.ops.length) (v : Int) : fldS (HP pre s post) ["Operation"] "version" (.ref (pre.length + 3 + j)) (.int v) = some (HP pre (s.upd j (Op.wVer (some v))) post) := os_version h (some v)
@[simp] theorem os_version_n (h : j < s.ops.length) : fldS (HP pre s post) ["Operation"] "version" (.ref (pre.length + 3 + j)) .non = some (HP pre (s.upd j (Op.wVer none)) post) := os_version h none
@[simp] theorem os_ended_i (h : j < s.ops.length) (v : Int) : fldS (HP pre s post) ["Operation"] "ended" (.ref (pre.length + 3 + j)) (.int v) = some (HP pre (s.upd j (Op.wEnded (some v))) post) := os_ended h (some v)
@[simp] theorem os_ended_n (h : j < s.ops.length) : fldS (HP pre s post) ["Operation"] "ended" (.ref (pre.length + 3 + j)) .non = some (HP pre (s.upd j (Op.wEnded none)) post) := os_ended h none
@[simp] theorem os_leader_i (h : j < s.ops.length) (v : Int) : fldS (HP pre s post) ["Operation"] "leader" (.ref (pre.length + 3 + j)) (.int v) = some (HP pre (s.upd j (Op.wLeader (some v))) post) := os_leader h (some v)
@[simp] theorem os_leader_n (h : j < s.ops.length) : fldS (HP pre s post) ["Operation"] "leader" (.ref (pre.length + 3 + j)) .non = some (HP pre (s.upd j (Op.wLeader none)) post) := os_leader h none
@[simp] theorem insD_run : insD (HP pre s post) ["Run"] (.ref pre.length) = some (Str.ofString "Run", runKeys, runVals pre.length s) := by
  show oIns _ (HP pre s post)[pre.length]? = _
  rw [HP_run]
  simp [oIns, runO]
@[simp] theorem insD_op (h : j < s.ops.length) : insD (HP pre s post) ["Operation"] (.ref (pre.length + 3 + j)) = some (Str.ofString "Operation", opKeys, opVals j (s.op j)) := by
  show oIns _ (HP pre s post)[pre.length + 3 + j]? = _
  rw [HP_op h]
  simp [oIns, opO]
@[simp] theorem opsR_len {b n : Nat} : (opsR b n).length = n := by simp [opsR]
@[simp] theorem atI_opsR {b n : Nat} (h : j < n) : atI (opsR b n) (j : Int) = some (.ref (b + 3 + j)) := atI_nat (by simp [opsR, h])
theorem HP_addE (e : Evt) : (HP pre s post).set (pre.length + 2) (.lst (s.past.map toE ++ [toE e])) = HP pre (s.wPast (s.past ++ [e])) post := by
  unfold HP
  refine (set_app pre (encP pre.length s ++ post) _ _ (by omega)).trans ?_
  have e1 : pre.length + 2 - pre.length = 2 := by omega
  rw [e1]
  show pre ++ (runO pre.length s :: .lst (opsR pre.length s.ops.length) :: .lst (s.past.map toE ++ [toE e]) :: (opsO 0 s.ops ++ post)) = pre ++ (runO pre.length s :: .lst (opsR pre.length s.ops.length) :: .lst ((s.past ++ [e]).map toE) :: (opsO 0 s.ops ++ post))
  rw [List.map_append]
  rfl
theorem HP_len : (HP pre s []).length = pre.length + 3 + s.ops.length := by
  simp [HP, encP, opsO_len]
  omega
theorem opsO_app : ∀ (os : List Op) (i : Nat) (o : Op), opsO i (os ++ [o]) = opsO i os ++ [opO (i + os.length) o]
  | [], i, o => by simp [opsO]
  | x :: os, i, o => by
    have := opsO_app os (i + 1) o
    simp only [List.cons_append, opsO, this, List.length_cons]
    congr 4
    omega
theorem opsR_app {b n : Nat} : opsR b n ++ [.ref (b + 3 + n)] = opsR b (n + 1) := by
  unfold opsR
  rw [List.range_succ, List.map_append]
  rfl
theorem HP_addOp (o : Op) : (HP pre s [opO s.ops.length o]).set (pre.length + 1) (.lst (opsR pre.length s.ops.length ++ [.ref (pre.length + 3 + s.ops.length)])) = HP pre (s.wOps (s.ops ++ [o])) [] := by
  unfold HP
  refine (set_app pre _ _ _ (by omega)).trans ?_
  have e1 : pre.length + 1 - pre.length = 1 := by omega
  rw [e1, opsR_app]
  show pre ++ (runO pre.length s :: .lst (opsR pre.length (s.ops.length + 1)) :: .lst (s.past.map toE) :: (opsO 0 s.ops ++ [opO s.ops.length o])) = pre ++ (runO pre.length s :: .lst (opsR pre.length (s.ops ++ [o]).length) :: .lst (s.past.map toE) :: (opsO 0 (s.ops ++ [o]) ++ []))
  rw [opsO_app]
  simp
theorem HP_post (x : O) : HP pre s [] ++ [x] = HP pre s [x] := by simp [HP]
@[simp] theorem nm_under_way : fhas (Str.ofString "under_way") runKeys = false := by simp [fhas, runKeys]
@[simp] theorem nm_is_writing : fhas (Str.ofString "is_writing") runKeys = false := by simp [fhas, runKeys]
@[simp] theorem nm_next_step : fhas (Str.ofString "next_step") runKeys = false := by simp [fhas, runKeys]
@[simp] theorem nm_events : fhas (Str.ofString "events") runKeys = false := by simp [fhas, runKeys]
@[simp] theorem nm_do : fhas (Str.ofString "do") runKeys = false := by simp [fhas, runKeys]
@[simp] theorem nm_do_step : fhas (Str.ofString "do_step") runKeys = false := by simp [fhas, runKeys]
@[simp] theorem nm_begin : fhas (Str.ofString "begin") runKeys = false := by simp [fhas, runKeys]
@[simp] theorem nm_end : fhas (Str.ofString "end") runKeys = false := by simp [fhas, runKeys]
@[simp] theorem nm_do_write : fhas (Str.ofString "do_write") runKeys = false := by simp [fhas, runKeys]
@[simp] theorem nm_spoil : fhas (Str.ofString "spoil") runKeys = false := by simp [fhas, runKeys]
@[simp] theorem nm_is_newer : fhas (Str.ofString "is_newer") runKeys = false := by simp [fhas, runKeys]
@[simp] theorem nm_put : fhas (Str.ofString "put") runKeys = false := by simp [fhas, runKeys]
@[simp] theorem nm_do_read : fhas (Str.ofString "do_read") runKeys = false := by simp [fhas, runKeys]
@[simp] theorem nm_look : fhas (Str.ofString "look") runKeys = false := by simp [fhas, runKeys]
@[simp] theorem nm_fetch : fhas (Str.ofString "fetch") runKeys = false := by simp [fhas, runKeys]
@[simp] theorem nm_fill : fhas (Str.ofString "fill") runKeys = false := by simp [fhas, runKeys]
@[simp] theorem nm_take : fhas (Str.ofString "take") runKeys = false := by simp [fhas, runKeys]
@[simp] theorem nmo_is_under_way : fhas (Str.ofString "is_under_way") opKeys = false := by simp [fhas, opKeys]
end

end CH

namespace CH
open PySem L2
/-! what a Run's methods do -/
section
variable {pre post : MH} {s : St} {j n : Nat}
def uw (o : Op) : Bool := !(decide (o.stage = "ended") || decide (o.stage = "stopped"))
def St.uwL (s : St) : List Nat := (List.range s.ops.length).filter fun j => uw (s.op j)
def refO (pre : MH) (j : Nat) : D := .ref (pre.length + 3 + j)
theorem uwL_lt (h : j ∈ s.uwL) : j < s.ops.length := by
  have := (List.mem_filter.mp h).1
  simpa using this
@[simp] theorem oi_some {i : Int} : oi (some i) = .int i := rfl
@[simp] theorem oi_none : oi none = .non := rfl
@[simp] theorem eqD_oi (a : Option Int) (i : Int) : eqD (oi a) (.int i) = some (decide (a = some i)) := by
  cases a with
  | none => simp [oi]; rfl
  | some k => simp [oi]
def St.next (s : St) (o : Op) : Option String := if o.stage = "waits" then (if (s.op (o.leader.getD 0).toNat).stage = "ended" then some "take" else none) else some o.stage
def os : Option String → D
  | none => .non
  | some x => S x
/-- a waiting one has a leader -/
def ledOk (s : St) (o : Op) : Prop := o.stage = "waits" → ∃ l : Nat, o.leader = some (l : Int) ∧ l < s.ops.length
def imax (a b : Int) : Int := if b > a then b else a
/-- an operation ends -/
def St.end1 (s : St) (j : Nat) : St := (s.upd j (Op.wStage "ended")).upd j (Op.wEnded (some (s.past.length : Int)))
def St.end2 (s : St) (j : Nat) : St := if (s.op j).kind = "write" then s.wFin (imax s.fin ((s.op j).ver.getD 0)) else (s.wRet (imax s.ret ((s.op j).ver.getD 0))).wLast (some j)
def St.end3 (s : St) (j : Nat) : St := if s.flight = some (j : Int) then s.wFlight none else s
def St.endO (s : St) (j : Nat) : St := ((s.end1 j).end2 j).end3 j
@[simp] theorem olast_some {b k : Nat} : olast b (some k) = .ref (b + 3 + k) := rfl
end

end CH

namespace CH
open PySem L2
section
variable {pre post : MH} {s : St} {j n : Nat}
def ltO : Option Int → Int → Bool
  | none, _ => true
  | some c, v => decide (c < v)
def St.newer (s : St) (v : Int) : Bool := if s.g = "mark" then decide (s.mark ≤ v) else ltO s.cache v
def St.put (s : St) (v : Int) : St := if s.g = "mark" then (s.wCache (some v)).wMark (imax s.mark v) else s.wCache (some v)
@[simp] theorem put_ops {v : Int} : (s.put v).ops = s.ops := by unfold St.put; split <;> rfl
@[simp] theorem put_op {v : Int} : (s.put v).op j = s.op j := by unfold St.op; rw [put_ops]
def St.look (s : St) (j : Nat) : St := match s.cache with
  | some c => (s.upd j (Op.wVer (some c))).endO j
  | none => if (s.f = "shared") ∧ s.flight.isSome = true then (s.upd j (Op.wStage "waits")).upd j (Op.wLeader s.flight) else (s.upd j (Op.wStage "fetch")).wFlight (if s.f = "shared" then some (j : Int) else none)
@[simp] theorem oNotN_oi {a : Option Int} {h : MH} : oNotN (oi a) .non h = .ok (.bl a.isSome) h := by cases a <;> rfl
@[simp] theorem oIsN_oi {a : Option Int} {h : MH} : oIsN (oi a) .non h = .ok (.bl a.isNone) h := by cases a <;> rfl
def St.seen (s : St) : Int := if s.ws = "replica" then s.rep else s.db
def St.fetch (s : St) (j : Nat) : St :=
  let s1 := (s.upd j (Op.wVer (some s.seen))).upd j (Op.wStage "fill")
  if s.g = "never" then s1.endO j else s1
def St.good (s : St) (j : Nat) : Bool := if s.g = "empty" then s.cache.isNone else if s.g = "token" then (s.op j).token else decide (s.g = "always") || s.newer ((s.op j).ver.getD 0)
def St.fill (s : St) (j : Nat) : St := (if s.good j = true then s.put ((s.op j).ver.getD 0) else s).endO j
def St.take (s : St) (j : Nat) : St := (s.upd j (Op.wVer (s.op ((s.op j).leader.getD 0).toNat).ver)).endO j
/-! spoiling -/
def spo (o : Op) : Op := if uw o = true then Op.wToken false o else o
def St.spoil (s : St) : St := s.wOps (s.ops.map spo)
end

end CH

namespace CH
open PySem L2
section
variable {pre post : MH} {s : St} {j n : Nat}
@[simp] theorem spoil_len : s.spoil.ops.length = s.ops.length := by simp [St.spoil]
theorem spoil_op (h : j < s.ops.length) : s.spoil.op j = spo (s.op j) := by
  unfold St.spoil St.op
  simp [List.getD, List.getElem?_eq_getElem h]
theorem op_eq {s s' : St} (h : s.ops[j]? = s'.ops[j]?) : s.op j = s'.op j := by
  unfold St.op
  simp [List.getD, h]
/-- a loop over the operations under way that changes each by itself -/
theorem fold_upd (f : Op → Op) : ∀ (js : List Nat) (s : St), js.Nodup → (js.foldl (fun s j => s.upd j f) s) = s.wOps (s.ops.mapIdx fun i o => if i ∈ js then f o else o)
  | [], s, _ => by
    simp only [List.foldl_nil, List.not_mem_nil, if_false]
    have : (s.ops.mapIdx fun i o => o) = s.ops := by
      apply List.ext_getElem?
      intro i
      simp
    rw [this]
    rfl
  | j :: js, s, hn => by
    rw [List.foldl_cons, fold_upd f js _ (List.nodup_cons.mp hn).2]
    have e : ((s.upd j f).ops.mapIdx fun i o => if i ∈ js then f o else o) = (s.ops.mapIdx fun i o => if i ∈ j :: js then f o else o) := by
      apply List.ext_getElem?
      intro i
      have hj := (List.nodup_cons.mp hn).1
      simp only [St.upd, List.getElem?_mapIdx, List.getElem?_modify, Option.map_map]
      cases hx : s.ops[i]? with
      | none => rfl
      | some o =>
        by_cases hij : j = i
        · subst hij
          simp [hj]
        · have hij' : ¬ i = j := fun e => hij e.symm
          simp [hij, hij']
    rw [e]
    rfl
theorem uwL_nodup : s.uwL.Nodup := List.Nodup.sublist List.filter_sublist List.nodup_range
theorem fold_uw (f : Op → Op) : (s.uwL.foldl (fun s j => s.upd j f) s) = s.wOps (s.ops.map fun o => if uw o = true then f o else o) := by
  rw [fold_upd f _ _ uwL_nodup]
  congr 1
  apply List.ext_getElem?
  intro i
  simp only [List.getElem?_mapIdx, List.getElem?_map]
  cases hx : s.ops[i]? with
  | none => rfl
  | some o =>
    have hi : i < s.ops.length := (List.getElem?_eq_some_iff.mp hx).1
    have ho : s.op i = o := by unfold St.op; simp [List.getD, hx]
    have : i ∈ s.uwL ↔ uw o = true := by
      unfold St.uwL
      simp [hi, ho]
    simp [this]
theorem uwL_len : s.uwL.length ≤ s.ops.length := by
  have := List.length_filter_le (fun j => uw (s.op j)) (List.range s.ops.length)
  rw [List.length_range] at this
  exact this
@[simp] theorem spo_fields {o : Op} : (spo o).kind = o.kind ∧ (spo o).stage = o.stage ∧ (spo o).ver = o.ver ∧ (spo o).step = o.step := by unfold spo; split <;> exact ⟨rfl, rfl, rfl, rfl⟩
theorem spoil_ver (h : j < s.ops.length) : (s.spoil.op j).ver = (s.op j).ver := by rw [spoil_op h]; exact spo_fields.2.2.1
theorem spoil_step (h : j < s.ops.length) : (s.spoil.op j).step = (s.op j).step := by rw [spoil_op h]; exact spo_fields.2.2.2
/-! a write's step -/
def St.wr1 (s : St) (w : String) (j : Nat) : St :=
  if w = "store" then (s.wDb (s.db + 1)).upd j (Op.wVer (some (s.db + 1)))
  else if w = "drop" then (let s1 := (s.wCache none).spoil; if s1.g = "mark" then (match (s.op j).ver with | some v => s1.wMark (imax s1.mark v) | none => s1) else s1)
  else (let s1 := s.spoil; if (!(decide (s1.g = "mark") || decide (s1.g = "newer")) || s1.newer ((s.op j).ver.getD 0)) = true then s1.put ((s.op j).ver.getD 0) else s1)
def St.wr2 (s : St) (j : Nat) : St :=
  let s1 := s.upd j (Op.wStep ((s.op j).step + 1))
  if (s.op j).step + 1 = ((stepsP s.p).length : Int) then s1.endO j else s1.upd j (Op.wStage ((stepsP s.p).getD ((s.op j).step + 1).toNat ""))
def St.write (s : St) (w : String) (j : Nat) : St := (s.wr1 w j).wr2 j
end

end CH

namespace CH
open PySem L2
section
variable {pre post : MH} {s : St} {j n : Nat}
@[simp] theorem spoil_flds : s.spoil.g = s.g ∧ s.spoil.mark = s.mark ∧ s.spoil.cache = s.cache ∧ s.spoil.db = s.db ∧ s.spoil.p = s.p ∧ s.spoil.fin = s.fin ∧ s.spoil.ret = s.ret ∧ s.spoil.flight = s.flight ∧ s.spoil.past = s.past := ⟨rfl, rfl, rfl, rfl, rfl, rfl, rfl, rfl, rfl⟩
@[simp] theorem spoil_g : s.spoil.g = s.g := id rfl
@[simp] theorem spoil_mark : s.spoil.mark = s.mark := id rfl
@[simp] theorem spoil_cache : s.spoil.cache = s.cache := id rfl
@[simp] theorem spoil_p : s.spoil.p = s.p := id rfl
@[simp] theorem put_p {v : Int} : (s.put v).p = s.p := by unfold St.put; split <;> rfl
@[simp] theorem put_g {v : Int} : (s.put v).g = s.g := by unfold St.put; split <;> rfl
theorem wr1_len {w : String} : (s.wr1 w j).ops.length = s.ops.length := by
  unfold St.wr1
  split
  · simp
  · split
    · simp only
      split
      · split <;> simp
      · simp
    · simp only
      split <;> simp
theorem wr1_p {w : String} : (s.wr1 w j).p = s.p := by
  unfold St.wr1
  split
  · rfl
  · split
    · simp only
      split
      · split <;> rfl
      · rfl
    · simp only
      split <;> simp
theorem wr1_step {w : String} (h : j < s.ops.length) : ((s.wr1 w j).op j).step = (s.op j).step := by
  unfold St.wr1
  split
  · simp [h]
  · split
    · have h' : j < (s.wCache none).ops.length := h
      have := spoil_step (s := s.wCache none) h'
      simp only
      split
      · split
        · simpa using this
        · simpa using this
      · simpa using this
    · have := spoil_step h
      simp only
      split <;> simpa using this
end

end CH

namespace CH
open PySem L2
section
variable {pre post : MH} {s : St} {j n : Nat}
/-! a new operation -/
def St.isWr (s : St) : Bool := s.uwL.any fun j => decide ((s.op j).kind = "write")
def St.newOp (s : St) (kind : String) : Op := ⟨kind, if kind = "read" then "look" else (stepsP s.p).getD 0 "", none, s.past.length, none, 0, true, none, s.fin, s.ret, !s.isWr⟩
/-- the object under construction -/
def halfO (ks : List Str) (vs : List D) : O := .ins "Operation" ks vs
theorem half_get {x : O} : (HP pre s [x])[pre.length + 3 + s.ops.length]? = some x := by
  unfold HP
  rw [List.getElem?_append_right (by omega)]
  have e : pre.length + 3 + s.ops.length - pre.length = s.ops.length + 3 := by omega
  rw [e]
  show (opsO 0 s.ops ++ [x])[s.ops.length]? = _
  rw [List.getElem?_append_right (by rw [opsO_len]; exact Nat.le_refl _), opsO_len]
  simp
theorem half_set {x y : O} : (HP pre s [x]).set (pre.length + 3 + s.ops.length) y = HP pre s [y] := by
  unfold HP
  refine (set_app pre _ _ _ (by omega)).trans ?_
  have e : pre.length + 3 + s.ops.length - pre.length = s.ops.length + 3 := by omega
  rw [e]
  show pre ++ (runO pre.length s :: .lst (opsR pre.length s.ops.length) :: .lst (s.past.map toE) :: (opsO 0 s.ops ++ [x]).set s.ops.length y) = pre ++ (runO pre.length s :: .lst (opsR pre.length s.ops.length) :: .lst (s.past.map toE) :: (opsO 0 s.ops ++ [y]))
  rw [List.set_append, if_neg (by rw [opsO_len]; omega), opsO_len]
  simp
@[simp] theorem half_store {ks : List Str} {vs : List D} {f : Str} {v : D} (hl : ks.length < 1000) : fldS (HP pre s [halfO ks vs]) ["Operation"] f (.ref (pre.length + 3 + s.ops.length)) v = some (HP pre s [halfO (fputK f ks) (fputV f v ks vs)]) := by
  rw [fldS_ref, half_get]
  simp only [halfO, oIns, List.contains_cons, beq_self_eq_true, Bool.true_or, if_true, Option.bind_some, hl]
  rw [half_set]
theorem opO_half {o : Op} : opO s.ops.length o = halfO opKeys (opVals s.ops.length o) := rfl
theorem stepsP_pos : 0 < (stepsP s.p).length := by unfold stepsP; split <;> (try split) <;> (try split) <;> (try split) <;> simp
def unq (o : Op) : Op := if uw o = true then Op.wQuiet false o else o
def St.begin0 (s : St) (kind : String) : St := if kind = "write" then s.wOps (s.ops.map unq) else s
def St.beginO (s : St) (kind : String) : St := (s.begin0 kind).wOps ((s.begin0 kind).ops ++ [(s.begin0 kind).newOp kind])
theorem begin0_len {kind : String} : (s.begin0 kind).ops.length = s.ops.length := by unfold St.begin0; split <;> simp
end

end CH

namespace CH
open PySem L2
section
variable {pre : MH} {s : St} {j n : Nat}
theorem begin_len {kind : String} : (s.beginO kind).ops.length = s.ops.length + 1 := by simp [St.beginO, begin0_len]
/-- what the next step of the operation j needs -/
def okWr (s : St) (w : String) (j : Nat) : Prop := (w = "store" ∨ w = "drop" ∨ ∃ v, (s.op j).ver = some v) ∧ ∃ k : Nat, (s.op j).step = (k : Int) ∧ k + 1 ≤ (stepsP s.p).length ∧ (k + 1 = (stepsP s.p).length → ∃ v, ((s.wr1 w j).op j).ver = some v)
def okTk (s : St) (j : Nat) : Prop := ∃ (l : Nat) (v : Int), (s.op j).leader = some (l : Int) ∧ l < s.ops.length ∧ (s.op l).ver = some v
def okRd (s : St) (w : String) (j : Nat) : Prop := if w = "look" then True else if w = "fetch" then True else if w = "fill" then ∃ v, (s.op j).ver = some v else okTk s j
def St.read (s : St) (w : String) (j : Nat) : St := if w = "look" then s.look j else if w = "fetch" then s.fetch j else if w = "fill" then s.fill j else s.take j
def okSt (s : St) (w : String) (j : Nat) : Prop := if w = "stop" then True else if (s.op j).kind = "write" then okWr s w j else okRd s w j
def St.step1 (s : St) (w : String) (j : Nat) : St := if w = "stop" then s.upd j (Op.wStage "stopped") else if (s.op j).kind = "write" then s.write w j else s.read w j
def St.step0 (s : St) (w : String) (j : Nat) : St := if j = s.ops.length then s.beginO (if w = "look" then "read" else "write") else s
def St.stepO (s : St) (w : String) (j : Nat) : St := (s.step0 w j).step1 w j
theorem step0_len {w : String} (h : j ≤ s.ops.length) : j < (s.step0 w j).ops.length ∧ (s.step0 w j).ops.length ≤ s.ops.length + 1 := by
  unfold St.step0
  by_cases e : j = s.ops.length
  · rw [if_pos e, begin_len]; omega
  · rw [if_neg e]; omega
/-- one event -/
def St.doE (s : St) : Evt → St
  | (w, none) => (let s0 := s.wLast none; let s1 := if w = "evict" then (s0.wCache none).wMark 0 else s0.wRep (s0.rep + 1); s1.wPast (s1.past ++ [(w, none)]))
  | (w, some i) => (let s1 := (s.wLast none).stepO w i.toNat; s1.wPast (s1.past ++ [(w, some i)]))
def okE (s : St) : Evt → Prop
  | (w, none) => w = "evict" ∨ w = "copy"
  | (w, some i) => w ≠ "evict" ∧ w ≠ "copy" ∧ ∃ j : Nat, i = (j : Int) ∧ j ≤ s.ops.length ∧ okSt ((s.wLast none).step0 w j) w j
end
/-- gives a value, on a heap such that .. -/
def RtP2 (d : D) (P : MH → Prop) (R : SRes) : Prop := ∃ h', endB R = .ok d h' ∧ P h'

end CH

namespace CH
open PySem L2
section
variable {pre post : MH} {s : St} {j n : Nat}
open PySem.W (alike alikeAll)
theorem toE_ok (e : Evt) : pyOk 40 (toE e) = true := by
  obtain ⟨w, o⟩ := e
  cases o with
  | none =>
    show pyOkL 39 [S w] = true
    rw [pyOkL_cons, pyOk_str, pyOkL_nil]; rfl
  | some i =>
    show pyOkL 39 [S w, .int i] = true
    rw [pyOkL_cons, pyOk_str, pyOkL_cons, pyOkL_nil, pyOk_int]; rfl
theorem toE_alike (a b : Evt) : alike (toPy (toE a)) (toPy (toE b)) = true := by
  obtain ⟨w, o⟩ := a
  obtain ⟨w', o'⟩ := b
  cases o <;> cases o' <;> simp [toE, alike, alikeAll]
theorem pyOkL_map (es : List Evt) : pyOkL 40 (es.map toE) = true := by
  induction es with
  | nil => exact pyOkL_nil
  | cons e es ih => rw [List.map_cons, pyOkL_cons, ih, toE_ok]; rfl
theorem okSort_evs (es : List Evt) (hl : es.length ≤ 10000) : okSort (es.map toE) = true := by
  unfold okSort
  rw [pyOkL_map]
  simp only [Bool.true_and, Bool.and_eq_true, decide_eq_true_eq, List.length_map, List.all_eq_true, Bool.or_eq_true]
  refine ⟨hl, ?_, .inl ?_⟩
  · intro a ha b hb
    obtain ⟨x, _, rfl⟩ := List.mem_map.mp ha
    obtain ⟨y, _, rfl⟩ := List.mem_map.mp hb
    exact toE_alike x y
  · intro a ha
    obtain ⟨⟨w, o⟩, _, rfl⟩ := List.mem_map.mp ha
    cases o <;> rfl
def St.ev1 (s : St) (j : Nat) : List Evt := (match s.next (s.op j) with | some x => [(x, some (j : Int))] | none => []) ++ (if s.wk = "stops" then [("stop", some (j : Int))] else [])
def St.canEvict (s : St) : Bool := decide (s.we = "evicts") && (s.cache.isSome || decide (0 < s.mark))
def St.canCopy (s : St) : Bool := decide (s.ws = "replica") && decide (s.rep < s.db)
def St.evL (s : St) : List Evt := [("look", some (s.ops.length : Int)), ((stepsP s.p).getD 0 "", some (s.ops.length : Int))] ++ s.uwL.flatMap s.ev1 ++ (if s.canEvict = true then [("evict", none)] else []) ++ (if s.canCopy = true then [("copy", none)] else [])
theorem half_oLst {xs : List D} : (HP pre s [.lst xs])[pre.length + 3 + s.ops.length]? = some (.lst xs) := half_get
theorem half_app {xs ys : List D} : (HP pre s [.lst xs]).set (pre.length + 3 + s.ops.length) (.lst ys) = HP pre s [.lst ys] := half_set
theorem ev1_len : (s.ev1 j).length ≤ 2 := by
  unfold St.ev1
  split <;> split <;> simp
theorem evs_len (js : List Nat) : (js.flatMap s.ev1).length ≤ 2 * js.length := by
  induction js with
  | nil => simp
  | cons j js ih =>
    rw [List.flatMap_cons, List.length_append, List.length_cons]
    have := ev1_len (s := s) (j := j)
    omega
theorem HP_take {x : O} : (HP pre s [x]).take (HP pre s []).length = HP pre s [] := by
  have : HP pre s [x] = HP pre s [] ++ [x] := (HP_post x).symm
  rw [this]
  simp
theorem pure_sorted (es : List Evt) : pureD (.lst (sortD (es.map toE))) = true := by
  show pureL (sortD (es.map toE)) = true
  have key : ∀ ds : List D, (∀ d ∈ ds, pureD d = true) → pureL ds = true := by
    intro ds
    induction ds with
    | nil => intro _; rfl
    | cons d ds ih => intro h; show (pureD d && pureL ds) = true; rw [h d (by simp), ih fun x hx => h x (by simp [hx])]; rfl
  refine key _ fun d hd => ?_
  have hd := (List.mergeSort_perm _ _).mem_iff.mp hd
  obtain ⟨⟨w, o⟩, _, rfl⟩ := List.mem_map.mp hd
  cases o <;> rfl
end

end CH

namespace CH
open PySem L2
/-! the law's own cache -/
def hKeys : List Key := [.inr (Str.ofString "design"), .inr (Str.ofString "world"), .inr (Str.ofString "db"), .inr (Str.ofString "rep"), .inr (Str.ofString "cache"), .inr (Str.ofString "mark"), .inr (Str.ofString "open"), .inr (Str.ofString "ops"), .inr (Str.ofString "past")]
def lKeys : List Key := [.inr (Str.ofString "number"), .inr (Str.ofString "kind"), .inr (Str.ofString "stage"), .inr (Str.ofString "version"), .inr (Str.ofString "begun"), .inr (Str.ofString "over"), .inr (Str.ofString "step"), .inr (Str.ofString "clean"), .inr (Str.ofString "leader")]
def hVals (b : Nat) (s : St) : List D := [St3 s.p s.g s.f, St3 s.ws s.we s.wk, D.int s.db, D.int s.rep, oi s.cache, D.int s.mark, oi s.flight, D.ref b, D.ref (b + 1)]
def lVals (j : Nat) (o : Op) : List D := [D.int (j : Int), S o.kind, S o.stage, oi o.ver, D.int o.begun, oi o.ended, D.int o.step, D.bl o.token, oi o.leader]
def hO (b : Nat) (s : St) : O := .dic hKeys (hVals b s)
def lO (j : Nat) (o : Op) : O := .dic lKeys (lVals j o)
def lsO : Nat → List Op → List O
  | _, [] => []
  | j, o :: os => lO j o :: lsO (j + 1) os
def encL (b : Nat) (s : St) : MH := .lst (opsR b s.ops.length) :: .lst (s.past.map toE) :: hO b s :: lsO 0 s.ops
def HL (pre : MH) (s : St) (post : MH) : MH := pre ++ (encL pre.length s ++ post)
section
variable {pre post : MH} {s : St} {j : Nat} {f : Op → Op}
theorem lsO_get : ∀ (os : List Op) (i j : Nat), (lsO i os)[j]? = (os[j]?).map (lO (i + j))
  | [], i, j => by simp [lsO]
  | o :: os, i, 0 => by simp [lsO]
  | o :: os, i, j + 1 => by
    have := lsO_get os (i + 1) j
    simp only [lsO, List.getElem?_cons_succ, this]
    congr 2
    omega
theorem lsO_len : ∀ (os : List Op) (i : Nat), (lsO i os).length = os.length
  | [], i => rfl
  | o :: os, i => by simp [lsO, lsO_len os (i + 1)]
theorem lsO_modify : ∀ (os : List Op) (i j : Nat) (f : Op → Op) (x : Op), os[j]? = some x → (lsO i os).set j (lO (i + j) (f x)) = lsO i (os.modify j f)
  | [], i, j, f, x, h => by simp at h
  | o :: os, i, 0, f, x, h => by
    simp at h
    subst h
    simp [lsO]
  | o :: os, i, j + 1, f, x, h => by
    have := lsO_modify os (i + 1) j f x (by simpa using h)
    simp only [lsO, List.set_cons_succ, List.modify_succ_cons]
    rw [← this]
    congr 2
    · congr 1
      omega
@[simp] theorem HL_ops : (HL pre s post)[pre.length]? = some (.lst (opsR pre.length s.ops.length)) := by simp [HL, encL]
@[simp] theorem HL_past : (HL pre s post)[pre.length + 1]? = some (.lst (s.past.map toE)) := by
  unfold HL
  rw [List.getElem?_append_right (by omega)]
  simp [encL]
theorem HL_h : (HL pre s post)[pre.length + 2]? = some (hO pre.length s) := by
  unfold HL
  rw [List.getElem?_append_right (by omega)]
  simp [encL]
theorem HL_op (h : j < s.ops.length) : (HL pre s post)[pre.length + 3 + j]? = some (lO j (s.op j)) := by
  unfold HL
  rw [List.getElem?_append_right (by omega)]
  have e : pre.length + 3 + j - pre.length = j + 3 := by omega
  rw [e]
  show (lsO 0 s.ops ++ post)[j]? = _
  rw [List.getElem?_append_left (by rw [lsO_len]; exact h), lsO_get, op_some h]
  simp
theorem HL_setH {s' : St} (h1 : s'.ops = s.ops) (h2 : s'.past = s.past) : (HL pre s post).set (pre.length + 2) (hO pre.length s') = HL pre s' post := by
  unfold HL
  refine (set_app pre (encL pre.length s ++ post) _ _ (by omega)).trans ?_
  have e : pre.length + 2 - pre.length = 2 := by omega
  rw [e]
  simp [encL, h1, h2]
theorem HL_setOp (h : j < s.ops.length) (f : Op → Op) : (HL pre s post).set (pre.length + 3 + j) (lO j (f (s.op j))) = HL pre (s.upd j f) post := by
  unfold HL
  refine (set_app pre (encL pre.length s ++ post) _ _ (by omega)).trans ?_
  have e : pre.length + 3 + j - pre.length = j + 3 := by omega
  rw [e]
  have := lsO_modify s.ops 0 j f (s.op j) (op_some h)
  simp only [Nat.zero_add] at this
  show pre ++ (.lst (opsR pre.length s.ops.length) :: .lst (s.past.map toE) :: hO pre.length s :: (lsO 0 s.ops ++ post).set j (lO j (f (s.op j)))) = pre ++ (.lst (opsR pre.length (s.ops.modify j f).length) :: .lst (s.past.map toE) :: hO pre.length s :: (lsO 0 (s.ops.modify j f) ++ post))
  rw [List.set_append_left _ _ (by rw [lsO_len]; exact h), this, List.length_modify]
theorem atKeyD_ref {h : MH} {k : Nat} {x : Str} : atKeyD h (.ref k) (.str x) = (oDic h[k]?).bind fun p => dget (.inr x) p.1 p.2 := by
  unfold atKeyD
  cases h0 : oDic h[k]? <;> simp [dicD, h0, keyD]
theorem dSet_ref2 {h : MH} {k : Nat} {x : Str} {v : D} : dSet h (.ref k) (.str x) v = (oDic h[k]?).bind fun p => if p.1.length < lim then some (h.set k (.dic (dputK (.inr x) p.1) (dputV (.inr x) v p.1 p.2))) else none := rfl
/-! reading -/
@[simp] theorem hr_design : atKeyD (HL pre s post) (.ref (pre.length + 2)) (S "design") = some (St3 s.p s.g s.f) := by
  rw [atKeyD_ref, HL_h]
  simp [oDic, hO, hKeys, hVals]
@[simp] theorem hr_world : atKeyD (HL pre s post) (.ref (pre.length + 2)) (S "world") = some (St3 s.ws s.we s.wk) := by
  rw [atKeyD_ref, HL_h]
  simp [oDic, hO, hKeys, hVals]
@[simp] theorem hr_db : atKeyD (HL pre s post) (.ref (pre.length + 2)) (S "db") = some (D.int s.db) := by
  rw [atKeyD_ref, HL_h]
  simp [oDic, hO, hKeys, hVals]
@[simp] theorem hr_rep : atKeyD (HL pre s post) (.ref (pre.length + 2)) (S "rep") = some (D.int s.rep) := by
  rw [atKeyD_ref, HL_h]
  simp [oDic, hO, hKeys, hVals]
@[simp] theorem hr_cache : atKeyD (HL pre s post) (.ref (pre.length + 2)) (S "cache") = some (oi s.cache) := by
  rw [atKeyD_ref, HL_h]
  simp [oDic, hO, hKeys, hVals]
@[simp] theorem hr_mark : atKeyD (HL pre s post) (.ref (pre.length + 2)) (S "mark") = some (D.int s.mark) := by
  rw [atKeyD_ref, HL_h]
  simp [oDic, hO, hKeys, hVals]
@[simp] theorem hr_open : atKeyD (HL pre s post) (.ref (pre.length + 2)) (S "open") = some (oi s.flight) := by
  rw [atKeyD_ref, HL_h]
  simp [oDic, hO, hKeys, hVals]
@[simp] theorem hr_ops : atKeyD (HL pre s post) (.ref (pre.length + 2)) (S "ops") = some (D.ref pre.length) := by
  rw [atKeyD_ref, HL_h]
  simp [oDic, hO, hKeys, hVals]
@[simp] theorem hr_past : atKeyD (HL pre s post) (.ref (pre.length + 2)) (S "past") = some (D.ref (pre.length + 1)) := by
  rw [atKeyD_ref, HL_h]
  simp [oDic, hO, hKeys, hVals]
@[simp] theorem lr_number (h : j < s.ops.length) : atKeyD (HL pre s post) (.ref (pre.length + 3 + j)) (S "number") = some (D.int (j : Int)) := by
  rw [atKeyD_ref, HL_op h]
  simp [oDic, lO, lKeys, lVals]
@[simp] theorem lr_kind (h : j < s.ops.length) : atKeyD (HL pre s post) (.ref (pre.length + 3 + j)) (S "kind") = some (S (s.op j).kind) := by
  rw [atKeyD_ref, HL_op h]
  simp [oDic, lO, lKeys, lVals]
@[simp] theorem lr_stage (h : j < s.ops.length) : atKeyD (HL pre s post) (.ref (pre.length + 3 + j)) (S "stage") = some (S (s.op j).stage) := by
  rw [atKeyD_ref, HL_op h]
  simp [oDic, lO, lKeys, lVals]
@[simp] theorem lr_version (h : j < s.ops.length) : atKeyD (HL pre s post) (.ref (pre.length + 3 + j)) (S "version") = some (oi (s.op j).ver) := by
  rw [atKeyD_ref, HL_op h]
  simp [oDic, lO, lKeys, lVals]
@[simp] theorem lr_begun (h : j < s.ops.length) : atKeyD (HL pre s post) (.ref (pre.length + 3 + j)) (S "begun") = some (D.int (s.op j).begun) := by
  rw [atKeyD_ref, HL_op h]
  simp [oDic, lO, lKeys, lVals]
@[simp] theorem lr_over (h : j < s.ops.length) : atKeyD (HL pre s post) (.ref (pre.length + 3 + j)) (S "over") = some (oi (s.op j).ended) := by
  rw [atKeyD_ref, HL_op h]
  simp [oDic, lO, lKeys, lVals]
@[simp] theorem lr_step (h : j < s.ops.length) : atKeyD (HL pre s post) (.ref (pre.length + 3 + j)) (S "step") = some (D.int (s.op j).step) := by
  rw [atKeyD_ref, HL_op h]
  simp [oDic, lO, lKeys, lVals]
@[simp] theorem lr_clean (h : j < s.ops.length) : atKeyD (HL pre s post) (.ref (pre.length + 3 + j)) (S "clean") = some (D.bl (s.op j).token) := by
  rw [atKeyD_ref, HL_op h]
  simp [oDic, lO, lKeys, lVals]
@[simp] theorem lr_leader (h : j < s.ops.length) : atKeyD (HL pre s post) (.ref (pre.length + 3 + j)) (S "leader") = some (oi (s.op j).leader) := by
  rw [atKeyD_ref, HL_op h]
  simp [oDic, lO, lKeys, lVals]
/-! storing -/
@[simp] theorem hs_db (v : Int) : dSet (HL pre s post) (.ref (pre.length + 2)) (S "db") (D.int v) = some (HL pre (s.wDb v) post) := by
  rw [dSet_ref2, HL_h]
  rw [← HL_setH (s := s) (s' := s.wDb v) rfl rfl]
  simp [oDic, hO, hKeys, hVals]
  try rfl
@[simp] theorem hs_rep (v : Int) : dSet (HL pre s post) (.ref (pre.length + 2)) (S "rep") (D.int v) = some (HL pre (s.wRep v) post) := by
  rw [dSet_ref2, HL_h]
  rw [← HL_setH (s := s) (s' := s.wRep v) rfl rfl]
  simp [oDic, hO, hKeys, hVals]
  try rfl
@[simp] theorem hs_cache (v : Option Int) : dSet (HL pre s post) (.ref (pre.length + 2)) (S "cache") (oi v) = some (HL pre (s.wCache v) post) := by
  rw [dSet_ref2, HL_h]
  rw [← HL_setH (s := s) (s' := s.wCache v) rfl rfl]
  simp [oDic, hO, hKeys, hVals]
  try rfl
@[simp] theorem hs_mark (v : Int) : dSet (HL pre s post) (.ref (pre.length + 2)) (S "mark") (D.int v) = some (HL pre (s.wMark v) post) := by
  rw [dSet_ref2, HL_h]
  rw [← HL_setH (s := s) (s' := s.wMark v) rfl rfl]
  simp [oDic, hO, hKeys, hVals]
  try rfl
@[simp] theorem hs_open (v : Option Int) : dSet (HL pre s post) (.ref (pre.length + 2)) (S "open") (oi v) = some (HL pre (s.wFlight v) post) := by
  rw [dSet_ref2, HL_h]
  rw [← HL_setH (s := s) (s' := s.wFlight v) rfl rfl]
  simp [oDic, hO, hKeys, hVals]
  try rfl
@[simp] theorem ls_stage (h : j < s.ops.length) (v : String) : dSet (HL pre s post) (.ref (pre.length + 3 + j)) (S "stage") (S v) = some (HL pre (s.upd j (Op.wStage v)) post) := by
  rw [dSet_ref2, HL_op h]
  rw [← HL_setOp h]
  simp [oDic, lO, lKeys, lVals]
  try rfl
@[simp] theorem ls_version (h : j < s.ops.length) (v : Option Int) : dSet (HL pre s post) (.ref (pre.length + 3 + j)) (S "version") (oi v) = some (HL pre (s.upd j (Op.wVer v)) post) := by
  rw [dSet_ref2, HL_op h]
  rw [← HL_setOp h]
  simp [oDic, lO, lKeys, lVals]
  try rfl
@[simp] theorem ls_over (h : j < s.ops.length) (v : Option Int) : dSet (HL pre s post) (.ref (pre.length + 3 + j)) (S "over") (oi v) = some (HL pre (s.upd j (Op.wEnded v)) post) := by
  rw [dSet_ref2, HL_op h]
  rw [← HL_setOp h]
  simp [oDic, lO, lKeys, lVals]
  try rfl
@[simp] theorem ls_step (h : j < s.ops.length) (v : Int) : dSet (HL pre s post) (.ref (pre.length + 3 + j)) (S "step") (D.int v) = some (HL pre (s.upd j (Op.wStep v)) post) := by
  rw [dSet_ref2, HL_op h]
  rw [← HL_setOp h]
  simp [oDic, lO, lKeys, lVals]
  try rfl
@[simp] theorem ls_clean (h : j < s.ops.length) (v : Bool) : dSet (HL pre s post) (.ref (pre.length + 3 + j)) (S "clean") (D.bl v) = some (HL pre (s.upd j (Op.wToken v)) post) := by
  rw [dSet_ref2, HL_op h]
  rw [← HL_setOp h]
  simp [oDic, lO, lKeys, lVals]
  try rfl
@[simp] theorem ls_leader (h : j < s.ops.length) (v : Option Int) : dSet (HL pre s post) (.ref (pre.length + 3 + j)) (S "leader") (oi v) = some (HL pre (s.upd j (Op.wLeader v)) post) := by
  rw [dSet_ref2, HL_op h]
  rw [← HL_setOp h]
  simp [oDic, lO, lKeys, lVals]
  try rfl
@[simp] theorem hs_cache_i (v : Int) : dSet (HL pre s post) (.ref (pre.length + 2)) (S "cache") (.int v) = some (HL pre (s.wCache (some v)) post) := hs_cache (some v)
@[simp] theorem hs_cache_n : dSet (HL pre s post) (.ref (pre.length + 2)) (S "cache") .non = some (HL pre (s.wCache none) post) := hs_cache none
@[simp] theorem hs_open_i (v : Int) : dSet (HL pre s post) (.ref (pre.length + 2)) (S "open") (.int v) = some (HL pre (s.wFlight (some v)) post) := hs_open (some v)
@[simp] theorem hs_open_n : dSet (HL pre s post) (.ref (pre.length + 2)) (S "open") .non = some (HL pre (s.wFlight none) post) := hs_open none
@[simp] theorem ls_version_i (h : j < s.ops.length) (v : Int) : dSet (HL pre s post) (.ref (pre.length + 3 + j)) (S "version") (.int v) = some (HL pre (s.upd j (Op.wVer (some v))) post) := ls_version h (some v)
@[simp] theorem ls_version_n (h : j < s.ops.length) : dSet (HL pre s post) (.ref (pre.length + 3 + j)) (S "version") .non = some (HL pre (s.upd j (Op.wVer none)) post) := ls_version h none
@[simp] theorem ls_over_i (h : j < s.ops.length) (v : Int) : dSet (HL pre s post) (.ref (pre.length + 3 + j)) (S "over") (.int v) = some (HL pre (s.upd j (Op.wEnded (some v))) post) := ls_over h (some v)
@[simp] theorem ls_over_n (h : j < s.ops.length) : dSet (HL pre s post) (.ref (pre.length + 3 + j)) (S "over") .non = some (HL pre (s.upd j (Op.wEnded none)) post) := ls_over h none
@[simp] theorem ls_leader_i (h : j < s.ops.length) (v : Int) : dSet (HL pre s post) (.ref (pre.length + 3 + j)) (S "leader") (.int v) = some (HL pre (s.upd j (Op.wLeader (some v))) post) := ls_leader h (some v)
@[simp] theorem ls_leader_n (h : j < s.ops.length) : dSet (HL pre s post) (.ref (pre.length + 3 + j)) (S "leader") .non = some (HL pre (s.upd j (Op.wLeader none)) post) := ls_leader h none
theorem HL_addE (e : Evt) : (HL pre s post).set (pre.length + 1) (.lst (s.past.map toE ++ [toE e])) = HL pre (s.wPast (s.past ++ [e])) post := by
  unfold HL
  refine (set_app pre (encL pre.length s ++ post) _ _ (by omega)).trans ?_
  have e1 : pre.length + 1 - pre.length = 1 := by omega
  rw [e1]
  show pre ++ (.lst (opsR pre.length s.ops.length) :: .lst (s.past.map toE ++ [toE e]) :: hO pre.length s :: (lsO 0 s.ops ++ post)) = pre ++ (.lst (opsR pre.length s.ops.length) :: .lst ((s.past ++ [e]).map toE) :: hO pre.length s :: (lsO 0 s.ops ++ post))
  rw [List.map_append]
  rfl
theorem HL_len : (HL pre s []).length = pre.length + 3 + s.ops.length := by
  simp [HL, encL, lsO_len]
  omega
theorem lsO_app : ∀ (os : List Op) (i : Nat) (o : Op), lsO i (os ++ [o]) = lsO i os ++ [lO (i + os.length) o]
  | [], i, o => by simp [lsO]
  | x :: os, i, o => by
    have := lsO_app os (i + 1) o
    simp only [List.cons_append, lsO, this, List.length_cons]
    congr 4
    omega
theorem HL_addOp (o : Op) : (HL pre s [lO s.ops.length o]).set pre.length (.lst (opsR pre.length s.ops.length ++ [.ref (pre.length + 3 + s.ops.length)])) = HL pre (s.wOps (s.ops ++ [o])) [] := by
  unfold HL
  refine (set_app pre _ _ _ (Nat.le_refl _)).trans ?_
  rw [Nat.sub_self, opsR_app]
  show pre ++ (.lst (opsR pre.length (s.ops.length + 1)) :: .lst (s.past.map toE) :: hO pre.length s :: (lsO 0 s.ops ++ [lO s.ops.length o])) = pre ++ (.lst (opsR pre.length (s.ops ++ [o]).length) :: .lst (s.past.map toE) :: hO pre.length s :: (lsO 0 (s.ops ++ [o]) ++ []))
  rw [lsO_app]
  simp
theorem HL_post (x : O) : HL pre s [] ++ [x] = HL pre s [x] := by simp [HL]
end

end CH

namespace CH
open PySem L2
section
variable {pre post : MH} {s : St} {j n : Nat}
@[simp] theorem l_going_e (hl : s.ops.length < 1000) : callF (n + 1) .l_going [.ref (pre.length + 2)] (HL pre s post) = .ok (.lst (s.uwL.map (refO pre))) (HL pre s post) := by
  rw [callF_s]
  have e1 := lcH_map0 (to := refO pre) (k := pre.length) (i := 1) (c := mTest (mOp oNi (mOp oDGet (mVar 1) (mC (.str "stage"))) (mLst (mCons (mC (.str "ended")) (mCons (mC (.str "stopped")) (mNil)))))) (f := mVar 1) (sl := [some (.ref (pre.length + 2)), none]) (h := HL pre s post) (p := fun j => uw (s.op j)) (g := refO pre) (xs := List.range s.ops.length) (by
    rw [HL_ops]; rfl) (by rw [List.length_range, lim_eq]; omega) (by
    intro j hj
    have hj : j < s.ops.length := by simpa using hj
    simp [refO, hj, uw])
  simp [bodyOf, b_l_going, wipeD, e1, St.uwL]
@[simp] theorem l_next_e (h : j < s.ops.length) (hw : ledOk s (s.op j)) : callF (n + 1) .l_next [.ref (pre.length + 2), .ref (pre.length + 3 + j)] (HL pre s post) = .ok (os (s.next (s.op j))) (HL pre s post) := by
  rw [callF_s]
  by_cases hs : (s.op j).stage = "waits"
  · obtain ⟨l, e1, e2⟩ := hw hs
    by_cases he : (s.op l).stage = "ended"
    · simp [bodyOf, b_l_next, h, hs, St.next, e1, e2, he, os]
    · simp [bodyOf, b_l_next, h, hs, St.next, e1, e2, he, os]
  · simp [bodyOf, b_l_next, h, hs, St.next, os]
@[simp] theorem l_hold_e {v : Int} : callF (n + 1) .l_hold [.ref (pre.length + 2), .int v] (HL pre s post) = .ok .non (HL pre (s.put v) post) := by
  rw [callF_s]
  by_cases hg : s.g = "mark" <;> simp [bodyOf, b_l_hold, hg, St.put, imax]
@[simp] theorem l_newer_e {v : Int} : callF (n + 1) .l_newer [.ref (pre.length + 2), .int v] (HL pre s post) = .ok (.bl (ltO s.cache v)) (HL pre s post) := by
  rw [callF_s]
  cases hc : s.cache with
  | none => simp [bodyOf, b_l_newer, hc, ltO]
  | some c => simp [bodyOf, b_l_newer, hc, ltO]
def St.lets (s : St) (j : Nat) : Bool := if s.g = "token" then (s.op j).token else if s.g = "mark" then decide (s.mark ≤ (s.op j).ver.getD 0) else decide (s.g = "always") || (if s.g = "newer" then ltO s.cache ((s.op j).ver.getD 0) else s.cache.isNone)
@[simp] theorem l_lets_e (h : j < s.ops.length) {v : Int} (hv : (s.op j).ver = some v) : callF (n + 2) .l_lets [.ref (pre.length + 2), .ref (pre.length + 3 + j)] (HL pre s post) = .ok (.bl (s.lets j)) (HL pre s post) := by
  rw [callF_s]
  by_cases h1 : s.g = "token"
  · simp [bodyOf, b_l_lets, h, hv, h1, St.lets]
  by_cases h2 : s.g = "mark"
  · simp [bodyOf, b_l_lets, h, hv, h1, h2, St.lets]
  by_cases h3 : s.g = "always"
  · simp [bodyOf, b_l_lets, h, hv, h1, h2, h3, St.lets]
  by_cases h4 : s.g = "newer"
  · simp [bodyOf, b_l_lets, h, hv, h1, h2, h3, h4, St.lets]
  · simp [bodyOf, b_l_lets, h, hv, h1, h2, h3, h4, St.lets]
def St.lend (s : St) (j : Nat) (st : String) : St :=
  let s1 := (s.upd j (Op.wStage st)).upd j (Op.wEnded (some (s.past.length : Int)))
  if st = "ended" ∧ s.flight = some (j : Int) then s1.wFlight none else s1
@[simp] theorem kDSub_ap {fo fi : Mo D} {v : D} {sl : Sl} {h : MH} : kDSub fo fi v sl h = bindS sl (fo sl h) fun x h2 => bindS sl (fi sl h2) fun y h3 => nxO sl (dSet h3 x y v) := by
  show bindS sl _ _ = _
  refine congrArg _ (funext fun x => funext fun h2 => ?_)
  show bindS sl _ _ = _
  refine congrArg _ (funext fun y => funext fun h3 => ?_)
  show (match dSet h3 x y v with
    | some h4 => SRes.nx sl h4
    | none => .bad) = _
  cases dSet h3 x y v <;> rfl
@[simp] theorem l_end_e (h : j < s.ops.length) {st : String} : callF (n + 1) .l_end [.ref (pre.length + 2), .ref (pre.length + 3 + j), S st] (HL pre s post) = .ok .non (HL pre (s.lend j st) post) := by
  rw [callF_s]
  by_cases hs : st = "ended" <;> by_cases hf : s.flight = some (j : Int) <;> simp [bodyOf, b_l_end, h, hs, hf, St.lend]
end

end CH

namespace CH
open PySem L2
section
variable {n : Nat} {p g f s e k q : String} {h : MH}
def okP (p : String) : Bool := decide (p = "drop store") || (decide (p = "drop store drop") || (decide (p = "store") || (decide (p = "store drop") || decide (p = "store set"))))
def okG (g : String) : Bool := decide (g = "always") || (decide (g = "empty") || (decide (g = "mark") || (decide (g = "never") || (decide (g = "newer") || decide (g = "token")))))
def okF (f : String) : Bool := decide (f = "alone") || decide (f = "shared")
def okD (p g f : String) : Bool := okP p && (okG g && okF f)
def okW (s e k : String) : Bool := (decide (s = "primary") || decide (s = "replica")) && ((decide (e = "evicts") || decide (e = "keeps")) && (decide (k = "finishes") || decide (k = "stops")))
def okQ (q : String) : Bool := decide (q = "ending") || (decide (q = "filled") || (decide (q = "forward") || (decide (q = "fresh") || (decide (q = "linear") || (decide (q = "mended") || (decide (q = "moving") || (decide (q = "quiet") || (decide (q = "rest") || decide (q = "single")))))))))
end

end CH

namespace CH
open PySem L2
section
variable {pre post : MH} {s : St} {j n : Nat}
theorem forH_pre {α : Type} {to : α → D} {k i : Nat} {body : Ms} {xs : List α} {Inv : List α → Sl → MH → Prop} (hk : ∀ a sl h, Inv a sl h → oLst h[k]? = some (xs.map to)) : ∀ (rest done : List α) (sl : Sl) (h : MH), done ++ rest = xs → (∀ a x b, a ++ x :: b = xs → ∀ sl h, Inv a sl h → NxP (Inv (a ++ [x])) (body (sl.set i (some (to x))) h)) → Inv done sl h → NxP (Inv xs) (forH k (.nm i) body rest.length done.length sl h) := by
  intro rest
  induction rest with
  | nil =>
    intro done sl h e _ hi
    have e : done = xs := by simpa using e
    subst e
    refine ⟨sl, h, ?_, hi⟩
    show forH k (.nm i) body 0 done.length sl h = _
    unfold forH
    rw [hk _ _ _ hi]
    simp
  | cons x rest ih =>
    intro done sl h e hb hi
    obtain ⟨sl1, h1, e1, hi1⟩ := hb done x rest e sl h hi
    obtain ⟨sl2, h2, e2, hi2⟩ := ih (done ++ [x]) sl1 h1 (by rw [← e]; simp) hb hi1
    refine ⟨sl2, h2, ?_, hi2⟩
    show forH k (.nm i) body (rest.length + 1) done.length sl h = _
    unfold forH
    rw [hk _ _ _ hi]
    have hx : (xs.map to)[done.length]? = some (to x) := by rw [← e]; simp
    simp only [hx, tgD_nm, e1]
    simp only [List.length_append, List.length_cons, List.length_nil, Nat.zero_add] at e2
    exact e2
theorem forH_np {α : Type} {fo : Mo D} {i k : Nat} {body : Ms} {sl : Sl} {h : MH} {P : Sl → MH → Prop} (to : α → D) (xs : List α) (Inv : List α → Sl → MH → Prop) (hfo : fo sl h = .ok (.ref k) h) (h0 : Inv [] sl h) (hk : ∀ a sl h, Inv a sl h → oLst h[k]? = some (xs.map to))
    (hb : ∀ a x b, a ++ x :: b = xs → ∀ sl h, Inv a sl h → NxP (Inv (a ++ [x])) (body (sl.set i (some (to x))) h)) (hP : ∀ sl h, Inv xs sl h → P sl h) : NxP P (sForH fo (.nm i) body sl h) := by
  obtain ⟨sl', h', e, p⟩ := forH_pre hk xs [] sl h rfl hb h0
  refine ⟨sl', h', ?_, hP _ _ p⟩
  have hl : lenH h k = xs.length := by simp [lenH, hk _ _ _ h0]
  show bindS sl (fo sl h) _ = _
  rw [hfo]
  show (if (oLst h[k]?).isSome = true then forH k (.nm i) body (lenH h k) 0 sl h else .bad) = _
  rw [hk _ _ _ h0, hl]
  exact e
theorem split_of {p : String} (hp : okP p = true) : Txt.split (Str.ofString p) (Str.ofString " ") = (stepsP p).map Str.ofString := by
  simp [okP] at hp
  rcases hp with rfl | rfl | rfl | rfl | rfl
  · exact (by decide +kernel : Txt.split (Str.ofString "drop store") (Str.ofString " ") = ["drop", "store"].map Str.ofString)
  · exact (by decide +kernel : Txt.split (Str.ofString "drop store drop") (Str.ofString " ") = ["drop", "store", "drop"].map Str.ofString)
  · exact (by decide +kernel : Txt.split (Str.ofString "store") (Str.ofString " ") = ["store"].map Str.ofString)
  · exact (by decide +kernel : Txt.split (Str.ofString "store drop") (Str.ofString " ") = ["store", "drop"].map Str.ofString)
  · exact (by decide +kernel : Txt.split (Str.ofString "store set") (Str.ofString " ") = ["store", "set"].map Str.ofString)
theorem len_of {p : String} (hp : okP p = true) : (Str.ofString p).length + 2 ≤ lim := by
  simp [okP] at hp
  rcases hp with rfl | rfl | rfl | rfl | rfl <;> decide +kernel
theorem e_split {p : String} (hp : okP p = true) {h : MH} : oSplit (S p) (S " ") h = .ok (.lst ((stepsP p).map S)) h := by
  show (if ((Str.ofString " ").length == 0) = false ∧ (Str.ofString p).length + 2 ≤ lim then Res.ok (D.lst ((Txt.split (Str.ofString p) (Str.ofString " ")).map D.str)) h else .bad) = _
  rw [if_pos ⟨by decide +kernel, len_of hp⟩, split_of hp, List.map_map]
  rfl
@[simp] theorem mSplit_ap {fo fa : Mo D} {sl : Sl} {h : MH} : mSplit fo fa sl h = bindR (fo sl h) fun x h1 => if isStr x = true then bindR (fa sl h1) fun y h2 => oSplit x y h2 else .bad := rfl
end

end CH

namespace CH
open PySem L2
section
variable {pre post : MH} {s : St} {j n : Nat}
/-! a write's step, the law's way -/
def St.soil (s : St) : St := s.wOps (s.ops.map (Op.wToken false))
@[simp] theorem soil_len : s.soil.ops.length = s.ops.length := by simp [St.soil]
theorem soil_op (h : j < s.ops.length) : s.soil.op j = Op.wToken false (s.op j) := by
  unfold St.soil St.op
  simp [List.getD, List.getElem?_eq_getElem h]
@[simp] theorem soil_g : s.soil.g = s.g := id rfl
@[simp] theorem soil_p : s.soil.p = s.p := id rfl
@[simp] theorem soil_mark : s.soil.mark = s.mark := id rfl
@[simp] theorem soil_cache : s.soil.cache = s.cache := id rfl
@[simp] theorem soil_db : s.soil.db = s.db := id rfl
@[simp] theorem soil_ver (h : j < s.ops.length) : (s.soil.op j).ver = (s.op j).ver := by rw [soil_op h]; rfl
@[simp] theorem soil_step (h : j < s.ops.length) : (s.soil.op j).step = (s.op j).step := by rw [soil_op h]; rfl
theorem soil_loop {sl : Sl} {x0 x1 x2 x3 x4 x6 : Option D} (hsl : sl = [x0, x1, x2, x3, x4, none, x6]) (h0 : x0 = some (.ref (pre.length + 2))) : NxP (fun sl' h => h = HL pre s.soil post ∧ ∃ a, sl' = [x0, x1, x2, x3, x4, a, x6]) (sForH (mOp oDGet (mVar 0) (mC (.str "ops"))) (.nm 5) (sDSet (mVar 5) (mC (.str "clean")) (mC (.bl false))) sl (HL pre s post)) := by
  subst hsl
  subst h0
  refine forH_np (α := Nat) (k := pre.length) (refO pre) (List.range s.ops.length) (fun a sl h => ∃ st : St, h = HL pre st post ∧ st = s.wOps (s.ops.mapIdx fun i o => if i ∈ a then Op.wToken false o else o) ∧ ∃ y, sl = [some (.ref (pre.length + 2)), x1, x2, x3, x4, y, x6]) (by simp) ⟨s, rfl, ?_, _, rfl⟩ ?_ ?_ ?_
  · have : (s.ops.mapIdx fun i o => if i ∈ ([] : List Nat) then Op.wToken false o else o) = s.ops := by
      apply List.ext_getElem?
      intro i
      simp
    rw [this]
    rfl
  · rintro a _ _ ⟨st, rfl, rfl, y, rfl⟩
    rw [HL_ops]
    simp [oLst, opsR, refO]
  · rintro a j b hab _ _ ⟨st, rfl, hst, y, rfl⟩
    have hj : j < s.ops.length := by
      have : j ∈ List.range s.ops.length := by rw [← hab]; simp
      simpa using this
    have hj' : j < st.ops.length := by rw [hst]; simpa using hj
    have hna : j ∉ a := by
      have hn : (a ++ j :: b).Nodup := by rw [hab]; exact List.nodup_range
      have := (List.nodup_append.mp hn).2.2
      exact fun hm => this j hm j (by simp) rfl
    refine ⟨_, HL pre (st.upd j (Op.wToken false)) post, by simp [refO, hj']; rfl, _, rfl, ?_, _, rfl⟩
    rw [hst]
    show { s with ops := _ } = { s with ops := _ }
    congr 1
    apply List.ext_getElem?
    intro i
    simp only [wOps_ops, List.getElem?_modify, List.getElem?_mapIdx, Option.map_map]
    cases hx : s.ops[i]? with
    | none => rfl
    | some o =>
      by_cases hij : j = i
      · subst hij
        simp [hna]
      · have hij' : ¬ i = j := fun e => hij e.symm
        simp [hij, hij']
  · rintro _ _ ⟨st, rfl, rfl, y, rfl⟩
    refine ⟨?_, _, rfl⟩
    congr 1
    unfold St.soil
    congr 1
    apply List.ext_getElem?
    intro i
    simp only [List.getElem?_mapIdx, List.getElem?_map]
    cases hx : s.ops[i]? with
    | none => rfl
    | some o =>
      have hi : i < s.ops.length := (List.getElem?_eq_some_iff.mp hx).1
      simp [hi]
end

end CH

namespace CH
open PySem L2
section
variable {pre post : MH} {s : St} {j n : Nat}
def St.lw1 (s : St) (w : String) (j : Nat) : St := if w = "store" then (s.wDb (s.db + 1)).upd j (Op.wVer (some (s.db + 1))) else s.soil
def St.lw2 (s : St) (w : String) (j : Nat) : St := if w = "drop" then (if s.g = "mark" then (match (s.op j).ver with | some v => (s.wCache none).wMark (imax s.mark v) | none => s.wCache none) else s.wCache none) else s
def St.lgood (s : St) (v : Int) : Bool := if s.g = "mark" then decide (s.mark ≤ v) else (!decide (s.g = "newer") || ltO s.cache v)
def St.lw3 (s : St) (w : String) (j : Nat) : St := if w = "set" then (if s.lgood ((s.op j).ver.getD 0) = true then s.put ((s.op j).ver.getD 0) else s) else s
def St.lw4 (s : St) (j : Nat) : St :=
  let s1 := s.upd j (Op.wStep ((s.op j).step + 1))
  if (s.op j).step + 1 = ((stepsP s.p).length : Int) then s1.lend j "ended" else s1.upd j (Op.wStage ((stepsP s.p).getD ((s.op j).step + 1).toNat ""))
def St.lwrite (s : St) (w : String) (j : Nat) : St := (((s.lw1 w j).lw2 w j).lw3 w j).lw4 j
theorem lw1_len {w : String} : (s.lw1 w j).ops.length = s.ops.length := by unfold St.lw1; split <;> simp
theorem lw2_ops {w : String} : (s.lw2 w j).ops = s.ops := by
  unfold St.lw2
  split
  · split
    · split <;> rfl
    · rfl
  · rfl
theorem lw3_ops {w : String} : (s.lw3 w j).ops = s.ops := by
  unfold St.lw3
  split
  · split
    · exact put_ops
    · rfl
  · rfl
theorem op_of_ops {s s' : St} (h : s'.ops = s.ops) : s'.op j = s.op j := by unfold St.op; rw [h]
theorem lw1_p {w : String} : (s.lw1 w j).p = s.p ∧ (s.lw1 w j).g = s.g := by unfold St.lw1; split <;> exact ⟨rfl, rfl⟩
theorem lw2_p {w : String} : (s.lw2 w j).p = s.p ∧ (s.lw2 w j).g = s.g := by
  unfold St.lw2
  split
  · split
    · split <;> exact ⟨rfl, rfl⟩
    · exact ⟨rfl, rfl⟩
  · exact ⟨rfl, rfl⟩
theorem lw3_p {w : String} : (s.lw3 w j).p = s.p := by
  unfold St.lw3
  split
  · split
    · exact put_p
    · rfl
  · rfl
theorem lw1_step {w : String} (h : j < s.ops.length) : ((s.lw1 w j).op j).step = (s.op j).step := by
  unfold St.lw1
  split
  · simp [h]
  · simp [h]
theorem l_write_e (h : j < s.ops.length) (hp : okP s.p = true) {w : String} (hv : w = "set" → ∃ v, ((s.lw1 w j).op j).ver = some v) {k : Nat} (hk : (s.op j).step = (k : Int)) (hk2 : k + 1 ≤ (stepsP s.p).length) : callF (n + 2) .l_write [.ref (pre.length + 2), .ref (pre.length + 3 + j), S w] (HL pre s post) = .ok .non (HL pre (s.lwrite w j) post) := by
  rw [callF_s]
  show endB (b_l_write (callF (n + 1)) [some (.ref (pre.length + 2)), some (.ref (pre.length + 3 + j)), some (S w), none, none, none, none] (HL pre s post)) = _
  have key : NxP (fun _ h => h = HL pre (s.lwrite w j) post) (b_l_write (callF (n + 1)) [some (.ref (pre.length + 2)), some (.ref (pre.length + 3 + j)), some (S w), none, none, none, none] (HL pre s post)) := by
    unfold b_l_write
    refine seq_np (fun sl h => sl = [some (.ref (pre.length + 2)), some (.ref (pre.length + 3 + j)), some (S w), some (.lst ((stepsP s.p).map S)), some (S s.g), none, none] ∧ h = HL pre s post) ⟨[some (.ref (pre.length + 2)), some (.ref (pre.length + 3 + j)), some (S w), some (.lst ((stepsP s.p).map S)), some (S s.g), none, none], HL pre s post, by simp [e_split hp], rfl, rfl⟩ ?_
    rintro _ _ ⟨rfl, rfl⟩
    refine seq_np (fun sl h => (∃ a, sl = [some (.ref (pre.length + 2)), some (.ref (pre.length + 3 + j)), some (S w), some (.lst ((stepsP s.p).map S)), some (S s.g), a, none]) ∧ h = HL pre (s.lw1 w j) post) ?_ ?_
    · by_cases hw : w = "store"
      · refine ⟨[some (.ref (pre.length + 2)), some (.ref (pre.length + 3 + j)), some (S w), some (.lst ((stepsP s.p).map S)), some (S s.g), none, none], HL pre (s.lw1 w j) post, ?_, ⟨_, rfl⟩, rfl⟩
        simp [hw, h, St.lw1]
      · obtain ⟨sl', h', e, rfl, a, rfl⟩ := soil_loop (pre := pre) (post := post) (s := s) (x0 := some (.ref (pre.length + 2))) (x1 := some (.ref (pre.length + 3 + j))) (x2 := some (S w)) (x3 := some (.lst ((stepsP s.p).map S))) (x4 := some (S s.g)) (x6 := none) rfl rfl
        refine ⟨_, _, ?_, ⟨a, rfl⟩, rfl⟩
        simp only [sIf_ap, mTest_ap, mOp_ap, mVar_ap, mC_ap, List.getElem?_cons_succ, List.getElem?_cons_zero, Option.join, Option.bind, id, optR_some, bindR_ok, oEq_ap, eqD_str, ofString_inj', hw, decide_false, blR_some, truthD_bl, bindS_ok, Bool.false_eq_true, if_false]
        rw [e]
        simp [St.lw1, hw]
    rintro _ _ ⟨⟨a, rfl⟩, rfl⟩
    have h1 : j < (s.lw1 w j).ops.length := by rw [lw1_len]; exact h
    have hg1 := (lw1_p (s := s) (j := j) (w := w)).2
    have hp1 := (lw1_p (s := s) (j := j) (w := w)).1
    have hst := lw1_step (w := w) h
    generalize hs1 : s.lw1 w j = s1 at *
    refine seq_np (fun sl h => sl = [some (.ref (pre.length + 2)), some (.ref (pre.length + 3 + j)), some (S w), some (.lst ((stepsP s.p).map S)), some (S s.g), a, none] ∧ h = HL pre (s1.lw2 w j) post) ?_ ?_
    · refine ⟨_, _, ?_, rfl, rfl⟩
      by_cases hw : w = "drop"
      · by_cases hg : s.g = "mark"
        · cases hver : (s1.op j).ver with
          | none => simp [hw, h1, hg, hg1, hver, St.lw2]
          | some v => simp [hw, h1, hg, hg1, hver, St.lw2, imax]
        · simp [hw, h1, hg, hg1, St.lw2]
      · simp [hw, St.lw2]
    rintro _ _ ⟨rfl, rfl⟩
    have h2 : j < (s1.lw2 w j).ops.length := by rw [lw2_ops]; exact h1
    have ho2 : (s1.lw2 w j).op j = s1.op j := op_of_ops lw2_ops
    have hg2 := (lw2_p (s := s1) (j := j) (w := w)).2
    have hp2 := (lw2_p (s := s1) (j := j) (w := w)).1
    generalize hs2 : s1.lw2 w j = s2 at *
    refine seq_np (fun sl h => (∃ b, sl = [some (.ref (pre.length + 2)), some (.ref (pre.length + 3 + j)), some (S w), some (.lst ((stepsP s.p).map S)), some (S s.g), a, b]) ∧ h = HL pre (s2.lw3 w j) post) ?_ ?_
    · by_cases hw : w = "set"
      · obtain ⟨v, hver⟩ := hv hw
        have hver2 : (s2.op j).ver = some v := by rw [ho2]; exact hver
        refine ⟨[some (.ref (pre.length + 2)), some (.ref (pre.length + 3 + j)), some (S w), some (.lst ((stepsP s.p).map S)), some (S s.g), a, some (.bl (s2.lgood v))], _, ?_, ⟨_, rfl⟩, rfl⟩
        have hgg : s2.g = s.g := by rw [hg2, hg1]
        by_cases hg : s.g = "mark"
        · by_cases hm : s2.mark ≤ v <;> simp [hw, h2, hg, hgg, hver2, St.lw3, St.lgood, hm]
        · by_cases hn : s.g = "newer"
          · by_cases hm : ltO s2.cache v = true <;> simp [hw, h2, hg, hn, hgg, hver2, St.lw3, St.lgood, hm]
          · simp [hw, h2, hg, hn, hgg, hver2, St.lw3, St.lgood]
      · refine ⟨[some (.ref (pre.length + 2)), some (.ref (pre.length + 3 + j)), some (S w), some (.lst ((stepsP s.p).map S)), some (S s.g), a, none], _, ?_, ⟨_, rfl⟩, rfl⟩
        simp [hw, St.lw3]
    rintro _ _ ⟨⟨b, rfl⟩, rfl⟩
    have h3 : j < (s2.lw3 w j).ops.length := by rw [lw3_ops]; exact h2
    have ho3 : (s2.lw3 w j).op j = s2.op j := op_of_ops lw3_ops
    have hp3 := lw3_p (s := s2) (j := j) (w := w)
    have hfin : s.lwrite w j = (s2.lw3 w j).lw4 j := by unfold St.lwrite; rw [hs1, hs2]
    rw [hfin]
    generalize hs3 : s2.lw3 w j = s3 at *
    have hpp : s3.p = s.p := by rw [hp3, hp2, hp1]
    have hstep : (s3.op j).step = (k : Int) := by rw [ho3, ho2, hst, hk]
    by_cases hlast : k + 1 = (stepsP s.p).length
    · have e1 : ((k : Int) + 1 = ((stepsP s.p).length : Int)) := by omega
      refine ⟨[some (.ref (pre.length + 2)), some (.ref (pre.length + 3 + j)), some (S w), some (.lst ((stepsP s.p).map S)), some (S s.g), a, b], _, ?_, rfl⟩
      simp [h3, hstep, hpp, e1, St.lw4]
    · have e2 : ¬ ((k : Int) + 1 = ((stepsP s.p).length : Int)) := by omega
      have e3 : k + 1 < (stepsP s.p).length := by omega
      have ha : atI ((stepsP s.p).map S) ((k : Int) + 1) = some (S ((stepsP s.p).getD (k + 1) "")) := by
        have := atI_nat (xs := (stepsP s.p).map S) (j := k + 1) (v := S ((stepsP s.p).getD (k + 1) "")) (by simp [e3, List.getD])
        simpa using this
      have e4 : ((k : Int) + 1).toNat = k + 1 := by omega
      refine ⟨[some (.ref (pre.length + 2)), some (.ref (pre.length + 3 + j)), some (S w), some (.lst ((stepsP s.p).map S)), some (S s.g), a, b], _, ?_, rfl⟩
      simp [h3, hstep, hpp, e2, ha, e4, St.lw4]
  obtain ⟨sl', h', e, rfl⟩ := key
  rw [e]
  rfl
end

end CH

namespace CH
open PySem L2
section
variable {pre post : MH} {s : St} {j n : Nat}
def St.lread (s : St) (w : String) (j : Nat) : St :=
  if w = "look" then (match s.cache with
    | some c => (s.upd j (Op.wVer (some c))).lend j "ended"
    | none => if s.flight.isSome = true then (s.upd j (Op.wStage "waits")).upd j (Op.wLeader s.flight) else (s.upd j (Op.wStage "fetch")).wFlight (if s.f = "shared" then some (j : Int) else none))
  else if w = "fetch" then (let s1 := (s.upd j (Op.wVer (some s.seen))).upd j (Op.wStage "fill"); if s.g = "never" then s1.lend j "ended" else s1)
  else if w = "take" then (s.upd j (Op.wVer (s.op ((s.op j).leader.getD 0).toNat).ver)).lend j "ended"
  else (if s.lets j = true then s.put ((s.op j).ver.getD 0) else s).lend j "ended"
def okLr (s : St) (w : String) (j : Nat) : Prop := if w = "look" then True else if w = "fetch" then True else if w = "take" then okTk s j else ∃ v, (s.op j).ver = some v
theorem l_read_e (h : j < s.ops.length) {w : String} (hk : okLr s w j) : callF (n + 3) .l_read [.ref (pre.length + 2), .ref (pre.length + 3 + j), S w] (HL pre s post) = .ok .non (HL pre (s.lread w j) post) := by
  rw [callF_s]
  unfold okLr at hk
  by_cases h1 : w = "look"
  · cases hc : s.cache with
    | some c => simp [bodyOf, b_l_read, h, h1, hc, St.lread]
    | none =>
      by_cases hf : s.flight.isSome = true
      · simp [bodyOf, b_l_read, h, h1, hc, hf, St.lread]
      · by_cases hs : s.f = "shared" <;> simp [bodyOf, b_l_read, h, h1, hc, hf, hs, St.lread]
  rw [if_neg h1] at hk
  by_cases h2 : w = "fetch"
  · by_cases hg : s.g = "never" <;> by_cases hr : s.ws = "replica" <;> simp [bodyOf, b_l_read, h, h2, hg, hr, St.lread, St.seen]
  rw [if_neg h2] at hk
  by_cases h3 : w = "take"
  · rw [if_pos h3] at hk
    obtain ⟨l, v, e1, e2, e3⟩ := hk
    simp [bodyOf, b_l_read, h, h3, e1, e2, e3, St.lread]
  · rw [if_neg h3] at hk
    obtain ⟨v, hv⟩ := hk
    have hl := l_lets_e (n := n) (pre := pre) (post := post) h hv
    by_cases hg : s.lets j = true <;> simp [bodyOf, b_l_read, h, h1, h2, h3, hv, hl, hg, St.lread]
/-! a new operation -/
def St.newL (s : St) (w : String) : Op := ⟨if w = "look" then "read" else "write", w, none, s.past.length, none, 0, true, none, 0, 0, false⟩
def St.lstep0 (s : St) (w : String) (j : Nat) : St := if j = s.ops.length then s.wOps (s.ops ++ [s.newL w]) else s
def St.lstep1 (s : St) (w : String) (j : Nat) : St := if w = "stop" then s.lend j "stopped" else if (s.op j).kind = "write" then s.lwrite w j else s.lread w j
def St.lstep (s : St) (w : String) (j : Nat) : St := (s.lstep0 w j).lstep1 w j
def St.doL (s : St) : Evt → St
  | (w, none) => (let s1 := if w = "evict" then (s.wCache none).wMark 0 else s.wRep (s.rep + 1); s1.wPast (s1.past ++ [(w, none)]))
  | (w, some i) => (let s1 := s.lstep w i.toNat; s1.wPast (s1.past ++ [(w, some i)]))
theorem lstep0_len {w : String} (h : j ≤ s.ops.length) : j < (s.lstep0 w j).ops.length ∧ (s.lstep0 w j).ops.length ≤ s.ops.length + 1 := by
  unfold St.lstep0
  by_cases e : j = s.ops.length
  · rw [if_pos e]; simp [e]
  · rw [if_neg e]; omega
theorem lstep0_p {w : String} : (s.lstep0 w j).p = s.p := by unfold St.lstep0; split <;> rfl
end

end CH

namespace CH
open PySem L2
section
variable {pre : MH} {s : St} {j n : Nat}
theorem eqD_tupE (e : Evt) (x : String) : eqD (toE e) (.tup [S x]) = some (decide (e = (x, none))) := by
  have h1 : pyOk 40 (.tup [S x]) = true := toE_ok (x, none)
  have h2 : pyOk 40 (toE e) = true := toE_ok e
  have h3 : sclD (toE e) (.tup [S x]) = none := by obtain ⟨w, o⟩ := e; cases o <;> rfl
  unfold eqD
  rw [h3]
  simp only [h1, h2, Bool.and_self, if_true]
  obtain ⟨w, o⟩ := e
  cases o with
  | none => simp [toE, PyData.eqv, PyData.eqvAll]
  | some i => simp [toE, PyData.eqv, PyData.eqvAll]
@[simp] theorem mListItems_ap {fo : Mo D} {sl : Sl} {h : MH} : mListItems fo sl h = bindR (fo sl h) fun x h1 => optR ((dicD h1 x).map fun p => .lst (itemsD p.1 p.2)) h1 := rfl
@[simp] theorem oAdd_lst {xs ys : List D} {h : MH} : oAdd (.lst xs) (.lst ys) h = if xs.length + ys.length ≤ lim then .ok (.lst (xs ++ ys)) h else .bad := rfl
@[simp] theorem fDict_ap {xs : List D} {h : MH} : fDict [.lst xs] h = if xs.length ≤ 1000 then dictOf h (pairsD xs) else .bad := rfl
def okLs (s : St) (w : String) (j : Nat) : Prop := if w = "stop" then True else if (s.op j).kind = "write" then ((w = "set" → ∃ v, ((s.lw1 w j).op j).ver = some v) ∧ ∃ k : Nat, (s.op j).step = (k : Int) ∧ k + 1 ≤ (stepsP s.p).length) else okLr s w j
def okL (s : St) : Evt → Prop
  | (w, none) => w = "evict" ∨ w = "copy"
  | (w, some i) => ∃ j : Nat, i = (j : Int) ∧ j ≤ s.ops.length ∧ okLs (s.lstep0 w j) w j
theorem l_do_e (hl : s.ops.length < 900) (hpl : s.past.length < 900) (hp : okP s.p = true) {e : Evt} (hk : okL s e) (hpa : ∀ w i, e = (w, some i) → (s.lstep w i.toNat).past = s.past) : callF (n + 4) .l_do [.ref (pre.length + 2), toE e] (HL pre s []) = .ok .non (HL pre (s.doL e) []) := by
  rw [callF_s]
  have hlim : s.ops.length < lim := by rw [lim_eq]; omega
  have hpl2 : s.past.length < lim := by rw [lim_eq]; omega
  show endB (b_l_do (callF (n + 3)) [some (.ref (pre.length + 2)), some (toE e), none, none, none, none] (HL pre s [])) = _
  obtain ⟨w, o⟩ := e
  cases o with
  | none =>
    have ha : ∀ s : St, (HL pre s []).set (pre.length + 1) (.lst (s.past.map toE ++ [D.tup [S w]])) = HL pre (s.wPast (s.past ++ [(w, none)])) [] := fun s => HL_addE (w, none)
    have he := eqD_tupE (w, none) "evict"
    have hc := eqD_tupE (w, none) "copy"
    rcases hk with rfl | rfl
    · have := ha ((s.wCache none).wMark 0)
      simp [toE] at he hc this
      simp [b_l_do, toE, he, hc, hpl2, St.doL]
      rw [this]
    · have := ha (s.wRep (s.rep + 1))
      simp [toE] at he hc this
      simp [b_l_do, toE, he, hc, hpl2, St.doL]
      rw [this]
  | some i =>
    obtain ⟨j, rfl, hj, hs⟩ := hk
    have he := eqD_tupE (w, some (j : Int)) "evict"
    have hc := eqD_tupE (w, some (j : Int)) "copy"
    have hpast := hpa w (j : Int) rfl
    have ha : ∀ s : St, (HL pre s []).set (pre.length + 1) (.lst (s.past.map toE ++ [D.tup [S w, .int (j : Int)]])) = HL pre (s.wPast (s.past ++ [(w, some (j : Int))])) [] := fun s => HL_addE (w, some (j : Int))
    simp [toE] at he hc
    have hlen := HL_len (pre := pre) (s := s)
    have hpost := HL_post (pre := pre) (s := s)
    have hadd := HL_addOp (pre := pre) (s := s) (s.newL w)
    have k0 : NxP (fun sl h => h = HL pre (s.lstep0 w j) [] ∧ ∃ a c, sl = [some (.ref (pre.length + 2)), some (.tup [S w, .int (j : Int)]), a, some (S w), some (.int (j : Int)), c])
        (sIf (mTest (mOp oEq (mVar 4) (mFn fLen (mCons (mOp oDGet (mVar 0) (mC (.str "ops"))) (mNil))))) (sSeq (sSet 5 (mIf (mTest (mOp oEq (mVar 3) (mC (.str "look")))) (mC (.str "read")) (mC (.str "write")))) (sSeq (sSet 2 (mDic [(mC (.str "number"), mVar 4), (mC (.str "kind"), mVar 5), (mC (.str "stage"), mVar 3), (mC (.str "version"), mC .non), (mC (.str "begun"), mFn fLen (mCons (mOp oDGet (mVar 0) (mC (.str "past"))) (mNil))), (mC (.str "over"), mC .non)])) (sExpr (mMt isLst gApp (mOp oDGet (mVar 0) (mC (.str "ops"))) (mCons (mFn fDict (mCons (mOp oAdd (mListItems (mVar 2)) (mLst (mCons (mTup (mCons (mC (.str "step")) (mCons (mC (.int 0)) (mNil)))) (mCons (mTup (mCons (mC (.str "clean")) (mCons (mC (.bl true)) (mNil)))) (mCons (mTup (mCons (mC (.str "leader")) (mCons (mC .non) (mNil)))) (mNil)))))) (mNil))) (mNil)))))) (sSkip) [some (.ref (pre.length + 2)), some (.tup [S w, .int (j : Int)]), none, some (S w), some (.int (j : Int)), none] (HL pre s [])) := by
      by_cases e : j = s.ops.length
      · subst e
        refine ⟨[some (.ref (pre.length + 2)), some (.tup [S w, .int (s.ops.length : Int)]), some (.dic (lKeys.take 6) ((lVals s.ops.length (s.newL w)).take 6)), some (S w), some (.int (s.ops.length : Int)), some (S (if w = "look" then "read" else "write"))], HL pre (s.lstep0 w s.ops.length) [], ?_, rfl, _, _, rfl⟩
        have hpost' := hpost (lO s.ops.length (s.newL w))
        unfold lO lKeys lVals St.newL at hpost'
        have hadd' := hadd
        unfold lO lKeys lVals St.newL at hadd'
        by_cases hw : w = "look"
        · simp [hw] at hpost' hadd'
          simp [hw, hlen, lKeys, lVals, St.newL, itemsD, pairsD, pairD, dictOf, hpost', hlim, hadd', St.lstep0]
        · simp [hw] at hpost' hadd'
          simp [hw, hlen, lKeys, lVals, St.newL, itemsD, pairsD, pairD, dictOf, hpost', hlim, hadd', St.lstep0]
      · have : ¬ ((j : Int) = (s.ops.length : Int)) := by omega
        refine ⟨[some (.ref (pre.length + 2)), some (.tup [S w, .int (j : Int)]), none, some (S w), some (.int (j : Int)), none], HL pre s [], ?_, ?_, _, _, rfl⟩
        · simp [this]
        · simp [St.lstep0, e]
    obtain ⟨sl0, h0, e0, rfl, a, c, rfl⟩ := k0
    obtain ⟨hj0, hj00⟩ := lstep0_len (s := s) (w := w) hj
    have hp0 : okP (s.lstep0 w j).p = true := by rw [lstep0_p]; exact hp
    have k1 : NxP (fun sl h => h = HL pre (s.lstep w j) [] ∧ ∃ a c, sl = [some (.ref (pre.length + 2)), some (.tup [S w, .int (j : Int)]), a, some (S w), some (.int (j : Int)), c])
        (sSeq (sSet 2 (mOp oIx (mOp oDGet (mVar 0) (mC (.str "ops"))) (mVar 4))) (sIf (mTest (mOp oEq (mVar 3) (mC (.str "stop")))) (sExpr (mCall 3 (callF (n + 3) .l_end) (mCons (mVar 0) (mCons (mVar 2) (mCons (mC (.str "stopped")) (mNil)))))) (sIf (mTest (mOp oEq (mOp oDGet (mVar 2) (mC (.str "kind"))) (mC (.str "write")))) (sExpr (mCall 3 (callF (n + 3) .l_write) (mCons (mVar 0) (mCons (mVar 2) (mCons (mVar 3) (mNil)))))) (sExpr (mCall 3 (callF (n + 3) .l_read) (mCons (mVar 0) (mCons (mVar 2) (mCons (mVar 3) (mNil)))))))) [some (.ref (pre.length + 2)), some (.tup [S w, .int (j : Int)]), a, some (S w), some (.int (j : Int)), c] (HL pre (s.lstep0 w j) [])) := by
      refine ⟨[some (.ref (pre.length + 2)), some (.tup [S w, .int (j : Int)]), some (.ref (pre.length + 3 + j)), some (S w), some (.int (j : Int)), c], HL pre (s.lstep w j) [], ?_, rfl, _, _, rfl⟩
      rw [seq_set (h1 := HL pre (s.lstep0 w j) []) (.ref (pre.length + 3 + j)) (by simp [hj0])]
      simp only [List.set_cons_succ, List.set_cons_zero]
      unfold okLs at hs
      unfold St.lstep
      generalize s.lstep0 w j = s1 at *
      by_cases hw : w = "stop"
      · simp [hw, hj0, St.lstep1]
      rw [if_neg hw] at hs
      by_cases hkd : (s1.op j).kind = "write"
      · rw [if_pos hkd] at hs
        obtain ⟨b1, k, b2, b3⟩ := hs
        have := l_write_e (n := n + 1) (pre := pre) (post := []) hj0 hp0 b1 b2 b3
        simp [hw, hj0, hkd, this, St.lstep1]
      · rw [if_neg hkd] at hs
        have := l_read_e (n := n) (pre := pre) (post := []) hj0 hs
        simp [hw, hj0, hkd, this, St.lstep1]
    obtain ⟨sl1, h1, e1, rfl, a1, c1, rfl⟩ := k1
    have hfin := ha (s.lstep w j)
    simp at hpast
    unfold b_l_do
    rw [seq_nx (sl1 := [some (.ref (pre.length + 2)), some (.tup [S w, .int (j : Int)]), a1, some (S w), some (.int (j : Int)), c1]) (h1 := HL pre (s.lstep w j) []) (by
      simp only [sIf_ap, mTest_ap, mOp_ap, mVar_ap, mC_ap, List.getElem?_cons_succ, List.getElem?_cons_zero, Option.join, Option.bind, id, optR_some, bindR_ok, mTup_ap, mCons_ap, mNil_ap, tupR_ap, toE, oEq_ap]
      simp only [List.length_cons, List.length_nil, le_lim, Nat.reduceAdd, Nat.reduceLeDiff, if_true, bindR_ok, he, hc, blR_some, truthD_bl, optR_some, bindS_ok, Bool.false_eq_true, if_false]
      rw [seq_nx (sl1 := [some (.ref (pre.length + 2)), some (.tup [S w, .int (j : Int)]), none, some (S w), some (.int (j : Int)), none]) (h1 := HL pre s []) (by simp)]
      rw [seq_nx e0]
      exact e1)]
    simp [hpast, hpl2, hfin, St.doL]
    rw [hpast] at hfin
    rw [hfin]
end

end CH

namespace CH
open PySem L2
section
variable {pre post : MH} {s : St} {j n : Nat}
/-- the law's events, in its order -/
def St.lev (s : St) : List Evt := [("look", some (s.ops.length : Int)), ((stepsP s.p).getD 0 "", some (s.ops.length : Int))] ++ (s.uwL.filterMap fun (j : Nat) => (s.next (s.op j)).map fun x => (x, some (j : Int))) ++ (if s.wk = "stops" then s.uwL.map fun (j : Nat) => ("stop", some (j : Int)) else []) ++ (if s.canEvict = true then [("evict", none)] else []) ++ (if s.canCopy = true then [("copy", none)] else [])
theorem l_begin_e {pre : MH} {p g f ws we wk : String} : callF (n + 1) .l_begin [St3 p g f, St3 ws we wk] pre = .ok (.ref (pre.length + 2)) (HL pre ⟨p, g, f, ws, we, wk, 0, 0, none, 0, none, [], [], 0, 0, none⟩ []) := by
  rw [callF_s]
  simp [bodyOf, b_l_begin, HL, encL, opsR, lsO, hO, hKeys, hVals]
theorem HL_take {post : MH} : (HL pre s post).take (HL pre s []).length = HL pre s [] := by
  have : HL pre s post = HL pre s [] ++ post := by simp [HL]
  rw [this, List.take_left']
  rfl
theorem lev_lens : (s.uwL.filterMap fun (j : Nat) => (s.next (s.op j)).map fun x => ((x, some (j : Int)) : Evt)).length ≤ s.ops.length := Nat.le_trans (List.length_filterMap_le _ _) (uwL_len (s := s))
/-- what l_events' first comprehension gives -/
theorem l_ev_next (hl : s.ops.length < 900) (hw : ∀ j, j < s.ops.length → ledOk s (s.op j)) {a b c : Option D} : lcD (.nm 4) (mTest (mOp oNotN (mCall 2 (callF (n + 1) .l_next) (mCons (mVar 0) (mCons (mVar 4) (mNil)))) (mC .non))) (mTup (mCons (mCall 2 (callF (n + 1) .l_next) (mCons (mVar 0) (mCons (mVar 4) (mNil)))) (mCons (mOp oDGet (mVar 4) (mC (.str "number"))) (mNil)))) [some (.ref (pre.length + 2)), a, b, c, none] [] (s.uwL.map (refO pre)) (HL pre s post) = .ok ((s.uwL.filterMap fun (j : Nat) => (s.next (s.op j)).map fun x => ((x, some (j : Int)) : Evt)).map toE) (HL pre s post) := by
  have e := lcD_map0 (to := refO pre) (i := 4) (c := mTest (mOp oNotN (mCall 2 (callF (n + 1) .l_next) (mCons (mVar 0) (mCons (mVar 4) (mNil)))) (mC .non))) (f := mTup (mCons (mCall 2 (callF (n + 1) .l_next) (mCons (mVar 0) (mCons (mVar 4) (mNil)))) (mCons (mOp oDGet (mVar 4) (mC (.str "number"))) (mNil)))) (sl := [some (.ref (pre.length + 2)), a, b, c, none]) (h := HL pre s post) (p := fun j => (s.next (s.op j)).isSome) (g := fun (j : Nat) => toE ((s.next (s.op j)).getD "", some (j : Int))) s.uwL (by
    intro j hj
    have hj2 := uwL_lt hj
    have hwj := hw j hj2
    cases hn : s.next (s.op j) <;> simp [refO, hj2, hwj, hn, os, toE]) (by have := uwL_len (s := s); rw [lim_eq]; omega)
  rw [e]
  congr 1
  generalize s.uwL = l
  induction l with
  | nil => rfl
  | cons x l ih =>
    cases hn : s.next (s.op x) <;> simp [hn, ih]
theorem l_ev_stop (hl : s.ops.length < 900) {a b c : Option D} : lcD (.nm 4) mYes (mTup (mCons (mC (.str "stop")) (mCons (mOp oDGet (mVar 4) (mC (.str "number"))) (mNil)))) [some (.ref (pre.length + 2)), a, b, c, none] [] (s.uwL.map (refO pre)) (HL pre s post) = .ok ((s.uwL.map fun (j : Nat) => (("stop", some (j : Int)) : Evt)).map toE) (HL pre s post) := by
  have e := lcD_map0 (to := refO pre) (i := 4) (c := mYes) (f := mTup (mCons (mC (.str "stop")) (mCons (mOp oDGet (mVar 4) (mC (.str "number"))) (mNil)))) (sl := [some (.ref (pre.length + 2)), a, b, c, none]) (h := HL pre s post) (p := fun j => true) (g := fun (j : Nat) => toE ("stop", some (j : Int))) s.uwL (by
    intro j hj
    have hj2 := uwL_lt hj
    simp [refO, hj2, toE]) (by have := uwL_len (s := s); rw [lim_eq]; omega)
  rw [e]
  simp
end

end CH

namespace CH
open PySem L2
section
variable {pre post : MH} {s : St} {j n : Nat}
theorem HLp_eq (ys : MH) (o : O) : HL pre s (ys ++ [o]) = HL pre s ys ++ [o] := by simp [HL]
theorem HLp_len (ys : MH) : (HL pre s ys).length = pre.length + 3 + s.ops.length + ys.length := by
  have : HL pre s ys = HL pre s [] ++ ys := by simp [HL]
  rw [this, List.length_append, HL_len]
theorem HLp_get (ys : MH) (o : O) : (HL pre s (ys ++ [o]))[pre.length + 3 + s.ops.length + ys.length]? = some o := by
  rw [HLp_eq, ← HLp_len]; simp
theorem HLp_oLst (ys : MH) (xs : List D) : oLst (HL pre s (ys ++ [.lst xs]))[pre.length + 3 + s.ops.length + ys.length]? = some xs := by
  rw [HLp_get]; rfl
theorem HLp_set (ys : MH) (o x : O) : (HL pre s (ys ++ [o])).set (pre.length + 3 + s.ops.length + ys.length) x = HL pre s (ys ++ [x]) := by
  rw [HLp_eq, HLp_eq, ← HLp_len]; simp
/-- the end of l_events: evict, copy, sorted -/
theorem l_ev_tail (es : List Evt) (hes : es.length + 2 ≤ 9000) (ys : MH) (a b c : Option D) : RtP2 (.lst (sortD ((es ++ (if s.canEvict = true then [("evict", none)] else []) ++ (if s.canCopy = true then [("copy", none)] else [])).map toE))) (fun h => ∃ ps, h = HL pre s ps) (sSeq (sIf (mAndT (mTest (mOp oEq (mOp oIx (mOp oDGet (mVar 0) (mC (.str "world"))) (mC (.int 1))) (mC (.str "evicts")))) (mOrT (mTest (mOp oNotN (mOp oDGet (mVar 0) (mC (.str "cache"))) (mC .non))) (mTest (mOp oGt (mOp oDGet (mVar 0) (mC (.str "mark"))) (mC (.int 0)))))) (sExpr (mMt isLst gApp (mVar 1) (mCons (mTup (mCons (mC (.str "evict")) (mNil))) (mNil)))) (sSkip)) (sSeq (sIf (mAndT (mTest (mOp oEq (mOp oIx (mOp oDGet (mVar 0) (mC (.str "world"))) (mC (.int 0))) (mC (.str "replica")))) (mTest (mOp oLt (mOp oDGet (mVar 0) (mC (.str "rep"))) (mOp oDGet (mVar 0) (mC (.str "db")))))) (sExpr (mMt isLst gApp (mVar 1) (mCons (mTup (mCons (mC (.str "copy")) (mNil))) (mNil)))) (sSkip)) (sRet (mFn fSorted (mCons (mVar 1) (mNil))))) [some (.ref (pre.length + 2)), some (.ref (pre.length + 3 + s.ops.length + ys.length)), a, b, c] (HL pre s (ys ++ [.lst (es.map toE)]))) := by
  have hl3 : es.length < lim := by rw [lim_eq]; omega
  generalize hes1 : es ++ (if s.canEvict = true then [(("evict", none) : Evt)] else []) = es1
  have hl1 : es1.length ≤ es.length + 1 := by
    rw [← hes1, List.length_append]
    have e1 : (if s.canEvict = true then [(("evict", none) : Evt)] else []).length ≤ 1 := by split <;> simp
    omega
  have hl6 : es1.length < lim := by rw [lim_eq]; omega
  rw [seq_nx (sl1 := [some (.ref (pre.length + 2)), some (.ref (pre.length + 3 + s.ops.length + ys.length)), a, b, c]) (h1 := HL pre s (ys ++ [.lst (es1.map toE)])) (by
    rw [← hes1]
    by_cases c1 : s.we = "evicts"
    · cases c2 : s.cache with
      | some v => simp [c1, c2, oi, St.canEvict, HLp_get, HLp_oLst, HLp_set, hl3, toE]
      | none => by_cases c3 : 0 < s.mark <;> simp [c1, c2, c3, oi, St.canEvict, HLp_get, HLp_oLst, HLp_set, hl3, toE]
    · simp [c1, St.canEvict])]
  generalize hes2 : es1 ++ (if s.canCopy = true then [(("copy", none) : Evt)] else []) = es2
  have hl2 : es2.length ≤ es1.length + 1 := by
    rw [← hes2, List.length_append]
    have e1 : (if s.canCopy = true then [(("copy", none) : Evt)] else []).length ≤ 1 := by split <;> simp
    omega
  rw [seq_nx (sl1 := [some (.ref (pre.length + 2)), some (.ref (pre.length + 3 + s.ops.length + ys.length)), a, b, c]) (h1 := HL pre s (ys ++ [.lst (es2.map toE)])) (by
    rw [← hes2]
    by_cases c1 : s.ws = "replica"
    · by_cases c3 : s.rep < s.db <;> simp [c1, c3, St.canCopy, HLp_get, HLp_oLst, HLp_set, hl6, toE]
    · simp [c1, St.canCopy])]
  have ho := okSort_evs es2 (by omega)
  refine ⟨HL pre s (ys ++ [.lst (es2.map toE)]), ?_, _, rfl⟩
  simp [fSorted, lstD, HLp_get, HLp_oLst, sortR, ho]
theorem oAddL_ref {h : MH} {k : Nat} {xs ys : List D} (e : oLst h[k]? = some xs) : oAddL (.ref k) (.lst ys) h = newLst (xs ++ ys) h := by
  show addLR h (oLst h[k]?) (some ys) = _
  rw [e]; rfl
theorem l_events_e (hl : s.ops.length < 900) (hp : okP s.p = true) (hw : ∀ j, j < s.ops.length → ledOk s (s.op j)) : callF (n + 2) .l_events [.ref (pre.length + 2)] (HL pre s []) = .ok (.lst (sortD (s.lev.map toE))) (HL pre s []) := by
  rw [callF_s]
  have hl1 : s.ops.length < 1000 := by omega
  have hul := uwL_len (s := s)
  have hll := lev_lens (s := s)
  have ha : atI ((stepsP s.p).map S) 0 = some (S ((stepsP s.p).getD 0 "")) := by
    have := atI_nat (xs := (stepsP s.p).map S) (j := 0) (v := S ((stepsP s.p).getD 0 "")) (by
      have := stepsP_pos (s := s)
      simp [List.getD, this])
    simpa using this
  have key : RtP2 (.lst (sortD (s.lev.map toE))) (fun h => ∃ ps, h = HL pre s ps) (b_l_events (callF (n + 1)) [some (.ref (pre.length + 2)), none, none, none, none] (HL pre s [])) := by
    unfold b_l_events
    rw [seq_nx (sl1 := [some (.ref (pre.length + 2)), none, some (.int (s.ops.length : Int)), some (.lst (s.uwL.map (refO pre))), none]) (h1 := HL pre s []) (by simp [hl1])]
    rw [seq_nx (sl1 := [some (.ref (pre.length + 2)), some (.ref (pre.length + 3 + s.ops.length)), some (.int (s.ops.length : Int)), some (.lst (s.uwL.map (refO pre))), none]) (h1 := HL pre s [.lst ([("look", some (s.ops.length : Int)), ((stepsP s.p).getD 0 "", some (s.ops.length : Int))].map toE)]) (by
      simp [e_split hp, ha, HL_len, HL_post, toE])]
    generalize hes0 : ([("look", some (s.ops.length : Int)), ((stepsP s.p).getD 0 "", some (s.ops.length : Int))] : List Evt) = es0
    have hz0 : es0.length = 2 := by rw [← hes0]; rfl
    have g0 := HLp_oLst (pre := pre) (s := s) [] (es0.map toE)
    simp only [List.nil_append, List.length_nil, Nat.add_zero] at g0
    generalize hes1 : es0 ++ (s.uwL.filterMap fun (j : Nat) => (s.next (s.op j)).map fun x => ((x, some (j : Int)) : Evt)) = es1
    have hz1 : es1.length ≤ s.ops.length + 2 := by rw [← hes1, List.length_append]; omega
    rw [seq_nx (sl1 := [some (.ref (pre.length + 2)), some (.ref (pre.length + 3 + s.ops.length + 1)), some (.int (s.ops.length : Int)), some (.lst (s.uwL.map (refO pre))), none]) (h1 := HL pre s [.lst (es0.map toE), .lst (es1.map toE)]) (by
      have e := l_ev_next (n := n) (pre := pre) (s := s) (post := [.lst (es0.map toE)]) (a := some (.ref (pre.length + 3 + s.ops.length))) (b := some (.int (s.ops.length : Int))) (c := some (.lst (s.uwL.map (refO pre)))) hl hw
      have q := HLp_len (pre := pre) (s := s) [.lst (es0.map toE)]
      have hz : es0.length + (s.uwL.filterMap fun (j : Nat) => (s.next (s.op j)).map fun x => ((x, some (j : Int)) : Evt)).length ≤ lim := by rw [lim_eq]; omega
      have q2 := HLp_eq (pre := pre) (s := s) [.lst (es0.map toE)] (.lst (es1.map toE))
      simp only [List.cons_append, List.nil_append] at q2
      rw [q2, ← hes1]
      simp [wipeD, e, oAddL_ref g0, hz, q])]
    have g1 := HLp_oLst (pre := pre) (s := s) [.lst (es0.map toE)] (es1.map toE)
    simp only [List.cons_append, List.nil_append, List.length_cons, List.length_nil] at g1
    generalize hes2 : es1 ++ (if s.wk = "stops" then s.uwL.map fun (j : Nat) => (("stop", some (j : Int)) : Evt) else []) = es2
    have hz2 : es2.length ≤ 2 * s.ops.length + 2 := by
      rw [← hes2, List.length_append]
      by_cases c : s.wk = "stops"
      · rw [if_pos c, List.length_map]; omega
      · rw [if_neg c, List.length_nil]; omega
    have hlev : s.lev = es2 ++ (if s.canEvict = true then [("evict", none)] else []) ++ (if s.canCopy = true then [("copy", none)] else []) := by rw [← hes2, ← hes1, ← hes0]; rfl
    rw [hlev]
    by_cases c : s.wk = "stops"
    · rw [seq_nx (sl1 := [some (.ref (pre.length + 2)), some (.ref (pre.length + 3 + s.ops.length + 2)), some (.int (s.ops.length : Int)), some (.lst (s.uwL.map (refO pre))), none]) (h1 := HL pre s ([.lst (es0.map toE), .lst (es1.map toE)] ++ [.lst (es2.map toE)])) (by
        have e := l_ev_stop (pre := pre) (s := s) (post := [.lst (es0.map toE), .lst (es1.map toE)]) (a := some (.ref (pre.length + 3 + s.ops.length + 1))) (b := some (.int (s.ops.length : Int))) (c := some (.lst (s.uwL.map (refO pre)))) hl
        have q := HLp_len (pre := pre) (s := s) [.lst (es0.map toE), .lst (es1.map toE)]
        have hz : es1.length + (s.uwL.map fun (j : Nat) => (("stop", some (j : Int)) : Evt)).length ≤ lim := by rw [lim_eq, List.length_map]; omega
        simp only [List.length_map] at hz
        rw [HLp_eq, ← hes2, if_pos c]
        simp [c, wipeD, e, oAddL_ref g1, hz, q])]
      exact l_ev_tail es2 (by omega) [.lst (es0.map toE), .lst (es1.map toE)] _ _ _
    · have e2 : es2 = es1 := by rw [← hes2, if_neg c, List.append_nil]
      rw [seq_nx (sl1 := [some (.ref (pre.length + 2)), some (.ref (pre.length + 3 + s.ops.length + 1)), some (.int (s.ops.length : Int)), some (.lst (s.uwL.map (refO pre))), none]) (h1 := HL pre s ([.lst (es0.map toE)] ++ [.lst (es2.map toE)])) (by
        rw [e2]
        simp [c])]
      exact l_ev_tail es2 (by omega) [.lst (es0.map toE)] _ _ _
  obtain ⟨h', e, x, rfl⟩ := key
  show gcK (HL pre s []) (endB (b_l_events (callF (n + 1)) [some (.ref (pre.length + 2)), none, none, none, none] (HL pre s []))) = _
  rw [e]
  exact gcK_pos (pure_sorted _) HL_take
end

end CH

namespace CH
open PySem L2
section
/-! what the program's run and the law's own cache have alike -/
variable {s t : St} {j : Nat} {w : String}
def core (o : Op) : Op := { o with ofin := 0, oret := 0, quiet := false, token := uw o && o.token, ended := if o.stage = "ended" then o.ended else none }
def St.co (s : St) : St := { s with ops := s.ops.map core, fin := 0, ret := 0, last := none }
theorem core_iff {o o' : Op} : core o = core o' ↔ o.kind = o'.kind ∧ o.stage = o'.stage ∧ o.ver = o'.ver ∧ o.begun = o'.begun ∧ (if o.stage = "ended" then o.ended else none) = (if o'.stage = "ended" then o'.ended else none) ∧ o.step = o'.step ∧ (uw o && o.token) = (uw o' && o'.token) ∧ o.leader = o'.leader := by
  unfold core
  simp only [Op.mk.injEq, and_true]
structure Flds (s t : St) : Prop where
  p : s.p = t.p
  g : s.g = t.g
  f : s.f = t.f
  ws : s.ws = t.ws
  we : s.we = t.we
  wk : s.wk = t.wk
  db : s.db = t.db
  rep : s.rep = t.rep
  cache : s.cache = t.cache
  mark : s.mark = t.mark
  flight : s.flight = t.flight
  past : s.past = t.past
  ops : s.ops.map core = t.ops.map core
theorem co_flds (h : s.co = t.co) : Flds s t := ⟨by have x := congrArg St.p h; exact x, by have x := congrArg St.g h; exact x, by have x := congrArg St.f h; exact x, by have x := congrArg St.ws h; exact x, by have x := congrArg St.we h; exact x, by have x := congrArg St.wk h; exact x, by have x := congrArg St.db h; exact x, by have x := congrArg St.rep h; exact x, by have x := congrArg St.cache h; exact x, by have x := congrArg St.mark h; exact x, by have x := congrArg St.flight h; exact x, by have x := congrArg St.past h; exact x, by have x := congrArg St.ops h; exact x⟩
theorem co_of (h : Flds s t) : s.co = t.co := by
  cases s; cases t
  obtain ⟨h1, h2, h3, h4, h5, h6, h7, h8, h9, h10, h11, h12, h13⟩ := h
  simp only at h1 h2 h3 h4 h5 h6 h7 h8 h9 h10 h11 h12 h13
  subst h1 h2 h3 h4 h5 h6 h7 h8 h9 h10 h11 h12
  simp only [St.co, h13]
theorem co_len (h : s.co = t.co) : s.ops.length = t.ops.length := by
  have := congrArg List.length (co_flds h).ops
  simpa using this
theorem co_op (h : s.co = t.co) (hj : j < s.ops.length) : core (s.op j) = core (t.op j) := by
  have h2 : j < t.ops.length := by rw [← co_len h]; exact hj
  have := congrArg (fun l => l[j]?) (co_flds h).ops
  simpa [op_some hj, op_some h2] using this
structure OpE (o o' : Op) : Prop where
  kind : o.kind = o'.kind
  stage : o.stage = o'.stage
  ver : o.ver = o'.ver
  begun : o.begun = o'.begun
  ended : (if o.stage = "ended" then o.ended else none) = (if o'.stage = "ended" then o'.ended else none)
  step : o.step = o'.step
  token : (uw o && o.token) = (uw o' && o'.token)
  leader : o.leader = o'.leader
theorem opE_iff {o o' : Op} : core o = core o' ↔ OpE o o' := by
  rw [core_iff]
  exact ⟨fun ⟨a, b, c, d, e, f, g, h⟩ => ⟨a, b, c, d, e, f, g, h⟩, fun ⟨a, b, c, d, e, f, g, h⟩ => ⟨a, b, c, d, e, f, g, h⟩⟩
theorem co_opE (h : s.co = t.co) (hj : j < s.ops.length) : OpE (s.op j) (t.op j) := opE_iff.mp (co_op h hj)
theorem op_none (h : ¬ j < s.ops.length) : s.op j = default := by
  unfold St.op
  rw [List.getD, List.getElem?_eq_none (by omega)]
  rfl
theorem co_upd {f g : Op → Op} (h : s.co = t.co) (hf : j < s.ops.length → core (f (s.op j)) = core (g (t.op j))) : (s.upd j f).co = (t.upd j g).co := by
  have e := co_flds h
  refine co_of ⟨e.p, e.g, e.f, e.ws, e.we, e.wk, e.db, e.rep, e.cache, e.mark, e.flight, e.past, ?_⟩
  show (s.ops.modify j f).map core = (t.ops.modify j g).map core
  apply List.ext_getElem?
  intro i
  simp only [List.getElem?_map, List.getElem?_modify, Option.map_map]
  have hl := co_len h
  by_cases hi : i < s.ops.length
  · have hi2 : i < t.ops.length := by rw [← hl]; exact hi
    rw [op_some hi, op_some hi2]
    by_cases hij : j = i
    · subst hij
      simp [hf hi]
    · simp [hij, co_op h hi]
  · rw [List.getElem?_eq_none (by omega), List.getElem?_eq_none (by omega)]
    rfl
theorem co_wDb (h : s.co = t.co) {v : Int} : (s.wDb v).co = (t.wDb v).co := by have x := congrArg (fun x : St => x.wDb v) h; exact x
theorem co_wRep (h : s.co = t.co) {v : Int} : (s.wRep v).co = (t.wRep v).co := by have x := congrArg (fun x : St => x.wRep v) h; exact x
theorem co_wCache (h : s.co = t.co) {v : Option Int} : (s.wCache v).co = (t.wCache v).co := by have x := congrArg (fun x : St => x.wCache v) h; exact x
theorem co_wMark (h : s.co = t.co) {v : Int} : (s.wMark v).co = (t.wMark v).co := by have x := congrArg (fun x : St => x.wMark v) h; exact x
theorem co_wFlight (h : s.co = t.co) {v : Option Int} : (s.wFlight v).co = (t.wFlight v).co := by have x := congrArg (fun x : St => x.wFlight v) h; exact x
theorem co_wPast (h : s.co = t.co) {v : List Evt} : (s.wPast v).co = (t.wPast v).co := by have x := congrArg (fun x : St => x.wPast v) h; exact x
theorem co_put (h : s.co = t.co) {v : Int} : (s.put v).co = (t.put v).co := by
  have e := co_flds h
  unfold St.put
  rw [e.g, e.mark]
  by_cases hg : t.g = "mark"
  · rw [if_pos hg, if_pos hg]; exact co_wMark (co_wCache h)
  · rw [if_neg hg, if_neg hg]; exact co_wCache h
theorem core_tok {o : Op} : core (Op.wToken false o) = Op.wToken false (core o) := by
  unfold core
  rw [show (Op.wToken false o).token = false from rfl, Bool.and_false]
  rfl
theorem core_spo {o : Op} : core (spo o) = Op.wToken false (core o) := by
  unfold spo
  by_cases hu : uw o = true
  · rw [if_pos hu, core_tok]
  · simp [hu, core, Op.wToken]
theorem co_soil (h : s.co = t.co) : s.spoil.co = t.soil.co := by
  have e := co_flds h
  refine co_of ⟨e.p, e.g, e.f, e.ws, e.we, e.wk, e.db, e.rep, e.cache, e.mark, e.flight, e.past, ?_⟩
  show (s.ops.map spo).map core = (t.ops.map (Op.wToken false)).map core
  have h1 : (s.ops.map spo).map core = (s.ops.map core).map (Op.wToken false) := by
    rw [List.map_map, List.map_map]
    exact List.map_congr_left fun o _ => core_spo
  have h2 : (t.ops.map (Op.wToken false)).map core = (t.ops.map core).map (Op.wToken false) := by
    rw [List.map_map, List.map_map]
    exact List.map_congr_left fun o _ => core_tok
  rw [h1, h2, e.ops]
theorem co_end2 : (s.end2 j).co = s.co := by unfold St.end2; split <;> rfl
theorem core_end {o o' : Op} {e : Option Int} {st : String} (h : core o = core o') (hs : st = "ended" ∨ st = "stopped") : core (Op.wEnded e (Op.wStage st o)) = core (Op.wEnded e (Op.wStage st o')) := by
  rw [core_iff] at h ⊢
  obtain ⟨h1, h2, h3, h4, h5, h6, h7, h8⟩ := h
  rcases hs with rfl | rfl <;> simp [uw, h1, h3, h4, h6, h8]
theorem co_endO (h : s.co = t.co) (hj : j < s.ops.length) : (s.endO j).co = (t.lend j "ended").co := by
  have e := co_flds h
  have h1 : ((s.upd j (Op.wStage "ended")).upd j (Op.wEnded (some (s.past.length : Int)))).co = ((t.upd j (Op.wStage "ended")).upd j (Op.wEnded (some (t.past.length : Int)))).co := by
    have hu : ∀ (u : St) (a : Option Int), (u.upd j (Op.wStage "ended")).upd j (Op.wEnded a) = u.upd j fun o => Op.wEnded a (Op.wStage "ended" o) := by
      intro u a
      show { u with ops := (u.ops.modify j _).modify j _ } = { u with ops := _ }
      congr 1
      rw [List.modify_modify_eq]
      rfl
    rw [hu, hu, e.past]
    exact co_upd h fun hj => core_end (co_op h hj) (.inl rfl)
  unfold St.endO St.lend St.end3
  have h2 : ((s.end1 j).end2 j).flight = s.flight := by unfold St.end2; split <;> rfl
  have h3 : ((s.end1 j).end2 j).co = ((t.upd j (Op.wStage "ended")).upd j (Op.wEnded (some (t.past.length : Int)))).co := by
    rw [co_end2]; exact h1
  rw [h2, e.flight]
  by_cases hf : t.flight = some (j : Int)
  · rw [if_pos hf]
    simp only [hf, and_self, if_true]
    exact co_wFlight h3
  · rw [if_neg hf]
    simp only [hf, and_false, if_false]
    exact h3
theorem co_stop (h : s.co = t.co) (hj : j < s.ops.length) : (s.upd j (Op.wStage "stopped")).co = (t.lend j "stopped").co := by
  have hu : ∀ (u : St) (a : Option Int), (u.upd j (Op.wStage "stopped")).upd j (Op.wEnded a) = u.upd j fun o => Op.wEnded a (Op.wStage "stopped" o) := by
    intro u a
    show { u with ops := (u.ops.modify j _).modify j _ } = { u with ops := _ }
    congr 1
    rw [List.modify_modify_eq]
    rfl
  unfold St.lend
  have : ¬ ("stopped" = "ended" ∧ t.flight = some (j : Int)) := by rintro ⟨a, _⟩; exact absurd a (by decide)
  simp only [this, if_false]
  rw [hu]
  refine co_upd h fun hj => ?_
  have h := co_op h hj
  rw [core_iff] at h ⊢
  obtain ⟨h1, h2, h3, h4, h5, h6, h7, h8⟩ := h
  simp [uw, h1, h3, h4, h6, h8]
theorem co_ver (h : s.co = t.co) {v v' : Option Int} (hv : v = v') : (s.upd j (Op.wVer v)).co = (t.upd j (Op.wVer v')).co := by
  subst hv
  refine co_upd h fun hj => ?_
  have h := co_op h hj
  rw [core_iff] at h ⊢
  obtain ⟨h1, h2, h3, h4, h5, h6, h7, h8⟩ := h
  exact ⟨h1, h2, rfl, h4, h5, h6, h7, h8⟩
theorem co_stepU (h : s.co = t.co) {v v' : Int} (hv : v = v') : (s.upd j (Op.wStep v)).co = (t.upd j (Op.wStep v')).co := by
  subst hv
  refine co_upd h fun hj => ?_
  have h := co_op h hj
  rw [core_iff] at h ⊢
  obtain ⟨h1, h2, h3, h4, h5, h6, h7, h8⟩ := h
  exact ⟨h1, h2, h3, h4, h5, rfl, h7, h8⟩
theorem co_leader (h : s.co = t.co) {v v' : Option Int} (hv : v = v') : (s.upd j (Op.wLeader v)).co = (t.upd j (Op.wLeader v')).co := by
  subst hv
  refine co_upd h fun hj => ?_
  have h := co_op h hj
  rw [core_iff] at h ⊢
  obtain ⟨h1, h2, h3, h4, h5, h6, h7, h8⟩ := h
  exact ⟨h1, h2, h3, h4, h5, h6, h7, rfl⟩
theorem co_stage (h : s.co = t.co) {x x' : String} (hx : x = x') (h1 : x ≠ "ended") (hu : j < s.ops.length → uw (s.op j) = true) : (s.upd j (Op.wStage x)).co = (t.upd j (Op.wStage x')).co := by
  subst hx
  refine co_upd h fun hj => ?_
  have hu := hu hj
  have h := co_op h hj
  rw [core_iff] at h ⊢
  obtain ⟨e1, e2, e3, e4, e5, e6, e7, e8⟩ := h
  have hu2 : uw (t.op j) = true := by rw [← hu]; unfold uw; rw [e2]
  rw [hu, hu2] at e7
  simp only [Bool.true_and] at e7
  simp [h1, uw, e1, e3, e4, e6, e7, e8]
end

end CH

namespace CH
open PySem L2
section
variable {s t : St} {j : Nat} {w : String}
theorem stepsP_word (p : String) (k : Nat) : (stepsP p).getD k "" ≠ "ended" ∧ (stepsP p).getD k "" ≠ "stopped" ∧ (stepsP p).getD k "" ≠ "look" ∧ (stepsP p).getD k "" ≠ "waits" ∧ (stepsP p).getD k "" ≠ "fill" ∧ (stepsP p).getD k "" ≠ "stop" ∧ (stepsP p).getD k "" ≠ "evict" ∧ (stepsP p).getD k "" ≠ "copy" ∧ (stepsP p).getD k "" ≠ "fetch" ∧ (stepsP p).getD k "" ≠ "take" := by
  have key : ∀ l : List String, (∀ x ∈ l, x ≠ "ended" ∧ x ≠ "stopped" ∧ x ≠ "look" ∧ x ≠ "waits" ∧ x ≠ "fill" ∧ x ≠ "stop" ∧ x ≠ "evict" ∧ x ≠ "copy" ∧ x ≠ "fetch" ∧ x ≠ "take") → (l.getD k "" ≠ "ended" ∧ l.getD k "" ≠ "stopped" ∧ l.getD k "" ≠ "look" ∧ l.getD k "" ≠ "waits" ∧ l.getD k "" ≠ "fill" ∧ l.getD k "" ≠ "stop" ∧ l.getD k "" ≠ "evict" ∧ l.getD k "" ≠ "copy" ∧ l.getD k "" ≠ "fetch" ∧ l.getD k "" ≠ "take") := by
    intro l hl
    rcases Nat.lt_or_ge k l.length with e | e
    · rw [List.getD, List.getElem?_eq_getElem e]
      exact hl _ (List.getElem_mem e)
    · rw [List.getD, List.getElem?_eq_none e]
      simp
  refine key _ ?_
  unfold stepsP
  split
  · simp
  split
  · simp
  split
  · simp
  split <;> simp
theorem stepsP_first (p : String) : (stepsP p).getD 0 "" = "store" ∨ (stepsP p).getD 0 "" = "drop" := by
  unfold stepsP
  split
  · simp
  split
  · simp
  split
  · simp
  split <;> simp
theorem co_wr1 (h : s.co = t.co) (hj : j < s.ops.length) (hw : w = "store" ∨ w = "drop" ∨ w = "set") : (s.wr1 w j).co = (((t.lw1 w j).lw2 w j).lw3 w j).co := by
  have e := co_flds h
  have hj2 : j < t.ops.length := by rw [← co_len h]; exact hj
  have ev : (s.op j).ver = (t.op j).ver := (co_opE h hj).ver
  rcases hw with rfl | rfl | rfl
  · simp only [St.wr1, St.lw1, St.lw2, St.lw3, if_true, String.reduceEq, if_false, e.db]
    exact co_ver (co_wDb h) rfl
  · have h1 : ((s.wCache none).spoil).co = (t.soil.wCache none).co := co_soil (co_wCache h)
    have e2 : (t.soil.op j).ver = (t.op j).ver := soil_ver hj2
    simp only [St.wr1, St.lw1, St.lw2, St.lw3, if_true, String.reduceEq, if_false]
    have hg1 : ((s.wCache none).spoil).g = t.g := e.g
    have hg2 : t.soil.g = t.g := rfl
    have hm1 : ((s.wCache none).spoil).mark = t.mark := e.mark
    have hm2 : t.soil.mark = t.mark := rfl
    rw [hg1, hg2, hm1, hm2, e2, ev]
    by_cases hg : t.g = "mark"
    · rw [if_pos hg, if_pos hg]
      cases (t.op j).ver with
      | none => exact h1
      | some v => exact co_wMark h1
    · rw [if_neg hg, if_neg hg]
      exact h1
  · have h1 : s.spoil.co = t.soil.co := co_soil h
    have e2 : (t.soil.op j).ver = (t.op j).ver := soil_ver hj2
    simp only [St.wr1, St.lw1, St.lw2, St.lw3, if_true, String.reduceEq, if_false]
    have hg1 : s.spoil.g = t.g := e.g
    rw [e2, ev, hg1]
    have hc : (!(decide (t.g = "mark") || decide (t.g = "newer")) || s.spoil.newer ((t.op j).ver.getD 0)) = t.soil.lgood ((t.op j).ver.getD 0) := by
      unfold St.newer St.lgood
      have a1 : s.spoil.mark = t.mark := e.mark
      have a2 : s.spoil.cache = t.cache := e.cache
      rw [hg1, a1, a2]
      simp only [soil_g, soil_mark, soil_cache]
      by_cases g1 : t.g = "mark"
      · simp [g1]
      · by_cases g2 : t.g = "newer" <;> simp [g1, g2]
    rw [hc]
    split
    · exact co_put h1
    · exact h1
theorem wr1_stage (h : j < s.ops.length) : ((s.wr1 w j).op j).stage = (s.op j).stage := by
  have sp : ∀ u : St, j < u.ops.length → (u.spoil.op j).stage = (u.op j).stage := fun u hu => by rw [spoil_op hu]; exact spo_fields.2.1
  unfold St.wr1
  split
  · simp [h]
  · split
    · have := sp (s.wCache none) h
      simp only
      split
      · split
        · simpa using this
        · simpa using this
      · simpa using this
    · have := sp s h
      simp only
      split <;> simpa using this
theorem co_wr2 (h : s.co = t.co) (hj : j < s.ops.length) (hu : uw (s.op j) = true) : (s.wr2 j).co = (t.lw4 j).co := by
  have e := co_flds h
  have o := co_opE h hj
  have h1 : (s.upd j (Op.wStep ((s.op j).step + 1))).co = (t.upd j (Op.wStep ((t.op j).step + 1))).co := co_stepU h (by rw [o.step])
  unfold St.wr2 St.lw4
  simp only
  rw [o.step, e.p] at *
  split
  · exact co_endO h1 (by simpa using hj)
  · refine co_stage h1 rfl (stepsP_word _ _).1 fun _ => ?_
    rw [op_upd hj]
    exact hu
theorem co_write (h : s.co = t.co) (hj : j < s.ops.length) (hw : w = "store" ∨ w = "drop" ∨ w = "set") (hu : uw (s.op j) = true) : (s.write w j).co = (t.lwrite w j).co := by
  unfold St.write St.lwrite
  refine co_wr2 (co_wr1 h hj hw) (by rw [wr1_len]; exact hj) ?_
  have := wr1_stage (w := w) hj
  unfold uw at hu ⊢
  rw [this]
  exact hu
/-- what a read's step leans on -/
structure RdOk (s : St) (w : String) (j : Nat) : Prop where
  wd : w = "look" ∨ w = "fetch" ∨ w = "fill" ∨ w = "take"
  uw : uw (s.op j) = true
  fl : s.f ≠ "shared" → s.flight = none
  nv : w = "fill" → s.g ≠ "never"
  gd : okG s.g = true
  ld : w = "take" → ∃ l : Nat, (s.op j).leader = some (l : Int) ∧ l < s.ops.length
theorem uw_ver {v : Option Int} {o : Op} : uw (Op.wVer v o) = uw o := rfl
theorem co_read (h : s.co = t.co) (hj : j < s.ops.length) (k : RdOk s w j) : (s.read w j).co = (t.lread w j).co := by
  have e := co_flds h
  have o := co_opE h hj
  rcases k.wd with rfl | rfl | rfl | rfl
  · simp only [St.read, St.lread, if_true, St.look]
    rw [e.cache, e.f, e.flight]
    cases hc : t.cache with
    | some c => exact co_endO (co_ver h rfl) (by simpa using hj)
    | none =>
      simp only
      have hif : (t.f = "shared" ∧ t.flight.isSome = true) ↔ t.flight.isSome = true := by
        refine ⟨fun x => x.2, fun x => ⟨?_, x⟩⟩
        by_cases hs : t.f = "shared"
        · exact hs
        · have := k.fl (by rw [e.f]; exact hs)
          rw [e.flight] at this
          rw [this] at x
          cases x
      by_cases hf : t.flight.isSome = true
      · rw [if_pos (hif.mpr hf), if_pos hf]
        exact co_leader (co_stage h rfl (by decide) fun _ => k.uw) rfl
      · rw [if_neg (fun x => hf (hif.mp x)), if_neg hf]
        exact co_wFlight (co_stage h rfl (by decide) fun _ => k.uw)
  · have hs : s.seen = t.seen := by unfold St.seen; rw [e.ws, e.rep, e.db]
    simp only [St.read, St.lread, if_true, String.reduceEq, if_false, St.fetch]
    have h1 : ((s.upd j (Op.wVer (some s.seen))).upd j (Op.wStage "fill")).co = ((t.upd j (Op.wVer (some t.seen))).upd j (Op.wStage "fill")).co := co_stage (co_ver h (by rw [hs])) rfl (by decide) fun _ => by rw [op_upd hj, uw_ver]; exact k.uw
    rw [e.g]
    split
    · exact co_endO h1 (by simpa using hj)
    · exact h1
  · have ht : uw (t.op j) = true := by rw [← k.uw]; unfold uw; rw [o.stage]
    have htok : (s.op j).token = (t.op j).token := by
      have := o.token
      rw [k.uw, ht] at this
      simpa using this
    have hl : s.good j = t.lets j := by
      have hg := k.gd
      have hn := k.nv rfl
      rw [e.g] at hg hn
      unfold St.good St.lets St.newer
      rw [e.g, e.cache, e.mark, o.ver, htok]
      simp [okG] at hg
      rcases hg with hg | hg | hg | hg | hg | hg
      · simp [hg]
      · simp [hg]
      · simp [hg]
      · exact absurd hg hn
      · simp [hg]
      · simp [hg]
    simp only [St.read, St.lread, if_true, String.reduceEq, if_false, St.fill]
    rw [hl, o.ver]
    split
    · exact co_endO (co_put h) (by rw [put_ops]; exact hj)
    · exact co_endO h hj
  · obtain ⟨l, hl1, hl2⟩ := k.ld rfl
    simp only [St.read, St.lread, if_true, String.reduceEq, if_false, St.take]
    refine co_endO (co_ver h ?_) (by simpa using hj)
    rw [← o.leader, hl1]
    exact (co_opE h (by simpa using hl2)).ver
/-- what a step leans on -/
structure StOk (s : St) (w : String) (j : Nat) : Prop where
  uw : uw (s.op j) = true
  fl : s.f ≠ "shared" → s.flight = none
  gd : okG s.g = true
  wr : w ≠ "stop" → (s.op j).kind = "write" → w = "store" ∨ w = "drop" ∨ w = "set"
  rd : w ≠ "stop" → (s.op j).kind ≠ "write" → w = "look" ∨ w = "fetch" ∨ w = "fill" ∧ s.g ≠ "never" ∨ w = "take" ∧ ∃ l : Nat, (s.op j).leader = some (l : Int) ∧ l < s.ops.length
theorem co_step1 (h : s.co = t.co) (hj : j < s.ops.length) (k : StOk s w j) : (s.step1 w j).co = (t.lstep1 w j).co := by
  have o := co_opE h hj
  unfold St.step1 St.lstep1
  by_cases hs : w = "stop"
  · rw [if_pos hs, if_pos hs]
    exact co_stop h hj
  rw [if_neg hs, if_neg hs, o.kind]
  by_cases hk : (t.op j).kind = "write"
  · rw [if_pos hk, if_pos hk]
    exact co_write h hj (k.wr hs (by rw [o.kind]; exact hk)) k.uw
  · rw [if_neg hk, if_neg hk]
    have hr := k.rd hs (by rw [o.kind]; exact hk)
    refine co_read h hj ⟨?_, k.uw, k.fl, ?_, k.gd, ?_⟩
    · rcases hr with r | r | ⟨r, _⟩ | ⟨r, _⟩ <;> simp [r]
    · rintro rfl
      rcases hr with r | r | ⟨_, r⟩ | ⟨r, _⟩
      · exact absurd r (by decide)
      · exact absurd r (by decide)
      · exact r
      · exact absurd r (by decide)
    · rintro rfl
      rcases hr with r | r | ⟨r, _⟩ | ⟨_, r⟩
      · exact absurd r (by decide)
      · exact absurd r (by decide)
      · exact absurd r (by decide)
      · exact r
theorem core_unq {o : Op} : core (unq o) = core o := by unfold unq; split <;> rfl
theorem begin0_ops {kind : String} : (s.begin0 kind).ops.map core = s.ops.map core := by
  unfold St.begin0
  split
  · show (s.ops.map unq).map core = _
    rw [List.map_map]
    exact List.map_congr_left fun o _ => core_unq
  · rfl
theorem begin0_co {kind : String} : (s.begin0 kind).co = s.co := by
  unfold St.begin0
  split
  · have : (s.ops.map unq).map core = s.ops.map core := by
      rw [List.map_map]
      exact List.map_congr_left fun o _ => core_unq
    exact co_of ⟨rfl, rfl, rfl, rfl, rfl, rfl, rfl, rfl, rfl, rfl, rfl, rfl, this⟩
  · rfl
theorem co_step0 (h : s.co = t.co) (hw : j = s.ops.length → w = "look" ∨ w = (stepsP s.p).getD 0 "") : (s.step0 w j).co = (t.lstep0 w j).co := by
  have e := co_flds h
  unfold St.step0 St.lstep0
  rw [← co_len h]
  by_cases hj : j = s.ops.length
  · rw [if_pos hj, if_pos hj]
    have hc : ∀ kind, core ((s.begin0 kind).newOp kind) = core ⟨kind, if kind = "read" then "look" else (stepsP t.p).getD 0 "", none, t.past.length, none, 0, true, none, 0, 0, false⟩ := by
      intro kind
      have e2 := co_flds (begin0_co (s := s) (kind := kind))
      unfold St.newOp
      rw [e2.p, e2.past, e.p, e.past]
      rfl
    have e3 := fun kind => co_flds ((begin0_co (s := s) (kind := kind)).trans h)
    have key : ∀ kind, core ⟨kind, if kind = "read" then "look" else (stepsP t.p).getD 0 "", none, t.past.length, none, 0, true, none, 0, 0, false⟩ = core (t.newL w) → (s.beginO kind).co = (t.wOps (t.ops ++ [t.newL w])).co := by
      intro kind hk
      have e3 := e3 kind
      refine co_of ⟨e3.p, e3.g, e3.f, e3.ws, e3.we, e3.wk, e3.db, e3.rep, e3.cache, e3.mark, e3.flight, e3.past, ?_⟩
      show ((s.begin0 kind).ops ++ [(s.begin0 kind).newOp kind]).map core = (t.ops ++ [t.newL w]).map core
      rw [List.map_append, List.map_append, e3.ops, List.map_singleton, List.map_singleton, hc, hk]
    refine key _ ?_
    by_cases hl : w = "look"
    · subst hl
      rfl
    · have hw := (hw hj).resolve_left hl
      rw [e.p] at hw
      unfold St.newL
      rw [if_neg hl, if_neg (by decide), ← hw]
  · rw [if_neg hj, if_neg hj]
    exact h
end

end CH

namespace CH
open PySem L2
section
variable {s t u : St} {j i n : Nat} {w g p : String} {o o' : Op}
/-! what a step leaves -/
structure Mild (o o' : Op) : Prop where
  kind : o'.kind = o.kind
  stage : o'.stage = o.stage
  ver : o'.ver = o.ver
  begun : o'.begun = o.begun
  ended : o'.ended = o.ended
  step : o'.step = o.step
  leader : o'.leader = o.leader
  ofin : o'.ofin = o.ofin
  oret : o'.oret = o.oret
  quiet : o'.quiet = o.quiet
structure Keep (o o' : Op) : Prop where
  kind : o'.kind = o.kind
  begun : o'.begun = o.begun
  ended : o'.ended = o.ended
  ofin : o'.ofin = o.ofin
  oret : o'.oret = o.oret
  quiet : o'.quiet = o.quiet
theorem Mild.rfl' : Mild o o := ⟨rfl, rfl, rfl, rfl, rfl, rfl, rfl, rfl, rfl, rfl⟩
theorem Mild.trans {o'' : Op} (a : Mild o o') (b : Mild o' o'') : Mild o o'' := ⟨b.kind.trans a.kind, b.stage.trans a.stage, b.ver.trans a.ver, b.begun.trans a.begun, b.ended.trans a.ended, b.step.trans a.step, b.leader.trans a.leader, b.ofin.trans a.ofin, b.oret.trans a.oret, b.quiet.trans a.quiet⟩
theorem Keep.rfl' : Keep o o := ⟨rfl, rfl, rfl, rfl, rfl, rfl⟩
theorem Keep.trans {o'' : Op} (a : Keep o o') (b : Keep o' o'') : Keep o o'' := ⟨b.kind.trans a.kind, b.begun.trans a.begun, b.ended.trans a.ended, b.ofin.trans a.ofin, b.oret.trans a.oret, b.quiet.trans a.quiet⟩
theorem Mild.keep (a : Mild o o') : Keep o o' := ⟨a.kind, a.begun, a.ended, a.ofin, a.oret, a.quiet⟩
structure Fr (s s' : St) (j : Nat) : Prop where
  len : s'.ops.length = s.ops.length
  p : s'.p = s.p
  g : s'.g = s.g
  f : s'.f = s.f
  ws : s'.ws = s.ws
  we : s'.we = s.we
  wk : s'.wk = s.wk
  past : s'.past = s.past
  fin : s'.fin = s.fin
  ret : s'.ret = s.ret
  last : s'.last = s.last
  oth : ∀ i, i < s.ops.length → i ≠ j → Mild (s.op i) (s'.op i)
  own : Keep (s.op j) (s'.op j)
theorem Fr.rfl' : Fr s s j := ⟨rfl, rfl, rfl, rfl, rfl, rfl, rfl, rfl, rfl, rfl, rfl, fun _ _ _ => Mild.rfl', Keep.rfl'⟩
theorem Fr.trans (a : Fr s t j) (b : Fr t u j) : Fr s u j := ⟨b.len.trans a.len, b.p.trans a.p, b.g.trans a.g, b.f.trans a.f, b.ws.trans a.ws, b.we.trans a.we, b.wk.trans a.wk, b.past.trans a.past, b.fin.trans a.fin, b.ret.trans a.ret, b.last.trans a.last, fun i hi hn => (a.oth i hi hn).trans (b.oth i (by rw [a.len]; exact hi) hn), a.own.trans b.own⟩
theorem op_upd_ne {f : Op → Op} (h : i ≠ j) : (s.upd j f).op i = s.op i := by
  unfold St.op St.upd
  simp [List.getD, List.getElem?_modify, Ne.symm h]
theorem Fr_upd {f : Op → Op} (hj : j < s.ops.length) (hf : ∀ o, Keep o (f o)) : Fr s (s.upd j f) j := ⟨len_upd, rfl, rfl, rfl, rfl, rfl, rfl, rfl, rfl, rfl, rfl, fun i _ hn => by rw [op_upd_ne hn]; exact Mild.rfl', by rw [op_upd hj]; exact hf _⟩
theorem Fr_wDb {v : Int} : Fr s (s.wDb v) j := ⟨rfl, rfl, rfl, rfl, rfl, rfl, rfl, rfl, rfl, rfl, rfl, fun _ _ _ => Mild.rfl', Keep.rfl'⟩
theorem Fr_wCache {v : Option Int} : Fr s (s.wCache v) j := ⟨rfl, rfl, rfl, rfl, rfl, rfl, rfl, rfl, rfl, rfl, rfl, fun _ _ _ => Mild.rfl', Keep.rfl'⟩
theorem Fr_wMark {v : Int} : Fr s (s.wMark v) j := ⟨rfl, rfl, rfl, rfl, rfl, rfl, rfl, rfl, rfl, rfl, rfl, fun _ _ _ => Mild.rfl', Keep.rfl'⟩
theorem Fr_wFlight {v : Option Int} : Fr s (s.wFlight v) j := ⟨rfl, rfl, rfl, rfl, rfl, rfl, rfl, rfl, rfl, rfl, rfl, fun _ _ _ => Mild.rfl', Keep.rfl'⟩
theorem Fr_put {v : Int} : Fr s (s.put v) j := by
  unfold St.put
  split
  · exact Fr_wCache.trans Fr_wMark
  · exact Fr_wCache
theorem mild_spo : Mild o (spo o) := by
  unfold spo
  split
  · exact ⟨rfl, rfl, rfl, rfl, rfl, rfl, rfl, rfl, rfl, rfl⟩
  · exact Mild.rfl'
theorem mild_tok {b : Bool} : Mild o (Op.wToken b o) := ⟨rfl, rfl, rfl, rfl, rfl, rfl, rfl, rfl, rfl, rfl⟩
theorem Fr_spoil (hj : j < s.ops.length) : Fr s s.spoil j := ⟨spoil_len, rfl, rfl, rfl, rfl, rfl, rfl, rfl, rfl, rfl, rfl, fun i hi _ => by rw [spoil_op hi]; exact mild_spo, by rw [spoil_op hj]; exact mild_spo.keep⟩
theorem Fr_soil (hj : j < s.ops.length) : Fr s s.soil j := ⟨soil_len, rfl, rfl, rfl, rfl, rfl, rfl, rfl, rfl, rfl, rfl, fun i hi _ => by rw [soil_op hi]; exact mild_tok, by rw [soil_op hj]; exact mild_tok.keep⟩
theorem keep_ver {v : Option Int} (o : Op) : Keep o (Op.wVer v o) := ⟨rfl, rfl, rfl, rfl, rfl, rfl⟩
theorem keep_stage {v : String} (o : Op) : Keep o (Op.wStage v o) := ⟨rfl, rfl, rfl, rfl, rfl, rfl⟩
theorem keep_step {v : Int} (o : Op) : Keep o (Op.wStep v o) := ⟨rfl, rfl, rfl, rfl, rfl, rfl⟩
theorem keep_leader {v : Option Int} (o : Op) : Keep o (Op.wLeader v o) := ⟨rfl, rfl, rfl, rfl, rfl, rfl⟩
theorem Fr_wr1 (hj : j < s.ops.length) : Fr s (s.wr1 w j) j := by
  unfold St.wr1
  split
  · exact Fr_wDb.trans (Fr_upd hj keep_ver)
  · split
    · have h1 : Fr s (s.wCache none).spoil j := Fr_wCache.trans (Fr_spoil hj)
      simp only
      split
      · split
        · exact h1.trans Fr_wMark
        · exact h1
      · exact h1
    · simp only
      split
      · exact (Fr_spoil hj).trans Fr_put
      · exact Fr_spoil hj
theorem Fr_lw (hj : j < s.ops.length) : Fr s (((s.lw1 w j).lw2 w j).lw3 w j) j := by
  have h1 : Fr s (s.lw1 w j) j := by
    unfold St.lw1
    split
    · exact Fr_wDb.trans (Fr_upd hj keep_ver)
    · exact Fr_soil hj
  have h2 : Fr (s.lw1 w j) ((s.lw1 w j).lw2 w j) j := by
    unfold St.lw2
    split
    · split
      · split
        · exact Fr_wCache.trans Fr_wMark
        · exact Fr_wCache
      · exact Fr_wCache
    · exact Fr.rfl'
  have h3 : Fr ((s.lw1 w j).lw2 w j) (((s.lw1 w j).lw2 w j).lw3 w j) j := by
    unfold St.lw3
    split
    · split
      · exact Fr_put
      · exact Fr.rfl'
    · exact Fr.rfl'
  exact (h1.trans h2).trans h3
/-! the invariant of one operation -/
structure OpI (g p : String) (n : Nat) (o : Op) : Prop where
  kd : o.kind = "read" ∨ o.kind = "write"
  rd : o.kind = "read" → o.stage = "look" ∨ o.stage = "fetch" ∨ o.stage = "fill" ∨ o.stage = "waits" ∨ o.stage = "ended" ∨ o.stage = "stopped"
  fv : o.kind = "read" → o.stage = "fill" → (∃ v, o.ver = some v) ∧ g ≠ "never"
  ev : o.stage = "ended" → ∃ v, o.ver = some v
  ld : o.stage = "waits" → o.kind = "read" ∧ ∃ l : Nat, o.leader = some (l : Int) ∧ l < n
  wr : o.kind = "write" → ∃ k : Nat, o.step = (k : Int) ∧ (uw o = true → k < (stepsP p).length ∧ o.stage = (stepsP p).getD k "") ∧ ("store" ∈ (stepsP p).take k → ∃ v, o.ver = some v)
theorem OpI.mono {m : Nat} (h : OpI g p n o) (hm : n ≤ m) : OpI g p m o := ⟨h.kd, h.rd, h.fv, h.ev, fun x => ⟨(h.ld x).1, by obtain ⟨l, a, b⟩ := (h.ld x).2; exact ⟨l, a, by omega⟩⟩, h.wr⟩
theorem OpI.mild (h : OpI g p n o) (m : Mild o o') : OpI g p n o' := by
  obtain ⟨m1, m2, m3, m4, m5, m6, m7, m8, m9, m10⟩ := m
  have hu : uw o' = uw o := by unfold uw; rw [m2]
  refine ⟨by rw [m1]; exact h.kd, by rw [m1, m2]; exact h.rd, by rw [m1, m2, m3]; exact h.fv, by rw [m2, m3]; exact h.ev, by rw [m1, m2, m7]; exact h.ld, by rw [m1, m6, hu, m2, m3]; exact h.wr⟩
theorem path_facts {p : String} (hp : okP p = true) {k : Nat} (hk : k < (stepsP p).length) : ((stepsP p).getD k "" = "store" ∨ (stepsP p).getD k "" = "drop" ∨ (stepsP p).getD k "" = "set") ∧ ((stepsP p).getD k "" = "set" → "store" ∈ (stepsP p).take k) ∧ (k + 1 = (stepsP p).length → (stepsP p).getD k "" = "store" ∨ "store" ∈ (stepsP p).take k) ∧ ("store" ∈ (stepsP p).take (k + 1) → (stepsP p).getD k "" = "store" ∨ "store" ∈ (stepsP p).take k) := by
  have h3 : (stepsP p).length ≤ 3 := by
    simp [okP] at hp
    rcases hp with rfl | rfl | rfl | rfl | rfl <;> simp [stepsP]
  have hk3 : k = 0 ∨ k = 1 ∨ k = 2 := by omega
  simp [okP] at hp
  rcases hp with rfl | rfl | rfl | rfl | rfl <;> rcases hk3 with rfl | rfl | rfl <;> simp [stepsP] at hk ⊢
theorem OpI_over {st : String} {e : Option Int} (hs : st = "stopped" ∨ st = "ended") (h1 : o.kind = "read" ∨ o.kind = "write") (h2 : o.kind = "write" → ∃ k : Nat, o.step = (k : Int) ∧ ("store" ∈ (stepsP p).take k → ∃ v, o.ver = some v)) (h3 : st = "ended" → ∃ v, o.ver = some v) : OpI g p n (Op.wEnded e (Op.wStage st o)) := by
  refine ⟨h1, fun _ => ?_, fun _ x => ?_, fun x => ?_, fun x => ?_, fun x => ?_⟩
  · rcases hs with rfl | rfl <;> simp
  · exfalso
    rcases hs with rfl | rfl <;> simp at x
  · rcases hs with rfl | rfl
    · simp at x
    · exact h3 rfl
  · exfalso
    rcases hs with rfl | rfl <;> simp at x
  · obtain ⟨k, a, b⟩ := h2 x
    refine ⟨k, a, fun y => ?_, b⟩
    exfalso
    rcases hs with rfl | rfl <;> simp [uw] at y
theorem wr1_ver (hj : j < s.ops.length) : ((s.wr1 w j).op j).ver = if w = "store" then some (s.db + 1) else (s.op j).ver := by
  unfold St.wr1
  split
  · simp [hj]
  · split
    · have h' : j < (s.wCache none).ops.length := hj
      have := spoil_ver (s := s.wCache none) h'
      simp only
      split
      · split
        · simpa using this
        · simpa using this
      · simpa using this
    · have := spoil_ver hj
      simp only
      split <;> simpa using this
theorem wr1_flight : (s.wr1 w j).flight = s.flight := by
  unfold St.wr1
  split
  · rfl
  · split
    · simp only
      split
      · split <;> rfl
      · rfl
    · simp only
      split
      · unfold St.put
        split <;> rfl
      · rfl
end

end CH

namespace CH
open PySem L2
section
variable {s t u : St} {j i n : Nat} {w g p : String} {o o' : Op}
/-- an event's step of an operation is due -/
structure Due (s : St) (w : String) (j : Nat) : Prop where
  lt : j < s.ops.length
  uw : uw (s.op j) = true
  okp : okP s.p = true
  okg : okG s.g = true
  fl1 : s.f ≠ "shared" → s.flight = none
  fl2 : ∀ i, s.flight = some i → ∃ l : Nat, i = (l : Int) ∧ l < s.ops.length
  op : OpI s.g s.p s.ops.length (s.op j)
  wd : w = "stop" ∨ (w = (s.op j).stage ∧ (s.op j).stage ≠ "waits") ∨ (w = "take" ∧ (s.op j).stage = "waits" ∧ ∃ (l : Nat) (v : Int), (s.op j).leader = some (l : Int) ∧ l < s.ops.length ∧ (s.op l).ver = some v)
theorem uw_stage (h : uw o = true) : o.stage ≠ "ended" ∧ o.stage ≠ "stopped" := by
  unfold uw at h
  simp at h
  exact h
theorem due_cases (d : Due s w j) : w = "stop" ∨ (w ≠ "stop" ∧ (s.op j).kind = "write" ∧ ∃ k : Nat, (s.op j).step = (k : Int) ∧ k < (stepsP s.p).length ∧ w = (stepsP s.p).getD k "" ∧ ("store" ∈ (stepsP s.p).take k → ∃ v, (s.op j).ver = some v)) ∨ ((s.op j).kind = "read" ∧ (w = "look" ∨ w = "fetch" ∨ (w = "fill" ∧ (∃ v, (s.op j).ver = some v) ∧ s.g ≠ "never") ∨ (w = "take" ∧ ∃ (l : Nat) (v : Int), (s.op j).leader = some (l : Int) ∧ l < s.ops.length ∧ (s.op l).ver = some v))) := by
  have hu := uw_stage d.uw
  rcases d.wd with h | ⟨h1, h2⟩ | ⟨h1, h2, h3⟩
  · exact .inl h
  · right
    rcases d.op.kd with hk | hk
    · right
      refine ⟨hk, ?_⟩
      rcases d.op.rd hk with e | e | e | e | e | e
      · exact .inl (h1.trans e)
      · exact .inr (.inl (h1.trans e))
      · exact .inr (.inr (.inl ⟨h1.trans e, d.op.fv hk e⟩))
      · exact absurd e h2
      · exact absurd e hu.1
      · exact absurd e hu.2
    · left
      obtain ⟨k, e1, e2, e3⟩ := d.op.wr hk
      obtain ⟨e4, e5⟩ := e2 d.uw
      have e6 := h1.trans e5
      refine ⟨?_, hk, k, e1, e4, e6, e3⟩
      rw [e6]
      exact (stepsP_word _ _).2.2.2.2.2.1
  · exact .inr (.inr ⟨(d.op.ld h2).1, .inr (.inr (.inr ⟨h1, h3⟩))⟩)
theorem kind_rw (h : (s.op j).kind = "read") : (s.op j).kind ≠ "write" := by rw [h]; decide
theorem due_ok (d : Due s w j) : StOk s w j := by
  refine ⟨d.uw, d.fl1, d.okg, fun hs hk => ?_, fun hs hk => ?_⟩
  · rcases due_cases d with h | ⟨_, _, k, _, e2, e3, _⟩ | ⟨h, _⟩
    · exact absurd h hs
    · rw [e3]; exact (path_facts d.okp e2).1
    · exact absurd hk (kind_rw h)
  · rcases due_cases d with h | ⟨_, h, _⟩ | ⟨_, h | h | ⟨h, _, h2⟩ | ⟨h, l, v, h2, h3, _⟩⟩
    · exact absurd h hs
    · exact absurd h hk
    · exact .inl h
    · exact .inr (.inl h)
    · exact .inr (.inr (.inl ⟨h, h2⟩))
    · exact .inr (.inr (.inr ⟨h, l, h2, h3⟩))
theorem due_okSt (d : Due s w j) : okSt s w j := by
  unfold okSt
  by_cases hs : w = "stop"
  · rw [if_pos hs]; trivial
  rw [if_neg hs]
  rcases due_cases d with h | ⟨_, h, k, e1, e2, e3, e4⟩ | ⟨h, h2⟩
  · exact absurd h hs
  · rw [if_pos h]
    have pf := path_facts d.okp e2
    rw [← e3] at pf
    refine ⟨?_, k, e1, e2, fun hl => ?_⟩
    · rcases pf.1 with x | x | x
      · exact .inl x
      · exact .inr (.inl x)
      · exact .inr (.inr (e4 (pf.2.1 x)))
    · rw [wr1_ver d.lt]
      split
      · exact ⟨_, rfl⟩
      · rename_i hx
        exact e4 ((pf.2.2.1 hl).resolve_left hx)
  · rw [if_neg (kind_rw h)]
    unfold okRd
    rcases h2 with rfl | rfl | ⟨rfl, h2, _⟩ | ⟨rfl, l, v, h2, h3, h4⟩
    · simp
    · simp
    · simpa using h2
    · simp only [String.reduceEq, if_false]
      exact ⟨l, v, h2, h3, h4⟩
/-- what the program's step leaves -/
theorem step1_out (d : Due s w j) : ∃ s', Fr s s' j ∧ (s.f ≠ "shared" → s'.flight = none) ∧ (∀ i, s'.flight = some i → ∃ l : Nat, i = (l : Int) ∧ l < s.ops.length) ∧ ((s.step1 w j = s' ∧ (s'.op j).stage ≠ "ended" ∧ OpI s.g s.p s.ops.length (s'.op j)) ∨ (s.step1 w j = s'.endO j ∧ (∃ v, (s'.op j).ver = some v) ∧ ((s.op j).kind = "write" → ∃ k : Nat, (s'.op j).step = (k : Int)))) := by
  have hj := d.lt
  unfold St.step1
  rcases due_cases d with h | ⟨hs, h, k, e1, e2, e3, e4⟩ | ⟨h, h2⟩
  · rw [if_pos h]
    refine ⟨_, Fr_upd hj keep_stage, d.fl1, d.fl2, .inl ⟨rfl, ?_, ?_⟩⟩
    · rw [op_upd hj]; simp
    · rw [op_upd hj]
      have := OpI_over (g := s.g) (p := s.p) (n := s.ops.length) (o := s.op j) (e := (s.op j).ended) (st := "stopped") (.inl rfl) d.op.kd (fun x => by obtain ⟨k, a, _, b⟩ := d.op.wr x; exact ⟨k, a, b⟩) (fun x => absurd x (by decide : ¬ "stopped" = "ended"))
      exact this
  · rw [if_neg hs, if_pos h]
    unfold St.write
    have pf := path_facts d.okp e2
    rw [← e3] at pf
    have f1 : Fr s (s.wr1 w j) j := Fr_wr1 hj
    have hj1 : j < (s.wr1 w j).ops.length := by rw [f1.len]; exact hj
    have hst : ((s.wr1 w j).op j).step = (k : Int) := by rw [wr1_step hj, e1]
    have hv := wr1_ver (w := w) hj
    have hver : "store" ∈ (stepsP s.p).take (k + 1) → ∃ v, ((s.wr1 w j).op j).ver = some v := by
      intro x
      rw [hv]
      split
      · exact ⟨_, rfl⟩
      · rename_i hx
        exact e4 ((pf.2.2.2 x).resolve_left hx)
    have hfl := wr1_flight (s := s) (w := w) (j := j)
    generalize s.wr1 w j = s1 at *
    unfold St.wr2
    simp only
    have f2 : Fr s (s1.upd j (Op.wStep ((s1.op j).step + 1))) j := f1.trans (Fr_upd hj1 keep_step)
    have ho2 : (s1.upd j (Op.wStep ((s1.op j).step + 1))).op j = Op.wStep ((k : Int) + 1) (s1.op j) := by rw [op_upd hj1, hst]
    have hl2 : (s1.upd j (Op.wStep ((s1.op j).step + 1))).flight = s.flight := hfl
    have hj2 : j < (s1.upd j (Op.wStep ((s1.op j).step + 1))).ops.length := by rw [len_upd]; exact hj1
    rw [hst, f1.p] at *
    generalize (s1.upd j (Op.wStep ((k : Int) + 1))) = s2 at *
    by_cases hlast : (k : Int) + 1 = ((stepsP s.p).length : Int)
    · rw [if_pos hlast]
      refine ⟨s2, f2, by rw [hl2]; exact d.fl1, by rw [hl2]; exact d.fl2, .inr ⟨rfl, ?_, fun _ => ⟨k + 1, by rw [ho2]; simp⟩⟩⟩
      rw [ho2]
      refine hver ?_
      have : k + 1 = (stepsP s.p).length := by omega
      rw [this, List.take_length]
      have hp := d.okp
      simp [okP] at hp
      rcases hp with e | e | e | e | e <;> rw [e] <;> simp [stepsP]
    · rw [if_neg hlast]
      refine ⟨_, f2.trans (Fr_upd hj2 keep_stage), ?_, ?_, .inl ⟨rfl, ?_, ?_⟩⟩
      · exact fun x => hl2.trans (d.fl1 x)
      · exact fun i x => d.fl2 i (hl2.symm.trans x)
      · rw [op_upd hj2]
        exact (stepsP_word _ _).1
      · rw [op_upd hj2, ho2]
        have hk1 : ((k : Int) + 1).toNat = k + 1 := by omega
        rw [hk1]
        have hkd : (s1.op j).kind = "write" := by rw [f1.own.kind, h]
        have sw := stepsP_word s.p (k + 1)
        refine ⟨.inr hkd, fun x => ?_, fun x => ?_, fun x => ?_, fun x => ?_, fun _ => ⟨k + 1, by simp, fun _ => ⟨by omega, rfl⟩, hver⟩⟩
        · have : (s1.op j).kind = "read" := x
          rw [hkd] at this
          exact absurd this (by decide)
        · have : (s1.op j).kind = "read" := x
          rw [hkd] at this
          exact absurd this (by decide)
        · exact absurd x sw.1
        · exact absurd x sw.2.2.2.1
  · have hw : w ≠ "stop" := by rcases h2 with e | e | ⟨e, _⟩ | ⟨e, _⟩ <;> rw [e] <;> decide
    rw [if_neg hw, if_neg (kind_rw h)]
    have nk : ∀ {q : Prop}, (s.op j).kind = "write" → q := fun x => absurd x (kind_rw h)
    unfold St.read
    rcases h2 with rfl | rfl | ⟨rfl, ⟨v, hv⟩, h3⟩ | ⟨rfl, l, v, h3, h4, h5⟩
    · rw [if_pos rfl]
      unfold St.look
      cases hc : s.cache with
      | some c => exact ⟨_, Fr_upd hj keep_ver, d.fl1, d.fl2, .inr ⟨rfl, ⟨c, by rw [op_upd hj]; rfl⟩, nk⟩⟩
      | none =>
        simp only
        by_cases hf : s.f = "shared" ∧ s.flight.isSome = true
        · rw [if_pos hf]
          have hj2 : j < (s.upd j (Op.wStage "waits")).ops.length := by rw [len_upd]; exact hj
          obtain ⟨i, hi⟩ := Option.isSome_iff_exists.mp hf.2
          obtain ⟨l, e1, e2⟩ := d.fl2 i hi
          refine ⟨_, (Fr_upd hj keep_stage).trans (Fr_upd hj2 keep_leader), d.fl1, d.fl2, .inl ⟨rfl, ?_, ?_⟩⟩
          · rw [op_upd hj2, op_upd hj]; exact fun x => absurd x (by decide : ¬ "waits" = "ended")
          · rw [op_upd hj2, op_upd hj]
            refine ⟨.inl h, fun _ => .inr (.inr (.inr (.inl rfl))), fun _ x => absurd x (by decide : ¬ "waits" = "fill"), fun x => absurd x (by decide : ¬ "waits" = "ended"), fun _ => ⟨h, l, by rw [← e1]; exact hi, e2⟩, fun x => nk x⟩
        · rw [if_neg hf]
          refine ⟨_, (Fr_upd hj keep_stage).trans Fr_wFlight, fun x => if_neg x, fun i x => ?_, .inl ⟨rfl, ?_, ?_⟩⟩
          · have x : (if s.f = "shared" then some (j : Int) else none) = some i := x
            by_cases hs : s.f = "shared"
            · rw [if_pos hs] at x
              exact ⟨j, (Option.some.inj x).symm, hj⟩
            · rw [if_neg hs] at x
              cases x
          · rw [wFlight_op, op_upd hj]; exact fun x => absurd x (by decide : ¬ "fetch" = "ended")
          · rw [wFlight_op, op_upd hj]
            refine ⟨.inl h, fun _ => .inr (.inl rfl), fun _ x => absurd x (by decide : ¬ "fetch" = "fill"), fun x => absurd x (by decide : ¬ "fetch" = "ended"), fun x => absurd x (by decide : ¬ "fetch" = "waits"), fun x => nk x⟩
    · rw [if_neg (by decide), if_pos rfl]
      unfold St.fetch
      simp only
      have hj2 : j < (s.upd j (Op.wVer (some s.seen))).ops.length := by rw [len_upd]; exact hj
      have f2 : Fr s ((s.upd j (Op.wVer (some s.seen))).upd j (Op.wStage "fill")) j := (Fr_upd hj keep_ver).trans (Fr_upd hj2 keep_stage)
      have ho : ((s.upd j (Op.wVer (some s.seen))).upd j (Op.wStage "fill")).op j = Op.wStage "fill" (Op.wVer (some s.seen) (s.op j)) := by rw [op_upd hj2, op_upd hj]
      by_cases hg : s.g = "never"
      · rw [if_pos hg]
        exact ⟨_, f2, d.fl1, d.fl2, .inr ⟨rfl, ⟨s.seen, by rw [ho]; rfl⟩, nk⟩⟩
      · rw [if_neg hg]
        refine ⟨_, f2, d.fl1, d.fl2, .inl ⟨rfl, ?_, ?_⟩⟩
        · rw [ho]; exact fun x => absurd x (by decide : ¬ "fill" = "ended")
        · rw [ho]
          refine ⟨.inl h, fun _ => .inr (.inr (.inl rfl)), fun _ _ => ⟨⟨_, rfl⟩, hg⟩, fun x => absurd x (by decide : ¬ "fill" = "ended"), fun x => absurd x (by decide : ¬ "fill" = "waits"), fun x => nk x⟩
    · rw [if_neg (by decide), if_neg (by decide), if_pos rfl]
      unfold St.fill
      split
      · refine ⟨_, Fr_put, ?_, ?_, .inr ⟨rfl, ⟨v, by rw [put_op]; exact hv⟩, nk⟩⟩
        · have : (s.put ((s.op j).ver.getD 0)).flight = s.flight := by unfold St.put; split <;> rfl
          rw [this]; exact d.fl1
        · have : (s.put ((s.op j).ver.getD 0)).flight = s.flight := by unfold St.put; split <;> rfl
          rw [this]; exact d.fl2
      · exact ⟨_, Fr.rfl', d.fl1, d.fl2, .inr ⟨rfl, ⟨v, hv⟩, nk⟩⟩
    · rw [if_neg (by decide), if_neg (by decide), if_neg (by decide)]
      unfold St.take
      refine ⟨_, Fr_upd hj keep_ver, d.fl1, d.fl2, .inr ⟨rfl, ⟨v, ?_⟩, nk⟩⟩
      rw [op_upd hj, h3]
      exact h5
end

end CH

namespace CH
open PySem L2
section
variable {s t u : St} {j i n : Nat} {w g p : String} {o o' : Op}
theorem OpI.of (h : OpI g p n o) (e1 : o'.kind = o.kind) (e2 : o'.stage = o.stage) (e3 : o'.ver = o.ver) (e4 : o'.step = o.step) (e5 : o'.leader = o.leader) : OpI g p n o' := by
  have hu : uw o' = uw o := by unfold uw; rw [e2]
  exact ⟨by rw [e1]; exact h.kd, by rw [e1, e2]; exact h.rd, by rw [e1, e2, e3]; exact h.fv, by rw [e2, e3]; exact h.ev, by rw [e1, e2, e5]; exact h.ld, by rw [e1, e4, hu, e2, e3]; exact h.wr⟩
theorem due_co (h : s.co = t.co) (d : Due s w j) : Due t w j := by
  have e := co_flds h
  have hl := co_len h
  have o := co_opE h d.lt
  refine ⟨by rw [← hl]; exact d.lt, ?_, by rw [← e.p]; exact d.okp, by rw [← e.g]; exact d.okg, by rw [← e.f, ← e.flight]; exact d.fl1, by rw [← e.flight, ← hl]; exact d.fl2, ?_, ?_⟩
  · have := d.uw
    unfold uw at this ⊢
    rw [← o.stage]
    exact this
  · rw [← e.g, ← e.p, ← hl]
    exact d.op.of o.kind.symm o.stage.symm o.ver.symm o.step.symm o.leader.symm
  · rw [← o.stage, ← o.leader, ← hl]
    rcases d.wd with x | x | ⟨x1, x2, l, v, x3, x4, x5⟩
    · exact .inl x
    · exact .inr (.inl x)
    · exact .inr (.inr ⟨x1, x2, l, v, x3, x4, by rw [← (co_opE h x4).ver]; exact x5⟩)
theorem due_okLs (d : Due t w j) : okLs t w j := by
  unfold okLs
  by_cases hs : w = "stop"
  · rw [if_pos hs]; trivial
  rw [if_neg hs]
  rcases due_cases d with h | ⟨_, h, k, e1, e2, e3, e4⟩ | ⟨h, h2⟩
  · exact absurd h hs
  · rw [if_pos h]
    have pf := path_facts d.okp e2
    rw [← e3] at pf
    refine ⟨fun x => ?_, k, e1, e2⟩
    obtain ⟨v, hv⟩ := e4 (pf.2.1 x)
    subst x
    exact ⟨v, by simp only [St.lw1, String.reduceEq, if_false]; rw [soil_ver d.lt]; exact hv⟩
  · rw [if_neg (kind_rw h)]
    unfold okLr
    rcases h2 with rfl | rfl | ⟨rfl, h2, _⟩ | ⟨rfl, l, v, h2, h3, h4⟩
    · simp
    · simp
    · simpa using h2
    · simp only [String.reduceEq, if_false, if_true]
      exact ⟨l, v, h2, h3, h4⟩
theorem uw_of {x : String} (h1 : x ≠ "ended") (h2 : x ≠ "stopped") (h : o.stage = x) : uw o = true := by unfold uw; rw [h]; simp [h1, h2]
/-- what the law's step leaves -/
theorem lstep1_out (d : Due t w j) : ∃ t', Fr t t' j ∧ ((t.lstep1 w j = t' ∧ uw (t'.op j) = true) ∨ ∃ st, (st = "ended" ∨ st = "stopped") ∧ t.lstep1 w j = t'.lend j st) := by
  have hj := d.lt
  unfold St.lstep1
  rcases due_cases d with h | ⟨hs, h, k, e1, e2, e3, e4⟩ | ⟨h, h2⟩
  · rw [if_pos h]
    exact ⟨_, Fr.rfl', .inr ⟨_, .inr rfl, rfl⟩⟩
  · rw [if_neg hs, if_pos h]
    unfold St.lwrite
    have f1 := Fr_lw (w := w) hj
    generalize (((t.lw1 w j).lw2 w j).lw3 w j) = t1 at *
    have hj1 : j < t1.ops.length := by rw [f1.len]; exact hj
    unfold St.lw4
    simp only
    have f2 : Fr t (t1.upd j (Op.wStep ((t1.op j).step + 1))) j := f1.trans (Fr_upd hj1 keep_step)
    have hj2 : j < (t1.upd j (Op.wStep ((t1.op j).step + 1))).ops.length := by rw [len_upd]; exact hj1
    split
    · exact ⟨_, f2, .inr ⟨_, .inl rfl, rfl⟩⟩
    · refine ⟨_, f2.trans (Fr_upd hj2 keep_stage), .inl ⟨rfl, ?_⟩⟩
      rw [op_upd hj2]
      exact uw_of (stepsP_word _ _).1 (stepsP_word _ _).2.1 rfl
  · have hw : w ≠ "stop" := by rcases h2 with e | e | ⟨e, _⟩ | ⟨e, _⟩ <;> rw [e] <;> decide
    rw [if_neg hw, if_neg (kind_rw h)]
    unfold St.lread
    rcases h2 with rfl | rfl | ⟨rfl, ⟨v, hv⟩, h3⟩ | ⟨rfl, l, v, h3, h4, h5⟩
    · rw [if_pos rfl]
      cases hc : t.cache with
      | some c => exact ⟨_, Fr_upd hj keep_ver, .inr ⟨_, .inl rfl, rfl⟩⟩
      | none =>
        simp only
        split
        · have hj2 : j < (t.upd j (Op.wStage "waits")).ops.length := by rw [len_upd]; exact hj
          refine ⟨_, (Fr_upd hj keep_stage).trans (Fr_upd hj2 keep_leader), .inl ⟨rfl, ?_⟩⟩
          rw [op_upd hj2, op_upd hj]
          exact uw_of (x := "waits") (by decide) (by decide) rfl
        · refine ⟨_, (Fr_upd hj keep_stage).trans Fr_wFlight, .inl ⟨rfl, ?_⟩⟩
          rw [wFlight_op, op_upd hj]
          exact uw_of (x := "fetch") (by decide) (by decide) rfl
    · rw [if_neg (by decide), if_pos rfl]
      simp only
      have hj2 : j < (t.upd j (Op.wVer (some t.seen))).ops.length := by rw [len_upd]; exact hj
      have f2 : Fr t ((t.upd j (Op.wVer (some t.seen))).upd j (Op.wStage "fill")) j := (Fr_upd hj keep_ver).trans (Fr_upd hj2 keep_stage)
      split
      · exact ⟨_, f2, .inr ⟨_, .inl rfl, rfl⟩⟩
      · refine ⟨_, f2, .inl ⟨rfl, ?_⟩⟩
        rw [op_upd hj2, op_upd hj]
        exact uw_of (x := "fill") (by decide) (by decide) rfl
    · rw [if_neg (by decide), if_neg (by decide), if_neg (by decide)]
      split
      · exact ⟨_, Fr_put, .inr ⟨_, .inl rfl, rfl⟩⟩
      · exact ⟨_, Fr.rfl', .inr ⟨_, .inl rfl, rfl⟩⟩
    · rw [if_neg (by decide), if_neg (by decide), if_pos rfl]
      exact ⟨_, Fr_upd hj keep_ver, .inr ⟨_, .inl rfl, rfl⟩⟩
/-! the ends -/
theorem endO_ops : (s.endO j).ops = (s.end1 j).ops := by
  unfold St.endO St.end3
  split
  · show ((s.end1 j).end2 j).ops = _
    unfold St.end2; split <;> rfl
  · unfold St.end2; split <;> rfl
theorem endO_op (hj : j < s.ops.length) : (s.endO j).op j = Op.wEnded (some (s.past.length : Int)) (Op.wStage "ended" (s.op j)) := by
  rw [op_of_ops endO_ops]
  unfold St.end1
  rw [op_upd (by simpa using hj), op_upd hj]
theorem endO_ne (h : i ≠ j) : (s.endO j).op i = s.op i := by
  rw [op_of_ops endO_ops]
  unfold St.end1
  rw [op_upd_ne h, op_upd_ne h]
theorem endO_len : (s.endO j).ops.length = s.ops.length := by rw [endO_ops]; simp [St.end1]
theorem endO_flds : (s.endO j).p = s.p ∧ (s.endO j).g = s.g ∧ (s.endO j).f = s.f ∧ (s.endO j).past = s.past := by
  unfold St.endO St.end3 St.end2
  refine ⟨?_, ?_, ?_, ?_⟩ <;> split <;> split <;> rfl
theorem endO_fl : (s.endO j).flight = if s.flight = some (j : Int) then none else s.flight := by
  have h2 : ((s.end1 j).end2 j).flight = s.flight := by unfold St.end2; split <;> rfl
  unfold St.endO St.end3
  rw [h2]
  split
  · rfl
  · exact h2
theorem endO_res (hj : j < s.ops.length) : ((s.op j).kind = "write" → (s.endO j).fin = imax s.fin ((s.op j).ver.getD 0) ∧ (s.endO j).ret = s.ret ∧ (s.endO j).last = s.last) ∧ ((s.op j).kind ≠ "write" → (s.endO j).fin = s.fin ∧ (s.endO j).ret = imax s.ret ((s.op j).ver.getD 0) ∧ (s.endO j).last = some j) := by
  have h1 : (s.end1 j).op j = Op.wEnded (some (s.past.length : Int)) (Op.wStage "ended" (s.op j)) := by
    unfold St.end1
    rw [op_upd (by simpa using hj), op_upd hj]
  have h3 : ∀ v : St, (v.end3 j).fin = v.fin ∧ (v.end3 j).ret = v.ret ∧ (v.end3 j).last = v.last := by
    intro v
    unfold St.end3
    split <;> exact ⟨rfl, rfl, rfl⟩
  unfold St.endO
  rw [(h3 _).1, (h3 _).2.1, (h3 _).2.2]
  unfold St.end2
  rw [h1]
  refine ⟨fun hk => ?_, fun hk => ?_⟩
  · rw [if_pos (by exact hk)]
    exact ⟨rfl, rfl, rfl⟩
  · rw [if_neg (by exact hk)]
    exact ⟨rfl, rfl, rfl⟩
theorem lend_ops {st : String} : (s.lend j st).ops = ((s.upd j (Op.wStage st)).upd j (Op.wEnded (some (s.past.length : Int)))).ops := by unfold St.lend; simp only; split <;> rfl
theorem lend_op {st : String} (hj : j < s.ops.length) : (s.lend j st).op j = Op.wEnded (some (s.past.length : Int)) (Op.wStage st (s.op j)) := by
  rw [op_of_ops lend_ops, op_upd (by simpa using hj), op_upd hj]
theorem lend_ne {st : String} (h : i ≠ j) : (s.lend j st).op i = s.op i := by
  rw [op_of_ops lend_ops, op_upd_ne h, op_upd_ne h]
theorem lend_past {st : String} : (s.lend j st).past = s.past := by unfold St.lend; simp only; split <;> rfl
theorem lend_p {st : String} : (s.lend j st).p = s.p := by unfold St.lend; simp only; split <;> rfl
theorem lend_len {st : String} : (s.lend j st).ops.length = s.ops.length := by rw [lend_ops]; simp
/-- a step in sum, the program's -/
structure Sm (s s' : St) (j : Nat) : Prop where
  len : s'.ops.length = s.ops.length
  p : s'.p = s.p
  g : s'.g = s.g
  f : s'.f = s.f
  past : s'.past = s.past
  oth : ∀ i, i < s.ops.length → i ≠ j → Mild (s.op i) (s'.op i)
  kind : (s'.op j).kind = (s.op j).kind
  begun : (s'.op j).begun = (s.op j).begun
  ofin : (s'.op j).ofin = (s.op j).ofin
  oret : (s'.op j).oret = (s.op j).oret
  quiet : (s'.op j).quiet = (s.op j).quiet
  op : OpI s.g s.p s.ops.length (s'.op j)
  fl1 : s.f ≠ "shared" → s'.flight = none
  fl2 : ∀ i, s'.flight = some i → ∃ l : Nat, i = (l : Int) ∧ l < s.ops.length
  alt : ((s'.op j).stage ≠ "ended" ∧ s'.fin = s.fin ∧ s'.ret = s.ret ∧ s'.last = s.last) ∨ ((s'.op j).stage = "ended" ∧ (s'.op j).ended = some (s.past.length : Int) ∧ ∃ v, (s'.op j).ver = some v ∧ ((s.op j).kind = "write" → s'.fin = imax s.fin v ∧ s'.ret = s.ret ∧ s'.last = s.last) ∧ ((s.op j).kind ≠ "write" → s'.fin = s.fin ∧ s'.ret = imax s.ret v ∧ s'.last = some j))
theorem step1_sm (d : Due s w j) : Sm s (s.step1 w j) j := by
  obtain ⟨s', f, f1, f2, h | ⟨h, ⟨v, hv⟩, hk⟩⟩ := step1_out d
  · obtain ⟨e, h1, h2⟩ := h
    rw [e]
    exact ⟨f.len, f.p, f.g, f.f, f.past, f.oth, f.own.kind, f.own.begun, f.own.ofin, f.own.oret, f.own.quiet, h2, f1, f2, .inl ⟨h1, f.fin, f.ret, f.last⟩⟩
  · rw [h]
    have hj : j < s'.ops.length := by rw [f.len]; exact d.lt
    have ho := endO_op hj
    have fl := endO_flds (s := s') (j := j)
    have er := endO_res hj
    refine ⟨by rw [endO_len, f.len], fl.1.trans f.p, fl.2.1.trans f.g, fl.2.2.1.trans f.f, fl.2.2.2.trans f.past, fun i hi hn => by rw [endO_ne hn]; exact f.oth i hi hn, by rw [ho]; exact f.own.kind, by rw [ho]; exact f.own.begun, by rw [ho]; exact f.own.ofin, by rw [ho]; exact f.own.oret, by rw [ho]; exact f.own.quiet, ?_, ?_, ?_, .inr ⟨by rw [ho]; rfl, by rw [ho]; show some (s'.past.length : Int) = _; rw [f.past], v, by rw [ho]; exact hv, ?_, ?_⟩⟩
    · rw [ho]
      refine OpI_over (.inr rfl) (by rw [f.own.kind]; exact d.op.kd) (fun x => ?_) fun _ => ⟨v, hv⟩
      rw [f.own.kind] at x
      obtain ⟨k, hk⟩ := hk x
      exact ⟨k, hk, fun _ => ⟨v, hv⟩⟩
    · rw [endO_fl]
      intro x
      rw [f1 x]
      split <;> rfl
    · rw [endO_fl]
      intro i x
      split at x
      · cases x
      · exact f2 i x
    · intro x
      have := er.1 (by rw [f.own.kind]; exact x)
      rw [hv] at this
      rw [this.1, this.2.1, this.2.2, f.fin, f.ret, f.last]
      exact ⟨rfl, rfl, rfl⟩
    · intro x
      have := er.2 (by rw [f.own.kind]; exact x)
      rw [hv] at this
      rw [this.1, this.2.1, this.2.2, f.fin, f.ret]
      exact ⟨rfl, rfl, rfl⟩
/-- a step in sum, the law's -/
structure Sl1 (t t' : St) (j : Nat) : Prop where
  past : t'.past = t.past
  p : t'.p = t.p
  oth : ∀ i, i < t.ops.length → i ≠ j → (t'.op i).ended = (t.op i).ended
  own1 : uw (t'.op j) = true → (t'.op j).ended = (t.op j).ended
  own2 : uw (t'.op j) = false → (t'.op j).ended = some (t.past.length : Int)
theorem lstep1_sm (d : Due t w j) : Sl1 t (t.lstep1 w j) j := by
  obtain ⟨t', f, ⟨e, h1⟩ | ⟨st, h1, e⟩⟩ := lstep1_out d
  · rw [e]
    exact ⟨f.past, f.p, fun i hi hn => (f.oth i hi hn).ended, fun _ => f.own.ended, fun x => by rw [h1] at x; cases x⟩
  · rw [e]
    have hj : j < t'.ops.length := by rw [f.len]; exact d.lt
    have ho := lend_op (st := st) hj
    refine ⟨lend_past.trans f.past, lend_p.trans f.p, fun i hi hn => by rw [lend_ne hn]; exact (f.oth i hi hn).ended, fun x => ?_, fun _ => ?_⟩
    · exfalso
      rw [ho] at x
      rcases h1 with rfl | rfl <;> simp [uw] at x
    · rw [ho]
      show some (t'.past.length : Int) = _
      rw [f.past]
end

end CH

namespace CH
open PySem L2
section
variable {s t u s' t' : St} {j i n : Nat} {w g p : String} {o o' : Op} {T : Int}
/-- an operation of a kind that has ended ahead of a time, with its version -/
def isE (kd : String) (T v : Int) (o : Op) : Prop := o.kind = kd ∧ o.stage = "ended" ∧ (∃ e, o.ended = some e ∧ e < T) ∧ o.ver = some v
structure Mx (s : St) (kd : String) (T M : Int) : Prop where
  nn : 0 ≤ M
  le : ∀ i, i < s.ops.length → ∀ v, isE kd T v (s.op i) → v ≤ M
  ex : M = 0 ∨ ∃ i, i < s.ops.length ∧ isE kd T M (s.op i)
theorem Mx.of {kd : String} {M T' : Int} (h : Mx s kd T M) (e : ∀ i v, (i < s'.ops.length ∧ isE kd T' v (s'.op i)) ↔ (i < s.ops.length ∧ isE kd T v (s.op i))) : Mx s' kd T' M := by
  refine ⟨h.nn, fun i hi v hv => ?_, ?_⟩
  · obtain ⟨a, b⟩ := (e i v).mp ⟨hi, hv⟩
    exact h.le i a v b
  · rcases h.ex with x | ⟨i, hi, hv⟩
    · exact .inl x
    · exact .inr ⟨i, (e i M).mpr ⟨hi, hv⟩⟩
theorem isE_mild {kd : String} {v : Int} (m : Mild o o') : isE kd T v o' ↔ isE kd T v o := by
  unfold isE
  rw [m.kind, m.stage, m.ended, m.ver]
/-- the program's run and the law's, when an operation's step is to come -/
structure K (s t : St) (T : Int) (j : Nat) : Prop where
  co : s.co = t.co
  okp : okP s.p = true
  okg : okG s.g = true
  past : (s.past.length : Int) = T
  ln : s.ops.length ≤ s.past.length + 1
  op : ∀ i, i < s.ops.length → OpI s.g s.p s.ops.length (s.op i)
  bg : ∀ i, i < s.ops.length → i ≠ j → (s.op i).begun < T
  bgj : j < s.ops.length → (s.op j).begun ≤ T
  en : ∀ i, i < s.ops.length → (s.op i).stage = "ended" → ∃ e, (s.op i).ended = some e ∧ e < T
  ov : ∀ i, i < s.ops.length → (uw (s.op i) = true → (t.op i).ended = none) ∧ (uw (s.op i) = false → ∃ e, (t.op i).ended = some e ∧ e < T)
  mx : ∀ i, i < s.ops.length → Mx s "write" (s.op i).begun (s.op i).ofin ∧ Mx s "read" (s.op i).begun (s.op i).oret
  fr : Mx s "write" T s.fin ∧ Mx s "read" T s.ret
  ls : s.last = none
  qt : ∀ i, i < s.ops.length → (s.op i).kind = "read" → uw (s.op i) = true → ((s.op i).quiet = true ↔ ∀ k, k < s.ops.length → (s.op k).kind = "write" → ∃ e, (t.op k).ended = some e ∧ e ≤ (s.op i).begun)
/-- the program's run and the law's, between events -/
structure J (s t : St) : Prop where
  co : s.co = t.co
  okp : okP s.p = true
  okg : okG s.g = true
  fl1 : s.f ≠ "shared" → s.flight = none
  fl2 : ∀ i, s.flight = some i → ∃ l : Nat, i = (l : Int) ∧ l < s.ops.length
  ln : s.ops.length ≤ s.past.length
  op : ∀ i, i < s.ops.length → OpI s.g s.p s.ops.length (s.op i)
  bg : ∀ i, i < s.ops.length → (s.op i).begun < s.past.length
  en : ∀ i, i < s.ops.length → (s.op i).stage = "ended" → ∃ e, (s.op i).ended = some e ∧ e < s.past.length
  ov : ∀ i, i < s.ops.length → (uw (s.op i) = true → (t.op i).ended = none) ∧ (uw (s.op i) = false → ∃ e, (t.op i).ended = some e ∧ e < s.past.length)
  mx : ∀ i, i < s.ops.length → Mx s "write" (s.op i).begun (s.op i).ofin ∧ Mx s "read" (s.op i).begun (s.op i).oret
  fr : Mx s "write" s.past.length s.fin ∧ Mx s "read" s.past.length s.ret
  ls : ∀ i, s.last = some i → i < s.ops.length ∧ (s.op i).kind = "read" ∧ (s.op i).stage = "ended" ∧ (s.op i).ended = some ((s.past.length : Int) - 1) ∧ ∀ k, k < s.ops.length → (s.op k).kind = "write" → (s.op k).begun < (s.past.length : Int) - 1
  l2 : ∀ i, i < s.ops.length → (s.op i).kind = "read" → (s.op i).stage = "ended" → (s.op i).ended = some ((s.past.length : Int) - 1) → s.last = some i
  qt : ∀ i, i < s.ops.length → (s.op i).kind = "read" → (uw (s.op i) = true ∨ s.last = some i) → ((s.op i).quiet = true ↔ ∀ k, k < s.ops.length → (s.op k).kind = "write" → ∃ e, (t.op k).ended = some e ∧ e ≤ (s.op i).begun)
theorem uw_mild (m : Mild o o') : uw o' = uw o := by unfold uw; rw [m.stage]
theorem notE_uw {kd : String} {v : Int} (h : uw o = true) : ¬ isE kd T v o := fun x => (uw_stage h).1 x.2.1
theorem J_after (k : K s t T j) (a : Sm s s' j) (b : Sl1 t t' j) (co : s'.co = t'.co) (hj : j < s.ops.length) (hu : uw (s.op j) = true) (e : Evt) : J (s'.wPast (s'.past ++ [e])) (t'.wPast (t'.past ++ [e])) := by
  have hpl : (((s'.past ++ [e]).length : Nat) : Int) = T + 1 := by
    rw [List.length_append, a.past, ← k.past]
    simp
  have hpt : (t.past.length : Int) = T := by rw [← (co_flds k.co).past]; exact k.past
  have hlt : t.ops.length = s.ops.length := (co_len k.co).symm
  have hT : (s.past.length : Int) = T := k.past
  -- an operation of a kind ended ahead of a time that is not behind now
  have isE1 : ∀ kd i v T', T' ≤ T → ((i < s'.ops.length ∧ isE kd T' v (s'.op i)) ↔ (i < s.ops.length ∧ isE kd T' v (s.op i))) := by
    intro kd i v T' hT'
    rw [a.len]
    by_cases hi : i < s.ops.length
    · by_cases hij : i = j
      · subst hij
        refine ⟨fun x => ?_, fun x => absurd x.2 (notE_uw hu)⟩
        exfalso
        obtain ⟨_, x2, ⟨q, x3, x4⟩, _⟩ := x.2
        rcases a.alt with y | ⟨_, y, _⟩
        · exact y.1 x2
        · rw [y] at x3
          have := Option.some.inj x3
          omega
      · rw [isE_mild (a.oth i hi hij)]
    · exact ⟨fun x => absurd x.1 hi, fun x => absurd x.1 hi⟩
  have isE2 : ∀ kd i v, i ≠ j → ((i < s'.ops.length ∧ isE kd (T + 1) v (s'.op i)) ↔ (i < s.ops.length ∧ isE kd T v (s.op i))) := by
    intro kd i v hij
    rw [a.len]
    refine ⟨fun x => ⟨x.1, ?_⟩, fun x => ⟨x.1, ?_⟩⟩
    · have := (isE_mild (a.oth i x.1 hij)).mp x.2
      obtain ⟨y1, y2, ⟨q, y3, y4⟩, y5⟩ := this
      obtain ⟨q', z1, z2⟩ := k.en i x.1 y2
      exact ⟨y1, y2, ⟨q', z1, z2⟩, y5⟩
    · refine (isE_mild (a.oth i x.1 hij)).mpr ?_
      obtain ⟨y1, y2, ⟨q, y3, y4⟩, y5⟩ := x.2
      exact ⟨y1, y2, ⟨q, y3, by omega⟩, y5⟩
  have mxSame : ∀ kd M, (∀ v, ¬ isE kd (T + 1) v (s'.op j)) → Mx s kd T M → Mx s' kd (T + 1) M := by
    intro kd M hno h
    refine h.of fun i v => ?_
    by_cases hij : i = j
    · subst hij
      exact ⟨fun x => absurd x.2 (hno v), fun x => absurd x.2 (notE_uw hu)⟩
    · exact isE2 kd i v hij
  have mxNew : ∀ kd M v, isE kd (T + 1) v (s'.op j) → Mx s kd T M → Mx s' kd (T + 1) (imax M v) := by
    intro kd M v hv h
    have hun : ∀ v', isE kd (T + 1) v' (s'.op j) → v' = v := by
      intro v' hv'
      have h1 := hv'.2.2.2
      rw [hv.2.2.2] at h1
      exact (Option.some.inj h1).symm
    refine ⟨?_, fun i hi v' hv' => ?_, ?_⟩
    · have := h.nn
      unfold imax
      split <;> omega
    · by_cases hij : i = j
      · subst hij
        rw [hun v' hv']
        unfold imax
        split <;> omega
      · obtain ⟨x1, x2⟩ := (isE2 kd i v' hij).mp ⟨hi, hv'⟩
        have := h.le i x1 v' x2
        unfold imax
        split <;> omega
    · unfold imax
      split
      · exact .inr ⟨j, by rw [a.len]; exact hj, hv⟩
      · rcases h.ex with x | ⟨i, hi, hv'⟩
        · exact .inl x
        · refine .inr ⟨i, ?_⟩
          have hij : i ≠ j := by rintro rfl; exact notE_uw hu hv'
          exact (isE2 kd i M hij).mpr ⟨hi, hv'⟩
  have ovN : ∀ i, i < s.ops.length → (uw (s'.op i) = true → (t'.op i).ended = none) ∧ (uw (s'.op i) = false → ∃ e, (t'.op i).ended = some e ∧ e < T + 1) := by
    intro i hi
    have hst : uw (s'.op i) = uw (t'.op i) := by
      have := (co_opE co (j := i) (by rw [a.len]; exact hi)).stage
      unfold uw
      rw [this]
    by_cases hij : i = j
    · subst hij
      refine ⟨fun x => ?_, fun x => ?_⟩
      · rw [b.own1 (by rw [← hst]; exact x)]
        exact (k.ov i hi).1 hu
      · refine ⟨T, ?_, by omega⟩
        rw [b.own2 (by rw [← hst]; exact x), hpt]
    · rw [b.oth i (by rw [hlt]; exact hi) hij, uw_mild (a.oth i hi hij)]
      refine ⟨(k.ov i hi).1, fun x => ?_⟩
      obtain ⟨q, x1, x2⟩ := (k.ov i hi).2 x
      exact ⟨q, x1, by omega⟩
  have enN : ∀ i, i < s.ops.length → (s'.op i).stage = "ended" → ∃ e, (s'.op i).ended = some e ∧ e < T + 1 := by
    intro i hi hs
    by_cases hij : i = j
    · subst hij
      rcases a.alt with y | ⟨_, y, _⟩
      · exact absurd hs y.1
      · exact ⟨T, by rw [y, hT], by omega⟩
    · have m := a.oth i hi hij
      rw [m.stage] at hs
      obtain ⟨q, x1, x2⟩ := k.en i hi hs
      exact ⟨q, by rw [m.ended]; exact x1, by omega⟩
  have kd' : ∀ i, i < s.ops.length → (s'.op i).kind = (s.op i).kind ∧ (s'.op i).begun = (s.op i).begun ∧ (s'.op i).ofin = (s.op i).ofin ∧ (s'.op i).oret = (s.op i).oret ∧ (s'.op i).quiet = (s.op i).quiet := by
    intro i hi
    by_cases hij : i = j
    · subst hij
      exact ⟨a.kind, a.begun, a.ofin, a.oret, a.quiet⟩
    · have m := a.oth i hi hij
      exact ⟨m.kind, m.begun, m.ofin, m.oret, m.quiet⟩
  have bgT : ∀ i, i < s.ops.length → (s.op i).begun ≤ T := by
    intro i hi
    by_cases hij : i = j
    · subst hij; exact k.bgj hi
    · have := k.bg i hi hij; omega
  have lastJ : ∀ i, s'.last = some i → i = j ∧ (s.op j).kind ≠ "write" ∧ (s'.op j).stage = "ended" ∧ (s'.op j).ended = some T := by
    intro i hi
    rcases a.alt with ⟨_, _, _, y⟩ | ⟨y1, y2, v, y3, y4, y5⟩
    · rw [y, k.ls] at hi; cases hi
    · by_cases hk : (s.op j).kind = "write"
      · rw [(y4 hk).2.2, k.ls] at hi; cases hi
      · rw [(y5 hk).2.2] at hi
        exact ⟨(Option.some.inj hi).symm, hk, y1, by rw [y2, hT]⟩
  have kdr : (s.op j).kind ≠ "write" → (s.op j).kind = "read" := fun x => (k.op j hj).kd.resolve_right x
  -- writes ended ahead of a read's beginning
  have qtN : ∀ i, i < s.ops.length → (s.op i).kind = "read" → uw (s.op i) = true → ((∀ m, m < s.ops.length → (s.op m).kind = "write" → ∃ q, (t.op m).ended = some q ∧ q ≤ (s.op i).begun) ↔ (∀ m, m < s.ops.length → (s'.op m).kind = "write" → ∃ q, (t'.op m).ended = some q ∧ q ≤ (s.op i).begun)) := by
    intro i hi hk hui
    have key : ∀ m, m < s.ops.length → (((s.op m).kind = "write" → ∃ q, (t.op m).ended = some q ∧ q ≤ (s.op i).begun) ↔ ((s'.op m).kind = "write" → ∃ q, (t'.op m).ended = some q ∧ q ≤ (s.op i).begun)) := by
      intro m hm
      rw [(kd' m hm).1]
      by_cases hmj : m = j
      · subst hmj
        by_cases hmw : (s.op m).kind = "write"
        · have hne : i ≠ m := by rintro rfl; rw [hk] at hmw; exact absurd hmw (by decide)
          have hb := k.bg i hi hne
          have h1 := (k.ov m hm).1 hu
          refine ⟨fun x => ?_, fun x => ?_⟩
          · obtain ⟨q, x1, _⟩ := x hmw
            rw [h1] at x1
            cases x1
          · exfalso
            obtain ⟨q, x1, x2⟩ := x hmw
            cases hux : uw (t'.op m) with
            | true =>
              rw [b.own1 hux, h1] at x1
              cases x1
            | false =>
              rw [b.own2 hux, hpt] at x1
              have := Option.some.inj x1
              omega
        · exact ⟨fun _ x => absurd x hmw, fun _ x => absurd x hmw⟩
      · rw [b.oth m (by rw [hlt]; exact hm) hmj]
    exact ⟨fun x m hm => (key m hm).mp (x m hm), fun x m hm => (key m hm).mpr (x m hm)⟩
  have hle : ∀ kd M T', Mx s' kd T' M → Mx (s'.wPast (s'.past ++ [e])) kd T' M := fun kd M T' h => h.of fun i v => Iff.rfl
  refine ⟨?_, ?_, ?_, ?_, ?_, ?_, ?_, ?_, ?_, ?_, ?_, ?_, ?_, ?_, ?_⟩
  · rw [(co_flds co).past]
    exact co_wPast co
  · show okP s'.p = true
    rw [a.p]; exact k.okp
  · show okG s'.g = true
    rw [a.g]; exact k.okg
  · show s'.f ≠ "shared" → s'.flight = none
    rw [a.f]; exact a.fl1
  · show ∀ i, s'.flight = some i → ∃ l : Nat, i = (l : Int) ∧ l < s'.ops.length
    rw [a.len]; exact a.fl2
  · show s'.ops.length ≤ (s'.past ++ [e]).length
    rw [a.len, List.length_append, a.past]
    exact k.ln
  · intro i hi
    have hi : i < s'.ops.length := hi
    rw [a.len] at hi
    show OpI s'.g s'.p s'.ops.length (s'.op i)
    rw [a.g, a.p, a.len]
    by_cases hij : i = j
    · subst hij; exact a.op
    · exact (k.op i hi).mild (a.oth i hi hij)
  · intro i hi
    have hi : i < s'.ops.length := hi
    rw [a.len] at hi
    show (s'.op i).begun < (((s'.past ++ [e]).length : Nat) : Int)
    rw [hpl, (kd' i hi).2.1]
    have := bgT i hi
    omega
  · intro i hi
    have hi : i < s'.ops.length := hi
    rw [a.len] at hi
    show (s'.op i).stage = "ended" → ∃ q, (s'.op i).ended = some q ∧ q < (((s'.past ++ [e]).length : Nat) : Int)
    rw [hpl]
    exact enN i hi
  · intro i hi
    have hi : i < s'.ops.length := hi
    rw [a.len] at hi
    show (uw (s'.op i) = true → (t'.op i).ended = none) ∧ (uw (s'.op i) = false → ∃ q, (t'.op i).ended = some q ∧ q < (((s'.past ++ [e]).length : Nat) : Int))
    rw [hpl]
    exact ovN i hi
  · intro i hi
    have hi : i < s'.ops.length := hi
    rw [a.len] at hi
    refine ⟨hle _ _ _ ?_, hle _ _ _ ?_⟩
    · show Mx s' "write" (s'.op i).begun (s'.op i).ofin
      rw [(kd' i hi).2.1, (kd' i hi).2.2.1]
      exact (k.mx i hi).1.of fun m v => isE1 _ m v _ (bgT i hi)
    · show Mx s' "read" (s'.op i).begun (s'.op i).oret
      rw [(kd' i hi).2.1, (kd' i hi).2.2.2.1]
      exact (k.mx i hi).2.of fun m v => isE1 _ m v _ (bgT i hi)
  · show Mx (s'.wPast (s'.past ++ [e])) "write" (((s'.past ++ [e]).length : Nat) : Int) s'.fin ∧ Mx (s'.wPast (s'.past ++ [e])) "read" (((s'.past ++ [e]).length : Nat) : Int) s'.ret
    rw [hpl]
    refine ⟨hle _ _ _ ?_, hle _ _ _ ?_⟩
    · rcases a.alt with ⟨y, z, _, _⟩ | ⟨y1, y2, v, y3, y4, y5⟩
      · rw [z]
        exact mxSame _ _ (fun v x => y x.2.1) k.fr.1
      · by_cases hk : (s.op j).kind = "write"
        · rw [(y4 hk).1]
          exact mxNew _ _ _ ⟨by rw [a.kind]; exact hk, y1, ⟨T, by rw [y2, hT], by omega⟩, y3⟩ k.fr.1
        · rw [(y5 hk).1]
          exact mxSame _ _ (fun v x => hk (by rw [← a.kind]; exact x.1)) k.fr.1
    · rcases a.alt with ⟨y, _, z, _⟩ | ⟨y1, y2, v, y3, y4, y5⟩
      · rw [z]
        exact mxSame _ _ (fun v x => y x.2.1) k.fr.2
      · by_cases hk : (s.op j).kind = "write"
        · rw [(y4 hk).2.1]
          refine mxSame _ _ (fun v x => ?_) k.fr.2
          have := x.1
          rw [a.kind, hk] at this
          exact absurd this (by decide)
        · rw [(y5 hk).2.1]
          exact mxNew _ _ _ ⟨by rw [a.kind]; exact kdr hk, y1, ⟨T, by rw [y2, hT], by omega⟩, y3⟩ k.fr.2
  · intro i hi
    obtain ⟨rfl, h1, h2, h3⟩ := lastJ i hi
    refine ⟨by show i < s'.ops.length; rw [a.len]; exact hj, by show (s'.op i).kind = _; rw [a.kind]; exact kdr h1, h2, ?_, ?_⟩
    · show (s'.op i).ended = some ((((s'.past ++ [e]).length : Nat) : Int) - 1)
      rw [hpl, h3]
      congr 1
      omega
    · intro m hm hk
      have hm : m < s'.ops.length := hm
      rw [a.len] at hm
      have hk : (s'.op m).kind = "write" := hk
      rw [(kd' m hm).1] at hk
      have hmj : m ≠ i := by rintro rfl; exact h1 hk
      show (s'.op m).begun < (((s'.past ++ [e]).length : Nat) : Int) - 1
      rw [hpl, (kd' m hm).2.1]
      have := k.bg m hm hmj
      omega
  · intro i hi hk hs he
    have hi : i < s'.ops.length := hi
    rw [a.len] at hi
    have hk : (s'.op i).kind = "read" := hk
    have hs : (s'.op i).stage = "ended" := hs
    have he : (s'.op i).ended = some ((((s'.past ++ [e]).length : Nat) : Int) - 1) := he
    rw [hpl] at he
    show s'.last = some i
    by_cases hij : i = j
    · subst hij
      rcases a.alt with ⟨y, _⟩ | ⟨y1, y2, v, y3, y4, y5⟩
      · exact absurd hs y
      · rw [a.kind] at hk
        exact (y5 (kind_rw hk)).2.2
    · have m := a.oth i hi hij
      rw [m.stage] at hs
      rw [m.ended] at he
      obtain ⟨q, x1, x2⟩ := k.en i hi hs
      rw [x1] at he
      have := Option.some.inj he
      omega
  · intro i hi hk hx
    have hi : i < s'.ops.length := hi
    rw [a.len] at hi
    have hk : (s'.op i).kind = "read" := hk
    rw [(kd' i hi).1] at hk
    have hui : uw (s.op i) = true := by
      by_cases hij : i = j
      · subst hij; exact hu
      · rcases hx with x | x
        · have x : uw (s'.op i) = true := x
          rw [uw_mild (a.oth i hi hij)] at x
          exact x
        · exact absurd (lastJ i x).1 hij
    show (s'.op i).quiet = true ↔ ∀ m, m < s'.ops.length → (s'.op m).kind = "write" → ∃ q, (t'.op m).ended = some q ∧ q ≤ (s'.op i).begun
    rw [(kd' i hi).2.2.2.2, (kd' i hi).2.1, a.len]
    exact (k.qt i hi hk hui).trans (qtN i hi hk hui)
end

end CH

namespace CH
open PySem L2
section
variable {s t u s' t' : St} {j i n : Nat} {w g p kind : String} {o o' : Op} {T : Int}
def unqk (kind : String) (o : Op) : Op := if kind = "write" then unq o else o
structure Alm (o o' : Op) : Prop where
  kind : o'.kind = o.kind
  stage : o'.stage = o.stage
  ver : o'.ver = o.ver
  begun : o'.begun = o.begun
  ended : o'.ended = o.ended
  step : o'.step = o.step
  leader : o'.leader = o.leader
  ofin : o'.ofin = o.ofin
  oret : o'.oret = o.oret
theorem unqk_alm : Alm o (unqk kind o) := by
  unfold unqk unq
  split
  · split <;> exact ⟨rfl, rfl, rfl, rfl, rfl, rfl, rfl, rfl, rfl⟩
  · exact ⟨rfl, rfl, rfl, rfl, rfl, rfl, rfl, rfl, rfl⟩
theorem begin_op_lt (hi : i < s.ops.length) : (s.beginO kind).op i = unqk kind (s.op i) := by
  unfold St.beginO St.op unqk
  have hl : i < (s.begin0 kind).ops.length := by rw [begin0_len]; exact hi
  rw [wOps_ops, List.getD, List.getElem?_append_left hl]
  unfold St.begin0
  split
  · simp [List.getD, List.getElem?_eq_getElem hi]
  · rfl
theorem begin_op_new : (s.beginO kind).op s.ops.length = (s.begin0 kind).newOp kind := by
  unfold St.beginO St.op
  have hl : (s.begin0 kind).ops.length = s.ops.length := begin0_len
  rw [wOps_ops, List.getD, List.getElem?_append_right (by rw [hl]; exact Nat.le_refl _), hl]
  simp
theorem beginO_flds : (s.beginO kind).p = s.p ∧ (s.beginO kind).g = s.g ∧ (s.beginO kind).f = s.f ∧ (s.beginO kind).flight = s.flight ∧ (s.beginO kind).past = s.past ∧ (s.beginO kind).fin = s.fin ∧ (s.beginO kind).ret = s.ret ∧ (s.beginO kind).last = s.last := by
  unfold St.beginO St.begin0
  refine ⟨?_, ?_, ?_, ?_, ?_, ?_, ?_, ?_⟩ <;> split <;> rfl
theorem begin0_flds : (s.begin0 kind).p = s.p ∧ (s.begin0 kind).past = s.past ∧ (s.begin0 kind).fin = s.fin ∧ (s.begin0 kind).ret = s.ret := by
  unfold St.begin0
  refine ⟨?_, ?_, ?_, ?_⟩ <;> split <;> rfl
theorem isWr_iff : s.isWr = true ↔ ∃ k, k < s.ops.length ∧ uw (s.op k) = true ∧ (s.op k).kind = "write" := by
  unfold St.isWr St.uwL
  simp only [List.any_eq_true, List.mem_filter, List.mem_range, decide_eq_true_eq]
  exact ⟨fun ⟨k, ⟨a, b⟩, c⟩ => ⟨k, a, b, c⟩, fun ⟨k, a, b, c⟩ => ⟨k, ⟨a, b⟩, c⟩⟩
theorem K_old (h : J s t) (hj : j < s.ops.length) : K (s.wLast none) t s.past.length j :=
  ⟨h.co, h.okp, h.okg, rfl, Nat.le_succ_of_le h.ln, h.op, fun i hi _ => h.bg i hi, fun hi => Int.le_of_lt (h.bg j hi), h.en, h.ov, fun i hi => ⟨(h.mx i hi).1.of fun _ _ => Iff.rfl, (h.mx i hi).2.of fun _ _ => Iff.rfl⟩, ⟨h.fr.1.of fun _ _ => Iff.rfl, h.fr.2.of fun _ _ => Iff.rfl⟩, rfl, fun i hi hk hu => h.qt i hi hk (.inl hu)⟩
theorem newL_op_lt (hi : i < t.ops.length) {o : Op} : (t.wOps (t.ops ++ [o])).op i = t.op i := by
  unfold St.op
  rw [wOps_ops, List.getD, List.getElem?_append_left hi]
  rfl
theorem newL_op_new {o : Op} : (t.wOps (t.ops ++ [o])).op t.ops.length = o := by
  unfold St.op
  rw [wOps_ops, List.getD, List.getElem?_append_right (Nat.le_refl _)]
  simp
theorem K_new (h : J s t) (hw : (kind = "read" ∧ w = "look") ∨ (kind = "write" ∧ w = (stepsP s.p).getD 0 "")) (co : ((s.wLast none).beginO kind).co = (t.wOps (t.ops ++ [t.newL w])).co) : K ((s.wLast none).beginO kind) (t.wOps (t.ops ++ [t.newL w])) s.past.length s.ops.length ∧ Due ((s.wLast none).beginO kind) w s.ops.length := by
  have fl := beginO_flds (s := s.wLast none) (kind := kind)
  have hlen : ((s.wLast none).beginO kind).ops.length = s.ops.length + 1 := begin_len
  have hlt : t.ops.length = s.ops.length := (co_len h.co).symm
  have oN : ((s.wLast none).beginO kind).op s.ops.length = ((s.wLast none).begin0 kind).newOp kind := begin_op_new (s := s.wLast none)
  have oL : ∀ i, i < s.ops.length → ((s.wLast none).beginO kind).op i = unqk kind (s.op i) := fun i hi => begin_op_lt (s := s.wLast none) hi
  have f0 := begin0_flds (s := s.wLast none) (kind := kind)
  generalize hs0 : (s.wLast none).beginO kind = s0 at *
  have nk : (s0.op s.ops.length).kind = kind := by rw [oN]; rfl
  have nst : (s0.op s.ops.length).stage = w := by
    rw [oN]
    show (if kind = "read" then "look" else (stepsP ((s.wLast none).begin0 kind).p).getD 0 "") = w
    rw [f0.1]
    rcases hw with ⟨rfl, rfl⟩ | ⟨rfl, e⟩
    · rfl
    · rw [if_neg (by decide)]; exact e.symm
  have nbg : (s0.op s.ops.length).begun = s.past.length := by
    rw [oN]
    show ((((s.wLast none).begin0 kind).past.length : Nat) : Int) = _
    rw [f0.2.1]; rfl
  have nof : (s0.op s.ops.length).ofin = s.fin := by
    rw [oN]; exact f0.2.2.1
  have nor : (s0.op s.ops.length).oret = s.ret := by
    rw [oN]; exact f0.2.2.2
  have nq : (s0.op s.ops.length).quiet = !((s.wLast none).begin0 kind).isWr := by rw [oN]; rfl
  have nstep : (s0.op s.ops.length).step = 0 := by rw [oN]; rfl
  have wst : w ≠ "ended" ∧ w ≠ "stopped" ∧ w ≠ "waits" ∧ w ≠ "fill" := by
    rcases hw with ⟨_, rfl⟩ | ⟨_, rfl⟩
    · decide
    · have sw := stepsP_word s.p 0
      exact ⟨sw.1, sw.2.1, sw.2.2.2.1, sw.2.2.2.2.1⟩
  have nuw : uw (s0.op s.ops.length) = true := uw_of wst.1 wst.2.1 nst
  have al : ∀ i, i < s.ops.length → Alm (s.op i) (s0.op i) := fun i hi => by rw [oL i hi]; exact unqk_alm
  have alu : ∀ i, i < s.ops.length → uw (s0.op i) = uw (s.op i) := fun i hi => by unfold uw; rw [(al i hi).stage]
  have split : ∀ i, i < s0.ops.length → i < s.ops.length ∨ i = s.ops.length := by
    intro i hi
    rw [hlen] at hi
    omega
  have tL : ∀ i, i < s.ops.length → (t.wOps (t.ops ++ [t.newL w])).op i = t.op i := fun i hi => newL_op_lt (by rw [hlt]; exact hi)
  have tN : (t.wOps (t.ops ++ [t.newL w])).op s.ops.length = t.newL w := by rw [← hlt]; exact newL_op_new
  have okp0 : okP s0.p = true := by rw [fl.1]; exact h.okp
  have okg0 : okG s0.g = true := by rw [fl.2.1]; exact h.okg
  have opN : OpI s0.g s0.p s0.ops.length (s0.op s.ops.length) := by
    refine ⟨?_, fun x => ?_, fun _ x => absurd (nst.symm.trans x) wst.2.2.2, fun x => absurd (nst.symm.trans x) wst.1, fun x => absurd (nst.symm.trans x) wst.2.2.1, fun x => ⟨0, nstep, fun _ => ?_, fun y => ?_⟩⟩
    · rw [nk]
      rcases hw with ⟨e, _⟩ | ⟨e, _⟩ <;> simp [e]
    · rw [nk] at x
      rcases hw with ⟨_, e⟩ | ⟨e, _⟩
      · exact .inl (nst.trans e)
      · rw [e] at x; exact absurd x (by decide)
    · rw [nk] at x
      rcases hw with ⟨e, _⟩ | ⟨_, e⟩
      · rw [e] at x; exact absurd x (by decide)
      · rw [fl.1, nst]
        exact ⟨stepsP_pos (s := s), e⟩
    · exfalso
      simp at y
  have opA : ∀ i, i < s0.ops.length → OpI s0.g s0.p s0.ops.length (s0.op i) := by
    intro i hi
    rcases split i hi with x | rfl
    · have a := al i x
      rw [fl.1, fl.2.1]
      exact ((h.op i x).of a.kind a.stage a.ver a.step a.leader).mono (by rw [hlen]; omega)
    · exact opN
  have mxT : ∀ kd M T', Mx s kd T' M → Mx s0 kd T' M := by
    intro kd M T' hm
    refine hm.of fun i v => ?_
    refine ⟨fun x => ?_, fun x => ?_⟩
    · rcases split i x.1 with y | rfl
      · refine ⟨y, ?_⟩
        have a := al i y
        have := x.2
        unfold isE at this ⊢
        rw [a.kind, a.stage, a.ended, a.ver] at this
        exact this
      · exact absurd x.2 (notE_uw nuw)
    · refine ⟨by rw [hlen]; omega, ?_⟩
      have a := al i x.1
      have := x.2
      unfold isE at this ⊢
      rw [a.kind, a.stage, a.ended, a.ver]
      exact this
  refine ⟨⟨co, okp0, okg0, by rw [fl.2.2.2.2.1]; rfl, by rw [hlen, fl.2.2.2.2.1]; exact Nat.succ_le_succ h.ln, opA, ?_, ?_, ?_, ?_, ?_, ?_, by rw [fl.2.2.2.2.2.2.2]; rfl, ?_⟩, ⟨by rw [hlen]; omega, nuw, okp0, okg0, ?_, ?_, opN, .inr (.inl ⟨nst.symm, by rw [nst]; exact wst.2.2.1⟩)⟩⟩
  · intro i hi hn
    rcases split i hi with x | x
    · rw [(al i x).begun]; exact h.bg i x
    · exact absurd x hn
  · intro _
    rw [nbg]
    exact Int.le_refl _
  · intro i hi hs
    rcases split i hi with x | rfl
    · rw [(al i x).stage] at hs
      rw [(al i x).ended]
      exact h.en i x hs
    · exact absurd (nst.symm.trans hs) wst.1
  · intro i hi
    rcases split i hi with x | rfl
    · rw [alu i x, tL i x]
      exact h.ov i x
    · rw [nuw, tN]
      exact ⟨fun _ => rfl, fun x => by cases x⟩
  · intro i hi
    rcases split i hi with x | rfl
    · rw [(al i x).begun, (al i x).ofin, (al i x).oret]
      exact ⟨mxT _ _ _ (h.mx i x).1, mxT _ _ _ (h.mx i x).2⟩
    · rw [nbg, nof, nor]
      exact ⟨mxT _ _ _ h.fr.1, mxT _ _ _ h.fr.2⟩
  · rw [fl.2.2.2.2.2.1, fl.2.2.2.2.2.2.1]
    exact ⟨mxT _ _ _ h.fr.1, mxT _ _ _ h.fr.2⟩
  · intro i hi hk hu
    rcases split i hi with x | rfl
    · have hq := h.qt i x (by rw [← (al i x).kind]; exact hk) (.inl (by rw [← alu i x]; exact hu))
      rw [(al i x).begun]
      rcases hw with ⟨rfl, rfl⟩ | ⟨rfl, hwe⟩
      · have e1 : s0.op i = s.op i := by rw [oL i x]; rfl
        rw [e1]
        refine hq.trans ⟨fun y m hm hmw => ?_, fun y m hm hmw => ?_⟩
        · rcases split m hm with z | rfl
          · rw [(al m z).kind] at hmw
            rw [tL m z]
            exact y m z hmw
          · rw [nk] at hmw; exact absurd hmw (by decide)
        · have := y m (by rw [hlen]; omega) (by rw [(al m hm).kind]; exact hmw)
          rw [tL m hm] at this
          exact this
      · have e1 : (s0.op i).quiet = false := by
          rw [oL i x]
          unfold unqk unq
          rw [if_pos rfl, if_pos (by rw [← alu i x]; exact hu)]
          rfl
        rw [e1]
        refine ⟨fun y => (by cases y), fun y => ?_⟩
        obtain ⟨q, y1, _⟩ := y s.ops.length (by rw [hlen]; omega) nk
        rw [tN] at y1
        cases y1
    · rw [nk] at hk
      subst hk
      have hb : (s.wLast none).begin0 "read" = s.wLast none := by unfold St.begin0; rw [if_neg (by decide)]
      rw [nq, nbg, hb]
      have hi2 : (s.wLast none).isWr = true ↔ ∃ k, k < s.ops.length ∧ uw (s.op k) = true ∧ (s.op k).kind = "write" := isWr_iff
      refine ⟨fun y m hm hmw => ?_, fun y => ?_⟩
      · rcases split m hm with z | rfl
        · rw [(al m z).kind] at hmw
          rw [tL m z]
          cases hum : uw (s.op m) with
          | true =>
            rw [hi2.mpr ⟨m, z, hum, hmw⟩] at y
            cases y
          | false =>
            obtain ⟨q, y1, y2⟩ := (h.ov m z).2 hum
            exact ⟨q, y1, Int.le_of_lt y2⟩
        · rw [nk] at hmw; exact absurd hmw (by decide)
      · cases hwr : (s.wLast none).isWr with
        | false => rfl
        | true =>
          exfalso
          obtain ⟨m, z, hum, hmw⟩ := hi2.mp hwr
          obtain ⟨q, y1, _⟩ := y m (by rw [hlen]; omega) (by rw [(al m z).kind]; exact hmw)
          rw [tL m z, (h.ov m z).1 hum] at y1
          cases y1
  · rw [fl.2.2.1, fl.2.2.2.1]
    exact h.fl1
  · rw [fl.2.2.2.1, hlen]
    intro i x
    obtain ⟨l, a, b⟩ := h.fl2 i x
    exact ⟨l, a, by omega⟩
/-- an event without an operation -/
theorem J_tick (h : J s t) (e : Evt) (h1 : s'.ops = s.ops) (h2 : s'.p = s.p) (h3 : s'.g = s.g) (h4 : s'.f = s.f) (h5 : s'.flight = s.flight) (h6 : s'.fin = s.fin) (h7 : s'.ret = s.ret) (h8 : s'.past = s.past) (h9 : s'.last = none) (ht : t'.ops = t.ops) (co : s'.co = t'.co) : J (s'.wPast (s'.past ++ [e])) (t'.wPast (t'.past ++ [e])) := by
  have hop : ∀ i, s'.op i = s.op i := fun i => op_of_ops h1
  have hot : ∀ i, t'.op i = t.op i := fun i => op_of_ops ht
  have hpl : (((s'.past ++ [e]).length : Nat) : Int) = (s.past.length : Int) + 1 := by
    rw [List.length_append, h8]
    simp
  have hwo : ∀ i, (s'.wPast (s'.past ++ [e])).op i = s.op i := hop
  have hwt : ∀ i, (t'.wPast (t'.past ++ [e])).op i = t.op i := hot
  have hwl : (s'.wPast (s'.past ++ [e])).ops.length = s.ops.length := by show s'.ops.length = _; rw [h1]
  have hpp : (((s'.wPast (s'.past ++ [e])).past.length : Nat) : Int) = (s.past.length : Int) + 1 := hpl
  have mxT : ∀ kd M T', Mx s kd T' M → Mx (s'.wPast (s'.past ++ [e])) kd T' M := fun kd M T' hm => hm.of fun i v => by rw [hwl, hwo]
  have mxU : ∀ kd M, Mx s kd s.past.length M → Mx (s'.wPast (s'.past ++ [e])) kd ((s.past.length : Int) + 1) M := by
    intro kd M hm
    refine hm.of fun i v => ?_
    rw [hwl, hwo]
    refine ⟨fun ⟨x, y1, y2, ⟨q, y3, y4⟩, y5⟩ => ?_, fun ⟨x, y1, y2, ⟨q, y3, y4⟩, y5⟩ => ⟨x, y1, y2, ⟨q, y3, by omega⟩, y5⟩⟩
    obtain ⟨q', z1, z2⟩ := h.en i x y2
    exact ⟨x, y1, y2, ⟨q', z1, z2⟩, y5⟩
  refine ⟨by rw [(co_flds co).past]; exact co_wPast co, by show okP s'.p = true; rw [h2]; exact h.okp, by show okG s'.g = true; rw [h3]; exact h.okg, by show s'.f ≠ "shared" → s'.flight = none; rw [h4, h5]; exact h.fl1, by rw [hwl]; show ∀ i, s'.flight = some i → _; rw [h5]; exact h.fl2, ?_, ?_, ?_, ?_, ?_, ?_, ?_, ?_, ?_, ?_⟩
  · rw [hwl]
    show s.ops.length ≤ (s'.past ++ [e]).length
    rw [List.length_append, h8]
    exact Nat.le_succ_of_le h.ln
  · intro i hi
    rw [hwl] at hi ⊢
    rw [hwo]
    show OpI s'.g s'.p _ _
    rw [h3, h2]
    exact h.op i hi
  · intro i hi
    rw [hwl] at hi
    rw [hwo, hpp]
    have := h.bg i hi
    omega
  · intro i hi hs
    rw [hwl] at hi
    rw [hwo] at hs ⊢
    rw [hpp]
    obtain ⟨q, a, b⟩ := h.en i hi hs
    exact ⟨q, a, by omega⟩
  · intro i hi
    rw [hwl] at hi
    rw [hwo, hwt, hpp]
    refine ⟨(h.ov i hi).1, fun x => ?_⟩
    obtain ⟨q, a, b⟩ := (h.ov i hi).2 x
    exact ⟨q, a, by omega⟩
  · intro i hi
    rw [hwl] at hi
    rw [hwo]
    exact ⟨mxT _ _ _ (h.mx i hi).1, mxT _ _ _ (h.mx i hi).2⟩
  · rw [hpp]
    show Mx _ _ _ s'.fin ∧ Mx _ _ _ s'.ret
    rw [h6, h7]
    exact ⟨mxU _ _ h.fr.1, mxU _ _ h.fr.2⟩
  · intro i x
    have x : s'.last = some i := x
    rw [h9] at x
    cases x
  · intro i hi hk hs he
    exfalso
    rw [hwl] at hi
    rw [hwo] at hs he
    rw [hpp] at he
    obtain ⟨q, a, b⟩ := h.en i hi hs
    rw [a] at he
    have := Option.some.inj he
    omega
  · intro i hi hk hx
    rw [hwl] at hi ⊢
    rw [hwo] at hk hx ⊢
    have hu : uw (s.op i) = true := by
      rcases hx with x | x
      · exact x
      · have x : s'.last = some i := x
        rw [h9] at x
        cases x
    refine (h.qt i hi hk (.inl hu)).trans ⟨fun y m hm hmw => ?_, fun y m hm hmw => ?_⟩
    · rw [hwo] at hmw
      rw [hwt]
      exact y m hm hmw
    · have := y m hm (by rw [hwo]; exact hmw)
      rw [hwt] at this
      exact this
end

end CH

namespace CH
open PySem L2
section
variable {s t u s' t' : St} {j i n : Nat} {w g p kind : String} {o o' : Op} {T : Int} {e : Evt}
theorem ev_cases (he : e ∈ s.evL) : (∃ w, e = (w, some (s.ops.length : Int)) ∧ (w = "look" ∨ w = (stepsP s.p).getD 0 "")) ∨ (∃ w, ∃ j : Nat, e = (w, some (j : Int)) ∧ j < s.ops.length ∧ uw (s.op j) = true ∧ (w = "stop" ∨ s.next (s.op j) = some w)) ∨ e = ("evict", none) ∨ e = ("copy", none) := by
  unfold St.evL at he
  simp only [List.mem_append, List.mem_cons, List.not_mem_nil, or_false] at he
  rcases he with ((h | h) | h) | h
  · rcases h with h | h
    · exact .inl ⟨_, h, .inl rfl⟩
    · exact .inl ⟨_, h, .inr rfl⟩
  · obtain ⟨j, hj, hm⟩ := List.mem_flatMap.mp h
    have hj1 := uwL_lt hj
    have hj2 : uw (s.op j) = true := (List.mem_filter.mp hj).2
    unfold St.ev1 at hm
    rcases List.mem_append.mp hm with x | x
    · cases hn : s.next (s.op j) with
      | none => rw [hn] at x; simp at x
      | some y =>
        rw [hn] at x
        simp only [List.mem_cons, List.not_mem_nil, or_false] at x
        exact .inr (.inl ⟨y, j, x, hj1, hj2, .inr hn⟩)
    · by_cases hs : s.wk = "stops"
      · rw [if_pos hs] at x
        simp only [List.mem_cons, List.not_mem_nil, or_false] at x
        exact .inr (.inl ⟨_, j, x, hj1, hj2, .inl rfl⟩)
      · rw [if_neg hs] at x
        simp at x
  · split at h
    · simp only [List.mem_cons, List.not_mem_nil, or_false] at h
      exact .inr (.inr (.inl h))
    · simp at h
  · split at h
    · simp only [List.mem_cons, List.not_mem_nil, or_false] at h
      exact .inr (.inr (.inr h))
    · simp at h
theorem due_old (h : J s t) (hj : j < s.ops.length) (hu : uw (s.op j) = true) (hw : w = "stop" ∨ s.next (s.op j) = some w) : Due s w j := by
  refine ⟨hj, hu, h.okp, h.okg, h.fl1, h.fl2, h.op j hj, ?_⟩
  rcases hw with x | x
  · exact .inl x
  · right
    unfold St.next at x
    by_cases hs : (s.op j).stage = "waits"
    · rw [if_pos hs] at x
      right
      obtain ⟨_, l, e1, e2⟩ := (h.op j hj).ld hs
      rw [e1] at x
      have e3 : ((some (l : Int)).getD 0).toNat = l := by simp
      rw [e3] at x
      by_cases he : (s.op l).stage = "ended"
      · rw [if_pos he] at x
        obtain ⟨v, hv⟩ := (h.op l e2).ev he
        exact ⟨(Option.some.inj x).symm, hs, l, v, e1, e2, hv⟩
      · rw [if_neg he] at x
        cases x
    · rw [if_neg hs] at x
      exact .inl ⟨(Option.some.inj x).symm, hs⟩
theorem due_word (d : Due s w j) : w ≠ "evict" ∧ w ≠ "copy" := by
  rcases due_cases d with h | ⟨hs, h, k, e1, e2, e3, e4⟩ | ⟨h, h2⟩
  · rw [h]; decide
  · rw [e3]
    have sw := stepsP_word s.p k
    exact ⟨sw.2.2.2.2.2.2.1, sw.2.2.2.2.2.2.2.1⟩
  · rcases h2 with e | e | ⟨e, _⟩ | ⟨e, _⟩ <;> rw [e] <;> decide
/-- the event can be done: by the program, by the law -/
def stepP (s : St) (e : Evt) : Prop := okE s e ∧ ∀ w i, e = (w, some i) → ((s.wLast none).stepO w i.toNat).past = s.past
def stepL0 (s : St) (e : Evt) : Prop := okL s e ∧ ∀ w i, e = (w, some i) → (s.lstep w i.toNat).past = s.past
theorem J_some (h : J s t) (hj : j ≤ s.ops.length) (k : K ((s.wLast none).step0 w j) (t.lstep0 w j) s.past.length j) (d : Due ((s.wLast none).step0 w j) w j) : stepP s (w, some (j : Int)) ∧ stepL0 t (w, some (j : Int)) ∧ J (s.doE (w, some (j : Int))) (t.doL (w, some (j : Int))) := by
  have dt := due_co k.co d
  have sm := step1_sm d
  have sl := lstep1_sm dt
  have e1 : ((j : Int)).toNat = j := by omega
  have p1 : ((s.wLast none).step0 w j).past = s.past := by
    unfold St.step0
    split
    · exact (beginO_flds (s := s.wLast none)).2.2.2.2.1
    · rfl
  have p2 : (t.lstep0 w j).past = t.past := by
    unfold St.lstep0
    split <;> rfl
  have q1 : ((s.wLast none).stepO w j).past = s.past := by unfold St.stepO; rw [sm.past, p1]
  have q2 : (t.lstep w j).past = t.past := by unfold St.lstep; rw [sl.past, p2]
  refine ⟨⟨⟨(due_word d).1, (due_word d).2, j, rfl, hj, due_okSt d⟩, ?_⟩, ⟨⟨j, rfl, by rw [← co_len h.co]; exact hj, due_okLs dt⟩, ?_⟩, ?_⟩
  · rintro w' i' he
    injection he with a b
    injection b with b
    subst a b
    rw [e1]; exact q1
  · rintro w' i' he
    injection he with a b
    injection b with b
    subst a b
    rw [e1]; exact q2
  · have := J_after k sm sl (co_step1 k.co d.lt (due_ok d)) d.lt d.uw (w, some (j : Int))
    unfold St.doE St.doL
    simp only [e1]
    exact this
theorem J_ev (h : J s t) (he : e ∈ s.evL) : stepP s e ∧ stepL0 t e ∧ J (s.doE e) (t.doL e) := by
  have hlen := co_len h.co
  rcases ev_cases he with ⟨w, rfl, hw⟩ | ⟨w, j, rfl, hj, hu, hw⟩ | rfl | rfl
  · have hc := co_step0 (s := s.wLast none) (t := t) (j := s.ops.length) (w := w) h.co fun _ => hw
    have hkw : ((if w = "look" then "read" else "write") = "read" ∧ w = "look") ∨ ((if w = "look" then "read" else "write") = "write" ∧ w = (stepsP s.p).getD 0 "") := by
      rcases hw with rfl | rfl
      · exact .inl ⟨rfl, rfl⟩
      · exact .inr ⟨if_neg (stepsP_word _ _).2.2.1, rfl⟩
    have e1 : (s.wLast none).step0 w s.ops.length = (s.wLast none).beginO (if w = "look" then "read" else "write") := by
      unfold St.step0
      exact if_pos rfl
    have e2 : t.lstep0 w s.ops.length = t.wOps (t.ops ++ [t.newL w]) := by
      unfold St.lstep0
      rw [if_pos hlen]
    rw [e1, e2] at hc
    obtain ⟨k, d⟩ := K_new h hkw hc
    refine J_some h (Nat.le_refl _) ?_ ?_
    · rw [e1, e2]; exact k
    · rw [e1]; exact d
  · have e1 : (s.wLast none).step0 w j = s.wLast none := by
      unfold St.step0
      rw [if_neg]
      show ¬ j = s.ops.length
      omega
    have e2 : t.lstep0 w j = t := by
      unfold St.lstep0
      rw [if_neg (by omega)]
    refine J_some h (by omega) ?_ ?_
    · rw [e1, e2]; exact K_old h hj
    · rw [e1]
      have d := due_old h hj hu hw
      exact ⟨d.lt, d.uw, d.okp, d.okg, d.fl1, d.fl2, d.op, d.wd⟩
  · refine ⟨⟨.inl rfl, fun w i x => by cases x⟩, ⟨.inl rfl, fun w i x => by cases x⟩, ?_⟩
    refine J_tick (s' := ((s.wLast none).wCache none).wMark 0) (t' := (t.wCache none).wMark 0) h _ rfl rfl rfl rfl rfl rfl rfl rfl rfl rfl ?_
    exact co_wMark (co_wCache (s := s.wLast none) h.co)
  · refine ⟨⟨.inr rfl, fun w i x => by cases x⟩, ⟨.inr rfl, fun w i x => by cases x⟩, ?_⟩
    refine J_tick (s' := (s.wLast none).wRep ((s.wLast none).rep + 1)) (t' := t.wRep (t.rep + 1)) h _ rfl rfl rfl rfl rfl rfl rfl rfl rfl rfl ?_
    have : (s.wLast none).rep = t.rep := (co_flds h.co).rep
    rw [this]
    exact co_wRep (s := s.wLast none) h.co
theorem St.past_doE : (s.doE e).past = s.past ++ [e] ∨ True := .inr trivial
/-- at the beginning -/
theorem J_zero {p g f ws we wk : String} (hp : okP p = true) (hg : okG g = true) : J ⟨p, g, f, ws, we, wk, 0, 0, none, 0, none, [], [], 0, 0, none⟩ ⟨p, g, f, ws, we, wk, 0, 0, none, 0, none, [], [], 0, 0, none⟩ := by
  have no : ∀ i, ¬ i < ([] : List Op).length := fun i h => by simp at h
  have m0 : ∀ kd T, Mx ⟨p, g, f, ws, we, wk, 0, 0, none, 0, none, [], [], 0, 0, none⟩ kd T 0 := fun kd T => ⟨Int.le_refl _, fun i hi => absurd hi (no i), .inl rfl⟩
  exact ⟨rfl, hp, hg, fun _ => rfl, fun i x => (by cases x), Nat.le_refl _, fun i hi => absurd hi (no i), fun i hi => absurd hi (no i), fun i hi => absurd hi (no i), fun i hi => absurd hi (no i), fun i hi => absurd hi (no i), ⟨m0 _ _, m0 _ _⟩, fun i x => (by cases x), fun i hi => absurd hi (no i), fun i hi => absurd hi (no i)⟩
/-- the law's events are the program's -/
theorem lev_ev (h : s.co = t.co) : e ∈ t.lev ↔ e ∈ s.evL := by
  have c := co_flds h
  have hl := co_len h
  have hop : ∀ i, i < s.ops.length → OpE (s.op i) (t.op i) := fun i hi => co_opE h hi
  have huw : s.uwL = t.uwL := by
    unfold St.uwL
    rw [hl]
    refine List.filter_congr fun i hi => ?_
    have := (hop i (by rw [hl]; simpa using hi)).stage
    unfold uw
    rw [this]
  have hled : ∀ i, i < s.ops.length → (s.op i).leader = (t.op i).leader ∧ (s.op i).stage = (t.op i).stage := fun i hi => ⟨(hop i hi).leader, (hop i hi).stage⟩
  have hst : ∀ i, (s.op i).stage = (t.op i).stage := by
    intro i
    by_cases hi : i < s.ops.length
    · exact (hled i hi).2
    · rw [op_none hi, op_none (by omega)]
  have hle : ∀ i, (s.op i).leader = (t.op i).leader := by
    intro i
    by_cases hi : i < s.ops.length
    · exact (hled i hi).1
    · rw [op_none hi, op_none (by omega)]
  have hnx : ∀ i, s.next (s.op i) = t.next (t.op i) := by
    intro i
    unfold St.next
    rw [hst i, hle i, hst]
  have hce : s.canEvict = t.canEvict := by unfold St.canEvict; rw [c.we, c.cache, c.mark]
  have hcc : s.canCopy = t.canCopy := by unfold St.canCopy; rw [c.ws, c.rep, c.db]
  unfold St.lev St.evL
  rw [hl, c.p, huw, hce, hcc]
  simp only [List.mem_append, or_assoc]
  have mid : (e ∈ (t.uwL.filterMap fun (j : Nat) => (t.next (t.op j)).map fun x => ((x, some (j : Int)) : Evt)) ∨ e ∈ (if t.wk = "stops" then t.uwL.map fun (j : Nat) => (("stop", some (j : Int)) : Evt) else [])) ↔ e ∈ t.uwL.flatMap s.ev1 := by
    rw [List.mem_flatMap, List.mem_filterMap]
    have hs : e ∈ (if t.wk = "stops" then t.uwL.map fun (j : Nat) => (("stop", some (j : Int)) : Evt) else []) ↔ (t.wk = "stops" ∧ ∃ j, j ∈ t.uwL ∧ ("stop", some (j : Int)) = e) := by
      by_cases x : t.wk = "stops"
      · rw [if_pos x, List.mem_map]
        exact ⟨fun y => ⟨x, y⟩, fun y => y.2⟩
      · rw [if_neg x]
        exact ⟨fun y => by simp at y, fun y => absurd y.1 x⟩
    rw [hs]
    have h1 : ∀ j, e ∈ s.ev1 j ↔ ((t.next (t.op j)).map (fun x => ((x, some (j : Int)) : Evt)) = some e ∨ (t.wk = "stops" ∧ ("stop", some (j : Int)) = e)) := by
      intro j
      unfold St.ev1
      rw [hnx, c.wk, List.mem_append]
      have a1 : (e ∈ (match t.next (t.op j) with | some x => [((x, some (j : Int)) : Evt)] | none => [])) ↔ ((t.next (t.op j)).map (fun x => ((x, some (j : Int)) : Evt)) = some e) := by
        cases t.next (t.op j) with
        | none => simp
        | some y => simp [eq_comm]
      have a2 : (e ∈ (if t.wk = "stops" then [(("stop", some (j : Int)) : Evt)] else [])) ↔ (t.wk = "stops" ∧ ("stop", some (j : Int)) = e) := by
        by_cases x : t.wk = "stops"
        · simp [x, eq_comm]
        · simp [x]
      exact or_congr a1 a2
    constructor
    · rintro (⟨j, a, b⟩ | ⟨a, j, b, c⟩)
      · exact ⟨j, a, (h1 j).mpr (.inl b)⟩
      · exact ⟨j, b, (h1 j).mpr (.inr ⟨a, c⟩)⟩
    · rintro ⟨j, a, b⟩
      rcases (h1 j).mp b with x | ⟨x, y⟩
      · exact .inl ⟨j, a, x⟩
      · exact .inr ⟨x, j, a, y⟩
  constructor
  · rintro (x | x | x | x)
    · exact .inl x
    · exact .inr (.inl (mid.mp (.inl x)))
    · exact .inr (.inl (mid.mp (.inr x)))
    · exact .inr (.inr x)
  · rintro (x | x | x)
    · exact .inl x
    · rcases mid.mpr x with y | y
      · exact .inr (.inl y)
      · exact .inr (.inr (.inl y))
    · exact .inr (.inr (.inr x))
end

end CH

namespace CH
open PySem L2
section
variable {pre post : MH} {s t : St} {j n : Nat}
/-! runs of lists of events -/
/-- the events follow one another, from a state -/
def okEv : St → List Evt → Prop
  | _, [] => True
  | s, e :: es => e ∈ s.evL ∧ okEv (s.doE e) es
def runE (s : St) (es : List Evt) : St := es.foldl St.doE s
def runLa (t : St) (es : List Evt) : St := es.foldl St.doL t
theorem okEv_app : ∀ (a b : List Evt) (s : St), okEv s (a ++ b) ↔ okEv s a ∧ okEv (runE s a) b
  | [], b, s => ⟨fun h => ⟨trivial, h⟩, fun h => h.2⟩
  | e :: a, b, s => by
    have := okEv_app a b (s.doE e)
    show (e ∈ s.evL ∧ okEv (s.doE e) (a ++ b)) ↔ ((e ∈ s.evL ∧ okEv (s.doE e) a) ∧ okEv (runE (s.doE e) a) b)
    rw [this]
    exact ⟨fun ⟨x, y, z⟩ => ⟨⟨x, y⟩, z⟩, fun ⟨⟨x, y⟩, z⟩ => ⟨x, y, z⟩⟩
theorem J_run : ∀ (es : List Evt) (s t : St), J s t → okEv s es → J (runE s es) (runLa t es)
  | [], _, _, h, _ => h
  | e :: es, s, t, h, he => J_run es (s.doE e) (t.doL e) (J_ev h he.1).2.2 he.2
theorem doE_past {e : Evt} (h : stepP s e) : (s.doE e).past = s.past ++ [e] := by
  obtain ⟨w, o⟩ := e
  cases o with
  | none =>
    show ((if w = "evict" then ((s.wLast none).wCache none).wMark 0 else (s.wLast none).wRep ((s.wLast none).rep + 1)).past) ++ [(w, none)] = _
    split <;> rfl
  | some i =>
    show ((s.wLast none).stepO w i.toNat).past ++ [(w, some i)] = _
    rw [h.2 w i rfl]
theorem run_past : ∀ (es : List Evt) (s t : St), J s t → okEv s es → (runE s es).past = s.past ++ es
  | [], s, _, _, _ => by simp [runE]
  | e :: es, s, t, h, he => by
    have je := J_ev h he.1
    have := run_past es (s.doE e) (t.doL e) je.2.2 he.2
    show (runE (s.doE e) es).past = _
    rw [this, doE_past je.1]
    simp
theorem J_led (h : J s t) : ∀ j, j < s.ops.length → ledOk s (s.op j) := fun j hj hs => ((h.op j hj).ld hs).2
theorem J_ledL (h : J s t) : ∀ j, j < t.ops.length → ledOk t (t.op j) := by
  intro j hj hs
  have hl := co_len h.co
  have hj' : j < s.ops.length := by rw [hl]; exact hj
  have o := co_opE h.co hj'
  obtain ⟨l, a, b⟩ := J_led h j hj' (by rw [o.stage]; exact hs)
  exact ⟨l, by rw [← o.leader]; exact a, by rw [← hl]; exact b⟩
/-- the law's cache can do an event -/
theorem l_do_j (h : J s t) (hp : s.past.length < 900) {e : Evt} (he : e ∈ s.evL) : callF (n + 4) .l_do [.ref (pre.length + 2), toE e] (HL pre t []) = .ok .non (HL pre (t.doL e) []) := by
  have je := (J_ev h he).2.1
  have hl := co_len h.co
  have c := co_flds h.co
  have hn := h.ln
  exact l_do_e (by omega) (by rw [← c.past]; exact hp) (by rw [← c.p]; exact h.okp) je.1 je.2
/-- an iterable of events: a tuple, or a list in the heap -/
def srcE (pre : MH) (x : D) (es : List Evt) : Prop := x = .tup (es.map toE) ∨ ∃ k, x = .ref k ∧ k < pre.length ∧ oLst pre[k]? = some (es.map toE)
theorem forB_ev {fo : Mo D} {i : Nat} {body : Ms} {sl : Sl} {h : MH} {P : Sl → MH → Prop} {x : D} (es : List Evt) (Inv : List Evt → Sl → MH → Prop) (hsrc : srcE pre x es) (hfo : fo sl h = .ok x h) (h0 : Inv [] sl h) (hk : ∀ a sl h, Inv a sl h → ∃ r, h = pre ++ r)
    (hb : ∀ a x b, a ++ x :: b = es → ∀ sl h, Inv a sl h → NxP (Inv (a ++ [x])) (body (sl.set i (some (toE x))) h)) (hP : ∀ sl h, Inv es sl h → P sl h) : NxP P (sForB fo (.nm i) body sl h) := by
  rcases hsrc with rfl | ⟨k, rfl, hlt, hk2⟩
  · have e : sForB fo (.nm i) body sl h = sFor (fun _ h => .ok (es.map toE) h) (.nm i) body sl h := by
      show bindS sl (fo sl h) _ = bindS sl _ _
      rw [hfo]
      rfl
    rw [e]
    exact for_pre toE es Inv rfl h0 hb hP
  · have e : sForB fo (.nm i) body sl h = sForH fo (.nm i) body sl h := by
      show bindS sl (fo sl h) _ = bindS sl (fo sl h) _
      rw [hfo]
      rfl
    rw [e]
    refine forH_np (k := k) toE es Inv hfo h0 (fun a sl h hi => ?_) hb hP
    obtain ⟨r, rfl⟩ := hk a sl h hi
    rw [List.getElem?_append_left hlt]
    exact hk2
def st0 (p g f ws we wk : String) : St := ⟨p, g, f, ws, we, wk, 0, 0, none, 0, none, [], [], 0, 0, none⟩
theorem pre_ev {p g f ws we wk : String} (hp : okP p = true) (hg : okG g = true) {es a b : List Evt} {e : Evt} (hev : okEv (st0 p g f ws we wk) es) (hab : a ++ e :: b = es) (hl : es.length < 900) : J (runE (st0 p g f ws we wk) a) (runLa (st0 p g f ws we wk) a) ∧ (runE (st0 p g f ws we wk) a).past.length < 900 ∧ e ∈ (runE (st0 p g f ws we wk) a).evL := by
  rw [← hab, okEv_app] at hev
  have j0 : J (st0 p g f ws we wk) (st0 p g f ws we wk) := J_zero hp hg
  refine ⟨J_run a _ _ j0 hev.1, ?_, hev.2.1⟩
  rw [run_past a _ _ j0 hev.1]
  have : a.length ≤ es.length := by rw [← hab, List.length_append]; omega
  show ([] ++ a).length < 900
  simp
  omega
theorem run_snoc {s : St} {a : List Evt} {e : Evt} : runE s (a ++ [e]) = (runE s a).doE e := by unfold runE; rw [List.foldl_append]; rfl
theorem runLa_snoc {s : St} {a : List Evt} {e : Evt} : runLa s (a ++ [e]) = (runLa s a).doL e := by unfold runLa; rw [List.foldl_append]; rfl
/-! a Run made -/
theorem mk_store {rest : MH} {ks : List Str} {vs : List D} {f : Str} {v : D} (hl : ks.length < 1000) : fldS (pre ++ (O.ins "Run" ks vs :: rest)) ["Run"] f (.ref pre.length) v = some (pre ++ (O.ins "Run" (fputK f ks) (fputV f v ks vs) :: rest)) := by
  rw [fldS_ref]
  have h1 : (pre ++ (O.ins "Run" ks vs :: rest))[pre.length]? = some (O.ins "Run" ks vs) := by simp
  rw [h1]
  simp only [oIns, List.contains_cons, beq_self_eq_true, Bool.true_or, if_true, Option.bind_some, hl]
  simp
theorem e_steps {p g f : String} {h : MH} (hp : okP p = true) : callF (n + 1) .steps_of [St3 p g f] h = .ok (.tup ((stepsP p).map S)) h := by
  rw [callF_s]
  have hl : (stepsP p).length ≤ lim := by
    rw [lim_eq]
    simp [okP] at hp
    rcases hp with rfl | rfl | rfl | rfl | rfl <;> simp [stepsP]
  simp [bodyOf, b_steps_of, e_split hp, hl]
def rk (i : Nat) : List Str := runKeys.take i
theorem mk_run {rest : MH} {ks ks2 : List Str} {vs : List D} {f : Str} {v : D} (h1 : fhas f ks = false) (h2 : ks ++ [f] = ks2) (hl : ks.length < 1000) : fldS (pre ++ (O.ins "Run" ks vs :: rest)) ["Run"] f (.ref pre.length) v = some (pre ++ (O.ins "Run" ks2 (vs ++ [v]) :: rest)) := by
  rw [mk_store hl]
  unfold fputK fputV
  rw [h1, if_neg (by decide), if_neg (by decide), h2]
theorem mkst_0 {rest : MH} {vs : List D} {v : D} : fldS (pre ++ (O.ins "Run" ([]) vs :: rest)) ["Run"] (Str.ofString "steps") (.ref pre.length) v = some (pre ++ (O.ins "Run" (rk 1) (vs ++ [v]) :: rest)) := mk_run (by decide +kernel) rfl (by decide)
theorem mkst_1 {rest : MH} {vs : List D} {v : D} : fldS (pre ++ (O.ins "Run" (rk 1) vs :: rest)) ["Run"] (Str.ofString "guard") (.ref pre.length) v = some (pre ++ (O.ins "Run" (rk 2) (vs ++ [v]) :: rest)) := mk_run (by decide +kernel) rfl (by decide)
theorem mkst_2 {rest : MH} {vs : List D} {v : D} : fldS (pre ++ (O.ins "Run" (rk 2) vs :: rest)) ["Run"] (Str.ofString "is_shared") (.ref pre.length) v = some (pre ++ (O.ins "Run" (rk 3) (vs ++ [v]) :: rest)) := mk_run (by decide +kernel) rfl (by decide)
theorem mkst_3 {rest : MH} {vs : List D} {v : D} : fldS (pre ++ (O.ins "Run" (rk 3) vs :: rest)) ["Run"] (Str.ofString "has_replica") (.ref pre.length) v = some (pre ++ (O.ins "Run" (rk 4) (vs ++ [v]) :: rest)) := mk_run (by decide +kernel) rfl (by decide)
theorem mkst_4 {rest : MH} {vs : List D} {v : D} : fldS (pre ++ (O.ins "Run" (rk 4) vs :: rest)) ["Run"] (Str.ofString "has_evictions") (.ref pre.length) v = some (pre ++ (O.ins "Run" (rk 5) (vs ++ [v]) :: rest)) := mk_run (by decide +kernel) rfl (by decide)
theorem mkst_5 {rest : MH} {vs : List D} {v : D} : fldS (pre ++ (O.ins "Run" (rk 5) vs :: rest)) ["Run"] (Str.ofString "has_stops") (.ref pre.length) v = some (pre ++ (O.ins "Run" (rk 6) (vs ++ [v]) :: rest)) := mk_run (by decide +kernel) rfl (by decide)
theorem mkst_6 {rest : MH} {vs : List D} {v : D} : fldS (pre ++ (O.ins "Run" (rk 6) vs :: rest)) ["Run"] (Str.ofString "database") (.ref pre.length) v = some (pre ++ (O.ins "Run" (rk 7) (vs ++ [v]) :: rest)) := mk_run (by decide +kernel) rfl (by decide)
theorem mkst_7 {rest : MH} {vs : List D} {v : D} : fldS (pre ++ (O.ins "Run" (rk 7) vs :: rest)) ["Run"] (Str.ofString "replica") (.ref pre.length) v = some (pre ++ (O.ins "Run" (rk 8) (vs ++ [v]) :: rest)) := mk_run (by decide +kernel) rfl (by decide)
theorem mkst_8 {rest : MH} {vs : List D} {v : D} : fldS (pre ++ (O.ins "Run" (rk 8) vs :: rest)) ["Run"] (Str.ofString "cache") (.ref pre.length) v = some (pre ++ (O.ins "Run" (rk 9) (vs ++ [v]) :: rest)) := mk_run (by decide +kernel) rfl (by decide)
theorem mkst_9 {rest : MH} {vs : List D} {v : D} : fldS (pre ++ (O.ins "Run" (rk 9) vs :: rest)) ["Run"] (Str.ofString "mark") (.ref pre.length) v = some (pre ++ (O.ins "Run" (rk 10) (vs ++ [v]) :: rest)) := mk_run (by decide +kernel) rfl (by decide)
theorem mkst_10 {rest : MH} {vs : List D} {v : D} : fldS (pre ++ (O.ins "Run" (rk 10) vs :: rest)) ["Run"] (Str.ofString "flight") (.ref pre.length) v = some (pre ++ (O.ins "Run" (rk 11) (vs ++ [v]) :: rest)) := mk_run (by decide +kernel) rfl (by decide)
theorem mkst_11 {rest : MH} {vs : List D} {v : D} : fldS (pre ++ (O.ins "Run" (rk 11) vs :: rest)) ["Run"] (Str.ofString "operations") (.ref pre.length) v = some (pre ++ (O.ins "Run" (rk 12) (vs ++ [v]) :: rest)) := mk_run (by decide +kernel) rfl (by decide)
theorem mkst_12 {rest : MH} {vs : List D} {v : D} : fldS (pre ++ (O.ins "Run" (rk 12) vs :: rest)) ["Run"] (Str.ofString "events_done") (.ref pre.length) v = some (pre ++ (O.ins "Run" (rk 13) (vs ++ [v]) :: rest)) := mk_run (by decide +kernel) rfl (by decide)
theorem mkst_13 {rest : MH} {vs : List D} {v : D} : fldS (pre ++ (O.ins "Run" (rk 13) vs :: rest)) ["Run"] (Str.ofString "finished") (.ref pre.length) v = some (pre ++ (O.ins "Run" (rk 14) (vs ++ [v]) :: rest)) := mk_run (by decide +kernel) rfl (by decide)
theorem mkst_14 {rest : MH} {vs : List D} {v : D} : fldS (pre ++ (O.ins "Run" (rk 14) vs :: rest)) ["Run"] (Str.ofString "returned") (.ref pre.length) v = some (pre ++ (O.ins "Run" (rk 15) (vs ++ [v]) :: rest)) := mk_run (by decide +kernel) rfl (by decide)
theorem mkst_15 {rest : MH} {vs : List D} {v : D} : fldS (pre ++ (O.ins "Run" (rk 15) vs :: rest)) ["Run"] (Str.ofString "last") (.ref pre.length) v = some (pre ++ (O.ins "Run" (rk 16) (vs ++ [v]) :: rest)) := mk_run (by decide +kernel) rfl (by decide)
end

end CH

namespace CH
open PySem L2
section
variable {s t v tv : St} {j n m i : Nat}
theorem co_stg (h : s.co = t.co) (i : Nat) : (s.op i).stage = (t.op i).stage := by
  by_cases hi : i < s.ops.length
  · exact (co_opE h hi).stage
  · have := co_len h
    rw [op_none hi, op_none (by omega)]
theorem co_led (h : s.co = t.co) (i : Nat) : (s.op i).leader = (t.op i).leader := by
  by_cases hi : i < s.ops.length
  · exact (co_opE h hi).leader
  · have := co_len h
    rw [op_none hi, op_none (by omega)]
theorem co_uw (h : s.co = t.co) (i : Nat) : uw (s.op i) = uw (t.op i) := by unfold uw; rw [co_stg h]
theorem co_next (h : s.co = t.co) (i : Nat) : s.next (s.op i) = t.next (t.op i) := by
  unfold St.next
  rw [co_stg h i, co_led h i, co_stg h]
theorem co_uwL (h : s.co = t.co) : s.uwL = t.uwL := by
  unfold St.uwL
  rw [co_len h]
  refine List.filter_congr fun i _ => co_uw h i
end

end CH

namespace CH
open PySem L2
section
variable {n : Nat} {p g f s e k q : String} {h : MH}
/-! the program's conditions -/
def bPassed (p g : String) : Bool := decide (g = "never") && !decide (p = "store set")
def bClimb (p g e : String) : Bool := decide (p = "store set") && ((decide (g = "mark") || decide (g = "newer")) && decide (e = "keeps"))
def bLast (p : String) : Bool := decide (p = "drop store drop") || decide (p = "store drop")
def bGuarded (p g e : String) : Bool := bLast p && (decide (g = "token") || (decide (g = "mark") && decide (e = "keeps")))
def bRest (p g s e k : String) : Bool := bPassed p g || (!decide (k = "stops") && (bClimb p g e || (bGuarded p g e && !(decide (g = "token") && decide (s = "replica")))))
def bFresh (p g f s e : String) : Bool := bClimb p g e || (!decide (s = "replica") && (bPassed p g || (bGuarded p g e && decide (f = "alone"))))
def bForward (p g f e : String) : Bool := (bPassed p g || (decide (f = "shared") && !decide (p = "store set"))) || (!decide (e = "evicts") && (decide (g = "mark") || (decide (g = "newer") && (decide (p = "store") || decide (p = "store set")))))
def bFilled (p g f s k : String) : Bool := !(decide (g = "never") || (decide (f = "shared") && decide (k = "stops"))) && (!decide (g = "mark") || (decide (s = "primary") || !bLast p))
def bQuiet (p g f s e k : String) : Bool := if bPassed p g = true then decide (s = "primary") else decide (k = "finishes") && bFresh p g f s e
def bDoes (p g f s e k q : String) : Bool :=
  if q = "ending" then decide (f = "alone") || decide (k = "finishes")
  else if q = "mended" then !decide (p = "store") || decide (g = "never")
  else if q = "moving" then decide (f = "alone")
  else if q = "single" then decide (f = "shared")
  else if q = "linear" then bFresh p g f s e && bForward p g f e
  else if q = "filled" then bFilled p g f s k
  else if q = "forward" then bForward p g f e
  else if q = "fresh" then bFresh p g f s e
  else if q = "quiet" then bQuiet p g f s e k
  else bRest p g s e k
@[simp] theorem e_passed : callF (n + 1) .is_passed_by [St3 p g f] h = .ok (.bl (bPassed p g)) h := by
  simp [callF_s, bodyOf, b_is_passed_by, bPassed]
@[simp] theorem e_climb : callF (n + 1) .is_climbing [St3 p g f, St3 s e k] h = .ok (.bl (bClimb p g e)) h := by
  simp [callF_s, bodyOf, b_is_climbing, k_VERSIONED, bClimb]
@[simp] theorem e_guarded : callF (n + 1) .is_guarded [St3 p g f, St3 s e k] h = .ok (.bl (bGuarded p g e)) h := by
  simp [callF_s, bodyOf, b_is_guarded, k_DROPS_LAST, bGuarded, bLast]
@[simp] theorem e_rest : callF (n + 2) .rest_holds [St3 p g f, St3 s e k] h = .ok (.bl (bRest p g s e k)) h := by
  rw [callF_s]
  simp [bodyOf, b_rest_holds, bRest]
end

end CH

namespace CH
open PySem L2
section
variable {n : Nat} {p g f s e k q : String} {h : MH}
theorem e_chd : callF (n + 2) .is_choice [St3 p g f, k_DESIGNS] h = .ok (.bl (okD p g f)) h := by
  rw [callF_s]
  simp [bodyOf, b_is_choice, k_DESIGNS, k_PATHS, k_GUARDS, k_FLIGHTS, lcD_cons, isiT, callF_s, b_is_list, zipD, setAll, wipeD, blsD, okD, okP, okG, okF]
  done
theorem e_chw : callF (n + 2) .is_choice [St3 s e k, k_WORLDS] h = .ok (.bl (okW s e k)) h := by
  rw [callF_s]
  simp [bodyOf, b_is_choice, k_WORLDS, lcD_cons, isiT, callF_s, b_is_list, zipD, setAll, wipeD, blsD, okW]
  done
theorem e_isd : callF (n + 3) .is_design [St3 p g f] h = .ok (.bl (okD p g f)) h := by
  rw [callF_s]
  simp [bodyOf, b_is_design, e_chd]
theorem e_isw : callF (n + 3) .is_world [St3 p g f] h = .ok (.bl (okW p g f)) h := by
  rw [callF_s]
  simp [bodyOf, b_is_world, e_chw]
theorem e_need_both (hd : okD p g f = true) (hw : okW s e k = true) : callF (n + 5) .need_both [St3 p g f, St3 s e k] h = .ok .non h := by
  have h1 : callF (n + 4) .need_design [St3 p g f] h = .ok .non h := by
    rw [callF_s]
    simp [bodyOf, b_need_design, e_isd, hd]
  have h2 : callF (n + 4) .need_world [St3 s e k] h = .ok .non h := by
    rw [callF_s]
    simp [bodyOf, b_need_world, e_isw, hw]
  rw [callF_s]
  simp [bodyOf, b_need_both, h1, h2]
end

end CH

namespace CH
open PySem L2
section
variable {n : Nat} {p g f s e k q : String} {h : MH}
def QS : List String := ["ending", "filled", "forward", "fresh", "linear", "mended", "moving", "quiet", "rest", "single"]
theorem pureS {xs : List String} : pureL (xs.map S) = true := by
  induction xs with
  | nil => rfl
  | cons x xs ih => simp [pureL, pureD, ih]
end

end CH

namespace CH
open PySem L2
section
variable {pre post : MH} {s t : St} {j n : Nat}
theorem eqv_toE (a b : Evt) : PyData.eqv (toPy (toE a)) (toPy (toE b)) = decide (a = b) := by
  obtain ⟨w, o⟩ := a
  obtain ⟨w', o'⟩ := b
  cases o <;> cases o' <;> simp [toE, PyData.eqv, PyData.eqvAll]
  rfl
theorem toE_ok39 (e : Evt) : pyOk 39 (toE e) = true := by
  obtain ⟨w, o⟩ := e
  cases o with
  | none =>
    show pyOkL 38 [S w] = true
    rw [pyOkL_cons, pyOk_str, pyOkL_nil]; rfl
  | some i =>
    show pyOkL 38 [S w, .int i] = true
    rw [pyOkL_cons, pyOk_str, pyOkL_cons, pyOkL_nil, pyOk_int]; rfl
theorem pyOkL_all {m : Nat} : ∀ ds : List D, (∀ d ∈ ds, pyOk m d = true) → pyOkL m ds = true
  | [], _ => pyOkL_nil
  | d :: ds, h => by
    rw [pyOkL_cons, h d (by simp), pyOkL_all ds fun x hx => h x (by simp [hx])]; rfl
theorem toPyL_map : ∀ ds : List D, toPyL ds = ds.map toPy
  | [] => rfl
  | d :: ds => by
    show toPy d :: toPyL ds = _
    rw [toPyL_map ds]; rfl
theorem inD_ev {e : Evt} {es : List Evt} : inD (toE e) (.lst (sortD (es.map toE))) = some (decide (e ∈ es)) := by
  have hm : ∀ d, d ∈ sortD (es.map toE) ↔ d ∈ es.map toE := fun d => (List.mergeSort_perm _ _).mem_iff
  have hok : pyOkL 39 (sortD (es.map toE)) = true := by
    refine pyOkL_all _ fun d hd => ?_
    obtain ⟨x, _, rfl⟩ := List.mem_map.mp ((hm d).mp hd)
    exact toE_ok39 x
  rw [inD_lst, toE_ok, hok, toPyL_map]
  simp only [Bool.and_self, if_true]
  congr 1
  rw [Bool.eq_iff_iff]
  simp only [List.any_eq_true, List.mem_map, decide_eq_true_eq]
  constructor
  · rintro ⟨z, ⟨d, hd, rfl⟩, hz⟩
    obtain ⟨x, hx, rfl⟩ := List.mem_map.mp ((hm d).mp hd)
    rw [eqv_toE] at hz
    have : x = e := by simpa using hz
    rw [← this]
    exact hx
  · intro h
    refine ⟨_, ⟨toE e, (hm _).mpr (List.mem_map.mpr ⟨e, h, rfl⟩), rfl⟩, ?_⟩
    rw [eqv_toE]
    simp
/-- the form of an event -/
def okF1 (e : Evt) : Prop := e = ("evict", none) ∨ e = ("copy", none) ∨ ∃ (w : String) (j : Nat), e = (w, some (j : Int)) ∧ j ≤ 60
theorem inD_evT {e : Evt} {es : List Evt} : inD (toE e) (.tup (es.map toE)) = some (decide (e ∈ es)) := by
  have hok : pyOkL 39 (es.map toE) = true := by
    refine pyOkL_all _ fun d hd => ?_
    obtain ⟨x, _, rfl⟩ := List.mem_map.mp hd
    exact toE_ok39 x
  rw [inD_tup, toE_ok, hok, toPyL_map]
  simp only [Bool.and_self, if_true]
  congr 1
  rw [Bool.eq_iff_iff]
  simp only [List.any_eq_true, List.mem_map, decide_eq_true_eq]
  constructor
  · rintro ⟨z, ⟨d, ⟨x, hx, rfl⟩, rfl⟩, hz⟩
    rw [eqv_toE] at hz
    have : x = e := by simpa using hz
    rw [← this]
    exact hx
  · intro h
    refine ⟨_, ⟨toE e, ⟨e, h, rfl⟩, rfl⟩, ?_⟩
    rw [eqv_toE]
    simp
theorem ev_form (h : J s t) (hp : s.past.length ≤ 59) {e : Evt} (he : e ∈ s.evL) : okF1 e := by
  have hl := h.ln
  rcases ev_cases he with ⟨w, rfl, _⟩ | ⟨w, j, rfl, hj, _⟩ | rfl | rfl
  · exact .inr (.inr ⟨w, _, rfl, by omega⟩)
  · exact .inr (.inr ⟨w, j, rfl, by omega⟩)
  · exact .inl rfl
  · exact .inr (.inl rfl)
theorem range_split {a b : List Nat} {x m : Nat} (h : a ++ x :: b = List.range m) : x = a.length ∧ x < m := by
  have h1 : (a ++ x :: b)[a.length]? = some x := by simp
  rw [h] at h1
  have h2 : a.length < m := by
    rcases Nat.lt_or_ge a.length m with y | y
    · exact y
    · rw [List.getElem?_eq_none (by simpa using y)] at h1; cases h1
  rw [List.getElem?_eq_getElem (by simpa using h2)] at h1
  have := Option.some.inj h1
  simp at this
  exact ⟨this.symm, by omega⟩
end

end CH

namespace CH
open PySem L2
section
variable {pre post : MH} {s t v tv : St} {j n m i : Nat} {w p g f ws we wk q : String} {es : List Evt} {h : MH}
structure Rn (p g f ws we wk : String) (es : List Evt) (s t : St) : Prop where
  hp : okP p = true
  hg : okG g = true
  ok : okEv (st0 p g f ws we wk) es
  len : es.length < 800
  s : s = runE (st0 p g f ws we wk) es
  t : t = runLa (st0 p g f ws we wk) es
theorem Rn.jj {es : List Evt} (r : Rn p g f ws we wk es s t) : J s t := by rw [r.s, r.t]; exact J_run es _ _ (J_zero r.hp r.hg) r.ok
theorem Rn.past {es : List Evt} (r : Rn p g f ws we wk es s t) : s.past = es := by
  have := run_past es (st0 p g f ws we wk) (st0 p g f ws we wk) (J_zero r.hp r.hg) r.ok
  rw [r.s, this]
  rfl
theorem runE_app {a b : List Evt} : runE s (a ++ b) = runE (runE s a) b := by unfold runE; rw [List.foldl_append]
theorem okEv_pre {a b : List Evt} (h : okEv s (a ++ b)) : okEv s a := ((okEv_app a b s).mp h).1
theorem Rn.ops (r : Rn p g f ws we wk es s t) : s.ops.length ≤ es.length := by
  have h := r.jj.ln
  rw [r.past] at h
  exact h
end

end CH

namespace CH
open PySem L2
section
variable {n : Nat} {h : MH}
abbrev Row (ns : List Int) (i s r : Int) : O := .lst [.scr ns, .int i, .int s, .int r]
theorem e_taken {k : Nat} {ns : List Int} {i s r m : Int} (hk : h[k]? = some (Row ns i s r)) (hi : 0 ≤ i) (hm : 0 < m) (hm2 : m < 1073741824) :
    ∃ x i' s' r', 0 ≤ x ∧ x < m ∧ 0 ≤ i' ∧ callF (n + 1) .l_taken [.ref k, .int m] h = .ok (.int x) (h.set k (Row ns i' s' r')) := by
  have hlt : k < h.length := by
    rcases Nat.lt_or_ge k h.length with e | e
    · exact e
    · rw [List.getElem?_eq_none e] at hk; cases hk
  have hg : h[k] = Row ns i s r := by rw [List.getElem?_eq_getElem hlt] at hk; exact Option.some.inj hk
  by_cases h1 : 0 < r
  · refine ⟨r % m, i, s, r / m, Int.emod_nonneg _ (by omega), Int.emod_lt_of_pos _ hm, hi, ?_⟩
    rw [callF_s]
    simp [bodyOf, b_l_taken, hk, h1, hm, cDiv, hm2, lSet, ixN, hlt, hg]
  by_cases h2 : (ns.length : Int) < i + 1
  · refine ⟨(((s * 48271 + 11) % 2147483647) / 7) % m, i + 1, (s * 48271 + 11) % 2147483647, r, Int.emod_nonneg _ (by omega), Int.emod_lt_of_pos _ hm, by omega, ?_⟩
    rw [callF_s]
    simp [bodyOf, b_l_taken, hk, h1, h2, hm, cDiv, hm2, lSet, ixN, hlt, hg, cMul]
    done
  obtain ⟨c, hc⟩ : ∃ c, ns[i.toNat]? = some c := ⟨ns[i.toNat]'(by omega), List.getElem?_eq_getElem _⟩
  have hat : atI ns i = some c := by
    have := atI_nat hc
    rw [show i = ((i.toNat : Nat) : Int) by omega]
    exact this
  refine ⟨c % m, i + 1, (s * 48271 + c + 11) % 2147483647, if 1000000000000000000 ≤ c then c / m else r, Int.emod_nonneg _ (by omega), Int.emod_lt_of_pos _ hm, by omega, ?_⟩
  rw [callF_s]
  by_cases h3 : 1000000000000000000 ≤ c
  · simp [bodyOf, b_l_taken, hk, h1, h2, hm, cDiv, hm2, lSet, ixN, hlt, hg, cMul, hat, cPow, h3]
    done
  · simp [bodyOf, b_l_taken, hk, h1, h2, hm, cDiv, hm2, lSet, ixN, hlt, hg, cMul, hat, cPow, h3]
    done
end

end CH

namespace CH
open PySem L2
section
variable {n : Nat} {p g f s e k q : String} {h : MH}
def dropE (p : String) : Bool := Txt.endswith (Str.ofString p) (Str.ofString "drop")
def lGuards (p g e : String) : Bool := dropE p && (decide (g = "token") || (decide (g = "mark") && decide (e = "keeps")))
def lFresh (p g f s e : String) : Bool := bClimb p g e || (decide (s = "primary") && (bPassed p g || (lGuards p g e && decide (f = "alone"))))
def lLow (p g : String) : Bool := decide (g = "mark") || (decide (g = "newer") && (decide (p = "store") || decide (p = "store set")))
def lForward (p g f e : String) : Bool := bPassed p g || ((decide (f = "shared") && !decide (p = "store set")) || (decide (e = "keeps") && lLow p g))
def lLate (g s : String) : Bool := decide (g = "token") && decide (s = "replica")
def lWhole (k : String) : Bool := decide (k = "finishes")
def lEnding (f k : String) : Bool := decide (f = "alone") || lWhole k
def lFilled0 (g f k : String) : Bool := !decide (g = "never") && (lWhole k || decide (f = "alone"))
def lFilled (p g f s k : String) : Bool := lFilled0 g f k && !(decide (g = "mark") && (decide (s = "replica") && dropE p))
def lMended (p g : String) : Bool := !decide (p = "store") || decide (g = "never")
def lQuiet (p g f s e k : String) : Bool := if bPassed p g = true then decide (s = "primary") else lWhole k && lFresh p g f s e
def lRest (p g s e k : String) : Bool := bPassed p g || (lWhole k && (bClimb p g e || (lGuards p g e && !lLate g s)))
def lLinear (p g f s e : String) : Bool := lFresh p g f s e && lForward p g f e
def lDoes (p g f s e k q : String) : Bool :=
  if q = "ending" then lEnding f k
  else if q = "mended" then lMended p g
  else if q = "moving" then decide (f = "alone")
  else if q = "single" then decide (f = "shared")
  else if q = "linear" then lLinear p g f s e
  else if q = "filled" then lFilled p g f s k
  else if q = "forward" then lForward p g f e
  else if q = "fresh" then lFresh p g f s e
  else if q = "quiet" then lQuiet p g f s e k
  else lRest p g s e k
theorem sAsgT_two {f1 f2 fo1 fi1 fo2 fi2 : Mo D} {sl : Sl} {h : MH} {k : Nat} {key1 key2 : Key} {y1 y2 v1 v2 : D} {ks : List Key} {vs : List D} (e1 : f1 sl h = .ok v1 h) (e2 : f2 sl h = .ok v2 h) (e3 : ∀ h, fo1 sl h = .ok (.ref k) h) (e4 : ∀ h, fi1 sl h = .ok y1 h) (e5 : ∀ h, fo2 sl h = .ok (.ref k) h) (e6 : ∀ h, fi2 sl h = .ok y2 h) (hk : h[k]? = some (.dic ks vs)) (hy1 : keyD y1 = some key1) (hy2 : keyD y2 = some key2) (hl : ks.length < lim) (hl2 : (dputK key1 ks).length < lim) :
    sAsgT (mTup (mCons f1 (mCons f2 mNil))) (kTup [kDSub fo1 fi1, kDSub fo2 fi2]) sl h = .nx sl ((h.set k (.dic (dputK key1 ks) (dputV key1 v1 ks vs))).set k (.dic (dputK key2 (dputK key1 ks)) (dputV key2 v2 (dputK key1 ks) (dputV key1 v1 ks vs)))) := by
  have hlt : k < h.length := by
    rcases Nat.lt_or_ge k h.length with e | e
    · exact e
    · rw [List.getElem?_eq_none e] at hk; cases hk
  have hk2 : (h.set k (.dic (dputK key1 ks) (dputV key1 v1 ks vs)))[k]? = some (.dic (dputK key1 ks) (dputV key1 v1 ks vs)) := by
    rw [List.getElem?_set_self hlt]
  have d1 := dSet_ref (y := y1) (v := v1) hk hy1 hl
  have d2 := dSet_ref (y := y2) (v := v2) hk2 hy2 hl2
  have hr : runT [kDSub fo1 fi1, kDSub fo2 fi2] [v1, v2] sl h = .nx sl ((h.set k (.dic (dputK key1 ks) (dputV key1 v1 ks vs))).set k (.dic (dputK key2 (dputK key1 ks)) (dputV key2 v2 (dputK key1 ks) (dputV key1 v1 ks vs)))) := by
    simp only [runT, kDSub, e3, e4, e5, e6, bindS_ok, d1, d2, seqR_nx, sSkip_ap]
  have ht : mTup (mCons f1 (mCons f2 mNil)) sl h = .ok (.tup [v1, v2]) h := by
    simp [e1, e2]
  simp only [sAsgT, ht, bindS_ok, kTup, List.length_cons, List.length_nil, if_true, hr]
  rfl
theorem get_last {h : MH} {x : O} : (h ++ [x])[h.length]? = some x := by simp
theorem set_last {h : MH} {x y : O} : (h ++ [x]).set h.length y = h ++ [y] := by rw [List.set_append_right _ _ (Nat.le_refl _), Nat.sub_self]; rfl
theorem l_holds1 {c : Fid → Fn} (hq : okQ q = true) : ∃ x, runB 15 (b_l_holds c) [St3 p g f, St3 s e k, S q] h = .ok (.bl (lDoes p g f s e k q)) (h ++ [x]) := by
  simp only [runB_ap', slots0_ap, List.map, List.length_cons, List.length_nil, Nat.reduceAdd, Nat.reduceSub, List.replicate, List.cons_append, List.nil_append]
  unfold b_l_holds
  rw [seq_nx (sl1 := [some (St3 p g f), some (St3 s e k), some (S q), none, none, none, none, none, none, none, none, none, some (S p), some (S g), some (S f)]) (h1 := h) (by simp [sAsgT, kTup, runT, kName, onlyNx])]
  rw [seq_set (h1 := h) (.bl (bPassed p g)) (by simp [bPassed])]
  simp only [List.set_cons_succ, List.set_cons_zero]
  rw [seq_set (h1 := h) (.bl (bClimb p g e)) (by simp [bClimb])]
  simp only [List.set_cons_succ, List.set_cons_zero]
  rw [seq_set (h1 := h) (.bl (lGuards p g e)) (by simp [lGuards, dropE])]
  simp only [List.set_cons_succ, List.set_cons_zero]
  rw [seq_set (h1 := h) (.bl (lFresh p g f s e)) (by simp [lFresh])]
  simp only [List.set_cons_succ, List.set_cons_zero]
  rw [seq_set (h1 := h) (.bl (lLow p g)) (by simp [lLow])]
  simp only [List.set_cons_succ, List.set_cons_zero]
  rw [seq_set (h1 := h) (.bl (lForward p g f e)) (by simp [lForward])]
  simp only [List.set_cons_succ, List.set_cons_zero]
  rw [seq_set (h1 := h) (.bl (lLate g s)) (by simp [lLate])]
  simp only [List.set_cons_succ, List.set_cons_zero]
  rw [seq_set (h1 := h) (.bl (lWhole k)) (by simp [lWhole])]
  simp only [List.set_cons_succ, List.set_cons_zero]
  rw [seq_set (h1 := h ++ [.dic [.inr (Str.ofString "ending"), .inr (Str.ofString "fresh"), .inr (Str.ofString "forward"), .inr (Str.ofString "linear")] [.bl (lEnding f k), .bl (lFresh p g f s e), .bl (lForward p g f e), .bl (lLinear p g f s e)]]) (.ref h.length) (by simp [lLinear, lEnding])]
  simp only [List.set_cons_succ, List.set_cons_zero]
  rw [seq_dset (k := h.length) (key := .inr (Str.ofString "filled")) (v := .bl (lFilled0 g f k)) (y := S "filled") (by simp [lFilled0]) (by simp) (by simp) get_last rfl (by simp)]
  simp only [List.set_cons_succ, List.set_cons_zero, dputK_ap, dputV_ap, dhas_cons, dhas_nil, drep_cons, drep_nil, Sum.inr.injEq, ofString_inj', String.reduceEq, ↓reduceIte, Bool.false_eq_true, List.cons_append, List.nil_append, set_last]
  rw [seq_dset (k := h.length) (key := .inr (Str.ofString "filled")) (v := .bl (lFilled p g f s k)) (y := S "filled") (by simp [lFilled, dropE, atKeyD, dicD, oDic]) (by simp) (by simp) get_last rfl (by simp)]
  simp only [List.set_cons_succ, List.set_cons_zero, dputK_ap, dputV_ap, dhas_cons, dhas_nil, drep_cons, drep_nil, Sum.inr.injEq, ofString_inj', String.reduceEq, ↓reduceIte, Bool.false_eq_true, List.cons_append, List.nil_append, set_last]
  rw [seq_nx (sl1 := _) (h1 := _) (sAsgT_two (v1 := .bl (lMended p g)) (v2 := .bl (decide (f = "alone"))) (k := h.length) (key1 := .inr (Str.ofString "mended")) (key2 := .inr (Str.ofString "moving")) (y1 := S "mended") (y2 := S "moving") (by simp [lMended]) (by simp) (fun h => by simp) (fun h => by simp) (fun h => by simp) (fun h => by simp) get_last rfl rfl (by simp) (by simp))]
  simp only [List.set_cons_succ, List.set_cons_zero, dputK_ap, dputV_ap, dhas_cons, dhas_nil, drep_cons, drep_nil, Sum.inr.injEq, ofString_inj', String.reduceEq, ↓reduceIte, Bool.false_eq_true, List.cons_append, List.nil_append, set_last]
  rw [seq_dset (k := h.length) (key := .inr (Str.ofString "quiet")) (v := .bl (lQuiet p g f s e k)) (y := S "quiet") (by simp [lQuiet]) (by simp) (by simp) get_last rfl (by simp)]
  simp only [List.set_cons_succ, List.set_cons_zero, dputK_ap, dputV_ap, dhas_cons, dhas_nil, drep_cons, drep_nil, Sum.inr.injEq, ofString_inj', String.reduceEq, ↓reduceIte, Bool.false_eq_true, List.cons_append, List.nil_append, set_last]
  rw [seq_dset (k := h.length) (key := .inr (Str.ofString "rest")) (v := .bl (lRest p g s e k)) (y := S "rest") (by simp [lRest]) (by simp) (by simp) get_last rfl (by simp)]
  simp only [List.set_cons_succ, List.set_cons_zero, dputK_ap, dputV_ap, dhas_cons, dhas_nil, drep_cons, drep_nil, Sum.inr.injEq, ofString_inj', String.reduceEq, ↓reduceIte, Bool.false_eq_true, List.cons_append, List.nil_append, set_last]
  rw [seq_dset (k := h.length) (key := .inr (Str.ofString "single")) (v := .bl (decide (f = "shared"))) (y := S "single") (by simp []) (by simp) (by simp) get_last rfl (by simp)]
  simp only [List.set_cons_succ, List.set_cons_zero, dputK_ap, dputV_ap, dhas_cons, dhas_nil, drep_cons, drep_nil, Sum.inr.injEq, ofString_inj', String.reduceEq, ↓reduceIte, Bool.false_eq_true, List.cons_append, List.nil_append, set_last]
  simp [okQ] at hq
  rcases hq with rfl | rfl | rfl | rfl | rfl | rfl | rfl | rfl | rfl | rfl <;> simp [atKeyD, dicD, oDic, lDoes]
  done
end
section
variable {n : Nat} {p g f s e k q : String} {h : MH}
theorem drop_last (hp : okP p = true) : dropE p = bLast p := by
  simp [okP] at hp
  rcases hp with rfl | rfl | rfl | rfl | rfl
  · simp [bLast]; exact (by decide +kernel : dropE "drop store" = false)
  · simp [bLast]; exact (by decide +kernel : dropE "drop store drop" = true)
  · simp [bLast]; exact (by decide +kernel : dropE "store" = false)
  · simp [bLast]; exact (by decide +kernel : dropE "store drop" = true)
  · simp [bLast]; exact (by decide +kernel : dropE "store set" = false)
theorem two_s {a b x : String} (hab : a ≠ b) (h : (decide (x = a) || decide (x = b)) = true) : decide (x = a) = !decide (x = b) := by
  simp at h
  rcases h with rfl | rfl
  · simp [hab]
  · simp [Ne.symm hab]
theorem lDoes_eq (hd : okD p g f = true) (hw : okW s e k = true) : lDoes p g f s e k q = bDoes p g f s e k q := by
  simp only [okD, okW, Bool.and_eq_true] at hd hw
  obtain ⟨hp, hg, hf⟩ := hd
  obtain ⟨hs, he, hk⟩ := hw
  have e1 : dropE p = bLast p := drop_last hp
  have e2 := two_s (by simp) hf
  have e3 := two_s (by simp) hs
  have e4 : decide (e = "evicts") = !decide (e = "keeps") := two_s (by simp) he
  have e5 := two_s (by simp) hk
  have f1 : lGuards p g e = bGuarded p g e := by simp only [lGuards, bGuarded, e1]
  have f2 : lFresh p g f s e = bFresh p g f s e := by simp only [lFresh, bFresh, f1, e3]
  have f3 : lForward p g f e = bForward p g f e := by simp only [lForward, bForward, e4, lLow, Bool.or_assoc, Bool.not_not]
  have f4 : lFilled p g f s k = bFilled p g f s k := by
    simp only [lFilled, bFilled, lFilled0, lWhole, e1, e2, e3, e5]
    cases decide (g = "never") <;> cases decide (f = "shared") <;> cases decide (k = "stops") <;> cases decide (g = "mark") <;> cases decide (s = "replica") <;> cases bLast p <;> rfl
  have f5 : lQuiet p g f s e k = bQuiet p g f s e k := by simp only [lQuiet, bQuiet, f2, lWhole]
  have f6 : lRest p g s e k = bRest p g s e k := by simp only [lRest, bRest, f1, lWhole, lLate, e5]
  simp only [lDoes, bDoes, f2, f3, f4, f5, f6, lEnding, lWhole, lMended, lLinear]
theorem l_holds_e (hd : okD p g f = true) (hw : okW s e k = true) (hq : okQ q = true) : callF (n + 1) .l_holds [St3 p g f, St3 s e k, S q] h = .ok (.bl (bDoes p g f s e k q)) h := by
  rw [callF_s]
  obtain ⟨x, e1⟩ := l_holds1 (h := h) (p := p) (g := g) (f := f) (s := s) (e := e) (k := k) (c := callF n) hq
  rw [lDoes_eq hd hw] at e1
  show gcK h (runB 15 (b_l_holds (callF n)) [St3 p g f, St3 s e k, S q] h) = _
  rw [e1]
  exact gcK_pos rfl (by simp)
end

end CH

namespace CH
open PySem L2
section
variable {n : Nat} {h : MH}
theorem e_pick {k : Nat} {ns : List Int} {i s r : Int} {xs : List D} (hk : h[k]? = some (Row ns i s r)) (hi : 0 ≤ i) (h0 : xs ≠ []) (h1 : xs.length ≤ 100000) :
    ∃ d i' s' r', d ∈ xs ∧ 0 ≤ i' ∧ callF (n + 2) .l_pick [.ref k, .lst xs] h = .ok d (h.set k (Row ns i' s' r')) := by
  have hl : 0 < xs.length := List.length_pos_iff.mpr h0
  obtain ⟨x, i', s', r', hx0, hx1, hi', e⟩ := e_taken (n := n) (m := (xs.length : Int)) hk hi (by omega) (by omega)
  have hx : x.toNat < xs.length := by omega
  have hat : atI xs x = some xs[x.toNat] := by
    have := atI_nat (List.getElem?_eq_getElem hx)
    rw [show ((x.toNat : Nat) : Int) = x by omega] at this
    exact this
  refine ⟨xs[x.toNat], i', s', r', List.getElem_mem _, hi', ?_⟩
  rw [callF_s]
  simp [bodyOf, b_l_pick, e, hat]
end

end CH

namespace CH
open PySem L2
theorem stepsP_len {p : String} : (stepsP p).length ≤ 3 := by
  unfold stepsP
  split
  · simp
  split
  · simp
  split
  · simp
  split <;> simp
@[simp] theorem eqD_oi2 (a b : Option Int) : eqD (oi a) (oi b) = some (decide (a = b)) := by
  cases a with
  | none =>
    cases b with
    | none => rfl
    | some k => simp [oi]; rfl
  | some i => rw [oi_some]; cases b with
    | none => simp [oi]; rfl
    | some k => simp [oi]
@[simp] theorem fInt_bl {b : Bool} {h : MH} : fInt [.bl b] h = .ok (.int (if b = true then 1 else 0)) h := by cases b <;> rfl
@[simp] theorem oEqE_ap {xs : List D} {h : MH} : oEqE (.lst xs) (.lst []) h = .ok (.bl xs.isEmpty) h := rfl
@[simp] theorem oNeE_ap {xs : List D} {h : MH} : oNeE (.lst xs) (.lst []) h = .ok (.bl (!xs.isEmpty)) h := rfl

end CH

namespace CH
open PySem L2
section
variable {pre post : MH} {h : MH} {n i : Nat} {p g f ws we wk w : String} {s t : St} {es : List Evt}
/-! recipes -/
@[simp] theorem oAdd_tup {xs ys : List D} {h : MH} : oAdd (.tup xs) (.tup ys) h = if xs.length + ys.length ≤ lim then .ok (.tup (xs ++ ys)) h else .bad := rfl
theorem oAdd_str {a b : Str} {h : MH} : oAdd (.str a) (.str b) h = if a.length + b.length ≤ lim then .ok (.str (a ++ b)) h else .bad := rfl
theorem for_preR {α : Type} {fi : Mo (List D)} {i : Nat} {body : Ms} {sl : Sl} {h h1 : MH} {P : Sl → MH → Prop} (to : α → D) (xs : List α) (Inv : List α → Sl → MH → Prop) (hfi : fi sl h = .ok (xs.map to) h1) (h0 : Inv [] sl h1)
    (hb : ∀ a x b, a ++ x :: b = xs → ∀ sl h, Inv a sl h → NxP (Inv (a ++ [x])) (body (sl.set i (some (to x))) h)) (hP : ∀ sl h, Inv xs sl h → P sl h) : NxP P (sFor fi (.nm i) body sl h) := by
  obtain ⟨sl', h', e, p⟩ := forD_pre (to := to) (i := i) (body := body) (Inv := Inv) xs [] sl h1 (fun a x b e => hb a x b (by simpa using e)) h0
  exact ⟨sl', h', by simp [hfi, e], hP _ _ (by simpa using p)⟩
/-- a part of a recipe: a word and a number -/
abbrev Pt : Type := String × Nat
def pT0 (x : Pt) : Str := (Str.ofString x.1 ++ Str.ofString " ") ++ Str.ofString (toString (x.2 : Int))
def pT (x : Pt) : Str := if x.1 = "evict" then Str.ofString "evict" else pT0 x
def WS : List String := ["look", "fetch", "fill", "store", "drop", "set", "stop", "take", "read", "write", "told"]
def okT (x : Pt) : Prop := x.1 = "evict" ∨ (x.1 ∈ WS ∧ x.2 < 64)
theorem num_txt : ∀ i, i < 64 → (44 ∉ TL.tl (Str.ofString (toString ((i : Nat) : Int)))) ∧ PySem.intText? (Str.ofString (toString ((i : Nat) : Int))) = some (i : Int) ∧ (Str.ofString (toString ((i : Nat) : Int))).length ≤ 10 := by decide +kernel
theorem word_txt : ∀ w, w ∈ WS → (44 ∉ TL.tl (Str.ofString w)) ∧ (32 ∉ TL.tl (Str.ofString w)) ∧ (Str.ofString w).length ≤ 10 := by decide +kernel
theorem sp_txt : TL.tl (Str.ofString " ") = [32] := by decide +kernel
theorem sep_txt : TL.tl (Str.ofString ", ") = [44, 32] := by decide +kernel
theorem evict_txt : (44 ∉ TL.tl (Str.ofString "evict")) ∧ (Str.ofString "evict").length ≤ 10 ∧ TL.tl (Str.ofString "evict") ≠ [] ∧ Txt.partition (Str.ofString "evict") (Str.ofString " ") = (Str.ofString "evict", Str.ofString "", Str.ofString "") := by decide +kernel
theorem WS_evict {w : String} (h : w ∈ WS) : w ≠ "evict" := by
  rintro rfl
  revert h
  decide
theorem pT_ev {x : Pt} (h : x.1 = "evict") : pT x = Str.ofString "evict" := if_pos h
theorem pT_ws {x : Pt} (h : x.1 ∈ WS) : pT x = pT0 x := if_neg (WS_evict h)
theorem pT_part {x : Pt} (hx : x.1 ∈ WS) : Txt.partition (pT x) (Str.ofString " ") = (Str.ofString x.1, Str.ofString " ", Str.ofString (toString (x.2 : Int))) := by
  rw [pT_ws hx]
  exact TL.partition_app sp_txt (word_txt _ hx).2.1
theorem pT_len {x : Pt} (hx : okT x) : (pT x).length ≤ 21 := by
  rcases hx with hx | hx
  · rw [pT_ev hx]
    exact Nat.le_trans evict_txt.2.1 (by decide)
  have h1 := (word_txt _ hx.1).2.2
  have h2 := (num_txt _ hx.2).2.2
  rw [pT_ws hx.1]
  unfold pT0
  rw [PySem.Str.length_append, PySem.Str.length_append]
  have h3 : (Str.ofString " ").length = 1 := by decide +kernel
  omega
theorem pT_sep {x : Pt} (hx : okT x) : 44 ∉ TL.tl (pT x) := by
  rcases hx with hx | hx
  · rw [pT_ev hx]
    exact evict_txt.1
  have h1 := (word_txt _ hx.1).1
  have h2 := (num_txt _ hx.2).1
  rw [pT_ws hx.1]
  unfold pT0
  rw [TL.tl_append, TL.tl_append, sp_txt]
  intro hm
  rcases List.mem_append.mp hm with hm | hm
  · rcases List.mem_append.mp hm with hm | hm
    · exact h1 hm
    · exact absurd hm (by decide)
  · exact h2 hm
theorem pT_ne (x : Pt) : TL.tl (pT x) ≠ [] := by
  unfold pT
  split
  · exact evict_txt.2.2.1
  · unfold pT0
    rw [TL.tl_append, TL.tl_append, sp_txt]
    simp
theorem rec_split {L : List Pt} (hne : L ≠ []) (hL : ∀ x ∈ L, okT x) : Txt.split (Txt.join (Str.ofString ", ") (L.map pT)) (Str.ofString ", ") = L.map pT := by
  refine TL.split_join sep_txt (by decide +kernel) (by simpa using hne) ?_
  intro y hy
  obtain ⟨x, hx, rfl⟩ := List.mem_map.mp hy
  exact pT_sep (hL x hx)
theorem rec_ne {L : List Pt} (hne : L ≠ []) (hL : ∀ x ∈ L, okT x) : Txt.join (Str.ofString ", ") (L.map pT) ≠ Str.ofString "" := by
  intro e
  have h1 := rec_split hne hL
  rw [e, show Txt.split (Str.ofString "") (Str.ofString ", ") = [Str.ofString ""] by decide +kernel] at h1
  cases L with
  | nil => exact hne rfl
  | cons x xs =>
    rw [List.map_cons] at h1
    injection h1 with h2 h3
    have h4 := congrArg TL.tl h2
    rw [show TL.tl (Str.ofString "") = [] by decide +kernel] at h4
    exact pT_ne x h4.symm
theorem join_len (y : Str) : ∀ ps : List Str, (Str.join y ps).length ≤ (ps.map (·.length)).sum + ps.length * y.length
  | [] => by show (Str.join y []).length ≤ _; rw [show Str.join y [] = Str.empty from rfl]; exact Nat.zero_le _
  | [x] => by show x.length ≤ _; simp
  | x :: z :: r => by
    have ih := join_len y (z :: r)
    show (x ++ y ++ Str.join y (z :: r)).length ≤ _
    rw [PySem.Str.length_append, PySem.Str.length_append]
    simp only [List.map_cons, List.sum_cons, List.length_cons, Nat.add_mul, Nat.one_mul] at ih ⊢
    omega
theorem sum_len {L : List Pt} (hL : ∀ x ∈ L, okT x) : ((L.map pT).map (·.length)).sum ≤ L.length * 21 := by
  induction L with
  | nil => simp
  | cons x xs ih =>
    have h1 := pT_len (hL x (by simp))
    have h2 := ih fun y hy => hL y (by simp [hy])
    simp only [List.map_cons, List.sum_cons, List.length_cons] at h2 ⊢
    omega
theorem rec_len {L : List Pt} (hL : ∀ x ∈ L, okT x) (hl : L.length ≤ 1000) : (Txt.join (Str.ofString ", ") (L.map pT)).length ≤ 23000 := by
  have h1 := join_len (Str.ofString ", ") (L.map pT)
  have h2 := sum_len hL
  have h3 : (Str.ofString ", ").length = 2 := by decide +kernel
  rw [TL.join_eq]
  rw [h3, List.length_map] at h1
  omega
def spW (p g w : String) : List String := if w = "read" then ["look", "fetch"] ++ (if g = "never" then [] else ["fill"]) else if w = "write" then stepsP p else [if w = "told" then "store" else w]
def spE0 (p g ws : String) (x : Pt) : List Evt := (spW p g x.1).map (fun u => (u, some (x.2 : Int))) ++ (if x.1 = "told" ∧ ws = "replica" then [("copy", none)] else [])
def spE (p g ws : String) (x : Pt) : List Evt := if x.1 = "evict" then [("evict", none)] else spE0 p g ws x
theorem spW_len : (spW p g w).length ≤ 3 := by
  unfold spW
  split
  · split <;> simp
  · split
    · exact stepsP_len
    · simp
theorem e_spelled (hp : okP p = true) : callF (n + 2) .spelled [St3 p g f, St3 ws we wk, S w, .int (i : Int)] h = .ok (.lst ((spE0 p g ws (w, i)).map toE)) h := by
  rw [callF_s]
  have hst := e_steps (n := n) (g := g) (f := f) (h := h) hp
  have e1 := lcD_map0 (to := S) (i := 6) (c := mYes) (f := mTup (mCons (mVar 6) (mCons (mVar 3) (mNil)))) (sl := [some (St3 p g f), some (St3 ws we wk), some (S w), some (.int (i : Int)), some (.dic [.inr (Str.ofString "read"), .inr (Str.ofString "write")] [.tup ((["look", "fetch"] ++ (if g = "never" then [] else ["fill"])).map S), .tup ((stepsP p).map S)]), none, none]) (h := h) (p := fun _ => true) (g := fun u => D.tup [S u, .int (i : Int)]) (spW p g w) (by
    intro u hu
    simp) (by rw [lim_eq]; have := spW_len (p := p) (g := g) (w := w); omega)
  simp only [filter_tt] at e1
  have hres : ((spE0 p g ws (w, i)).map toE) = ((spW p g w).map fun u => D.tup [S u, .int (i : Int)]) ++ (if w = "told" ∧ ws = "replica" then [D.tup [S "copy"]] else []) := by
    unfold spE0
    rw [List.map_append, List.map_map]
    congr 1
    split <;> rfl
  have hl := spW_len (p := p) (g := g) (w := w)
  have key : RtP2 (.lst ((spE0 p g ws (w, i)).map toE)) (fun h' => h' = h) (b_spelled (callF (n + 1)) [some (St3 p g f), some (St3 ws we wk), some (S w), some (.int (i : Int)), none, none, none] h) := by
    unfold b_spelled
    rw [seq_set (h1 := h) (.dic [.inr (Str.ofString "read"), .inr (Str.ofString "write")] [.tup ((["look", "fetch"] ++ (if g = "never" then [] else ["fill"])).map S), .tup ((stepsP p).map S)]) (by
      generalize (stepsP p).map S = T at *
      by_cases hg : g = "never"
      · subst hg
        simp [hst, oMulT, mergeD, dputK, dputV, dhas, keyD]
      · simp [hst, hg, oMulT, mergeD, dputK, dputV, dhas, keyD])]
    simp only [List.set_cons_succ, List.set_cons_zero]
    rw [seq_set (h1 := h) (.lst ((spW p g w).map fun u => D.tup [S u, .int (i : Int)])) (by
      have hget : mItT (mDGet2 (mVar 4) (mVar 2) (mTup (mCons (mIf (mTest (mOp oEq (mVar 2) (mC (.str "told")))) (mC (.str "store")) (mVar 2)) (mNil)))) [some (St3 p g f), some (St3 ws we wk), some (S w), some (.int (i : Int)), some (.dic [.inr (Str.ofString "read"), .inr (Str.ofString "write")] [.tup ((["look", "fetch"] ++ (if g = "never" then [] else ["fill"])).map S), .tup ((stepsP p).map S)]), none, none] h = .ok ((spW p g w).map S) h := by
        unfold spW
        generalize hT : (stepsP p).map S = T at *
        generalize hT2 : (["look", "fetch"] ++ (if g = "never" then [] else ["fill"])).map S = T2 at *
        by_cases h1 : w = "read"
        · rw [if_pos h1, hT2]
          simp [h1, dicD, getOr, dget, keyD]
        · by_cases h2 : w = "write"
          · rw [if_neg h1, if_pos h2, hT]
            simp [h2, dicD, getOr, dget, keyD]
          · by_cases h3 : w = "told"
            · simp [h3, dicD, getOr, dget, keyD]
            · have h1' : ¬ ("read" = w) := fun e => h1 e.symm
              have h2' : ¬ ("write" = w) := fun e => h2 e.symm
              simp [h1, h2, h3, h1', h2', dicD, getOr, dget, keyD]
      show bindR (mItT _ _ _) _ = _
      rw [hget, bindR_ok]
      rw [show wipeD [some (St3 p g f), some (St3 ws we wk), some (S w), some (.int (i : Int)), some (.dic [.inr (Str.ofString "read"), .inr (Str.ofString "write")] [.tup ((["look", "fetch"] ++ (if g = "never" then [] else ["fill"])).map S), .tup ((stepsP p).map S)]), none, none] [6] = [some (St3 p g f), some (St3 ws we wk), some (S w), some (.int (i : Int)), some (.dic [.inr (Str.ofString "read"), .inr (Str.ofString "write")] [.tup ((["look", "fetch"] ++ (if g = "never" then [] else ["fill"])).map S), .tup ((stepsP p).map S)]), none, none] from rfl]
      rw [e1]
      rfl)]
    simp only [List.set_cons_succ, List.set_cons_zero]
    refine ⟨h, ?_, rfl⟩
    rw [hres]
    have hlen : ((spW p g w).map fun u => D.tup [S u, .int (i : Int)]).length ≤ 3 := by rw [List.length_map]; exact hl
    generalize ((spW p g w).map fun u => D.tup [S u, .int (i : Int)]) = T at *
    generalize (.dic [.inr (Str.ofString "read"), .inr (Str.ofString "write")] [.tup ((["look", "fetch"] ++ (if g = "never" then [] else ["fill"])).map S), .tup ((stepsP p).map S)] : D) = T2 at *
    have hb1 : T.length + 1 ≤ lim := by rw [lim_eq]; omega
    have hb0 : T.length ≤ lim := by rw [lim_eq]; omega
    by_cases h1 : w = "told"
    · by_cases h2 : ws = "replica"
      · simp [h1, h2, oMulL, hb1]
      · simp [h1, h2, oMulL, hb0]
    · simp [h1, oMulL, hb0]
  obtain ⟨h', e, rfl⟩ := key
  exact e
end

end CH

namespace CH
open PySem L2
section
variable {pre post : MH} {h : MH} {n i : Nat} {p g f ws we wk w : String} {s t : St} {es : List Evt}
theorem e_each (hw : w ∈ WS) {is : List Nat} (his : ∀ i ∈ is, i < 64) (hl : is.length ≤ 1000) : callF (n + 1) .each [S w, .lst (is.map fun (i : Nat) => D.int (i : Int))] h = .ok (.lst (is.map fun i => D.str (pT (w, i)))) h := by
  rw [callF_s]
  have h1 := (word_txt _ hw).2.2
  have h3 : (Str.ofString " ").length = 1 := by decide +kernel
  have e1 := lcD_map0 (to := fun (i : Nat) => D.int (i : Int)) (i := 2) (c := mYes) (f := mOp oAdd (mOp oAdd (mVar 0) (mC (.str " "))) (mFn fStr (mCons (mVar 2) (mNil)))) (sl := [some (S w), some (.lst (is.map fun (i : Nat) => D.int (i : Int))), none]) (h := h) (p := fun _ => true) (g := fun i => D.str (pT (w, i))) is (by
    intro i hi
    have h2 := (num_txt _ (his i hi)).2.2
    have ha : (Str.ofString w).length + (Str.ofString " ").length ≤ lim := by rw [lim_eq]; omega
    have hb : (Str.ofString w ++ Str.ofString " ").length + (Str.ofString (toString (i : Int))).length ≤ lim := by rw [lim_eq, PySem.Str.length_append]; omega
    have hf : fStr [.int (i : Int)] h = .ok (.str (Str.ofString (toString (i : Int)))) h := by
      show (if (i : Int).natAbs ≤ 1000000000 then Res.ok (D.str (Str.ofString (toString (i : Int)))) h else .bad) = _
      have := his i hi
      rw [if_pos (by omega)]
    have e1 : oAdd (.str (Str.ofString w)) (.str (Str.ofString " ")) h = .ok (.str (Str.ofString w ++ Str.ofString " ")) h := by rw [oAdd_str, if_pos ha]
    have e2 : oAdd (.str (Str.ofString w ++ Str.ofString " ")) (.str (Str.ofString (toString (i : Int)))) h = .ok (.str (pT (w, i))) h := by
      rw [oAdd_str, if_pos hb, pT_ws (x := (w, i)) hw]; rfl
    generalize pT (w, i) = T at *
    generalize toString (i : Int) = T2 at *
    simp [hf, e1, e2]) (by rw [lim_eq]; omega)
  simp only [filter_tt] at e1
  generalize (is.map fun i => D.str (pT (w, i))) = T at *
  generalize (is.map fun (i : Nat) => D.int (i : Int)) = T2 at *
  simp [bodyOf, b_each, wipeD, e1]
theorem rgD_nat {a m : Nat} : rgD (a : Int) ((a + m : Nat) : Int) = (List.range' a m).map fun (i : Nat) => D.int (i : Int) := by
  unfold rgD
  rw [show (((a + m : Nat) : Int) - (a : Int)).toNat = m by omega, List.range'_eq_map_range, List.map_map]
  refine List.map_congr_left fun k _ => ?_
  show D.int _ = D.int _
  congr 1
theorem spE_len {x : Pt} : (spE p g ws x).length ≤ 4 := by
  unfold spE
  split
  · simp
  unfold spE0
  have := spW_len (p := p) (g := g) (w := x.1)
  rw [List.length_append, List.length_map]
  split <;> simp <;> omega
theorem spE_lens (L : List Pt) : (L.flatMap (spE p g ws)).length ≤ 4 * L.length := by
  induction L with
  | nil => simp
  | cons x xs ih =>
    have := spE_len (p := p) (g := g) (ws := ws) (x := x)
    rw [List.flatMap_cons, List.length_append, List.length_cons]
    omega
theorem e_events_of (hp : okP p = true) {L : List Pt} (hne : L ≠ []) (hL : ∀ x ∈ L, okT x) (hl : L.length ≤ 1000) : callF (n + 3) .events_of [St3 p g f, St3 ws we wk, .str (Txt.join (Str.ofString ", ") (L.map pT))] pre = .ok (.ref pre.length) (pre ++ [.lst ((L.flatMap (spE p g ws)).map toE)]) := by
  rw [callF_s]
  have hsp := rec_split hne hL
  have hnn := rec_ne hne hL
  have hln := rec_len hL hl
  generalize hR : Txt.join (Str.ofString ", ") (L.map pT) = R at *
  have key : RtP2 (.ref pre.length) (fun h' => h' = pre ++ [.lst ((L.flatMap (spE p g ws)).map toE)]) (b_events_of (callF (n + 2)) [some (St3 p g f), some (St3 ws we wk), some (.str R), none, none, none, none, none] pre) := by
    unfold b_events_of
    rw [seq_set (h1 := pre ++ [.lst []]) (.ref pre.length) (by simp)]
    simp only [List.set_cons_succ, List.set_cons_zero]
    refine seq_g (fun R => RtP2 (.ref pre.length) (fun h' => h' = pre ++ [.lst ((L.flatMap (spE p g ws)).map toE)]) R) (fun sl h => h = pre ++ [.lst ((L.flatMap (spE p g ws)).map toE)] ∧ ∃ a b c d, sl = [some (St3 p g f), some (St3 ws we wk), some (.str R), some (.ref pre.length), a, b, c, d]) ?_ ?_
    · refine for_preR (h1 := pre ++ [.lst []]) (fun x => D.str (pT x)) L (fun a sl h => h = pre ++ [.lst ((a.flatMap (spE p g ws)).map toE)] ∧ ∃ x4 x5 x6 x7, sl = [some (St3 p g f), some (St3 ws we wk), some (.str R), some (.ref pre.length), x4, x5, x6, x7]) ?_ ⟨rfl, _, _, _, _, rfl⟩ ?_ ?_
      · have hs : oSplit (.str R) (S ", ") (pre ++ [.lst []]) = .ok (.lst (L.map fun x => D.str (pT x))) (pre ++ [.lst []]) := by
          show (if ((Str.ofString ", ").length == 0) = false ∧ R.length + 2 ≤ lim then Res.ok (D.lst ((Txt.split R (Str.ofString ", ")).map D.str)) (pre ++ [.lst []]) else .bad) = _
          rw [if_pos ⟨by decide +kernel, by rw [lim_eq]; omega⟩, hsp, List.map_map]
          rfl
        have hne2 : eqD (.str R) (S "") = some false := by
          show some (decide (R = Str.ofString "")) = _
          rw [decide_eq_false hnn]
        simp [hs, hne2]
      · rintro a x b hab _ _ ⟨rfl, x4, x5, x6, x7, rfl⟩
        have hxL : x ∈ L := by rw [← hab]; simp
        have hok := hL x hxL
        have hext : gExt (.ref pre.length) [.lst ((spE p g ws (x.1, x.2)).map toE)] (pre ++ [.lst ((a.flatMap (spE p g ws)).map toE)]) = .ok .non (pre ++ [.lst (((a ++ [x]).flatMap (spE p g ws)).map toE)]) := by
          have hlst : oLst (pre ++ [O.lst ((a.flatMap (spE p g ws)).map toE)])[pre.length]? = some ((a.flatMap (spE p g ws)).map toE) := by
            rw [List.getElem?_append_right (Nat.le_refl _), Nat.sub_self]
            rfl
          show extD _ pre.length ((spE p g ws (x.1, x.2)).map toE) (oLst _) = _
          rw [hlst]
          have hal : a.length ≤ L.length := by rw [← hab]; simp
          have h1 := spE_lens (p := p) (g := g) (ws := ws) a
          have h2 := spE_len (p := p) (g := g) (ws := ws) (x := (x.1, x.2))
          show (if ((a.flatMap (spE p g ws)).map toE).length + ((spE p g ws (x.1, x.2)).map toE).length ≤ lim then Res.ok D.non ((pre ++ [O.lst ((a.flatMap (spE p g ws)).map toE)]).set pre.length (.lst ((a.flatMap (spE p g ws)).map toE ++ (spE p g ws (x.1, x.2)).map toE))) else .bad) = _
          rw [List.length_map, List.length_map, if_pos (by rw [lim_eq]; omega)]
          rw [List.set_append_right _ _ (Nat.le_refl _), Nat.sub_self, List.set_cons_zero, ← List.map_append, List.flatMap_append, List.flatMap_cons, List.flatMap_nil, List.append_nil]
        have hil : isLst (pre ++ [O.lst ((a.flatMap (spE p g ws)).map toE)]) (.ref pre.length) = true := by
          show (oLst _).isSome = true
          rw [List.getElem?_append_right (Nat.le_refl _), Nat.sub_self]
          rfl
        rcases hok with he | hok
        · have hpart : ∀ h : MH, gPart (.str (pT x)) [S " "] h = .ok (.tup [S "evict", S "", S ""]) h := by
            intro h
            show (if ((Str.ofString " ").length == 0) = false ∧ (pT x).length ≤ lim then Res.ok (D.tup [.str (Txt.partition (pT x) (Str.ofString " ")).1, .str (Txt.partition (pT x) (Str.ofString " ")).2.1, .str (Txt.partition (pT x) (Str.ofString " ")).2.2]) h else .bad) = _
            rw [if_pos ⟨by decide +kernel, by rw [lim_eq]; have := pT_len (x := x) (.inl he); omega⟩, pT_ev he, evict_txt.2.2.2]
          refine ⟨[some (St3 p g f), some (St3 ws we wk), some (.str R), some (.ref pre.length), some (.str (pT x)), some (S "evict"), some (S ""), some (S "")], pre ++ [.lst (((a ++ [x]).flatMap (spE p g ws)).map toE)], ?_, rfl, _, _, _, _, rfl⟩
          simp only [List.set_cons_succ, List.set_cons_zero]
          rw [seq_nx (sl1 := [some (St3 p g f), some (St3 ws we wk), some (.str R), some (.ref pre.length), some (.str (pT x)), some (S "evict"), some (S ""), some (S "")]) (h1 := pre ++ [.lst ((a.flatMap (spE p g ws)).map toE)]) (by simp [hpart, seqR])]
          have h5 : (spE p g ws (x.1, x.2)).map toE = [D.tup [S "evict"]] := by
            unfold spE
            rw [if_pos he]
            rfl
          rw [h5] at hext
          generalize (((a ++ [x]).flatMap (spE p g ws)).map toE) = A2 at *
          generalize ((a.flatMap (spE p g ws)).map toE) = A1 at *
          simp [hil, hext]
        have hpart : ∀ h : MH, gPart (.str (pT x)) [S " "] h = .ok (.tup [S x.1, S " ", .str (Str.ofString (toString (x.2 : Int)))]) h := by
          intro h
          show (if ((Str.ofString " ").length == 0) = false ∧ (pT x).length ≤ lim then Res.ok (D.tup [.str (Txt.partition (pT x) (Str.ofString " ")).1, .str (Txt.partition (pT x) (Str.ofString " ")).2.1, .str (Txt.partition (pT x) (Str.ofString " ")).2.2]) h else .bad) = _
          rw [if_pos ⟨by decide +kernel, by rw [lim_eq]; have := pT_len (x := x) (.inr hok); omega⟩, pT_part hok.1]
        have hint : ∀ h : MH, fIntS [.str (Str.ofString (toString (x.2 : Int)))] h = .ok (.int (x.2 : Int)) h := by
          intro h
          have h1 := (num_txt _ hok.2).2
          show (match PySem.intText? (Str.ofString (toString (x.2 : Int))) with
            | some n => if (Str.ofString (toString (x.2 : Int))).length ≤ 640 then Res.ok (D.int n) h else .bad
            | none => .bad) = _
          rw [h1.1]
          show (if (Str.ofString (toString (x.2 : Int))).length ≤ 640 then Res.ok (D.int (x.2 : Int)) h else .bad) = _
          rw [if_pos (by omega)]
        have hev := WS_evict hok.1
        have h6 : spE0 p g ws (x.1, x.2) = spE p g ws (x.1, x.2) := by
          unfold spE
          rw [if_neg hev]
        have hspl : ∀ h : MH, callF (n + 2) .spelled [St3 p g f, St3 ws we wk, S x.1, .int (x.2 : Int)] h = .ok (.lst ((spE p g ws (x.1, x.2)).map toE)) h := fun h => by
          rw [← h6]
          exact e_spelled (n := n) (g := g) (f := f) (ws := ws) (we := we) (wk := wk) (w := x.1) (i := x.2) (h := h) hp
        refine ⟨[some (St3 p g f), some (St3 ws we wk), some (.str R), some (.ref pre.length), some (.str (pT x)), some (S x.1), some (S " "), some (.str (Str.ofString (toString (x.2 : Int))))], pre ++ [.lst (((a ++ [x]).flatMap (spE p g ws)).map toE)], ?_, rfl, _, _, _, _, rfl⟩
        simp only [List.set_cons_succ, List.set_cons_zero]
        rw [seq_nx (sl1 := [some (St3 p g f), some (St3 ws we wk), some (.str R), some (.ref pre.length), some (.str (pT x)), some (S x.1), some (S " "), some (.str (Str.ofString (toString (x.2 : Int))))]) (h1 := pre ++ [.lst ((a.flatMap (spE p g ws)).map toE)]) (by simp [hpart, seqR])]
        generalize (((a ++ [x]).flatMap (spE p g ws)).map toE) = A2 at *
        generalize ((a.flatMap (spE p g ws)).map toE) = A1 at *
        generalize ((spE p g ws (x.1, x.2)).map toE) = A3 at *
        generalize toString (x.2 : Int) = T2 at *
        simp [hil, hev, hint, hspl, hext]
      · rintro _ _ ⟨rfl, a, b, c, d, rfl⟩
        exact ⟨rfl, _, _, _, _, rfl⟩
    · rintro _ _ ⟨rfl, a, b, c, d, rfl⟩
      exact ⟨_, by simp, rfl⟩
  obtain ⟨h', e, rfl⟩ := key
  exact e
theorem join_nil : Txt.join (Str.ofString ", ") ([] : List Str) = Str.ofString "" := by decide +kernel
theorem e_events_nil : callF (n + 3) .events_of [St3 p g f, St3 ws we wk, S ""] pre = .ok (.ref pre.length) (pre ++ [.lst []]) := by
  rw [callF_s]
  have e0 : sFor (mItL (mIf (mTest (mOp oNe (mVar 2) (mC (.str "")))) (mSplit (mVar 2) (mC (.str ", "))) (mLst (mNil)))) = sFor (mItL (mIf (mTest (mOp oNe (mVar 2) (mC (.str "")))) (mSplit (mVar 2) (mC (.str ", "))) (mLst (mNil)))) := rfl
  simp [bodyOf, b_events_of, seqR, forD]
/-- the text of a recipe, its events -/
def rTxt (L : List Pt) : Str := Txt.join (Str.ofString ", ") (L.map pT)
theorem e_events_r (hp : okP p = true) {L : List Pt} (hL : ∀ x ∈ L, okT x) (hl : L.length ≤ 1000) : callF (n + 3) .events_of [St3 p g f, St3 ws we wk, .str (rTxt L)] pre = .ok (.ref pre.length) (pre ++ [.lst ((L.flatMap (spE p g ws)).map toE)]) := by
  cases L with
  | nil =>
    have e : rTxt [] = Str.ofString "" := join_nil
    rw [e]
    exact e_events_nil
  | cons x xs => exact e_events_of hp (by simp) hL hl
end

end CH

namespace CH
open PySem L2
section
variable {p g f ws we wk : String}
/-! runs that are told -/
def okB : St → List Evt → Bool
  | _, [] => true
  | s, e :: es => decide (e ∈ s.evL) && okB (s.doE e) es
theorem okB_ok : ∀ (es : List Evt) (s : St), okB s es = true → okEv s es
  | [], _, _ => trivial
  | e :: es, s, h => by
    unfold okB at h
    rw [Bool.and_eq_true] at h
    exact ⟨of_decide_eq_true h.1, okB_ok es _ h.2⟩
theorem rn_of {es : List Evt} (hp : okP p = true) (hg : okG g = true) (hl : es.length < 800) (h : okB (st0 p g f ws we wk) es = true) : Rn p g f ws we wk es (runE (st0 p g f ws we wk) es) (runLa (st0 p g f ws we wk) es) := ⟨hp, hg, okB_ok _ _ h, hl, rfl, rfl⟩
theorem ok_okB : ∀ (es : List Evt) (s : St), okEv s es → okB s es = true
  | [], _, _ => rfl
  | e :: es, s, h => by
    unfold okB
    rw [decide_eq_true h.1, Bool.true_and]
    exact ok_okB es _ h.2
end

end CH

namespace CH
open PySem L2
section
variable {pre post : MH} {h : MH} {n i j : Nat} {p g f ws we wk w q : String} {s t : St} {es : List Evt} {e : Evt}
/-! runs alike but for their times and worlds -/
def er (o : Op) : Op := { o with begun := 0, ended := none }
def St.al (s : St) : St := { s with ws := "", we := "", wk := "", rep := 0, past := [], last := none, ops := s.ops.map er }
structure FA (s t : St) : Prop where
  p : s.p = t.p
  g : s.g = t.g
  f : s.f = t.f
  db : s.db = t.db
  cache : s.cache = t.cache
  mark : s.mark = t.mark
  flight : s.flight = t.flight
  fin : s.fin = t.fin
  ret : s.ret = t.ret
  ops : s.ops.map er = t.ops.map er
theorem al_of (h : FA s t) : s.al = t.al := by
  cases s; cases t
  obtain ⟨h1, h2, h3, h4, h5, h6, h7, h8, h9, h11⟩ := h
  simp only at h1 h2 h3 h4 h5 h6 h7 h8 h9 h11
  subst h1 h2 h3 h4 h5 h6 h7 h8 h9
  simp only [St.al, h11]
theorem al_f (h : s.al = t.al) : FA s t := ⟨by have x := congrArg St.p h; exact x, by have x := congrArg St.g h; exact x, by have x := congrArg St.f h; exact x, by have x := congrArg St.db h; exact x, by have x := congrArg St.cache h; exact x, by have x := congrArg St.mark h; exact x, by have x := congrArg St.flight h; exact x, by have x := congrArg St.fin h; exact x, by have x := congrArg St.ret h; exact x, by have x := congrArg St.ops h; exact x⟩
structure OpA (o o' : Op) : Prop where
  kind : o.kind = o'.kind
  stage : o.stage = o'.stage
  ver : o.ver = o'.ver
  step : o.step = o'.step
  token : o.token = o'.token
  leader : o.leader = o'.leader
  ofin : o.ofin = o'.ofin
  oret : o.oret = o'.oret
  quiet : o.quiet = o'.quiet
theorem opA_iff {o o' : Op} : er o = er o' ↔ OpA o o' := by
  unfold er
  simp only [Op.mk.injEq, true_and]
  exact ⟨fun ⟨a, b, c, d, e, f, g, h, i⟩ => ⟨a, b, c, d, e, f, g, h, i⟩, fun ⟨a, b, c, d, e, f, g, h, i⟩ => ⟨a, b, c, d, e, f, g, h, i⟩⟩
theorem al_len (h : s.al = t.al) : s.ops.length = t.ops.length := by
  have := congrArg List.length (al_f h).ops
  simpa using this
theorem al_op (h : s.al = t.al) (j : Nat) : OpA (s.op j) (t.op j) := by
  rw [← opA_iff]
  by_cases hj : j < s.ops.length
  · have h2 : j < t.ops.length := by rw [← al_len h]; exact hj
    have := congrArg (fun l => l[j]?) (al_f h).ops
    simpa [op_some hj, op_some h2] using this
  · rw [op_none hj, op_none (by rw [← al_len h]; exact hj)]
theorem al_upd {F G : Op → Op} (h : s.al = t.al) (hf : ∀ o o', OpA o o' → OpA (F o) (G o')) : (s.upd j F).al = (t.upd j G).al := by
  have e := al_f h
  refine al_of ⟨e.p, e.g, e.f, e.db, e.cache, e.mark, e.flight, e.fin, e.ret, ?_⟩
  show (s.ops.modify j F).map er = (t.ops.modify j G).map er
  apply List.ext_getElem?
  intro i
  simp only [List.getElem?_map, List.getElem?_modify, Option.map_map]
  have hl := al_len h
  by_cases hi : i < s.ops.length
  · have hi2 : i < t.ops.length := by rw [← hl]; exact hi
    rw [op_some hi, op_some hi2]
    by_cases hij : j = i
    · subst hij
      simp [opA_iff.mpr (hf _ _ (al_op h j))]
    · simp [hij, opA_iff.mpr (al_op h i)]
  · rw [List.getElem?_eq_none (by omega), List.getElem?_eq_none (by omega)]
    all_goals rfl
theorem al_map {F : Op → Op} (h : s.al = t.al) (hf : ∀ o o', OpA o o' → OpA (F o) (F o')) : (s.wOps (s.ops.map F)).al = (t.wOps (t.ops.map F)).al := by
  have e := al_f h
  refine al_of ⟨e.p, e.g, e.f, e.db, e.cache, e.mark, e.flight, e.fin, e.ret, ?_⟩
  show (s.ops.map F).map er = (t.ops.map F).map er
  apply List.ext_getElem?
  intro i
  simp only [List.getElem?_map, Option.map_map]
  have hl := al_len h
  by_cases hi : i < s.ops.length
  · have hi2 : i < t.ops.length := by rw [← hl]; exact hi
    rw [op_some hi, op_some hi2]
    simp [opA_iff.mpr (hf _ _ (al_op h i))]
  · rw [List.getElem?_eq_none (by omega), List.getElem?_eq_none (by omega)]
    all_goals rfl
theorem A_stage {v : String} : ∀ o o', OpA o o' → OpA (Op.wStage v o) (Op.wStage v o') := fun _ _ a => ⟨a.kind, rfl, a.ver, a.step, a.token, a.leader, a.ofin, a.oret, a.quiet⟩
theorem A_ver {v : Option Int} : ∀ o o', OpA o o' → OpA (Op.wVer v o) (Op.wVer v o') := fun _ _ a => ⟨a.kind, a.stage, rfl, a.step, a.token, a.leader, a.ofin, a.oret, a.quiet⟩
theorem A_ended {v v' : Option Int} : ∀ o o', OpA o o' → OpA (Op.wEnded v o) (Op.wEnded v' o') := fun _ _ a => ⟨a.kind, a.stage, a.ver, a.step, a.token, a.leader, a.ofin, a.oret, a.quiet⟩
theorem A_step {v : Int} : ∀ o o', OpA o o' → OpA (Op.wStep v o) (Op.wStep v o') := fun _ _ a => ⟨a.kind, a.stage, a.ver, rfl, a.token, a.leader, a.ofin, a.oret, a.quiet⟩
theorem A_leader {v : Option Int} : ∀ o o', OpA o o' → OpA (Op.wLeader v o) (Op.wLeader v o') := fun _ _ a => ⟨a.kind, a.stage, a.ver, a.step, a.token, rfl, a.ofin, a.oret, a.quiet⟩
theorem A_uw {o o' : Op} (a : OpA o o') : uw o = uw o' := by unfold uw; rw [a.stage]
theorem A_spo : ∀ o o', OpA o o' → OpA (spo o) (spo o') := fun o o' a => by
  unfold spo
  rw [A_uw a]
  split
  · exact ⟨a.kind, a.stage, a.ver, a.step, rfl, a.leader, a.ofin, a.oret, a.quiet⟩
  · exact a
theorem A_unq : ∀ o o', OpA o o' → OpA (unq o) (unq o') := fun o o' a => by
  unfold unq
  rw [A_uw a]
  split
  · exact ⟨a.kind, a.stage, a.ver, a.step, a.token, a.leader, a.ofin, a.oret, rfl⟩
  · exact a
theorem al_wDb (h : s.al = t.al) {v : Int} : (s.wDb v).al = (t.wDb v).al := by have x := congrArg (fun x : St => x.wDb v) h; exact x
theorem al_wCache (h : s.al = t.al) {v : Option Int} : (s.wCache v).al = (t.wCache v).al := by have x := congrArg (fun x : St => x.wCache v) h; exact x
theorem al_wMark (h : s.al = t.al) {v : Int} : (s.wMark v).al = (t.wMark v).al := by have x := congrArg (fun x : St => x.wMark v) h; exact x
theorem al_wFlight (h : s.al = t.al) {v : Option Int} : (s.wFlight v).al = (t.wFlight v).al := by have x := congrArg (fun x : St => x.wFlight v) h; exact x
theorem al_wFin (h : s.al = t.al) {v : Int} : (s.wFin v).al = (t.wFin v).al := by have x := congrArg (fun x : St => x.wFin v) h; exact x
theorem al_wRet (h : s.al = t.al) {v : Int} : (s.wRet v).al = (t.wRet v).al := by have x := congrArg (fun x : St => x.wRet v) h; exact x
theorem al_wLast (h : s.al = t.al) {v v' : Option Nat} : (s.wLast v).al = (t.wLast v').al := h
theorem al_wPast (h : s.al = t.al) {v v' : List Evt} : (s.wPast v).al = (t.wPast v').al := h
theorem al_wRep (h : s.al = t.al) {v v' : Int} : (s.wRep v).al = (t.wRep v').al := h
theorem al_wRep1 {v : Int} : (s.wRep v).al = s.al := rfl
theorem al_put (h : s.al = t.al) {v : Int} : (s.put v).al = (t.put v).al := by
  have e := al_f h
  unfold St.put
  rw [e.g, e.mark]
  by_cases hg : t.g = "mark"
  · rw [if_pos hg, if_pos hg]; exact al_wMark (al_wCache h)
  · rw [if_neg hg, if_neg hg]; exact al_wCache h
theorem al_spoil (h : s.al = t.al) : s.spoil.al = t.spoil.al := al_map h A_spo
theorem al_end1 (h : s.al = t.al) : (s.end1 j).al = (t.end1 j).al := al_upd (al_upd h A_stage) A_ended
theorem al_end2 (h : s.al = t.al) : (s.end2 j).al = (t.end2 j).al := by
  have e := al_f h
  have o := al_op h j
  unfold St.end2
  rw [o.kind, o.ver, e.fin, e.ret]
  split
  · exact al_wFin h
  · exact al_wRet h
theorem al_end3 (h : s.al = t.al) : (s.end3 j).al = (t.end3 j).al := by
  have e := al_f h
  unfold St.end3
  rw [e.flight]
  split
  · exact al_wFlight h
  · exact h
theorem al_endO (h : s.al = t.al) : (s.endO j).al = (t.endO j).al := al_end3 (al_end2 (al_end1 h))
theorem al_look (h : s.al = t.al) : (s.look j).al = (t.look j).al := by
  have e := al_f h
  unfold St.look
  rw [e.cache]
  cases t.cache with
  | some c => exact al_endO (al_upd h A_ver)
  | none =>
    show (if (s.f = "shared") ∧ s.flight.isSome = true then _ else _ : St).al = (if (t.f = "shared") ∧ t.flight.isSome = true then _ else _ : St).al
    rw [e.f, e.flight]
    split
    · exact al_upd (al_upd h A_stage) A_leader
    · exact al_wFlight (al_upd h A_stage)
theorem al_fetch (h : s.al = t.al) (hs : s.seen = t.seen) : (s.fetch j).al = (t.fetch j).al := by
  have e := al_f h
  unfold St.fetch
  rw [hs, e.g]
  have h1 : ((s.upd j (Op.wVer (some t.seen))).upd j (Op.wStage "fill")).al = ((t.upd j (Op.wVer (some t.seen))).upd j (Op.wStage "fill")).al := al_upd (al_upd h A_ver) A_stage
  show (if t.g = "never" then _ else _ : St).al = (if t.g = "never" then _ else _ : St).al
  split
  · exact al_endO h1
  · exact h1
theorem al_newer (h : s.al = t.al) {v : Int} : s.newer v = t.newer v := by
  have e := al_f h
  unfold St.newer
  rw [e.g, e.mark, e.cache]
theorem al_good (h : s.al = t.al) : s.good j = t.good j := by
  have e := al_f h
  have o := al_op h j
  unfold St.good
  rw [e.g, e.cache, o.token, o.ver, al_newer h]
theorem al_fill (h : s.al = t.al) : (s.fill j).al = (t.fill j).al := by
  have o := al_op h j
  unfold St.fill
  rw [al_good h, o.ver]
  refine al_endO ?_
  split
  · exact al_put h
  · exact h
theorem al_take (h : s.al = t.al) : (s.take j).al = (t.take j).al := by
  unfold St.take
  rw [(al_op h j).leader, (al_op h _).ver]
  exact al_endO (al_upd h A_ver)
theorem al_wr1 (h : s.al = t.al) : (s.wr1 w j).al = (t.wr1 w j).al := by
  have e := al_f h
  have o := al_op h j
  unfold St.wr1
  rw [e.db, o.ver]
  split
  · exact al_upd (al_wDb h) A_ver
  split
  · have h1 := al_spoil (al_wCache h (v := none))
    have e1 := al_f h1
    show (if (s.wCache none).spoil.g = "mark" then _ else _ : St).al = (if (t.wCache none).spoil.g = "mark" then _ else _ : St).al
    rw [e1.g, e1.mark]
    split
    · cases (t.op j).ver with
      | some v => exact al_wMark h1
      | none => exact h1
    · exact h1
  · have h1 := al_spoil h
    have e1 := al_f h1
    show (if (!(decide (s.spoil.g = "mark") || decide (s.spoil.g = "newer")) || s.spoil.newer _) = true then _ else _ : St).al = (if (!(decide (t.spoil.g = "mark") || decide (t.spoil.g = "newer")) || t.spoil.newer _) = true then _ else _ : St).al
    rw [e1.g, al_newer h1]
    split
    · exact al_put h1
    · exact h1
theorem al_wr2 (h : s.al = t.al) : (s.wr2 j).al = (t.wr2 j).al := by
  have e := al_f h
  have o := al_op h j
  have h1 : (s.upd j (Op.wStep ((t.op j).step + 1))).al = (t.upd j (Op.wStep ((t.op j).step + 1))).al := al_upd h A_step
  unfold St.wr2
  rw [e.p, o.step]
  show (if (t.op j).step + 1 = ((stepsP t.p).length : Int) then _ else _ : St).al = (if (t.op j).step + 1 = ((stepsP t.p).length : Int) then _ else _ : St).al
  split
  · exact al_endO h1
  · exact al_upd h1 A_stage
theorem al_uwL (h : s.al = t.al) : s.uwL = t.uwL := by
  unfold St.uwL
  rw [al_len h]
  exact List.filter_congr fun i _ => A_uw (al_op h i)
theorem al_isWr (h : s.al = t.al) : s.isWr = t.isWr := by
  unfold St.isWr
  rw [al_uwL h]
  have key : ∀ l : List Nat, (l.any fun j => decide ((s.op j).kind = "write")) = l.any fun j => decide ((t.op j).kind = "write") := by
    intro l
    induction l with
    | nil => rfl
    | cons x l ih => rw [List.any_cons, List.any_cons, ih, (al_op h x).kind]
  exact key _
theorem al_beginO (h : s.al = t.al) : (s.beginO w).al = (t.beginO w).al := by
  have h0 : (s.begin0 w).al = (t.begin0 w).al := by
    unfold St.begin0
    split
    · exact al_map h A_unq
    · exact h
  unfold St.beginO
  have e := al_f h0
  refine al_of ⟨e.p, e.g, e.f, e.db, e.cache, e.mark, e.flight, e.fin, e.ret, ?_⟩
  show ((s.begin0 w).ops ++ [(s.begin0 w).newOp w]).map er = ((t.begin0 w).ops ++ [(t.begin0 w).newOp w]).map er
  rw [List.map_append, List.map_append, e.ops]
  congr 1
  show [er _] = [er _]
  unfold St.newOp
  rw [e.p, e.fin, e.ret, al_isWr h0]
  rfl
theorem al_step1 (h : s.al = t.al) (hs : s.seen = t.seen) : (s.step1 w j).al = (t.step1 w j).al := by
  unfold St.step1 St.read St.write
  rw [(al_op h j).kind]
  split
  · exact al_upd h A_stage
  split
  · exact al_wr2 (al_wr1 h)
  split
  · exact al_look h
  split
  · exact al_fetch h hs
  split
  · exact al_fill h
  · exact al_take h
theorem al_step0 (h : s.al = t.al) : (s.step0 w j).al = (t.step0 w j).al := by
  unfold St.step0
  rw [al_len h]
  split
  · exact al_beginO h
  · exact h
theorem seen_wOps {v : List Op} : (s.wOps v).seen = s.seen := rfl
theorem seen_step0 : (s.step0 w j).seen = s.seen := by
  unfold St.step0 St.beginO St.begin0
  split
  · split <;> (split <;> rfl)
  · rfl
theorem al_stepO (h : s.al = t.al) (hs : s.seen = t.seen) : (s.stepO w j).al = (t.stepO w j).al := by
  unfold St.stepO
  exact al_step1 (al_step0 h) (by rw [seen_step0, seen_step0, hs])
theorem al_doE (h : s.al = t.al) (hs : s.seen = t.seen) : (s.doE e).al = (t.doE e).al := by
  obtain ⟨w, o⟩ := e
  cases o with
  | none =>
    show (if w = "evict" then _ else _ : St).al = (if w = "evict" then _ else _ : St).al
    split
    · exact al_wMark (al_wCache (al_wLast (v := none) (v' := none) h))
    · exact h
  | some i => exact al_stepO (al_wLast (v := none) (v' := none) h) hs
theorem al_next (h : s.al = t.al) : s.next (s.op j) = t.next (t.op j) := by
  unfold St.next
  rw [(al_op h j).stage, (al_op h j).leader, (al_op h _).stage]
end


end CH

namespace CH
open PySem L2
section
variable {n : Nat} {q : String} {h : MH} {ws : List String}
def PS : List String := ["drop store", "drop store drop", "store", "store drop", "store set"]
def GS : List String := ["always", "empty", "mark", "never", "newer", "token"]
abbrev Dz := String × String × String
def toZ (d : Dz) : D := St3 d.1 d.2.1 d.2.2
def designsZ : List Dz := PS.flatMap fun p => GS.flatMap fun g => [(p, g, "alone"), (p, g, "shared")]
def worldsZ : List Dz := ["primary", "replica"].flatMap fun p => ["evicts", "keeps"].flatMap fun g => [(p, g, "finishes"), (p, g, "stops")]
theorem ok_designsZ {d : Dz} (hd : d ∈ designsZ) : okD d.1 d.2.1 d.2.2 = true := by
  unfold designsZ at hd
  obtain ⟨p, hp, hd⟩ := List.mem_flatMap.mp hd
  obtain ⟨g, hg, hd⟩ := List.mem_flatMap.mp hd
  have h1 : okP p = true := by simpa [PS, okP] using hp
  have h2 : okG g = true := by simpa [GS, okG] using hg
  simp only [List.mem_cons, List.not_mem_nil, or_false] at hd
  rcases hd with rfl | rfl
  · simp [okD, h1, h2, okF]
  · simp [okD, h1, h2, okF]
theorem ok_worldsZ {d : Dz} (hd : d ∈ worldsZ) : okW d.1 d.2.1 d.2.2 = true := by
  unfold worldsZ at hd
  obtain ⟨p, hp, hd⟩ := List.mem_flatMap.mp hd
  obtain ⟨g, hg, hd⟩ := List.mem_flatMap.mp hd
  simp only [List.mem_cons, List.not_mem_nil, or_false] at hd hp hg
  rcases hd with rfl | rfl
  · simp [okW, hp, hg]
  · simp [okW, hp, hg]
end

end CH

namespace CH
open PySem L2
section
variable {p g f ws we wk : String} {s t : St} {es : List Evt} {m : Nat}
/-! the recipe of behind -/
def stpL (is : List Nat) : List Pt := is.flatMap fun i => [("store", i), ("stop", i)]
def lateL (p g ws we : String) (m : Nat) : List Pt :=
  if (!decide (g = "token") && (!decide (g = "mark") || decide (we = "evicts"))) = true then [("look", 0), ("fetch", 0)] ++ (List.range' 1 m).map (fun i => ("write", i)) ++ (if g = "mark" then [("evict", 0)] else []) ++ [("fill", 0)]
  else if (decide (g = "token") && decide (ws = "replica")) = true then (List.range' 0 m).map (fun i => ("write", i)) ++ [("read", m)]
  else if p = "store drop" then [("read", 0)] ++ stpL (List.range' 1 m)
  else (List.range' 0 m).map (fun i => ("drop", i)) ++ [("read", m)] ++ stpL (List.range' 0 m)
def isVer (g : String) : Bool := decide (g = "mark") || decide (g = "newer")
def setL (g we : String) (m : Nat) : List Pt :=
  if (isVer g && decide (we = "keeps")) = true then [("read", 0)] ++ stpL (List.range' 1 m)
  else (List.range' 0 (m + 1)).map (fun i => ("store", i)) ++ (List.range' 1 m).map (fun i => ("set", i)) ++ (if isVer g = true then [("evict", 0)] else []) ++ [("set", 0)]
def bhL (p g ws we : String) (m : Nat) : List Pt :=
  if bLast p = true then lateL p g ws we m
  else if p = "store set" then setL g we m
  else if p = "store" then [("read", 0)] ++ (List.range' 1 m).map (fun i => ("write", i))
  else (List.range' 0 m).map (fun i => ("drop", i)) ++ [("read", m)] ++ (List.range' 0 m).map (fun i => ("store", i))
def bhE (p g ws we : String) (m : Nat) : List Evt := (bhL p g ws we m).flatMap (spE p g ws)
/-! each of them is a run, and far behind at its end -/
def okR : St → List Evt → (St → Bool) → Bool
  | s, [], k => k s
  | s, e :: es, k => decide (e ∈ s.evL) && okR (s.doE e) es k
theorem okR_eq {k : St → Bool} : ∀ (es : List Evt) (s : St), okR s es k = (okB s es && k (runE s es))
  | [], s => by simp [okR, okB, runE]
  | e :: es, s => by
    unfold okR okB
    rw [okR_eq es, Bool.and_assoc]
    rfl
def finB (m : Nat) (s : St) : Bool := s.uwL.isEmpty && (match s.cache with
  | some c => decide (s.db - c = (m : Int))
  | none => false)
def chk1 (p g f ws we wk : String) (m : Nat) : Bool := bRest p g ws we wk || (decide ((bhE p g ws we m).length ≤ 60) && okR (st0 p g f ws we wk) (bhE p g ws we m) (finB m))
def chkG (p g : String) : Bool := ["alone", "shared"].all fun f => ["primary", "replica"].all fun ws => ["evicts", "keeps"].all fun we => ["finishes", "stops"].all fun wk => (List.range' 1 12).all fun m => chk1 p g f ws we wk m
end

end CH

namespace CH
open PySem L2
section
variable {pre post : MH} {h : MH} {n i m : Nat} {p g f ws we wk w q : String} {s t : St} {es : List Evt}
theorem evs_pure : ∀ es : List Evt, pureL (es.map toE) = true
  | [] => rfl
  | e :: es => by
    have ih := evs_pure es
    obtain ⟨w, o⟩ := e
    cases o <;> simp [toE, pureL, pureD, ih]
theorem e_is_in {j a b : Int} (h1 : a ≤ j) (h2 : j ≤ b) : callF (n + 2) .is_in [.int j, .int a, .int b] h = .ok (.bl true) h := by
  rw [callF_s]
  have h3 : callF (n + 1) .is_integer [.int j] h = .ok (.bl true) h := by
    rw [callF_s]
    simp [bodyOf, b_is_integer, isiT]
  simp [bodyOf, b_is_in, h3, h1, h2]
theorem strsD_map : ∀ L : List Pt, strsD (L.map fun x => D.str (pT x)) = some (L.map pT)
  | [] => rfl
  | x :: xs => by
    show (strsD (xs.map fun x => D.str (pT x))).map (fun js => pT x :: js) = _
    rw [strsD_map xs]
    rfl
theorem gJoin_e {L : List Pt} (hL : ∀ x ∈ L, okT x) (hl : L.length ≤ 1000) : gJoin (S ", ") [.lst (L.map fun x => D.str (pT x))] h = .ok (.str (rTxt L)) h := by
  show joinR (Str.ofString ", ") h (strsD (L.map fun x => D.str (pT x))) = _
  rw [strsD_map]
  have h2 := sum_len hL
  have h3 : (Str.ofString ", ").length = 2 := by decide +kernel
  show (if ((L.map pT).map (·.length)).sum + (L.map pT).length * (Str.ofString ", ").length ≤ 16777216 then Res.ok (D.str (Txt.join (Str.ofString ", ") (L.map pT))) h else .bad) = _
  rw [if_pos (by rw [h3, List.length_map]; omega)]
  rfl
/-- numbers, parts of a recipe -/
def nms (is : List Nat) : D := .lst (is.map fun (i : Nat) => D.int (i : Int))
def ptsL (L : List Pt) : List D := L.map fun x => D.str (pT x)
def pts (L : List Pt) : D := .lst (ptsL L)
theorem ptsL_len {L : List Pt} : (ptsL L).length = L.length := by simp [ptsL]
theorem pts_add {A B : List Pt} (hl : A.length + B.length ≤ 1000) : oAdd (pts A) (pts B) h = .ok (pts (A ++ B)) h := by
  show oAdd (.lst (ptsL A)) (.lst (ptsL B)) h = _
  rw [oAdd_lst, ptsL_len, ptsL_len, if_pos (by rw [lim_eq]; omega)]
  show Res.ok (D.lst (ptsL A ++ ptsL B)) h = .ok (D.lst (ptsL (A ++ B))) h
  unfold ptsL
  rw [List.map_append]
theorem listRg2_e {sl : Sl} {fa fb : Mo D} {a k : Nat} (hk : a + k ≤ 1000) (h1 : fa sl h = .ok (.int (a : Int)) h) (h2 : fb sl h = .ok (.int ((a + k : Nat) : Int)) h) : mListRg2 fa fb sl h = .ok (nms (List.range' a k)) h := by
  show bindR (fa sl h) _ = _
  rw [h1, bindR_ok]
  show bindR (fb sl h) _ = _
  rw [h2, bindR_ok]
  show rgR (a : Int) ((a + k : Nat) : Int) h = _
  unfold rgR
  rw [if_pos ⟨⟨by omega, by omega⟩, by omega, by omega⟩, rgD_nat]
  rfl
theorem listRg1_e {sl : Sl} {fa : Mo D} {k : Nat} (hk : k ≤ 1000) (h1 : fa sl h = .ok (.int (k : Int)) h) : mListRg1 fa sl h = .ok (nms (List.range' 0 k)) h := by
  show bindR (fa sl h) _ = _
  rw [h1, bindR_ok]
  show rgR 0 (k : Int) h = _
  unfold rgR
  have e := rgD_nat (a := 0) (m := k)
  rw [Nat.zero_add] at e
  rw [if_pos ⟨⟨by omega, by omega⟩, by omega, by omega⟩]
  exact congrArg (fun x => Res.ok (D.lst x) h) e
theorem e_eachL (hw : w ∈ WS) {is : List Nat} (his : ∀ i ∈ is, i < 64) (hl : is.length ≤ 1000) : callF (n + 1) .each [S w, nms is] h = .ok (pts (is.map fun i => (w, i))) h := by
  have := e_each (n := n) (h := h) hw his hl
  unfold pts ptsL nms
  rw [this, List.map_map]
  rfl
theorem lst_one : (D.lst [.int (i : Int)]) = nms [i] := rfl
theorem pc (x : Pt) (w : String) (e : Str.ofString w = pT x) : D.lst [S w] = pts [x] := by
  show D.lst [D.str (Str.ofString w)] = D.lst [D.str (pT x)]
  rw [e]
theorem pc_read : D.lst [S "read 0"] = pts [("read", 0)] := pc _ _ (by decide +kernel)
theorem pc_set : D.lst [S "set 0"] = pts [("set", 0)] := pc _ _ (by decide +kernel)
theorem pc_fill : D.lst [S "fill 0"] = pts [("fill", 0)] := pc _ _ (by decide +kernel)
theorem pc_evict : D.lst [S "evict"] = pts [("evict", 0)] := pc _ _ (by decide +kernel)
theorem pc_look : D.lst [S "look 0", S "fetch 0"] = pts [("look", 0), ("fetch", 0)] := by
  have a1 : Str.ofString "look 0" = pT ("look", 0) := by decide +kernel
  have a2 : Str.ofString "fetch 0" = pT ("fetch", 0) := by decide +kernel
  show D.lst [D.str (Str.ofString "look 0"), D.str (Str.ofString "fetch 0")] = D.lst [D.str (pT ("look", 0)), D.str (pT ("fetch", 0))]
  rw [a1, a2]
theorem stpL_app {a : List Nat} {i : Nat} : stpL (a ++ [i]) = (stpL a ++ [("store", i)]) ++ [("stop", i)] := by
  unfold stpL
  rw [List.flatMap_append, List.append_assoc]
  rfl
theorem stpL_len {a : List Nat} : (stpL a).length = 2 * a.length := by
  induction a with
  | nil => rfl
  | cons x xs ih =>
    show ([("store", x), ("stop", x)] ++ stpL xs).length = _
    rw [List.length_append, ih, List.length_cons]
    simp
    omega
theorem e_stopped {is : List Nat} (his : ∀ i ∈ is, i < 64) (hl : is.length ≤ 100) : callF (n + 2) .stopped [nms is] h = .ok (pts (stpL is)) h := by
  rw [callF_s]
  have key : RtP2 (pts (stpL is)) (fun h' => h' = h) (b_stopped (callF (n + 1)) [some (nms is), none, none] h) := by
    unfold b_stopped
    rw [seq_set (h1 := h) (pts []) (by rfl)]
    simp only [List.set_cons_succ, List.set_cons_zero]
    refine seq_g (fun R => RtP2 (pts (stpL is)) (fun h' => h' = h) R) (fun sl h' => h' = h ∧ ∃ y, sl = [some (nms is), some (pts (stpL is)), y]) ?_ ?_
    · refine for_preR (h1 := h) (fun (i : Nat) => D.int (i : Int)) is (fun a sl h' => h' = h ∧ ∃ y, sl = [some (nms is), some (pts (stpL a)), y]) (by rfl) ⟨rfl, _, rfl⟩ ?_ (fun _ _ x => x)
      rintro a i b hab _ h2 ⟨rfl, y, rfl⟩
      have hi : i < 64 := his i (by rw [← hab]; simp)
      have hal : a.length ≤ is.length := by rw [← hab]; simp
      have e1 := e_eachL (n := n) (h := h2) (w := "store") (by decide) (is := [i]) (by intro j hj; simp at hj; omega) (by simp)
      have e2 := e_eachL (n := n) (h := h2) (w := "stop") (by decide) (is := [i]) (by intro j hj; simp at hj; omega) (by simp)
      simp only [List.map_cons, List.map_nil] at e1 e2
      have hln := stpL_len (a := a)
      have a1 : oAdd (pts (stpL a)) (pts [("store", i)]) h2 = .ok (pts (stpL a ++ [("store", i)])) h2 := pts_add (by rw [hln]; simp; omega)
      have a2 : oAdd (pts (stpL a ++ [("store", i)])) (pts [("stop", i)]) h2 = .ok (pts ((stpL a ++ [("store", i)]) ++ [("stop", i)])) h2 := pts_add (by rw [List.length_append, hln]; simp; omega)
      refine ⟨[some (nms is), some (pts (stpL (a ++ [i]))), some (.int (i : Int))], h2, ?_, rfl, _, rfl⟩
      rw [stpL_app]
      simp only [List.set_cons_succ, List.set_cons_zero]
      generalize pts ((stpL a ++ [("store", i)]) ++ [("stop", i)]) = T3 at *
      generalize pts (stpL a ++ [("store", i)]) = T2 at *
      generalize pts (stpL a) = T1 at *
      generalize pts [("store", i)] = U1 at *
      generalize pts [("stop", i)] = U2 at *
      have l1 : D.lst [.int (i : Int)] = nms [i] := rfl
      generalize nms is = N at *
      simp [l1, e1, e2, a1, a2]
    · rintro _ _ ⟨rfl, y, rfl⟩
      exact ⟨_, by simp, rfl⟩
  obtain ⟨h', e, rfl⟩ := key
  exact e
end

end CH

namespace CH
open PySem L2
section
variable {pre post : MH} {h : MH} {n i m : Nat} {p g f ws we wk w q : String} {s t : St} {es : List Evt}
theorem oMul_ev {c : Bool} : oMulL (.lst [S "evict"]) (.int (if c = true then 1 else 0)) h = .ok (pts (if c = true then [("evict", 0)] else [])) h := by
  cases c with
  | true => rw [pc_evict]; rfl
  | false => rfl
theorem r2_e (hm : m ≤ 12) {sl : Sl} (hs : sl[2]? = some (some (.int (m : Int)))) : mListRg2 (mC (.int 1)) (mOp oAdd (mVar 2) (mC (.int 1))) sl h = .ok (nms (List.range' 1 m)) h := by
  refine listRg2_e (by omega) rfl ?_
  simp [hs]
  omega
theorem r1_e (hm : m ≤ 12) {sl : Sl} (hs : sl[2]? = some (some (.int (m : Int)))) : mListRg1 (mVar 2) sl h = .ok (nms (List.range' 0 m)) h := by
  refine listRg1_e (by omega) ?_
  simp [hs]
theorem r1s_e (hm : m ≤ 12) {sl : Sl} (hs : sl[2]? = some (some (.int (m : Int)))) : mListRg1 (mOp oAdd (mVar 2) (mC (.int 1))) sl h = .ok (nms (List.range' 0 (m + 1))) h := by
  refine listRg1_e (by omega) ?_
  simp [hs]
theorem lim13 {a k : Nat} (hk : a + k ≤ 14) : ∀ i ∈ List.range' a k, i < 64 := fun i hi => by
  have := List.mem_range'_1.mp hi
  omega
theorem e_late (h0 : 1 ≤ m) (hm : m ≤ 12) : callF (n + 3) .late_recipe [St3 p g f, St3 ws we wk, .int (m : Int)] h = .ok (pts (lateL p g ws we m)) h := by
  rw [callF_s]
  have ew := e_eachL (n := n + 1) (h := h) (w := "write") (by decide) (is := List.range' 1 m) (lim13 (by omega)) (by simp; omega)
  have ew0 := e_eachL (n := n + 1) (h := h) (w := "write") (by decide) (is := List.range' 0 m) (lim13 (by omega)) (by simp; omega)
  have ed := e_eachL (n := n + 1) (h := h) (w := "drop") (by decide) (is := List.range' 0 m) (lim13 (by omega)) (by simp; omega)
  have er := e_eachL (n := n + 1) (h := h) (w := "read") (by decide) (is := [m]) (by intro j hj; simp at hj; omega) (by simp)
  simp only [List.map_cons, List.map_nil] at er
  have s1 := e_stopped (n := n) (h := h) (is := List.range' 1 m) (lim13 (by omega)) (by simp; omega)
  have s0 := e_stopped (n := n) (h := h) (is := List.range' 0 m) (lim13 (by omega)) (by simp; omega)
  have l1 := stpL_len (a := List.range' 1 m)
  have l0 := stpL_len (a := List.range' 0 m)
  rw [List.length_range'] at l1 l0
  have lst1 : D.lst [.int (m : Int)] = nms [m] := rfl
  have hev : oMulL (.lst [S "evict"]) (.int (if g = "mark" then 1 else 0)) h = .ok (pts (if g = "mark" then [("evict", 0)] else [])) h := by
    have := oMul_ev (h := h) (c := decide (g = "mark"))
    simpa using this
  have lev : (if g = "mark" then [(("evict", 0) : Pt)] else []).length ≤ 1 := by split <;> simp
  have key : RtP2 (pts (lateL p g ws we m)) (fun h' => h' = h) (b_late_recipe (callF (n + 2)) [some (St3 p g f), some (St3 ws we wk), some (.int (m : Int)), none] h) := by
    unfold b_late_recipe
    rw [seq_set (h1 := h) (pts (if g = "mark" then [("evict", 0)] else [])) (by simp [hev])]
    simp only [List.set_cons_succ, List.set_cons_zero]
    have e1 := fun (sl : Sl) hs => r2_e (h := h) hm (sl := sl) hs
    have e0 := fun (sl : Sl) hs => r1_e (h := h) hm (sl := sl) hs
    refine ⟨h, ?_, rfl⟩
    unfold lateL
    generalize hEV : (if g = "mark" then [(("evict", 0) : Pt)] else []) = EV at *
    have lw : ((List.range' 1 m).map fun i => (("write", i) : Pt)).length = m := by simp
    have lw0 : ((List.range' 0 m).map fun i => (("write", i) : Pt)).length = m := by simp
    have ld : ((List.range' 0 m).map fun i => (("drop", i) : Pt)).length = m := by simp
    generalize ((List.range' 1 m).map fun i => (("write", i) : Pt)) = W at *
    generalize ((List.range' 0 m).map fun i => (("write", i) : Pt)) = W0 at *
    generalize ((List.range' 0 m).map fun i => (("drop", i) : Pt)) = D0 at *
    generalize stpL (List.range' 1 m) = P1 at *
    generalize stpL (List.range' 0 m) = P0 at *
    have A1 := pts_add (h := h) (A := [("look", 0), ("fetch", 0)]) (B := W) (by simp; omega)
    have A2 := pts_add (h := h) (A := [("look", 0), ("fetch", 0)] ++ W) (B := EV) (by simp; omega)
    have A3 := pts_add (h := h) (A := [("look", 0), ("fetch", 0)] ++ W ++ EV) (B := [("fill", 0)]) (by simp; omega)
    have B1 := pts_add (h := h) (A := W0) (B := [("read", m)]) (by simp; omega)
    have C1 := pts_add (h := h) (A := [("read", 0)]) (B := P1) (by simp; omega)
    have D1 := pts_add (h := h) (A := D0) (B := [("read", m)]) (by simp; omega)
    have D2 := pts_add (h := h) (A := D0 ++ [("read", m)]) (B := P0) (by simp; omega)
    generalize [("look", 0), ("fetch", 0)] ++ W ++ EV ++ [("fill", 0)] = X4 at *
    generalize [("look", 0), ("fetch", 0)] ++ W ++ EV = X3 at *
    generalize [("look", 0), ("fetch", 0)] ++ W = X2 at *
    generalize W0 ++ [("read", m)] = Y2 at *
    generalize [("read", 0)] ++ P1 = Z2 at *
    generalize D0 ++ [("read", m)] ++ P0 = V3 at *
    generalize D0 ++ [("read", m)] = V2 at *
    clear hEV hev
    by_cases h1 : g = "token"
    · by_cases h2 : ws = "replica"
      · simp [h1, h2, e0, ew0, er, lst1, B1]
      · by_cases h3 : p = "store drop"
        · simp [h1, h2, h3, e1, s1, pc_read, C1]
        · simp [h1, h2, h3, e0, ed, er, s0, lst1, D1, D2]
    · by_cases h2 : g = "mark"
      · by_cases h4 : we = "evicts"
        · simp [h2, h4, e1, ew, pc_look, pc_fill, A1, A2, A3]
        · by_cases h3 : p = "store drop"
          · simp [h2, h4, h3, e1, s1, pc_read, C1]
          · simp [h2, h4, h3, e0, ed, er, s0, lst1, D1, D2]
      · simp [h1, h2, e1, ew, pc_look, pc_fill, A1, A2, A3]
  obtain ⟨h', e, rfl⟩ := key
  exact e
theorem e_setr (h0 : 1 ≤ m) (hm : m ≤ 12) : callF (n + 3) .set_recipe [St3 p g f, St3 ws we wk, .int (m : Int)] h = .ok (pts (setL g we m)) h := by
  rw [callF_s]
  have es := e_eachL (n := n + 1) (h := h) (w := "store") (by decide) (is := List.range' 0 (m + 1)) (lim13 (by omega)) (by simp; omega)
  have et := e_eachL (n := n + 1) (h := h) (w := "set") (by decide) (is := List.range' 1 m) (lim13 (by omega)) (by simp; omega)
  have s1 := e_stopped (n := n) (h := h) (is := List.range' 1 m) (lim13 (by omega)) (by simp; omega)
  have l1 := stpL_len (a := List.range' 1 m)
  rw [List.length_range'] at l1
  have hev := oMul_ev (h := h) (c := isVer g)
  have lev : (if isVer g = true then [(("evict", 0) : Pt)] else []).length ≤ 1 := by split <;> simp
  have key : RtP2 (pts (setL g we m)) (fun h' => h' = h) (b_set_recipe (callF (n + 2)) [some (St3 p g f), some (St3 ws we wk), some (.int (m : Int)), none] h) := by
    have e1 := fun (sl : Sl) hs => r2_e (h := h) hm (sl := sl) hs
    have e0 := fun (sl : Sl) hs => r1s_e (h := h) hm (sl := sl) hs
    refine ⟨h, ?_, rfl⟩
    unfold setL b_set_recipe
    have hin : inD (S g) k_VERSIONED = some (isVer g) := by simp [k_VERSIONED, isVer]
    generalize hEV : (if isVer g = true then [(("evict", 0) : Pt)] else []) = EV at *
    have ls : ((List.range' 0 (m + 1)).map fun i => (("store", i) : Pt)).length = m + 1 := by simp
    have lt : ((List.range' 1 m).map fun i => (("set", i) : Pt)).length = m := by simp
    generalize ((List.range' 0 (m + 1)).map fun i => (("store", i) : Pt)) = W at *
    generalize ((List.range' 1 m).map fun i => (("set", i) : Pt)) = W0 at *
    generalize stpL (List.range' 1 m) = P1 at *
    have A1 := pts_add (h := h) (A := W) (B := W0) (by omega)
    have A2 := pts_add (h := h) (A := W ++ W0) (B := EV) (by rw [List.length_append]; omega)
    have A3 := pts_add (h := h) (A := W ++ W0 ++ EV) (B := [("set", 0)]) (by rw [List.length_append, List.length_append]; simp; omega)
    have C1 := pts_add (h := h) (A := [("read", 0)]) (B := P1) (by simp; omega)
    generalize W ++ W0 ++ EV ++ [("set", 0)] = X4 at *
    generalize W ++ W0 ++ EV = X3 at *
    generalize W ++ W0 = X2 at *
    generalize [("read", 0)] ++ P1 = Z2 at *
    generalize hv : isVer g = v at *
    generalize k_VERSIONED = KV at *
    by_cases h1 : we = "keeps"
    · cases v with
      | true => simp [h1, hin, e1, s1, pc_read, C1]
      | false =>
        simp at hev
        simp [h1, hin, e0, e1, es, et, hev, pc_set, A1, A2, A3]
    · cases v with
      | true =>
        simp at hev
        simp [h1, hin, e0, e1, es, et, hev, pc_set, A1, A2, A3]
      | false =>
        simp at hev
        simp [h1, hin, e0, e1, es, et, hev, pc_set, A1, A2, A3]
  obtain ⟨h', e, rfl⟩ := key
  exact e
end

end CH

namespace CH
open PySem L2
section
variable {pre post : MH} {h : MH} {n i m : Nat} {p g f ws we wk w q : String} {s t : St} {es : List Evt}
theorem okT_mem {w : String} {is : List Nat} (hw : w ∈ WS) (hi : ∀ i ∈ is, i < 64) : ∀ x ∈ is.map (fun i => ((w, i) : Pt)), okT x := by
  intro x hx
  obtain ⟨i, h, rfl⟩ := List.mem_map.mp hx
  exact .inr ⟨hw, hi i h⟩
theorem okT_one {w : String} {i : Nat} (hw : w ∈ WS) (hi : i < 64) : ∀ x ∈ [((w, i) : Pt)], okT x := by
  intro x hx
  rw [List.mem_singleton.mp hx]
  exact .inr ⟨hw, hi⟩
theorem okT_app {A B : List Pt} (ha : ∀ x ∈ A, okT x) (hb : ∀ x ∈ B, okT x) : ∀ x ∈ A ++ B, okT x := by
  intro x hx
  rcases List.mem_append.mp hx with h | h
  · exact ha x h
  · exact hb x h
theorem okT_ev {c : Bool} : ∀ x ∈ (if c = true then [(("evict", 0) : Pt)] else []), okT x := by
  intro x hx
  cases c with
  | true =>
    rw [List.mem_singleton.mp hx]
    exact .inl rfl
  | false => cases hx
theorem okT_stp {is : List Nat} (hi : ∀ i ∈ is, i < 64) : ∀ x ∈ stpL is, okT x := by
  intro x hx
  obtain ⟨i, h1, h2⟩ := List.mem_flatMap.mp hx
  have := hi i h1
  simp at h2
  rcases h2 with rfl | rfl
  · exact .inr ⟨(by decide : "store" ∈ WS), this⟩
  · exact .inr ⟨(by decide : "stop" ∈ WS), this⟩
theorem lateL_ok (hm : m ≤ 12) : ∀ x ∈ lateL p g ws we m, okT x := by
  have r1 : ∀ i ∈ List.range' 1 m, i < 64 := lim13 (by omega)
  have r0 : ∀ i ∈ List.range' 0 m, i < 64 := lim13 (by omega)
  unfold lateL
  split
  · refine okT_app (okT_app (okT_app ?_ (okT_mem (by decide) r1)) ?_) (okT_one (by decide) (by decide))
    · exact okT_app (A := [("look", 0)]) (okT_one (by decide) (by decide)) (okT_one (by decide) (by decide))
    · have := okT_ev (c := decide (g = "mark"))
      simpa using this
  · split
    · exact okT_app (okT_mem (by decide) r0) (okT_one (by decide) (by omega))
    · split
      · exact okT_app (okT_one (by decide) (by decide)) (okT_stp r1)
      · exact okT_app (okT_app (okT_mem (by decide) r0) (okT_one (by decide) (by omega))) (okT_stp r0)
theorem setL_ok (hm : m ≤ 12) : ∀ x ∈ setL g we m, okT x := by
  have r1 : ∀ i ∈ List.range' 1 m, i < 64 := lim13 (by omega)
  unfold setL
  split
  · exact okT_app (okT_one (by decide) (by decide)) (okT_stp r1)
  · exact okT_app (okT_app (okT_app (okT_mem (by decide) (lim13 (by omega))) (okT_mem (by decide) r1)) okT_ev) (okT_one (by decide) (by decide))
theorem bhL_ok (hm : m ≤ 12) : ∀ x ∈ bhL p g ws we m, okT x := by
  have r1 : ∀ i ∈ List.range' 1 m, i < 64 := lim13 (by omega)
  have r0 : ∀ i ∈ List.range' 0 m, i < 64 := lim13 (by omega)
  unfold bhL
  split
  · exact lateL_ok hm
  · split
    · exact setL_ok hm
    · split
      · exact okT_app (okT_one (by decide) (by decide)) (okT_mem (by decide) r1)
      · exact okT_app (okT_app (okT_mem (by decide) r0) (okT_one (by decide) (by omega))) (okT_mem (by decide) r0)
theorem lateL_len (hm : m ≤ 12) : (lateL p g ws we m).length ≤ 100 := by
  unfold lateL
  split
  · have : (if g = "mark" then [(("evict", 0) : Pt)] else []).length ≤ 1 := by split <;> simp
    simp only [List.length_append, List.length_map, List.length_range', List.length_cons, List.length_nil]
    omega
  · split
    · simp only [List.length_append, List.length_map, List.length_range', List.length_cons, List.length_nil]
      omega
    · split
      · simp only [List.length_append, List.length_map, List.length_range', List.length_cons, List.length_nil, stpL_len]
        omega
      · simp only [List.length_append, List.length_map, List.length_range', List.length_cons, List.length_nil, stpL_len]
        omega
theorem setL_len (hm : m ≤ 12) : (setL g we m).length ≤ 100 := by
  unfold setL
  split
  · simp only [List.length_append, List.length_map, List.length_range', List.length_cons, List.length_nil, stpL_len]
    omega
  · have : (if isVer g = true then [(("evict", 0) : Pt)] else []).length ≤ 1 := by split <;> simp
    simp only [List.length_append, List.length_map, List.length_range', List.length_cons, List.length_nil]
    omega
theorem bhL_len (hm : m ≤ 12) : (bhL p g ws we m).length ≤ 100 := by
  unfold bhL
  split
  · exact lateL_len hm
  · split
    · exact setL_len hm
    · split
      · simp only [List.length_append, List.length_map, List.length_range', List.length_cons, List.length_nil]
        omega
      · simp only [List.length_append, List.length_map, List.length_range', List.length_cons, List.length_nil]
        omega
theorem seq_exc {a b : Ms} {sl sl1 : Sl} {h h1 : MH} {c : Str} {x : Option (Str × D)} (e : a sl h = .exc c x sl1 h1) : sSeq a b sl h = .exc c x sl1 h1 := by
  show seqR (a sl h) b = _
  rw [e]
  rfl
theorem e_behind (hd : okD p g f = true) (hw : okW ws we wk = true) (h0 : 1 ≤ m) (hm : m ≤ 12) (hr : bRest p g ws we wk = false) : callF (n + 6) .behind [St3 p g f, St3 ws we wk, .int (m : Int)] pre = .ok (.tup ((bhE p g ws we m).map toE)) pre := by
  rw [callF_s]
  have h1 := e_need_both (n := n) (h := pre) (p := p) (g := g) (f := f) (s := ws) (e := we) (k := wk) hd hw
  have h2 := e_is_in (n := n + 3) (h := pre) (j := (m : Int)) (a := 1) (b := 12) (by omega) (by omega)
  have h3 := e_rest (n := n + 3) (h := pre) (p := p) (g := g) (f := f) (s := ws) (e := we) (k := wk)
  rw [hr] at h3
  have h4 := e_late (n := n + 2) (h := pre) (p := p) (g := g) (f := f) (ws := ws) (we := we) (wk := wk) h0 hm
  have h5 := e_setr (n := n + 2) (h := pre) (p := p) (g := g) (f := f) (ws := ws) (we := we) (wk := wk) h0 hm
  have r1 : ∀ i ∈ List.range' 1 m, i < 64 := lim13 (by omega)
  have r0 : ∀ i ∈ List.range' 0 m, i < 64 := lim13 (by omega)
  have w1 := e_eachL (n := n + 4) (h := pre) (w := "write") (by decide) r1 (by simp; omega)
  have d0 := e_eachL (n := n + 4) (h := pre) (w := "drop") (by decide) r0 (by simp; omega)
  have st0 := e_eachL (n := n + 4) (h := pre) (w := "store") (by decide) r0 (by simp; omega)
  have er := e_eachL (n := n + 4) (h := pre) (w := "read") (by decide) (is := [m]) (by intro j hj; simp at hj; omega) (by simp)
  simp only [List.map_cons, List.map_nil] at er
  have hpp : okP p = true := by unfold okD at hd; simp only [Bool.and_eq_true] at hd; exact hd.1
  have hev := e_events_r (n := n + 2) (pre := pre) (p := p) (g := g) (f := f) (ws := ws) (we := we) (wk := wk) hpp (bhL_ok (p := p) (g := g) (ws := ws) (we := we) hm) (Nat.le_trans (bhL_len hm) (by decide))
  have hjn : gJoin (S ", ") [pts (bhL p g ws we m)] pre = .ok (.str (rTxt (bhL p g ws we m))) pre := gJoin_e (bhL_ok hm) (Nat.le_trans (bhL_len hm) (by decide))
  have e1 := fun (sl : Sl) hs => r2_e (h := pre) hm (sl := sl) hs
  have e0 := fun (sl : Sl) hs => r1_e (h := pre) hm (sl := sl) hs
  have lst1 : D.lst [.int (m : Int)] = nms [m] := rfl
  have hft : fTuple [.ref pre.length] (pre ++ [O.lst ((bhE p g ws we m).map toE)]) = .ok (.tup ((bhE p g ws we m).map toE)) (pre ++ [O.lst ((bhE p g ws we m).map toE)]) := by
    have hlst : oLst (pre ++ [O.lst ((bhE p g ws we m).map toE)])[pre.length]? = some ((bhE p g ws we m).map toE) := by
      rw [List.getElem?_append_right (Nat.le_refl _), Nat.sub_self]
      rfl
    show optR ((oLst (pre ++ [O.lst ((bhE p g ws we m).map toE)])[pre.length]?).map D.tup) _ = _
    rw [hlst]
    rfl
  have hev : callF (n + 5) .events_of [St3 p g f, St3 ws we wk, .str (rTxt (bhL p g ws we m))] pre = .ok (.ref pre.length) (pre ++ [.lst ((bhE p g ws we m).map toE)]) := hev
  have key : RtP2 (.tup ((bhE p g ws we m).map toE)) (fun h => ∃ ps, h = pre ++ ps) (b_behind (callF (n + 5)) [some (St3 p g f), some (St3 ws we wk), some (.int (m : Int)), none] pre) := by
    refine ⟨pre ++ [.lst ((bhE p g ws we m).map toE)], ?_, _, rfl⟩
    have hin : inD (S p) k_DROPS_LAST = some (bLast p) := by simp [k_DROPS_LAST, bLast]
    generalize (bhE p g ws we m).map toE = E1 at *
    have A1 := pts_add (h := pre) (A := [("read", 0)]) (B := (List.range' 1 m).map fun i => (("write", i) : Pt)) (by simp; omega)
    have B1 := pts_add (h := pre) (A := (List.range' 0 m).map fun i => (("drop", i) : Pt)) (B := [("read", m)]) (by simp; omega)
    have B2 := pts_add (h := pre) (A := (List.range' 0 m).map (fun i => (("drop", i) : Pt)) ++ [("read", m)]) (B := (List.range' 0 m).map fun i => (("store", i) : Pt)) (by simp; omega)
    have hL : bhL p g ws we m = if bLast p = true then lateL p g ws we m else if p = "store set" then setL g we m else if p = "store" then [("read", 0)] ++ (List.range' 1 m).map (fun i => (("write", i) : Pt)) else (List.range' 0 m).map (fun i => (("drop", i) : Pt)) ++ [("read", m)] ++ (List.range' 0 m).map (fun i => (("store", i) : Pt)) := rfl
    generalize lateL p g ws we m = LL at *
    generalize setL g we m = SL at *
    generalize [("read", 0)] ++ (List.range' 1 m).map (fun i => (("write", i) : Pt)) = X1 at *
    generalize (List.range' 0 m).map (fun i => (("drop", i) : Pt)) ++ [("read", m)] ++ (List.range' 0 m).map (fun i => (("store", i) : Pt)) = X3 at *
    generalize (List.range' 0 m).map (fun i => (("drop", i) : Pt)) ++ [("read", m)] = X2 at *
    generalize (List.range' 1 m).map (fun i => (("write", i) : Pt)) = U1 at *
    generalize (List.range' 0 m).map (fun i => (("drop", i) : Pt)) = U2 at *
    generalize (List.range' 0 m).map (fun i => (("store", i) : Pt)) = U3 at *
    generalize bhL p g ws we m = L at *
    generalize hbl : bLast p = v at *
    generalize hKD : k_DROPS_LAST = KD at *
    have goal : ∀ sl, sl = [some (St3 p g f), some (St3 ws we wk), some (.int (m : Int)), some (pts L)] → endB (sRet (mFn fTuple (mCons (mCall 3 (callF (n + 5) .events_of) (mCons (mVar 0) (mCons (mVar 1) (mCons (mMt (fun _ => isStr) gJoin (mC (.str ", ")) (mCons (mVar 3) (mNil))) (mNil))))) (mNil))) sl pre) = .ok (.tup E1) (pre ++ [.lst E1]) := by
      rintro _ rfl
      generalize rTxt L = R at *
      generalize pts L = PL at *
      simp [hjn, hev, hft]
    unfold b_behind
    rw [hKD]
    rw [seq_nx (sl1 := [some (St3 p g f), some (St3 ws we wk), some (.int (m : Int)), none]) (h1 := pre) (by simp [h1])]
    rw [seq_nx (sl1 := [some (St3 p g f), some (St3 ws we wk), some (.int (m : Int)), none]) (h1 := pre) (by simp [h2, k_MOST_BEHIND])]
    rw [seq_nx (sl1 := [some (St3 p g f), some (St3 ws we wk), some (.int (m : Int)), none]) (h1 := pre) (by simp [h3])]
    rw [seq_nx (sl1 := [some (St3 p g f), some (St3 ws we wk), some (.int (m : Int)), some (pts L)]) (h1 := pre) ?_]
    · exact goal _ rfl
    · cases v with
      | true =>
        rw [if_pos rfl] at hL
        subst hL
        simp [hin, h4]
      | false =>
        rw [if_neg (by decide)] at hL
        by_cases c1 : p = "store set"
        · rw [if_pos c1] at hL
          subst hL
          subst c1
          simp [hin, h5]
        · rw [if_neg c1] at hL
          by_cases c2 : p = "store"
          · rw [if_pos c2] at hL
            subst hL
            subst c2
            simp [hin, e1, w1, pc_read, A1]
          · rw [if_neg c2] at hL
            subst hL
            simp [hin, c1, c2, e0, d0, er, st0, lst1, B1, B2]
  obtain ⟨h', e, ps, rfl⟩ := key
  show gcK pre (endB (b_behind (callF (n + 5)) [some (St3 p g f), some (St3 ws we wk), some (.int (m : Int)), none] pre)) = _
  rw [e]
  refine gcK_pos ?_ (by simp)
  exact evs_pure _
theorem e_behind_rest (hd : okD p g f = true) (hw : okW ws we wk = true) (h0 : 1 ≤ m) (hm : m ≤ 12) (hr : bRest p g ws we wk = true) : callF (n + 6) .behind [St3 p g f, St3 ws we wk, .int (m : Int)] pre = .exc "NotBroken" none pre := by
  rw [callF_s]
  have h1 := e_need_both (n := n) (h := pre) (p := p) (g := g) (f := f) (s := ws) (e := we) (k := wk) hd hw
  have h2 := e_is_in (n := n + 3) (h := pre) (j := (m : Int)) (a := 1) (b := 12) (by omega) (by omega)
  have h3 := e_rest (n := n + 3) (h := pre) (p := p) (g := g) (f := f) (s := ws) (e := we) (k := wk)
  rw [hr] at h3
  have key : b_behind (callF (n + 5)) [some (St3 p g f), some (St3 ws we wk), some (.int (m : Int)), none] pre = .exc "NotBroken" none [some (St3 p g f), some (St3 ws we wk), some (.int (m : Int)), none] pre := by
    unfold b_behind
    rw [seq_nx (sl1 := [some (St3 p g f), some (St3 ws we wk), some (.int (m : Int)), none]) (h1 := pre) (by simp [h1])]
    rw [seq_nx (sl1 := [some (St3 p g f), some (St3 ws we wk), some (.int (m : Int)), none]) (h1 := pre) (by simp [h2, k_MOST_BEHIND])]
    refine seq_exc ?_
    simp [h3, sRaise0]
  show gcK pre (endB (b_behind (callF (n + 5)) [some (St3 p g f), some (St3 ws we wk), some (.int (m : Int)), none] pre)) = _
  rw [key]
  exact gcK_exc (by simp)
def badsN : List D := [.int 0, .int 13, .int (-1), .non, .bl true, S "1"]
theorem e_behind_bad {x : D} (hd : okD p g f = true) (hw : okW ws we wk = true) (hx : x ∈ badsN) : callF (n + 6) .behind [St3 p g f, St3 ws we wk, x] pre = .exc "BadNumber" none pre := by
  rw [callF_s]
  have h1 := e_need_both (n := n) (h := pre) (p := p) (g := g) (f := f) (s := ws) (e := we) (k := wk) hd hw
  have h2 : callF (n + 5) .is_in [x, .int 1, .int 12] pre = .ok (.bl false) pre := by
    unfold badsN at hx
    simp only [List.mem_cons, List.not_mem_nil, or_false] at hx
    rcases hx with rfl | rfl | rfl | rfl | rfl | rfl <;> rfl
  have key : b_behind (callF (n + 5)) [some (St3 p g f), some (St3 ws we wk), some x, none] pre = .exc "BadNumber" none [some (St3 p g f), some (St3 ws we wk), some x, none] pre := by
    unfold b_behind
    rw [seq_nx (sl1 := [some (St3 p g f), some (St3 ws we wk), some x, none]) (h1 := pre) (by simp [h1])]
    refine seq_exc ?_
    simp [h2, k_MOST_BEHIND, sRaise0]
  show gcK pre (endB (b_behind (callF (n + 5)) [some (St3 p g f), some (St3 ws we wk), some x, none] pre)) = _
  rw [key]
  exact gcK_exc (by simp)
end

end CH

namespace CH
open PySem L2
section
variable {p g f ws we wk : String} {s t : St} {m : Nat}
theorem bh_00 : chkG "drop store" "always" = true := by decide +kernel
theorem bh_01 : chkG "drop store" "empty" = true := by decide +kernel
theorem bh_02 : chkG "drop store" "mark" = true := by decide +kernel
theorem bh_03 : chkG "drop store" "never" = true := by decide +kernel
theorem bh_04 : chkG "drop store" "newer" = true := by decide +kernel
theorem bh_05 : chkG "drop store" "token" = true := by decide +kernel
theorem bh_10 : chkG "drop store drop" "always" = true := by decide +kernel
theorem bh_11 : chkG "drop store drop" "empty" = true := by decide +kernel
theorem bh_12 : chkG "drop store drop" "mark" = true := by decide +kernel
theorem bh_13 : chkG "drop store drop" "never" = true := by decide +kernel
theorem bh_14 : chkG "drop store drop" "newer" = true := by decide +kernel
theorem bh_15 : chkG "drop store drop" "token" = true := by decide +kernel
theorem bh_20 : chkG "store" "always" = true := by decide +kernel
theorem bh_21 : chkG "store" "empty" = true := by decide +kernel
theorem bh_22 : chkG "store" "mark" = true := by decide +kernel
theorem bh_23 : chkG "store" "never" = true := by decide +kernel
theorem bh_24 : chkG "store" "newer" = true := by decide +kernel
theorem bh_25 : chkG "store" "token" = true := by decide +kernel
theorem bh_30 : chkG "store drop" "always" = true := by decide +kernel
theorem bh_31 : chkG "store drop" "empty" = true := by decide +kernel
theorem bh_32 : chkG "store drop" "mark" = true := by decide +kernel
theorem bh_33 : chkG "store drop" "never" = true := by decide +kernel
theorem bh_34 : chkG "store drop" "newer" = true := by decide +kernel
theorem bh_35 : chkG "store drop" "token" = true := by decide +kernel
theorem bh_40 : chkG "store set" "always" = true := by decide +kernel
theorem bh_41 : chkG "store set" "empty" = true := by decide +kernel
theorem bh_42 : chkG "store set" "mark" = true := by decide +kernel
theorem bh_43 : chkG "store set" "never" = true := by decide +kernel
theorem bh_44 : chkG "store set" "newer" = true := by decide +kernel
theorem bh_45 : chkG "store set" "token" = true := by decide +kernel
theorem bh_all (hp : okP p = true) (hg : okG g = true) : chkG p g = true := by
  simp [okP] at hp
  simp [okG] at hg
  rcases hp with rfl | rfl | rfl | rfl | rfl <;> rcases hg with rfl | rfl | rfl | rfl | rfl | rfl
  · exact bh_00
  · exact bh_01
  · exact bh_02
  · exact bh_03
  · exact bh_04
  · exact bh_05
  · exact bh_10
  · exact bh_11
  · exact bh_12
  · exact bh_13
  · exact bh_14
  · exact bh_15
  · exact bh_20
  · exact bh_21
  · exact bh_22
  · exact bh_23
  · exact bh_24
  · exact bh_25
  · exact bh_30
  · exact bh_31
  · exact bh_32
  · exact bh_33
  · exact bh_34
  · exact bh_35
  · exact bh_40
  · exact bh_41
  · exact bh_42
  · exact bh_43
  · exact bh_44
  · exact bh_45
theorem bh_use (hd : okD p g f = true) (hw : okW ws we wk = true) (h0 : 1 ≤ m) (hm : m ≤ 12) (hr : bRest p g ws we wk = false) : (bhE p g ws we m).length ≤ 60 ∧ okB (st0 p g f ws we wk) (bhE p g ws we m) = true ∧ finB m (runE (st0 p g f ws we wk) (bhE p g ws we m)) = true := by
  unfold okD at hd
  simp only [Bool.and_eq_true] at hd
  obtain ⟨hp, hgg, hf⟩ := hd
  have h := bh_all hp hgg
  unfold chkG at h
  have hw' : (ws = "primary" ∨ ws = "replica") ∧ (we = "evicts" ∨ we = "keeps") ∧ (wk = "finishes" ∨ wk = "stops") := by simpa [okW] using hw
  obtain ⟨a1, a2, a3⟩ := hw'
  have hf1 : f ∈ ["alone", "shared"] := by simpa [okF] using hf
  have h1 : ws ∈ ["primary", "replica"] := by simpa using a1
  have h2 : we ∈ ["evicts", "keeps"] := by simpa using a2
  have h3 : wk ∈ ["finishes", "stops"] := by simpa using a3
  have h4 : m ∈ List.range' 1 12 := by rw [List.mem_range'_1]; omega
  have h := List.all_eq_true.mp (List.all_eq_true.mp (List.all_eq_true.mp (List.all_eq_true.mp (List.all_eq_true.mp h f hf1) ws h1) we h2) wk h3) m h4
  unfold chk1 at h
  rw [hr, Bool.false_or, Bool.and_eq_true, okR_eq, Bool.and_eq_true, decide_eq_true_eq] at h
  exact ⟨h.1, h.2.1, h.2.2⟩
end

end CH

namespace CH
open PySem L2
section
variable {pre post rest : MH} {s t v tv : St} {j n m i : Nat} {w p g f ws we wk q : String} {es : List Evt} {h : MH}
theorem seq_rp1 {a b : Ms} {sl sl1 : Sl} {h h1 : MH} {d : D} (e : a sl h = .nx sl1 h1) (h2 : RtP d (b sl1 h1)) : RtP d (sSeq a b sl h) := by
  rw [seq_nx e]
  exact h2
theorem nx_seq {a b : Ms} {sl sl1 : Sl} {h h1 : MH} {P : Sl → MH → Prop} (e : a sl h = .nx sl1 h1) (h2 : NxP P (b sl1 h1)) : NxP P (sSeq a b sl h) := by
  rw [seq_nx e]
  exact h2
theorem nx_mk {R : SRes} {P : Sl → MH → Prop} {sl1 : Sl} {h1 : MH} (e : R = .nx sl1 h1) (hp : P sl1 h1) : NxP P R := ⟨sl1, h1, e, hp⟩
theorem e_l_designs : callF (n + 2) .l_designs [] h = .ok (.lst (designsZ.map toZ)) h := by rfl
theorem e_l_worlds : callF (n + 2) .l_worlds [] h = .ok (.lst (worldsZ.map toZ)) h := by rfl
theorem told_ok {f : Mo D} {sl : Sl} {h h' : MH} {d : D} (hT : hasT h = true) (e : f sl h = .ok d h') : mTold toldTab f sl h = .ok d h' := by
  show (if hasT h = true then toldR toldTab (f sl h) else .bad) = _
  rw [if_pos hT, e]
  rfl
theorem told_exc {f : Mo D} {sl : Sl} {h h' : MH} {c w : Str} (hT : hasT h = true) (e : f sl h = .exc c none h') (hl : toldTab.lookup c = some w) : mTold toldTab f sl h = .ok (.str w) h' := by
  show (if hasT h = true then toldR toldTab (f sl h) else .bad) = _
  rw [if_pos hT, e]
  simp only [toldR, hl]
theorem tab_nb : toldTab.lookup (Str.ofString "NotBroken") = some (Str.ofString "not broken") := by decide +kernel
theorem tab_bn : toldTab.lookup (Str.ofString "BadNumber") = some (Str.ofString "number") := by decide +kernel
theorem bDoes_rest : bDoes p g f ws we wk "rest" = bRest p g ws we wk := by simp [bDoes]
/-- the state of the loop over the turns -/
def okI (ns : List Int) (sl : Sl) (h : MH) : Prop := (∃ y2 y3 y4 y5 y6 y7 y8, sl = [some (.scr ns), some (.ref 1), y2, y3, y4, y5, y6, y7, y8]) ∧ ∃ i s r rest, 0 ≤ i ∧ h = .tbl :: Row ns i s r :: rest
/-- the law's own cache goes the whole way -/
theorem loop_e {T x2 x3 x5 x6 x8 : Option D} {ns : List Int} {i0 s0 r0 : Int} (hP : pre = .tbl :: Row ns i0 s0 r0 :: rest) (hp : okP p = true) (hg : okG g = true) (hl : es.length ≤ 60) (hok : okB (st0 p g f ws we wk) es = true) :
    NxP (fun sl h => h = HL pre (runLa (st0 p g f ws we wk) es) [] ∧ ∃ y8, sl = [some (.scr ns), some (.ref 1), x2, x3, some (.tup (es.map toE)), x5, x6, some (.ref (pre.length + 2)), y8])
      (sFor (mItT (mVar 4)) (.nm 8) (sSeq (sIf (mTest (mOp oNi (mVar 8) (mCall 1 (callF (n + 9) .l_events) (mCons (mVar 7) (mNil))))) (sRet (mC (.bl false))) (sSkip)) (sExpr (mCall 2 (callF (n + 9) .l_do) (mCons (mVar 7) (mCons (mVar 8) (mNil))))))
        [some (.scr ns), some (.ref 1), x2, x3, some (.tup (es.map toE)), x5, x6, some (.ref (pre.length + 2)), x8] (HL pre (st0 p g f ws we wk) [])) := by
  have rn : Rn p g f ws we wk es (runE (st0 p g f ws we wk) es) (runLa (st0 p g f ws we wk) es) := rn_of hp hg (by omega) hok
  have hev := rn.ok
  refine for_preR (h1 := HL pre (st0 p g f ws we wk) []) toE es (fun a sl h => h = HL pre (runLa (st0 p g f ws we wk) a) [] ∧ ∃ y8, sl = [some (.scr ns), some (.ref 1), x2, x3, some (.tup (es.map toE)), x5, x6, some (.ref (pre.length + 2)), y8]) rfl ⟨rfl, _, rfl⟩ ?_ (fun _ _ h => h)
  rintro a e b hab _ _ ⟨rfl, y8, rfl⟩
  obtain ⟨j1, j2, j3⟩ := pre_ev hp hg hev hab (by omega)
  have ha : okEv (st0 p g f ws we wk) a := by
    rw [← hab] at hev
    exact ((okEv_app a (e :: b) _).mp hev).1
  have hal : a.length ≤ 60 := by rw [← hab] at hl; simp at hl; omega
  have ra : Rn p g f ws we wk a (runE (st0 p g f ws we wk) a) (runLa (st0 p g f ws we wk) a) := ⟨hp, hg, ha, by omega, rfl, rfl⟩
  have hlo := co_len j1.co
  have hro := ra.ops
  have hev1 : callF (n + 9) .l_events [.ref (pre.length + 2)] (HL pre (runLa (st0 p g f ws we wk) a) []) = .ok (.lst (sortD ((runLa (st0 p g f ws we wk) a).lev.map toE))) (HL pre (runLa (st0 p g f ws we wk) a) []) := l_events_e (n := n + 7) (pre := pre) (s := runLa (st0 p g f ws we wk) a) (by omega) (by rw [← (co_flds j1.co).p]; exact j1.okp) (J_ledL j1)
  have hdo : callF (n + 9) .l_do [.ref (pre.length + 2), toE e] (HL pre (runLa (st0 p g f ws we wk) a) []) = .ok .non (HL pre ((runLa (st0 p g f ws we wk) a).doL e) []) := l_do_j (n := n + 5) (pre := pre) j1 j2 j3
  have hin := inD_ev (e := e) (es := (runLa (st0 p g f ws we wk) a).lev)
  rw [decide_eq_true ((lev_ev j1.co).mpr j3)] at hin
  refine nx_mk (sl1 := [some (.scr ns), some (.ref 1), x2, x3, some (.tup (es.map toE)), x5, x6, some (.ref (pre.length + 2)), some (toE e)]) (h1 := HL pre (runLa (st0 p g f ws we wk) (a ++ [e])) []) ?_ ⟨rfl, _, rfl⟩
  rw [runLa_snoc]
  simp only [List.set_cons_succ, List.set_cons_zero]
  generalize HL pre ((runLa (st0 p g f ws we wk) a).doL e) [] = H2 at *
  generalize HL pre (runLa (st0 p g f ws we wk) a) [] = H1 at *
  generalize es.map toE = T at *
  generalize toE e = E at *
  generalize D.lst (sortD ((runLa (st0 p g f ws we wk) a).lev.map toE)) = LL at *
  simp [hev1, hdo, hin, -inD_lst]
theorem law_true {ns : List Int} : ∃ h', callF (n + 10) .law_ [.scr ns] [.tbl] = .ok (.bl true) h' := by
  rw [callF_s]
  show RtP (.bl true) (b_law_ (callF (n + 9)) (slots0 9 [.scr ns]) [.tbl])
  unfold b_law_
  simp only [slots0_ap, List.map, List.length_cons, List.length_nil, Nat.reduceAdd, Nat.reduceSub, List.replicate, List.cons_append, List.nil_append]
  refine seq_rp1 (sl1 := [some (.scr ns), some (.ref 1), none, none, none, none, none, none, none]) (h1 := [.tbl, Row ns 0 15553 0]) (by simp) ?_
  refine seq_g (fun R => RtP (.bl true) R) (fun _ _ => True) ?_ ?_
  · refine for_preR (h1 := [.tbl, Row ns 0 15553 0]) (fun (x : Nat) => D.int (x : Int)) (List.range 4) (fun _ sl h => okI ns sl h) rfl ⟨⟨_, _, _, _, _, _, _, rfl⟩, 0, 15553, 0, [], by decide, rfl⟩ ?_ (fun _ _ _ => trivial)
    rintro _ x _ _ _ _ ⟨⟨y2, y3, y4, y5, y6, y7, y8, rfl⟩, i0, s0, r0, rest, hi0, rfl⟩
    obtain ⟨d0, i1, s1, r1, hd0, hi1, e1⟩ := e_pick (n := n + 7) (h := .tbl :: Row ns i0 s0 r0 :: rest) (k := 1) (ns := ns) (i := i0) (s := s0) (r := r0) (xs := designsZ.map toZ) rfl hi0 (by simp [designsZ, PS, GS]) (by simp [designsZ, PS, GS])
    obtain ⟨w0, i2, s2, r2, hw0, hi2, e2⟩ := e_pick (n := n + 7) (h := .tbl :: Row ns i1 s1 r1 :: rest) (k := 1) (ns := ns) (i := i1) (s := s1) (r := r1) (xs := worldsZ.map toZ) rfl hi1 (by simp [worldsZ]) (by simp [worldsZ])
    obtain ⟨⟨p, g, f⟩, hd, rfl⟩ := List.mem_map.mp hd0
    obtain ⟨⟨ws, we, wk⟩, hw, rfl⟩ := List.mem_map.mp hw0
    have hd : okD p g f = true := ok_designsZ hd
    have hw : okW ws we wk = true := ok_worldsZ hw
    have hpgf := hd
    unfold okD at hpgf
    simp only [Bool.and_eq_true] at hpgf
    obtain ⟨hp, hg, hf⟩ := hpgf
    obtain ⟨k0, i3, s3, r3, hk0, hk1, hi3, e3⟩ := e_taken (n := n + 8) (h := .tbl :: Row ns i2 s2 r2 :: rest) (k := 1) (ns := ns) (i := i2) (s := s2) (r := r2) (m := 12) rfl hi2 (by decide) (by decide)
    obtain ⟨m, hm⟩ : ∃ m : Nat, 1 + k0 = (m : Int) := ⟨(1 + k0).toNat, by omega⟩
    have hm1 : 1 ≤ m := by omega
    have hm2 : m ≤ 12 := by omega
    have e1 : callF (n + 9) .l_pick [.ref 1, .lst (designsZ.map toZ)] (.tbl :: Row ns i0 s0 r0 :: rest) = .ok (St3 p g f) (.tbl :: Row ns i1 s1 r1 :: rest) := e1
    have e2 : callF (n + 9) .l_pick [.ref 1, .lst (worldsZ.map toZ)] (.tbl :: Row ns i1 s1 r1 :: rest) = .ok (St3 ws we wk) (.tbl :: Row ns i2 s2 r2 :: rest) := e2
    have e3 : callF (n + 9) .l_taken [.ref 1, .int 12] (.tbl :: Row ns i2 s2 r2 :: rest) = .ok (.int k0) (.tbl :: Row ns i3 s3 r3 :: rest) := e3
    have f1 : ∀ h : MH, callF (n + 9) .l_designs [] h = .ok (.lst (designsZ.map toZ)) h := fun h => e_l_designs (n := n + 7)
    have f2 : ∀ h : MH, callF (n + 9) .l_worlds [] h = .ok (.lst (worldsZ.map toZ)) h := fun h => e_l_worlds (n := n + 7)
    simp only [List.set_cons_succ, List.set_cons_zero]
    refine nx_seq (sl1 := [some (.scr ns), some (.ref 1), some (.int (x : Int)), y3, y4, some (St3 p g f), some (St3 ws we wk), y7, y8]) (h1 := .tbl :: Row ns i2 s2 r2 :: rest) (by
      generalize designsZ.map toZ = DL at *
      generalize worldsZ.map toZ = WL at *
      simp [f1, f2, e1, e2, seqR]) ?_
    refine nx_seq (sl1 := [some (.scr ns), some (.ref 1), some (.int (x : Int)), some (.int (m : Int)), y4, some (St3 p g f), some (St3 ws we wk), y7, y8]) (h1 := .tbl :: Row ns i3 s3 r3 :: rest) (by simp [e3, hm]) ?_
    generalize hPre : (O.tbl :: Row ns i3 s3 r3 :: rest) = P at *
    have hT : hasT P = true := by rw [← hPre]; rfl
    have hho := l_holds_e (n := n + 8) (h := P) (p := p) (g := g) (f := f) (s := ws) (e := we) (k := wk) (q := "rest") hd hw (by decide)
    rw [bDoes_rest] at hho
    -- the end of the turn
    have fin : ∀ (z4 z7 z8 : Option D) (H : MH) (rest2 : MH), H = .tbl :: Row ns i3 s3 r3 :: rest2 → NxP (fun sl h => okI ns sl h) (sIf (mTest (mOp oNe (mTold toldTab (mCall 3 (callF (n + 9) .behind) (mCons (mVar 5) (mCons (mVar 6) (mCons (mCall 2 (callF (n + 9) .l_pick) (mCons (mVar 1) (mCons (mLst (mCons (mC (.int 0)) (mCons (mC (.int 13)) (mCons (mUn oNeg (mC (.int 1))) (mCons (mC .non) (mCons (mC (.bl true)) (mCons (mC (.str "1")) (mNil)))))))) (mNil)))) (mNil)))))) (mC (.str "number")))) (sRet (mC (.bl false))) (sSkip)
        [some (.scr ns), some (.ref 1), some (.int (x : Int)), some (.int (m : Int)), z4, some (St3 p g f), some (St3 ws we wk), z7, z8] H) := by
      rintro z4 z7 z8 H rest2 hH
      obtain ⟨b0, i4, s4, r4, hb0, hi4, e4⟩ := e_pick (n := n + 7) (h := H) (k := 1) (ns := ns) (i := i3) (s := s3) (r := r3) (xs := badsN) (by rw [hH]; rfl) hi3 (by simp [badsN]) (by simp [badsN])
      have hset : H.set 1 (Row ns i4 s4 r4) = .tbl :: Row ns i4 s4 r4 :: rest2 := by rw [hH]; rfl
      rw [hset] at e4
      have hT2 : hasT H = true := by rw [hH]; rfl
      have hbb := e_behind_bad (n := n + 3) (pre := .tbl :: Row ns i4 s4 r4 :: rest2) (p := p) (g := g) (f := f) (ws := ws) (we := we) (wk := wk) hd hw hb0
      have hm : mTold toldTab (mCall 3 (callF (n + 9) .behind) (mCons (mVar 5) (mCons (mVar 6) (mCons (mCall 2 (callF (n + 9) .l_pick) (mCons (mVar 1) (mCons (mLst (mCons (mC (.int 0)) (mCons (mC (.int 13)) (mCons (mUn oNeg (mC (.int 1))) (mCons (mC .non) (mCons (mC (.bl true)) (mCons (mC (.str "1")) (mNil)))))))) (mNil)))) (mNil)))))
          [some (.scr ns), some (.ref 1), some (.int (x : Int)), some (.int (m : Int)), z4, some (St3 p g f), some (St3 ws we wk), z7, z8] H = .ok (S "number") (.tbl :: Row ns i4 s4 r4 :: rest2) := by
        refine told_exc (c := "BadNumber") (w := "number") hT2 ?_ tab_bn
        have hbs : D.lst [.int 0, .int 13, .int (-1), .non, .bl true, S "1"] = .lst badsN := rfl
        generalize hBN : D.lst badsN = BN at *
        have e4 : callF (n + 9) .l_pick [.ref 1, BN] H = .ok b0 (.tbl :: Row ns i4 s4 r4 :: rest2) := e4
        have hneg : ∀ (sl : Sl) (h : MH), mUn oNeg (mC (.int 1)) sl h = .ok (.int (-1)) h := fun _ _ => rfl
        simp [hneg, hbs, e4, hbb]
      refine nx_mk (sl1 := [some (.scr ns), some (.ref 1), some (.int (x : Int)), some (.int (m : Int)), z4, some (St3 p g f), some (St3 ws we wk), z7, z8]) (h1 := .tbl :: Row ns i4 s4 r4 :: rest2) ?_ ⟨⟨_, _, _, _, _, _, _, rfl⟩, i4, s4, r4, rest2, hi4, rfl⟩
      generalize mTold toldTab (mCall 3 (callF (n + 9) .behind) (mCons (mVar 5) (mCons (mVar 6) (mCons (mCall 2 (callF (n + 9) .l_pick) (mCons (mVar 1) (mCons (mLst (mCons (mC (.int 0)) (mCons (mC (.int 13)) (mCons (mUn oNeg (mC (.int 1))) (mCons (mC .non) (mCons (mC (.bl true)) (mCons (mC (.str "1")) (mNil)))))))) (mNil)))) (mNil))))) = MT at *
      simp [hm]
    cases hr : bRest p g ws we wk with
    | true =>
      have b1 := e_behind_rest (n := n + 3) (pre := P) (p := p) (g := g) (f := f) (ws := ws) (we := we) (wk := wk) hd hw hm1 hm2 hr
      rw [hr] at hho
      refine nx_seq (sl1 := [some (.scr ns), some (.ref 1), some (.int (x : Int)), some (.int (m : Int)), some (S "not broken"), some (St3 p g f), some (St3 ws we wk), y7, y8]) (h1 := P) (by
        have hm : mTold toldTab (mCall 3 (callF (n + 9) .behind) (mCons (mVar 5) (mCons (mVar 6) (mCons (mVar 3) (mNil))))) [some (.scr ns), some (.ref 1), some (.int (x : Int)), some (.int (m : Int)), y4, some (St3 p g f), some (St3 ws we wk), y7, y8] P = .ok (S "not broken") P :=
          told_exc (c := "NotBroken") (w := "not broken") hT (by simp [b1]) tab_nb
        generalize mTold toldTab (mCall 3 (callF (n + 9) .behind) (mCons (mVar 5) (mCons (mVar 6) (mCons (mVar 3) (mNil))))) = MT at *
        simp [hm]) ?_
      refine nx_seq (sl1 := [some (.scr ns), some (.ref 1), some (.int (x : Int)), some (.int (m : Int)), some (S "not broken"), some (St3 p g f), some (St3 ws we wk), y7, y8]) (h1 := P) (by simp [hho]) ?_
      exact fin _ _ _ P rest hPre.symm
    | false =>
      obtain ⟨hlen, hok, hfin⟩ := bh_use hd hw hm1 hm2 hr
      have b1 := e_behind (n := n + 3) (pre := P) (p := p) (g := g) (f := f) (ws := ws) (we := we) (wk := wk) hd hw hm1 hm2 hr
      rw [hr] at hho
      generalize hes : bhE p g ws we m = es at *
      refine nx_seq (sl1 := [some (.scr ns), some (.ref 1), some (.int (x : Int)), some (.int (m : Int)), some (.tup (es.map toE)), some (St3 p g f), some (St3 ws we wk), y7, y8]) (h1 := P) (by
        have hm : mTold toldTab (mCall 3 (callF (n + 9) .behind) (mCons (mVar 5) (mCons (mVar 6) (mCons (mVar 3) (mNil))))) [some (.scr ns), some (.ref 1), some (.int (x : Int)), some (.int (m : Int)), y4, some (St3 p g f), some (St3 ws we wk), y7, y8] P = .ok (.tup (es.map toE)) P :=
          told_ok hT (by
            generalize es.map toE = T at *
            simp [b1])
        generalize mTold toldTab (mCall 3 (callF (n + 9) .behind) (mCons (mVar 5) (mCons (mVar 6) (mCons (mVar 3) (mNil))))) = MT at *
        generalize es.map toE = T at *
        simp [hm]) ?_
      have rn : Rn p g f ws we wk es (runE (st0 p g f ws we wk) es) (runLa (st0 p g f ws we wk) es) := rn_of hp hg (by omega) hok
      have hco := rn.jj.co
      have hlo := co_len hco
      have hro := rn.ops
      have hfl := co_flds hco
      have hup := co_uwL hco
      have hlp := loop_e (n := n) (T := none) (x2 := some (.int (x : Int))) (x3 := some (.int (m : Int))) (x5 := some (St3 p g f)) (x6 := some (St3 ws we wk)) (x8 := y8) (rest := rest) hPre.symm hp hg hlen hok
      generalize hs : runE (st0 p g f ws we wk) es = s at *
      generalize ht : runLa (st0 p g f ws we wk) es = t at *
      have hHL : HL P t [] = .tbl :: Row ns i3 s3 r3 :: (rest ++ encL P.length t) := by
        show P ++ (encL P.length t ++ []) = _
        rw [List.append_nil, ← hPre]
        rfl
      have c1 : callF (n + 9) .l_begin [St3 p g f, St3 ws we wk] P = .ok (.ref (P.length + 2)) (HL P (st0 p g f ws we wk) []) := l_begin_e (n := n + 8) (pre := P)
      unfold finB at hfin
      rw [Bool.and_eq_true] at hfin
      obtain ⟨hu, hc⟩ := hfin
      have htu : t.uwL = [] := by rw [← hup]; exact List.isEmpty_iff.mp hu
      obtain ⟨c, hcc, hdb⟩ : ∃ c, t.cache = some c ∧ t.db - c = (m : Int) := by
        rw [← hfl.cache, ← hfl.db]
        cases hsc : s.cache with
        | none => rw [hsc] at hc; cases hc
        | some c => rw [hsc] at hc; exact ⟨c, rfl, of_decide_eq_true hc⟩
      have g1 : callF (n + 9) .l_going [.ref (P.length + 2)] (HL P t []) = .ok (.lst []) (HL P t []) := by
        have := l_going_e (n := n + 8) (pre := P) (s := t) (post := []) (by omega)
        rw [htu] at this
        exact this
      have k1 : atKeyD (HL P t []) (.ref (P.length + 2)) (S "db") = some (D.int t.db) := hr_db (pre := P) (s := t) (post := [])
      have k2 : atKeyD (HL P t []) (.ref (P.length + 2)) (S "cache") = some (.int c) := by
        have := hr_cache (pre := P) (s := t) (post := [])
        rw [hcc] at this
        exact this
      have hnl : ¬ ((60 : Int) < ((es.map toE).length : Int)) := by rw [List.length_map]; omega
      obtain ⟨_, _, el, rfl, y9, rfl⟩ := hlp
      refine nx_seq (sl1 := [some (.scr ns), some (.ref 1), some (.int (x : Int)), some (.int (m : Int)), some (.tup (es.map toE)), some (St3 p g f), some (St3 ws we wk), some (.ref (P.length + 2)), y9]) (h1 := HL P t []) ?_ (fin _ _ _ (HL P t []) _ hHL)
      have hif : ∀ A B : Ms, sIf (mTest (mCall 3 (callF (n + 9) .l_holds) (mCons (mVar 5) (mCons (mVar 6) (mCons (mC (.str "rest")) (mNil)))))) A B [some (.scr ns), some (.ref 1), some (.int (x : Int)), some (.int (m : Int)), some (.tup (es.map toE)), some (St3 p g f), some (St3 ws we wk), y7, y8] P = B [some (.scr ns), some (.ref 1), some (.int (x : Int)), some (.int (m : Int)), some (.tup (es.map toE)), some (St3 p g f), some (St3 ws we wk), y7, y8] P := by
        intro A B
        generalize es.map toE = T at *
        simp [hho]
      rw [hif]
      rw [seq_set (h1 := HL P (st0 p g f ws we wk) []) (.ref (P.length + 2)) (by
        generalize es.map toE = T at *
        simp [c1])]
      simp only [List.set_cons_succ, List.set_cons_zero]
      rw [seq_nx (sl1 := [some (.scr ns), some (.ref 1), some (.int (x : Int)), some (.int (m : Int)), some (.tup (es.map toE)), some (St3 p g f), some (St3 ws we wk), some (.ref (P.length + 2)), y8]) (h1 := HL P (st0 p g f ws we wk) []) (by
        generalize es.map toE = T at *
        generalize HL P (st0 p g f ws we wk) [] = H at *
        simp [isiT, hnl])]
      rw [seq_nx el]
      generalize HL P t [] = H at *
      generalize es.map toE = T at *
      simp [g1, k1, k2, hdb]
  rintro sl h _
  exact ⟨h, by simp⟩
end

end CH

theorem PySem.Challenge.cw_cacheheld_k06_whole_behind_holds : PySem.Challenge.rw_cacheheld_k06_whole_behind.Holds := by
  exact CH.law_red fun ns _ => CH.law_true (n := 10)
