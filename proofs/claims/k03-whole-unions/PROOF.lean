import PyProof.Rows.All
import Wide.All
import OpenK.AllK
import Wide.FinOn
import PySem.Challenge.RW_spanloops_k03_whole_unions
import HandS.ForMost
import HandS.ForExc
import HandS.TryMany
import HandS.CallSlots
import HandS.ExcField
import HandS.ExcInit
import HandS.ExcIs
import HandS.IsInst
import HandS.Flow
import HandS.SlotsVar
import HandS.Wide
import HandS.Style
import HandS.Text
import HandS.ClsMeth
import HandS.TupAny
import HandS.RaiseMore
import HandS.More
import HandS.Defaults
import HandS.SortRule
import PyProof.ReprRoads
import PyProof.CallFns
import KE.GoesMore
import HandS.Walk
import HandS.Ends
import KE.KExcInit
import HandS.SetFor
import HandS.SortInts
import HandS.Property
import HandS.MakeKw
import HandS.SlotsOwn
import KE.KCallOwn
import PyProof.Rows.Range3
import PyProof.InstEq
import KE.KOpsOwn
import HandS.FStr
import HandS.TryOnly
import PyProof.ZipIter
import KE.KItemsList
import PyProof.ListNew
import HandS.MapObj
import HandS.RevTup
import HandS.Rev
import HandS.Iter
import HandS.Zip
set_option Elab.async false
set_option linter.all false
set_option maxRecDepth 100000
set_option maxHeartbeats 1000000
/-! A layer of value semantics: a piece of Python as a function on plain data. -/
namespace DL
open PySem L2

/-- plain data -/
inductive D where
  | non | bl (b : Bool) | int (i : Int) | str (s : Str) | ty (n : String) | cl (c : Str)
  | tup (ds : List D) | lst (ds : List D) | fz (ns : List Int)
  | ob (c : Str) (ns : List Str) (ds : List D)

/-- a list that is never changed: the script -/
def FzL (K : PySem.W.Frag) (H : Hp) (a : Addr) (xs : List V) : Prop := (∃ o, H a = some (.frz o (.lst xs))) ∨
  ∃ (o : Obj) (its : Array Value) (n : Nat), K.lookup a = some o ∧ o.cls = .type "list" ∧ o.dict = none ∧ o.data = .seq its n ∧ its.size ≤ sizeLine ∧ Vals xs its.toList
theorem FzL.sql {K : PySem.W.Frag} {H : Hp} {a : Addr} {xs : List V} (h : FzL K H a xs) : SqL K H a xs := h.imp (fun ⟨o, z⟩ => .inr ⟨o, z⟩) id
/-- an instance of an own class: its variables stand in slots (ns = []), or under names in its dict -/
def ObR (H : Hp) (a C dx : Addr) (ns : List Str) (vs : List V) : Prop := match ns with
  | [] => vs ≠ [] ∧ H dx = some (.own a) ∧ dx ≠ a ∧ H a = some (L2.SlO C dx a (vs.map some))
  | n :: ns => vs.length = ns.length + 1 ∧ H a = some (.ins C dx ((n :: ns).zip vs))
section
variable (K : PySem.W.Frag) (mg : Str → Option Value) (H : Hp) (av : Addr → Prop)
mutual
def Rp : D → V → Prop
  | .non, v => v = .non
  | .bl b, v => v = .bl b
  | .int i, v => v = .int i
  | .str s, v => v = .str s
  | .ty n, v => v = .ty n
  | .cl c, v => ∃ C, v = .ref C ∧ mg c = some (.ref C)
  | .tup ds, v => ∃ a vs, v = .ref a ∧ SqT K H a vs ∧ RpL ds vs
  | .lst ds, v => ∃ a vs, v = .ref a ∧ ¬ av a ∧ H a = some (.lst vs) ∧ RpL ds vs
  | .fz ns, v => ∃ a, v = .ref a ∧ FzL K H a (ns.map V.int)
  | .ob c ns ds, v => ∃ a C dx vs, v = .ref a ∧ mg c = some (.ref C) ∧ ObR H a C dx ns vs ∧ RpL ds vs
def RpL : List D → List V → Prop
  | [], vs => vs = []
  | d :: ds, vs => ∃ v r, vs = v :: r ∧ Rp d v ∧ RpL ds r
end
end

/-- each object stands, but lists at P -/
def Ext (P : Addr → Prop) (H H' : Hp) : Prop := ∀ b o, H b = some o → (P b ∧ (∃ vs, o = .lst vs) ∧ ∃ vs, H' b = some (.lst vs)) ∨ H' b = some o
theorem Ext.refl {P : Addr → Prop} {H : Hp} : Ext P H H := fun _ _ h => .inr h
theorem Ext.trans {P : Addr → Prop} {H H1 H2 : Hp} (a : Ext P H H1) (b : Ext P H1 H2) : Ext P H H2 := fun c o h => by
  rcases a c o h with ⟨q1, q2, vs, q⟩ | q
  · rcases b c _ q with ⟨_, _, z⟩ | z
    · exact .inl ⟨q1, q2, z⟩
    · exact .inl ⟨q1, q2, _, z⟩
  · exact b c o q
theorem Ext.isSome {P : Addr → Prop} {H H' : Hp} (e : Ext P H H') {a : Addr} (h : H a ≠ none) : H' a ≠ none := by
  cases q : H a with
  | none => exact (h q).elim
  | some o =>
    rcases e a o q with ⟨_, _, _, z⟩ | z <;> rw [z] <;> exact fun z => nomatch z
theorem Ext.isNone {P : Addr → Prop} {H H' : Hp} (e : Ext P H H') {a : Addr} (h : H' a = none) : H a = none := by
  cases q : H a with
  | none => rfl
  | some o => exact (e.isSome (by rw [q]; exact fun z => nomatch z) h).elim
theorem Ext.mono {P P' : Addr → Prop} {H H' : Hp} (a : Ext P H H') (h : ∀ c, P c → P' c) : Ext P' H H' := fun c o q => (a c o q).imp (fun ⟨x, y⟩ => ⟨h c x, y⟩) id
theorem Ext.new {P : Addr → Prop} {H : Hp} {p : Addr} {o : HO} (h : H p = none) : Ext P H (upd H p o) := fun b u e => .inr (by
  rw [upd_ne (ne_of_none e h)]
  exact e)
theorem Ext.set {P : Addr → Prop} {H : Hp} {p : Addr} {vs ws : List V} (h : H p = some (.lst vs)) (hp : P p) : Ext P H (upd H p (.lst ws)) := fun b u e => by
  by_cases hb : b = p
  · subst hb
    rw [h] at e
    cases e
    exact .inl ⟨hp, ⟨_, rfl⟩, _, upd_same⟩
  · right
    rw [upd_ne hb]
    exact e
theorem Ext.rdT {P : Addr → Prop} {H H' : Hp} {a : Addr} {vs : List V} (e : Ext P H H') (h : Rd H a (.tup vs)) : Rd H' a (.tup vs) := by
  rcases h with h | ⟨o, h⟩
  · rcases e _ _ h with ⟨_, ⟨_, z⟩, _⟩ | z
    · cases z
    · exact .inl z
  · rcases e _ _ h with ⟨_, ⟨_, z⟩, _⟩ | z
    · cases z
    · exact .inr ⟨o, z⟩
theorem Ext.lst {P : Addr → Prop} {H H' : Hp} {a : Addr} {vs : List V} (e : Ext P H H') (hn : ¬ P a) (h : H a = some (.lst vs)) : H' a = some (.lst vs) := by
  rcases e _ _ h with ⟨q, _⟩ | z
  · exact (hn q).elim
  · exact z
theorem Ext.frz {P : Addr → Prop} {H H' : Hp} {a : Addr} {o : Obj} {u : HO} (e : Ext P H H') (h : H a = some (.frz o u)) : H' a = some (.frz o u) := by
  rcases e _ _ h with ⟨_, ⟨_, q⟩, _⟩ | z
  · cases q
  · exact z
theorem Ext.obR {P : Addr → Prop} {H H' : Hp} {a C dx : Addr} {ns : List Str} {vs : List V} (e : Ext P H H') (h : ObR H a C dx ns vs) : ObR H' a C dx ns vs := by
  cases ns with
  | nil =>
    obtain ⟨h1, h2, h3, h4⟩ := h
    refine ⟨h1, ?_, h3, ?_⟩
    · rcases e _ _ h2 with ⟨_, ⟨_, z⟩, _⟩ | z
      · cases z
      · exact z
    · rcases e _ _ h4 with ⟨_, ⟨_, z⟩, _⟩ | z
      · unfold L2.SlO at z
        cases z
      · exact z
  | cons n ns =>
    obtain ⟨h1, h2⟩ := h
    refine ⟨h1, ?_⟩
    rcases e _ _ h2 with ⟨_, ⟨_, z⟩, _⟩ | z
    · cases z
    · exact z
theorem isn {α : Type} {x : Option α} {y : α} (h : x = some y) : x ≠ none := by
  rw [h]
  exact fun z => nomatch z

section
variable {K : PySem.W.Frag} {mg : Str → Option Value} {H H' : Hp} {av av' P : Addr → Prop}
mutual
theorem Rp.ext (e : Ext P H H') (hP : ∀ a, P a → av a) : ∀ (d : D) (v : V), Rp K mg H av d v → Rp K mg H' av d v
  | .non, _, h => h
  | .bl _, _, h => h
  | .int _, _, h => h
  | .str _, _, h => h
  | .ty _, _, h => h
  | .cl _, _, h => h
  | .tup ds, v, h => by
    obtain ⟨a, vs, rfl, s, r⟩ := h
    exact ⟨a, vs, rfl, s.imp e.rdT id, RpL.ext e hP ds vs r⟩
  | .lst ds, v, h => by
    obtain ⟨a, vs, rfl, n, s, r⟩ := h
    exact ⟨a, vs, rfl, n, e.lst (fun q => n (hP a q)) s, RpL.ext e hP ds vs r⟩
  | .fz ns, v, h => by
    obtain ⟨a, rfl, s⟩ := h
    exact ⟨a, rfl, s.imp (fun ⟨o, z⟩ => ⟨o, e.frz z⟩) id⟩
  | .ob c ns ds, v, h => by
    obtain ⟨a, C, dx, vs, rfl, m, s, r⟩ := h
    exact ⟨a, C, dx, vs, rfl, m, e.obR s, RpL.ext e hP ds _ r⟩
theorem RpL.ext (e : Ext P H H') (hP : ∀ a, P a → av a) : ∀ (ds : List D) (vs : List V), RpL K mg H av ds vs → RpL K mg H' av ds vs
  | [], _, h => h
  | d :: ds, vs, h => by
    obtain ⟨v, r, rfl, h1, h2⟩ := h
    exact ⟨v, r, rfl, Rp.ext e hP d v h1, RpL.ext e hP ds r h2⟩
end
mutual
/-- less to avoid; more, where nothing stands -/
theorem Rp.av (k : ∀ a, av' a → av a ∨ H a = none) : ∀ (d : D) (v : V), Rp K mg H av d v → Rp K mg H av' d v
  | .non, _, h => h
  | .bl _, _, h => h
  | .int _, _, h => h
  | .str _, _, h => h
  | .ty _, _, h => h
  | .cl _, _, h => h
  | .tup ds, v, h => by
    obtain ⟨a, vs, rfl, s, r⟩ := h
    exact ⟨a, vs, rfl, s, RpL.av k ds vs r⟩
  | .lst ds, v, h => by
    obtain ⟨a, vs, rfl, n, s, r⟩ := h
    exact ⟨a, vs, rfl, fun q => (k a q).elim n (isn s), s, RpL.av k ds vs r⟩
  | .fz _, _, h => h
  | .ob c ns ds, v, h => by
    obtain ⟨a, C, dx, vs, rfl, m, s, r⟩ := h
    exact ⟨a, C, dx, vs, rfl, m, s, RpL.av k ds _ r⟩
theorem RpL.av (k : ∀ a, av' a → av a ∨ H a = none) : ∀ (ds : List D) (vs : List V), RpL K mg H av ds vs → RpL K mg H av' ds vs
  | [], _, h => h
  | d :: ds, vs, h => by
    obtain ⟨v, r, rfl, h1, h2⟩ := h
    exact ⟨v, r, rfl, Rp.av k d v h1, RpL.av k ds r h2⟩
end
mutual
/-- no list within -/
def noL : D → Bool
  | .tup ds => noLs ds
  | .lst _ => false
  | .ob _ _ ds => noLs ds
  | _ => true
def noLs : List D → Bool
  | [] => true
  | d :: ds => noL d && noLs ds
end
mutual
theorem Rp.noL : ∀ (d : D) (v : V), noL d = true → Rp K mg H av d v → Rp K mg H av' d v
  | .non, _, _, h => h
  | .bl _, _, _, h => h
  | .int _, _, _, h => h
  | .str _, _, _, h => h
  | .ty _, _, _, h => h
  | .cl _, _, _, h => h
  | .tup ds, v, n, h => by
    obtain ⟨a, vs, rfl, s, r⟩ := h
    exact ⟨a, vs, rfl, s, RpL.noL ds vs n r⟩
  | .lst ds, v, n, h => by cases n
  | .fz _, _, _, h => h
  | .ob c ns ds, v, n, h => by
    obtain ⟨a, C, dx, vs, rfl, m, s, r⟩ := h
    exact ⟨a, C, dx, vs, rfl, m, s, RpL.noL ds _ n r⟩
theorem RpL.noL : ∀ (ds : List D) (vs : List V), noLs ds = true → RpL K mg H av ds vs → RpL K mg H av' ds vs
  | [], _, _, h => h
  | d :: ds, vs, n, h => by
    obtain ⟨v, r, rfl, h1, h2⟩ := h
    obtain ⟨n1, n2⟩ := Bool.and_eq_true_iff.mp n
    exact ⟨v, r, rfl, Rp.noL d v n1 h1, RpL.noL ds r n2 h2⟩
end
theorem RpL.nil : RpL K mg H av [] [] := rfl
theorem RpL.cons {d : D} {v : V} {ds : List D} {vs : List V} (h : Rp K mg H av d v) (r : RpL K mg H av ds vs) : RpL K mg H av (d :: ds) (v :: vs) := ⟨v, vs, rfl, h, r⟩
theorem RpL.len : ∀ {ds : List D} {vs : List V}, RpL K mg H av ds vs → vs.length = ds.length
  | [], _, h => by
    rw [show _ = [] from h]
    rfl
  | d :: ds, _, h => by
    obtain ⟨v, r, rfl, _, h2⟩ := h
    rw [List.length_cons, List.length_cons, RpL.len h2]
theorem RpL.app : ∀ {ds es : List D} {vs ws : List V}, RpL K mg H av ds vs → RpL K mg H av es ws → RpL K mg H av (ds ++ es) (vs ++ ws)
  | [], _, _, _, h, k => by
    rw [show _ = [] from h]
    exact k
  | d :: ds, _, _, _, h, k => by
    obtain ⟨v, r, rfl, h1, h2⟩ := h
    exact ⟨v, _, rfl, h1, RpL.app h2 k⟩
theorem RpL.get : ∀ {ds : List D} {vs : List V} {i : Nat} {d : D}, RpL K mg H av ds vs → ds[i]? = some d → ∃ v, vs[i]? = some v ∧ Rp K mg H av d v
  | [], _, _, _, h, e => by simp at e
  | d :: ds, _, 0, _, h, e => by
    obtain ⟨v, r, rfl, h1, h2⟩ := h
    simp at e
    subst e
    exact ⟨v, rfl, h1⟩
  | d :: ds, _, i + 1, _, h, e => by
    obtain ⟨v, r, rfl, h1, h2⟩ := h
    obtain ⟨w, e1, q⟩ := RpL.get (i := i) h2 (by simpa using e)
    exact ⟨w, by simpa using e1, q⟩
theorem RpL.set {d : D} {v : V} (hd : Rp K mg H av d v) : ∀ {ds : List D} {vs : List V} (i : Nat), RpL K mg H av ds vs → RpL K mg H av (ds.set i d) (vs.set i v)
  | [], _, _, h => by
    rw [show _ = [] from h]
    exact rfl
  | _ :: _, _, 0, h => by
    obtain ⟨w, r, rfl, h1, h2⟩ := h
    exact ⟨v, r, rfl, hd, h2⟩
  | _ :: _, _, i + 1, h => by
    obtain ⟨w, r, rfl, h1, h2⟩ := h
    exact ⟨w, _, rfl, h1, RpL.set hd i h2⟩
theorem RpL.drop : ∀ {ds : List D} {vs : List V} (i : Nat), RpL K mg H av ds vs → RpL K mg H av (ds.drop i) (vs.drop i)
  | _, _, 0, h => h
  | [], _, _ + 1, h => by
    rw [show _ = [] from h]
    exact rfl
  | _ :: _, _, i + 1, h => by
    obtain ⟨w, r, rfl, h1, h2⟩ := h
    exact RpL.drop i h2
theorem RpL.take : ∀ {ds : List D} {vs : List V} (i : Nat), RpL K mg H av ds vs → RpL K mg H av (ds.take i) (vs.take i)
  | _, _, 0, h => rfl
  | [], _, _ + 1, h => by
    rw [show _ = [] from h]
    exact rfl
  | _ :: _, _, i + 1, h => by
    obtain ⟨w, r, rfl, h1, h2⟩ := h
    exact ⟨w, _, rfl, h1, RpL.take i h2⟩
theorem RpL.rev : ∀ {ds : List D} {vs : List V}, RpL K mg H av ds vs → RpL K mg H av ds.reverse vs.reverse
  | [], _, h => by
    rw [show _ = [] from h]
    exact rfl
  | _ :: _, _, h => by
    obtain ⟨w, r, rfl, h1, h2⟩ := h
    rw [List.reverse_cons, List.reverse_cons]
    exact (RpL.rev h2).app (.cons h1 .nil)
theorem RpL.mem : ∀ {ds : List D} {vs : List V}, RpL K mg H av ds vs → ∀ {v}, v ∈ vs → ∃ d ∈ ds, Rp K mg H av d v
  | [], _, h, v, hv => by
    rw [show _ = [] from h] at hv
    cases hv
  | d :: ds, _, h, v, hv => by
    obtain ⟨w, r, rfl, h1, h2⟩ := h
    rcases List.mem_cons.mp hv with e | hv
    · rw [e]
      exact ⟨d, .head _, h1⟩
    · obtain ⟨d', m, q⟩ := RpL.mem h2 hv
      exact ⟨d', .tail _ m, q⟩
end

/-! ### a frame: its slots -/
/-- a slot: nothing known; a value; a list of this frame's own (k = 0: it may be forgotten; 1: the caller's; 2: a loop walks it); a caught exception (its class, its field); the instance that __init__ makes (its class) -/
inductive Sl where
  | un | dt (d : D) | ow (k : Nat) (ds : List D) | ex (c f : Str) (d : D) | nw (c : Str)
abbrev Fm := List Sl
/-- a result: a value; the frame's own list at slot i; a new list -/
inductive RV where
  | dt (d : D) | vw (i : Nat) | fr (ds : List D)
abbrev Tm := List (RV × V)

def Own (ρ : Fm) (σ : St) (a : Addr) : Prop := ∃ (i k : Nat) (ds : List D), ρ[i]? = some (Sl.ow k ds) ∧ σ[i]? = some (some (V.ref a))
def FrA (tm : Tm) (a : Addr) : Prop := ∃ ds, (RV.fr ds, V.ref a) ∈ tm
/-- what no value may reach -/
def Av (av : Addr → Prop) (ρ : Fm) (σ : St) (tm : Tm) (a : Addr) : Prop := av a ∨ Own ρ σ a ∨ FrA tm a
/-- the exception that is handled here -/
abbrev EC := Addr → Addr → Str → Prop
abbrev noEC : EC := fun _ _ _ => False

/-- what stays through a frame's run: the heap at its entry, the caller's list that it may change (its slot, its address), the caller's places to avoid -/
structure Fc where
  He : Hp
  io : Option (Nat × Addr)
  av : Addr → Prop
def IoA (io : Option (Nat × Addr)) (a : Addr) : Prop := ∃ i, io = some (i, a)

section
variable (K : PySem.W.Frag) (mg : Str → Option Value) (ec : EC) (H : Hp)
def SlR (av A : Addr → Prop) (s : Sl) (o : Option V) : Prop := match s with
  | .un => True
  | .dt d => ∃ v, o = some v ∧ Rp K mg H A d v
  | .ow _ ds => ∃ a vs, o = some (.ref a) ∧ ¬ av a ∧ H a = some (.lst vs) ∧ RpL K mg H A ds vs
  | .ex c f d => ∃ a dd v fs, ec a dd c ∧ o = some (.ref a) ∧ H dd = some (.xd fs) ∧ fs.lookup f = some v ∧ Rp K mg H A d v
  | .nw c => ∃ a dd, ec a dd c ∧ o = some (.ref a)
def TmR (av A : Addr → Prop) (He : Hp) (ρ : Fm) (σ : St) (r : RV) (v : V) : Prop := match r with
  | .dt d => Rp K mg H A d v
  | .vw i => ∃ k ds, ρ[i]? = some (.ow k ds) ∧ σ[i]? = some (some v)
  | .fr ds => ∃ a vs, v = .ref a ∧ ¬ av a ∧ ¬ Own ρ σ a ∧ He a = none ∧ H a = some (.lst vs) ∧ RpL K mg H A ds vs
/-- no two new lists at one place -/
def Sep (tm : Tm) : Prop := tm.Pairwise fun x y => ∀ ds es a, x = (RV.fr ds, V.ref a) → y = (RV.fr es, V.ref a) → False
structure Hold (C : Fc) (ρ : Fm) (σ : St) (tm : Tm) : Prop where
  len : ρ.length = σ.length
  avt : ∀ a, C.av a → H a ≠ none
  ext : Ext (IoA C.io) C.He H
  io : ∀ i p, C.io = some (i, p) → ∃ ds, ρ[i]? = some (Sl.ow 1 ds) ∧ σ[i]? = some (some (V.ref p))
  one : ∀ (i k : Nat) (ds : List D) (a : Addr), ρ[i]? = some (Sl.ow k ds) → σ[i]? = some (some (V.ref a)) → (k = 1 ∧ C.io = some (i, a)) ∨ (k ≠ 1 ∧ C.He a = none)
  slot : ∀ (i : Nat) (s : Sl) (o : Option V), ρ[i]? = some s → σ[i]? = some o → SlR K mg ec H C.av (Av C.av ρ σ tm) s o
  inj : ∀ (i j k k' : Nat) (ds ds' : List D) (a : Addr), ρ[i]? = some (Sl.ow k ds) → ρ[j]? = some (.ow k' ds') → σ[i]? = some (some (V.ref a)) → σ[j]? = some (some (V.ref a)) → i = j
  tmp : ∀ r v, (r, v) ∈ tm → TmR K mg H C.av (Av C.av ρ σ tm) C.He ρ σ r v
  sep : Sep tm
end

section
variable {K : PySem.W.Frag} {mg : Str → Option Value} {ec : EC} {H H' : Hp} {av av' A A' P : Addr → Prop} {ρ ρ' : Fm} {σ σ' : St} {tm tm' : Tm} {C : Fc} {He : Hp}
theorem SlR.imp {s : Sl} {o : Option V} (h : SlR K mg ec H av A s o) (e : Ext P H H') (hP : ∀ a, P a → A a) (hk : ∀ a, A' a → A a ∨ H' a = none) (hav : ∀ a, av' a → av a) (hw : ∀ k ds a vs, s = Sl.ow k ds → o = some (.ref a) → H a = some (.lst vs) → H' a = some (.lst vs)) :
    SlR K mg ec H' av' A' s o := by
  cases s with
  | un => trivial
  | dt d =>
    obtain ⟨v, e1, r⟩ := h
    exact ⟨v, e1, Rp.av hk d v (Rp.ext e hP d v r)⟩
  | ow k ds =>
    obtain ⟨a, vs, e1, n, ha, r⟩ := h
    exact ⟨a, vs, e1, fun q => n (hav a q), hw k ds a vs rfl e1 ha, RpL.av hk ds vs (RpL.ext e hP ds vs r)⟩
  | ex c f d =>
    obtain ⟨a, dd, v, fs, q, e1, hd, hf, r⟩ := h
    refine ⟨a, dd, v, fs, q, e1, ?_, hf, Rp.av hk d v (Rp.ext e hP d v r)⟩
    rcases e _ _ hd with ⟨_, ⟨_, z⟩, _⟩ | z
    · cases z
    · exact z
  | nw c => exact h
theorem Own.there (h : Hold K mg ec H C ρ σ tm) {a : Addr} (o : Own ρ σ a) : ∃ vs, H a = some (.lst vs) := by
  obtain ⟨i, k, ds, h1, h2⟩ := o
  obtain ⟨a', vs, e1, n, ha, r⟩ := h.slot i _ _ h1 h2
  cases e1
  exact ⟨vs, ha⟩
theorem FrA.there (h : Hold K mg ec H C ρ σ tm) {a : Addr} (o : FrA tm a) : ∃ vs, H a = some (.lst vs) := by
  obtain ⟨ds, hm⟩ := o
  obtain ⟨a', vs, e1, n, n2, n3, ha, r⟩ := h.tmp _ _ hm
  cases e1
  exact ⟨vs, ha⟩
/-- all is kept (own lists too), the heap grows -/
theorem Hold.grow (h : Hold K mg ec H C ρ σ tm) (e : Ext (fun _ => False) H H') : Hold K mg ec H' C ρ σ tm where
  len := h.len
  avt := fun a q => e.isSome (h.avt a q)
  ext := h.ext.trans (e.mono fun _ z => z.elim)
  io := h.io
  one := h.one
  slot := fun i s o h1 h2 => (h.slot i s o h1 h2).imp e (fun _ z => z.elim) (fun _ z => .inl z) (fun _ z => z) fun k ds a vs _ _ q => by
    rcases e _ _ q with ⟨z, _⟩ | z
    · exact z.elim
    · exact z
  inj := h.inj
  tmp := fun r v hm => by
    have q := h.tmp r v hm
    cases r with
    | dt d => exact Rp.ext e (fun _ z => z.elim) d v q
    | vw i => exact q
    | fr ds =>
      obtain ⟨a, vs, e1, n, n2, n3, ha, r⟩ := q
      refine ⟨a, vs, e1, n, n2, n3, ?_, RpL.ext e (fun _ z => z.elim) ds vs r⟩
      rcases e _ _ ha with ⟨z, _⟩ | z
      · exact z.elim
      · exact z
  sep := h.sep
theorem FrA.cons_dt {d : D} {v : V} {a : Addr} : FrA ((.dt d, v) :: tm) a ↔ FrA tm a :=
  ⟨fun ⟨ds, h⟩ => ⟨ds, (List.mem_cons.mp h).elim (fun z => nomatch z) id⟩, fun ⟨ds, h⟩ => ⟨ds, .tail _ h⟩⟩
theorem FrA.cons_vw {i : Nat} {v : V} {a : Addr} : FrA ((.vw i, v) :: tm) a ↔ FrA tm a :=
  ⟨fun ⟨ds, h⟩ => ⟨ds, (List.mem_cons.mp h).elim (fun z => nomatch z) id⟩, fun ⟨ds, h⟩ => ⟨ds, .tail _ h⟩⟩
theorem FrA.cons_fr {ds : List D} {p a : Addr} : FrA ((.fr ds, .ref p) :: tm) a ↔ a = p ∨ FrA tm a :=
  ⟨fun ⟨es, h⟩ => by
    rcases List.mem_cons.mp h with z | z
    · cases z
      exact .inl rfl
    · exact .inr ⟨es, z⟩, fun h => by
    rcases h with e | ⟨es, h⟩
    · subst e
      exact ⟨ds, .head _⟩
    · exact ⟨es, .tail _ h⟩⟩
theorem TmR.imp {r : RV} {v : V} (h : TmR K mg H av A He ρ σ r v) (hk : ∀ a, A' a → A a ∨ H a = none) : TmR K mg H av A' He ρ σ r v := by
  cases r with
  | dt d => exact Rp.av hk d v h
  | vw i => exact h
  | fr ds =>
    obtain ⟨a, vs, e1, n, n2, n3, ha, q⟩ := h
    exact ⟨a, vs, e1, n, n2, n3, ha, RpL.av hk ds vs q⟩
/-- another stack of results -/
theorem Hold.stack (h : Hold K mg ec H C ρ σ tm) (hk : ∀ a, FrA tm' a → FrA tm a ∨ H a = none) (ht : ∀ r v, (r, v) ∈ tm' → TmR K mg H C.av (Av C.av ρ σ tm') C.He ρ σ r v) (hs : Sep tm') : Hold K mg ec H C ρ σ tm' where
  len := h.len
  avt := h.avt
  ext := h.ext
  io := h.io
  one := h.one
  slot := fun i s o h1 h2 => (h.slot i s o h1 h2).imp (P := fun _ => False) Ext.refl (fun _ z => z.elim) (fun a z => by
    rcases z with z | z | z
    · exact .inl (.inl z)
    · exact .inl (.inr (.inl z))
    · exact (hk a z).imp (fun q => .inr (.inr q)) id) (fun _ z => z) fun _ _ _ _ _ _ q => q
  inj := h.inj
  tmp := ht
  sep := hs
theorem Av.of {a : Addr} (hk : ∀ a, FrA tm' a → FrA tm a ∨ H a = none) (h : Av C.av ρ σ tm' a) : Av C.av ρ σ tm a ∨ H a = none := by
  rcases h with z | z | z
  · exact .inl (.inl z)
  · exact .inl (.inr (.inl z))
  · exact (hk a z).imp (fun q => .inr (.inr q)) id
/-- the newest result goes -/
theorem Hold.pop {x : RV × V} (h : Hold K mg ec H C ρ σ (x :: tm)) : Hold K mg ec H C ρ σ tm := by
  have hk : ∀ a, FrA tm a → FrA (x :: tm) a ∨ H a = none := fun a ⟨ds, q⟩ => .inl ⟨ds, .tail _ q⟩
  exact h.stack hk (fun r v hm => (h.tmp r v (.tail _ hm)).imp fun a q => Av.of hk q) (List.pairwise_cons.mp h.sep).2
theorem Hold.pops {ts : Tm} (h : Hold K mg ec H C ρ σ (ts ++ tm)) : Hold K mg ec H C ρ σ tm := by
  induction ts with
  | nil => exact h
  | cons x ts ih => exact ih h.pop
theorem Hold.push_dt {d : D} {v : V} (h : Hold K mg ec H C ρ σ tm) (r : Rp K mg H (Av C.av ρ σ tm) d v) : Hold K mg ec H C ρ σ ((.dt d, v) :: tm) := by
  have hk : ∀ a, FrA ((.dt d, v) :: tm) a → FrA tm a ∨ H a = none := fun a q => .inl (FrA.cons_dt.mp q)
  refine h.stack hk (fun r' v' hm => ?_) (List.pairwise_cons.mpr ⟨fun y _ ds es a z => (nomatch z), h.sep⟩)
  rcases List.mem_cons.mp hm with z | hm
  · cases z
    exact Rp.av (fun a q => Av.of hk q) d v r
  · exact (h.tmp r' v' hm).imp fun a q => Av.of hk q
theorem Hold.push_vw {i k : Nat} {ds : List D} {v : V} (h : Hold K mg ec H C ρ σ tm) (h1 : ρ[i]? = some (.ow k ds)) (h2 : σ[i]? = some (some v)) : Hold K mg ec H C ρ σ ((.vw i, v) :: tm) := by
  have hk : ∀ a, FrA ((.vw i, v) :: tm) a → FrA tm a ∨ H a = none := fun a q => .inl (FrA.cons_vw.mp q)
  refine h.stack hk (fun r' v' hm => ?_) (List.pairwise_cons.mpr ⟨fun y _ ds es a z => (nomatch z), h.sep⟩)
  rcases List.mem_cons.mp hm with z | hm
  · cases z
    exact ⟨k, ds, h1, h2⟩
  · exact (h.tmp r' v' hm).imp fun a q => Av.of hk q
/-- a new list is laid -/
theorem Hold.push_fr {ds : List D} {p : Addr} {vs : List V} (h : Hold K mg ec H C ρ σ tm) (hp : H p = none) (r : RpL K mg H (Av C.av ρ σ tm) ds vs) : Hold K mg ec (upd H p (.lst vs)) C ρ σ ((.fr ds, .ref p) :: tm) := by
  have e : Ext (fun _ => False) H (upd H p (.lst vs)) := Ext.new hp
  have g := h.grow e
  have na : ¬ C.av p := fun q => h.avt p q hp
  have nh : C.He p = none := h.ext.isNone hp
  have no : ¬ Own ρ σ p := fun o => by
    obtain ⟨ws, q⟩ := Own.there h o
    rw [hp] at q
    cases q
  have nf : ¬ FrA tm p := fun o => by
    obtain ⟨ws, q⟩ := FrA.there h o
    rw [hp] at q
    cases q
  have key : ∀ a, Av C.av ρ σ ((.fr ds, .ref p) :: tm) a → Av C.av ρ σ tm a ∨ H a = none := fun a q => by
    rcases q with q | q | q
    · exact .inl (.inl q)
    · exact .inl (.inr (.inl q))
    · rcases FrA.cons_fr.mp q with z | z
      · exact .inr (by rw [z]; exact hp)
      · exact .inl (.inr (.inr z))
  refine ⟨g.len, g.avt, g.ext, g.io, g.one, fun i s o h1 h2 => ?_, g.inj, fun r' v' hm => ?_, List.pairwise_cons.mpr ⟨fun y hy ds' es a z1 z2 => ?_, h.sep⟩⟩
  · have q := h.slot i s o h1 h2
    have q1 : SlR K mg ec H C.av (Av C.av ρ σ ((.fr ds, .ref p) :: tm)) s o := q.imp (P := fun _ => False) Ext.refl (fun _ z => z.elim) key (fun _ z => z) fun _ _ _ _ _ _ z => z
    exact q1.imp e (fun _ z => z.elim) (fun _ z => .inl z) (fun _ z => z) fun k es a ws _ _ z => by
      rw [upd_ne (ne_of_none z hp)]
      exact z
  · rcases List.mem_cons.mp hm with z | hm
    · cases z
      exact ⟨p, vs, rfl, na, no, nh, upd_same, RpL.ext e (fun _ z => z.elim) ds vs (RpL.av key ds vs r)⟩
    · have q := (h.tmp r' v' hm).imp (A' := Av C.av ρ σ ((.fr ds, .ref p) :: tm)) key
      cases r' with
      | dt d => exact Rp.ext e (fun _ z => z.elim) d v' q
      | vw i => exact q
      | fr es =>
        obtain ⟨a, ws, e1, n, n2, n3, ha, q⟩ := q
        refine ⟨a, ws, e1, n, n2, n3, ?_, RpL.ext e (fun _ z => z.elim) es ws q⟩
        rw [upd_ne (ne_of_none ha hp)]
        exact ha
  · cases z1
    subst z2
    exact nf ⟨es, hy⟩
/-- a new tuple -/
theorem Hold.push_tup {ds : List D} {p : Addr} {vs : List V} (h : Hold K mg ec H C ρ σ tm) (hp : H p = none) (r : RpL K mg H (Av C.av ρ σ tm) ds vs) : Hold K mg ec (upd H p (.tup vs)) C ρ σ ((.dt (.tup ds), .ref p) :: tm) := by
  have e : Ext (fun _ => False) H (upd H p (.tup vs)) := Ext.new hp
  exact (h.grow e).push_dt ⟨p, vs, rfl, .inl (.inl upd_same), RpL.ext e (fun _ z => z.elim) ds vs r⟩
end
end DL

namespace DL
open PySem L2

/-! ### outcomes -/
inductive Out (α : Type) where
  | ok (a : α) (ρ : Fm) | ex (c f : Str) (d : D) (ρ : Fm) | bad
def Out.bind {α β : Type} (o : Out α) (g : α → Fm → Out β) : Out β := match o with
  | .ok a ρ => g a ρ
  | .ex c f d ρ => .ex c f d ρ
  | .bad => .bad
inductive SO where
  | nx (ρ : Fm) | rt (r : RV) (ρ : Fm) | bk (ρ : Fm) | ct (ρ : Fm) | ex (c f : Str) (d : D) (ρ : Fm) | bad
def Out.sbind {α : Type} (o : Out α) (g : α → Fm → SO) : SO := match o with
  | .ok a ρ => g a ρ
  | .ex c f d ρ => .ex c f d ρ
  | .bad => .bad
def SO.bind (o : SO) (g : Fm → SO) : SO := match o with
  | .nx ρ => g ρ
  | o => o
/-- what a result is worth -/
def RV.get (ρ : Fm) : RV → Option D
  | .dt d => some d
  | .fr ds => some (.lst ds)
  | .vw i => match ρ[i]? with
    | some (.ow _ ds) => some (.lst ds)
    | _ => none
/-- a scalar as a value -/
def sv : D → Option V
  | .non => some .non
  | .bl b => some (.bl b)
  | .int i => some (.int i)
  | .str s => some (.str s)
  | .ty n => some (.ty n)
  | _ => none

/-- the caller's list stays at its slot, the lists that are walked stay as they are -/
structure Kin (ρ0 ρ : Fm) : Prop where
  io : ∀ (i : Nat) ds, ρ0[i]? = some (Sl.ow 1 ds) → ∃ es, ρ[i]? = some (Sl.ow 1 es)
  lk : ∀ (i k : Nat) ds, ρ0[i]? = some (Sl.ow (k + 2) ds) → ρ[i]? = some (Sl.ow (k + 2) ds)
theorem Kin.refl {ρ : Fm} : Kin ρ ρ := ⟨fun _ ds h => ⟨ds, h⟩, fun _ _ _ h => h⟩
theorem Kin.of_same {ρ ρ' : Fm} (h : ∀ (i k : Nat) ds, ρ[i]? = some (Sl.ow (k + 1) ds) → ρ'[i]? = some (Sl.ow (k + 1) ds)) : Kin ρ ρ' := ⟨fun i ds q => ⟨ds, h i 0 ds q⟩, fun i k ds q => h i (k + 1) ds q⟩
theorem Kin.trans {ρ0 ρ1 ρ2 : Fm} (a : Kin ρ0 ρ1) (b : Kin ρ1 ρ2) : Kin ρ0 ρ2 := ⟨fun i ds h => let ⟨es, h1⟩ := a.io i ds h; b.io i es h1, fun i k ds h => b.lk i k ds (a.lk i k ds h)⟩
/-- what a statement's pending results may be: lists that are walked -/
def LkT (ρ : Fm) (tm : Tm) : Prop := ∀ i v, (RV.vw i, v) ∈ tm → ∃ ds, ρ[i]? = some (Sl.ow 2 ds)
theorem LkT.kin {ρ ρ1 : Fm} {tm : Tm} (h : LkT ρ tm) (k : Kin ρ ρ1) : LkT ρ1 tm := fun i v hm => let ⟨ds, q⟩ := h i v hm; ⟨ds, k.lk i 0 ds q⟩

section
variable (K : PySem.W.Frag) (mg : Str → Option Value) (W : WX) (ec : EC)
/-- an exception in the air, with this frame -/
def ExW (C : Fc) (ρ0 : Fm) (tm : Tm) (c f : Str) (d : D) (ρ : Fm) : Prop :=
  ∀ cl dd v fs σ H, mg c = some (.ref cl) → H dd = some (.xd fs) → fs.lookup f = some v → Rp K mg H (Av C.av ρ σ tm) d v → Hold K mg ec H C ρ σ tm → Kin ρ0 ρ → W (.ref cl) (some dd) σ H
def Fin (C : Fc) (ρ0 : Fm) (σ : St) (tm : Tm) (o : Out RV) (Q : VK) : Prop := match o with
  | .ok r ρ => ∀ v H, Hold K mg ec H C ρ σ ((r, v) :: tm) → Kin ρ0 ρ → Q v H
  | .ex c f d ρ => ExW K mg W ec C ρ0 tm c f d ρ
  | .bad => False
def FinT (C : Fc) (ρ0 : Fm) (σ : St) (tm : Tm) (o : Out Bool) (Q : Bool → Hp → Prop) : Prop := match o with
  | .ok b ρ => ∀ H, Hold K mg ec H C ρ σ tm → Kin ρ0 ρ → Q b H
  | .ex c f d ρ => ExW K mg W ec C ρ0 tm c f d ρ
  | .bad => False
/-- the results of an argument list, the last on top -/
def stk : List RV → List V → Tm → Tm
  | r :: rs, v :: vs, tm => stk rs vs ((r, v) :: tm)
  | _, _, tm => tm
def FinA (C : Fc) (ρ0 : Fm) (σ : St) (tm : Tm) (o : Out (List RV)) (Q : List V → Hp → Prop) : Prop := match o with
  | .ok rs ρ => ∀ vs H, vs.length = rs.length → Hold K mg ec H C ρ σ (stk rs vs tm) → Kin ρ0 ρ → Q vs H
  | .ex c f d ρ => ExW K mg W ec C ρ0 tm c f d ρ
  | .bad => False
def FinS (C : Fc) (ρ0 : Fm) (tm : Tm) (o : SO) (E : Ends) : Prop := match o with
  | .nx ρ => ∀ σ H, Hold K mg ec H C ρ σ tm → Kin ρ0 ρ → E.nx σ H
  | .bk ρ => ∀ σ H, Hold K mg ec H C ρ σ tm → Kin ρ0 ρ → E.bk σ H
  | .ct ρ => ∀ σ H, Hold K mg ec H C ρ σ tm → Kin ρ0 ρ → E.ct σ H
  | .rt r ρ => ∀ v σ H, Hold K mg ec H C ρ σ ((r, v) :: tm) → Kin ρ0 ρ → E.rt v H
  | .ex c f d ρ => ExW K mg W ec C ρ0 tm c f d ρ
  | .bad => False
def tD (F : Fm → Out RV) : TE := fun σ H Q => ∃ C ρ tm, Hold K mg ec H C ρ σ tm ∧ Fin K mg W ec C ρ σ tm (F ρ) Q
def tDT (F : Fm → Out Bool) : TT := fun σ H Q => ∃ C ρ tm, Hold K mg ec H C ρ σ tm ∧ FinT K mg W ec C ρ σ tm (F ρ) Q
def tDA (F : Fm → Out (List RV)) : TA := fun σ H Q => ∃ C ρ tm, Hold K mg ec H C ρ σ tm ∧ FinA K mg W ec C ρ σ tm (F ρ) Q
def tDS (F : Fm → SO) : TS := fun E σ H => ∃ C ρ tm, Hold K mg ec H C ρ σ tm ∧ LkT ρ tm ∧ FinS K mg W ec C ρ tm (F ρ) E
end
abbrev DE (X : Cx) (W : WX) (ec : EC) (e : Expr) (F : Fm → Out RV) : Prop := PE X e (tD X.K X.mg W ec F)
abbrev DT (X : Cx) (W : WX) (ec : EC) (e : Expr) (F : Fm → Out Bool) : Prop := PT X e (tDT X.K X.mg W ec F)
abbrev DW (X : Cx) (W : WX) (ec : EC) (e : Expr) (F : Fm → Out Bool) : Prop := PW X e (tDT X.K X.mg W ec F)
abbrev DA (X : Cx) (W : WX) (ec : EC) (es : List Expr) (F : Fm → Out (List RV)) : Prop := PA X es (tDA X.K X.mg W ec F)
abbrev DS (X : Cx) (W : WX) (ec : EC) (st : Stmt) (F : Fm → SO) : Prop := PS X st (tDS X.K X.mg W ec F)
abbrev DSs (X : Cx) (W : WX) (ec : EC) (st : List Stmt) (F : Fm → SO) : Prop := PSs X st (tDS X.K X.mg W ec F)

theorem _root_.L2.PE.imp {X : Cx} {e : Expr} {t t' : TE} (h : PE X e t) (k : ∀ σ H Q, t' σ H Q → t σ H Q) : PE X e t' := ⟨fun pins s σ H Q I q => h.run pins s σ H Q I (k σ H Q q)⟩
theorem _root_.L2.PT.imp {X : Cx} {e : Expr} {t t' : TT} (h : PT X e t) (k : ∀ σ H Q, t' σ H Q → t σ H Q) : PT X e t' := ⟨fun pins s σ H Q I q => h.run pins s σ H Q I (k σ H Q q)⟩
theorem _root_.L2.PW.imp {X : Cx} {e : Expr} {t t' : TT} (h : PW X e t) (k : ∀ σ H Q, t' σ H Q → t σ H Q) : PW X e t' := ⟨fun wh pins s σ H Q I q => h.run wh pins s σ H Q I (k σ H Q q)⟩
theorem _root_.L2.PA.imp {X : Cx} {e : List Expr} {t t' : TA} (h : PA X e t) (k : ∀ σ H Q, t' σ H Q → t σ H Q) : PA X e t' := ⟨fun pos pins s σ H Q I q => h.run pos pins s σ H Q I (k σ H Q q)⟩
theorem _root_.L2.PS.imp {X : Cx} {e : Stmt} {t t' : TS} (h : PS X e t) (k : ∀ D σ H, t' D σ H → t D σ H) : PS X e t' := ⟨fun pins s σ H D I q => h.run pins s σ H D I (k D σ H q)⟩
theorem _root_.L2.PSs.imp {X : Cx} {e : List Stmt} {t t' : TS} (h : PSs X e t) (k : ∀ D σ H, t' D σ H → t D σ H) : PSs X e t' := ⟨fun pins s σ H D I q => h.run pins s σ H D I (k D σ H q)⟩

section
variable {K : PySem.W.Frag} {mg : Str → Option Value} {W : WX} {ec : EC} {C : Fc} {ρ ρ0 ρ1 ρ2 : Fm} {σ σ0 σ1 : St} {tm ts : Tm} {H H0 H1 : Hp} {Q : VK}
/-- an exception of a part -/
theorem ExW.up {c f : Str} {d : D} (p : ExW K mg W ec C ρ0 tm c f d ρ2) (k : Kin ρ0 ρ1) : ExW K mg W ec C ρ1 (ts ++ tm) c f d ρ2 := fun cl dd v fs σ' H' hc h1 h2 r h k' =>
  p cl dd v fs σ' H' hc h1 h2 (Rp.av (fun a q => .inl (by
    rcases q with q | q | ⟨ds, q⟩
    · exact .inl q
    · exact .inr (.inl q)
    · exact .inr (.inr ⟨ds, List.mem_append_right _ q⟩))) d v r) h.pops (k.trans k')
theorem tD_step {F : Fm → Out RV} {G : RV → Fm → Out RV} {Q' : VK} (h : Hold K mg ec H1 C ρ1 σ (ts ++ tm)) (k : Kin ρ0 ρ1) (p : Fin K mg W ec C ρ0 σ tm ((F ρ1).bind G) Q)
    (c : ∀ r ρ2 v H2, Hold K mg ec H2 C ρ2 σ ((r, v) :: (ts ++ tm)) → Kin ρ0 ρ2 → Fin K mg W ec C ρ0 σ tm (G r ρ2) Q → Q' v H2) : tD K mg W ec F σ H1 Q' := by
  refine ⟨C, ρ1, ts ++ tm, h, ?_⟩
  cases q : F ρ1 with
  | ok r ρ2 =>
    rw [q] at p
    exact fun v H2 h2 k2 => c r ρ2 v H2 h2 (k.trans k2) p
  | ex c' f d ρ2 =>
    rw [q] at p
    exact ExW.up p k
  | bad =>
    rw [q] at p
    exact p.elim
theorem tD_stepT {F : Fm → Out RV} {G : RV → Fm → Out Bool} {QT : Bool → Hp → Prop} {Q' : VK} (h : Hold K mg ec H1 C ρ1 σ (ts ++ tm)) (k : Kin ρ0 ρ1) (p : FinT K mg W ec C ρ0 σ tm ((F ρ1).bind G) QT)
    (c : ∀ r ρ2 v H2, Hold K mg ec H2 C ρ2 σ ((r, v) :: (ts ++ tm)) → Kin ρ0 ρ2 → FinT K mg W ec C ρ0 σ tm (G r ρ2) QT → Q' v H2) : tD K mg W ec F σ H1 Q' := by
  refine ⟨C, ρ1, ts ++ tm, h, ?_⟩
  cases q : F ρ1 with
  | ok r ρ2 =>
    rw [q] at p
    exact fun v H2 h2 k2 => c r ρ2 v H2 h2 (k.trans k2) p
  | ex c' f d ρ2 =>
    rw [q] at p
    exact ExW.up p k
  | bad =>
    rw [q] at p
    exact p.elim
theorem tD_stepS {F : Fm → Out RV} {G : RV → Fm → SO} {E : Ends} {Q' : VK} (h : Hold K mg ec H1 C ρ1 σ1 (ts ++ tm)) (k : Kin ρ0 ρ1) (p : FinS K mg W ec C ρ0 tm ((F ρ1).sbind G) E)
    (c : ∀ r ρ2 v H2, Hold K mg ec H2 C ρ2 σ1 ((r, v) :: (ts ++ tm)) → Kin ρ0 ρ2 → FinS K mg W ec C ρ0 tm (G r ρ2) E → Q' v H2) : tD K mg W ec F σ1 H1 Q' := by
  refine ⟨C, ρ1, ts ++ tm, h, ?_⟩
  cases q : F ρ1 with
  | ok r ρ2 =>
    rw [q] at p
    exact fun v H2 h2 k2 => c r ρ2 v H2 h2 (k.trans k2) p
  | ex c' f d ρ2 =>
    rw [q] at p
    exact ExW.up p k
  | bad =>
    rw [q] at p
    exact p.elim
theorem tDA_step {F : Fm → Out (List RV)} {G : List RV → Fm → Out RV} {Q' : List V → Hp → Prop} (h : Hold K mg ec H1 C ρ1 σ (ts ++ tm)) (k : Kin ρ0 ρ1) (p : Fin K mg W ec C ρ0 σ tm ((F ρ1).bind G) Q)
    (c : ∀ r ρ2 v H2, v.length = r.length → Hold K mg ec H2 C ρ2 σ (stk r v (ts ++ tm)) → Kin ρ0 ρ2 → Fin K mg W ec C ρ0 σ tm (G r ρ2) Q → Q' v H2) : tDA K mg W ec F σ H1 Q' := by
  refine ⟨C, ρ1, ts ++ tm, h, ?_⟩
  cases q : F ρ1 with
  | ok r ρ2 =>
    rw [q] at p
    exact fun v H2 hl h2 k2 => c r ρ2 v H2 hl h2 (k.trans k2) p
  | ex c' f d ρ2 =>
    rw [q] at p
    exact ExW.up p k
  | bad =>
    rw [q] at p
    exact p.elim
theorem tDA_stepS {F : Fm → Out (List RV)} {G : List RV → Fm → SO} {E : Ends} {Q' : List V → Hp → Prop} (h : Hold K mg ec H1 C ρ1 σ1 (ts ++ tm)) (k : Kin ρ0 ρ1) (p : FinS K mg W ec C ρ0 tm ((F ρ1).sbind G) E)
    (c : ∀ r ρ2 v H2, v.length = r.length → Hold K mg ec H2 C ρ2 σ1 (stk r v (ts ++ tm)) → Kin ρ0 ρ2 → FinS K mg W ec C ρ0 tm (G r ρ2) E → Q' v H2) : tDA K mg W ec F σ1 H1 Q' := by
  refine ⟨C, ρ1, ts ++ tm, h, ?_⟩
  cases q : F ρ1 with
  | ok r ρ2 =>
    rw [q] at p
    exact fun v H2 hl h2 k2 => c r ρ2 v H2 hl h2 (k.trans k2) p
  | ex c' f d ρ2 =>
    rw [q] at p
    exact ExW.up p k
  | bad =>
    rw [q] at p
    exact p.elim
theorem tDT_step {F : Fm → Out Bool} {G : Bool → Fm → Out RV} {Q' : Bool → Hp → Prop} (h : Hold K mg ec H1 C ρ1 σ (ts ++ tm)) (k : Kin ρ0 ρ1) (p : Fin K mg W ec C ρ0 σ tm ((F ρ1).bind G) Q)
    (c : ∀ r ρ2 H2, Hold K mg ec H2 C ρ2 σ (ts ++ tm) → Kin ρ0 ρ2 → Fin K mg W ec C ρ0 σ tm (G r ρ2) Q → Q' r H2) : tDT K mg W ec F σ H1 Q' := by
  refine ⟨C, ρ1, ts ++ tm, h, ?_⟩
  cases q : F ρ1 with
  | ok r ρ2 =>
    rw [q] at p
    exact fun H2 h2 k2 => c r ρ2 H2 h2 (k.trans k2) p
  | ex c' f d ρ2 =>
    rw [q] at p
    exact ExW.up p k
  | bad =>
    rw [q] at p
    exact p.elim
theorem tDT_stepT {F : Fm → Out Bool} {G : Bool → Fm → Out Bool} {QT : Bool → Hp → Prop} {Q' : Bool → Hp → Prop} (h : Hold K mg ec H1 C ρ1 σ (ts ++ tm)) (k : Kin ρ0 ρ1) (p : FinT K mg W ec C ρ0 σ tm ((F ρ1).bind G) QT)
    (c : ∀ r ρ2 H2, Hold K mg ec H2 C ρ2 σ (ts ++ tm) → Kin ρ0 ρ2 → FinT K mg W ec C ρ0 σ tm (G r ρ2) QT → Q' r H2) : tDT K mg W ec F σ H1 Q' := by
  refine ⟨C, ρ1, ts ++ tm, h, ?_⟩
  cases q : F ρ1 with
  | ok r ρ2 =>
    rw [q] at p
    exact fun H2 h2 k2 => c r ρ2 H2 h2 (k.trans k2) p
  | ex c' f d ρ2 =>
    rw [q] at p
    exact ExW.up p k
  | bad =>
    rw [q] at p
    exact p.elim
theorem tDT_stepS {F : Fm → Out Bool} {G : Bool → Fm → SO} {E : Ends} {Q' : Bool → Hp → Prop} (h : Hold K mg ec H1 C ρ1 σ1 (ts ++ tm)) (k : Kin ρ0 ρ1) (p : FinS K mg W ec C ρ0 tm ((F ρ1).sbind G) E)
    (c : ∀ r ρ2 H2, Hold K mg ec H2 C ρ2 σ1 (ts ++ tm) → Kin ρ0 ρ2 → FinS K mg W ec C ρ0 tm (G r ρ2) E → Q' r H2) : tDT K mg W ec F σ1 H1 Q' := by
  refine ⟨C, ρ1, ts ++ tm, h, ?_⟩
  cases q : F ρ1 with
  | ok r ρ2 =>
    rw [q] at p
    exact fun H2 h2 k2 => c r ρ2 H2 h2 (k.trans k2) p
  | ex c' f d ρ2 =>
    rw [q] at p
    exact ExW.up p k
  | bad =>
    rw [q] at p
    exact p.elim
/-- what a result is worth stands in the heap; nothing is said of what it reaches -/
theorem Hold.get {r : RV} {v : V} {d : D} (h : Hold K mg ec H C ρ σ tm) (hm : (r, v) ∈ tm) (g : r.get ρ = some d) : Rp K mg H (fun _ => False) d v := by
  have q := h.tmp r v hm
  cases r with
  | dt d' =>
    cases g
    exact Rp.av (fun _ z => z.elim) d v q
  | fr ds =>
    cases g
    obtain ⟨a, vs, e, _, _, _, ha, r⟩ := q
    exact ⟨a, vs, e, id, ha, RpL.av (fun _ z => z.elim) ds vs r⟩
  | vw i =>
    obtain ⟨k, ds, h1, h2⟩ := q
    have g' : (match ρ[i]? with | some (.ow _ ds) => some (D.lst ds) | _ => none) = some d := g
    rw [h1] at g'
    cases g'
    obtain ⟨a, vs, e, _, ha, r⟩ := h.slot i _ _ h1 h2
    cases e
    exact ⟨a, vs, rfl, id, ha, RpL.av (fun _ z => z.elim) ds vs r⟩
theorem sv_rp {d : D} {v : V} {A : Addr → Prop} (h : sv d = some v) : Rp K mg H A d v := by
  cases d <;> first | (cases h; exact rfl) | cases h
theorem sv_of {d : D} {v w : V} {A : Addr → Prop} (h : sv d = some v) (r : Rp K mg H A d w) : w = v := by
  cases d <;> first | (cases h; exact r) | cases h
theorem Hold.push_sv {d : D} {v : V} (h : Hold K mg ec H C ρ σ tm) (e : sv d = some v) : Hold K mg ec H C ρ σ ((.dt d, v) :: tm) := h.push_dt (sv_rp e)
end

section
variable {X : Cx} {W : WX} {ec : EC} {a b c : Expr} {rest : List Expr} {pos : Pos} {F G J : Fm → Out RV}
/-! ### names, constants -/
def fC (d : D) : Fm → Out RV := fun ρ => .ok (.dt d) ρ
def fV (i : Nat) : Fm → Out RV := fun ρ => match ρ[i]? with
  | some (.dt d) => .ok (.dt d) ρ
  | some (.ow _ _) => .ok (.vw i) ρ
  | _ => .bad
theorem de_sv {d : D} {v : V} (h : PE X a (tC v)) (e : sv d = some v) : DE X W ec a (fC d) := h.imp fun σ H Q ⟨C, ρ, tm, h, p⟩ => p v H (h.push_sv e) Kin.refl
theorem de_int {i : Int} {j : Nat} : DE X W ec (.Constant (.int i) j pos) (fC (.int i)) := de_sv pe_int rfl
theorem de_bl {i : Bool} {j : Nat} : DE X W ec (.Constant (.bool i) j pos) (fC (.bl i)) := de_sv pe_bl rfl
theorem de_str {x : Str} {j : Nat} : DE X W ec (.Constant (.str x) j pos) (fC (.str x)) := de_sv pe_str rfl
theorem de_non {j : Nat} : DE X W ec (.Constant .none j pos) (fC .non) := de_sv pe_non rfl
/-- a name of the module: a scalar, a class, a tuple that stands in the written part -/
theorem de_gl {x : Str} {d : D} {v : V} {u : Value} (hg : Gl X x) (hm : X.mg x = some u) (r : RelV v u) (hr : ∀ H A, Rp X.K X.mg H A d v) (hd : (x == ("__debug__" : Str)) = false := by decide) : DE X W ec (.Name x pos) (fC d) :=
  (pe_glob hg hm r hd).imp fun σ H Q ⟨C, ρ, tm, h, p⟩ => p v H (h.push_dt (hr _ _)) Kin.refl
theorem dv (i : Nat) {x : Str} (hN : X.N[i]? = some x := by rfl) (hv : Vis X.env.scope x := by first | exact Or.inl rfl | exact Or.inr (Or.inl rfl) | exact Or.inr (Or.inr rfl)) (hd : (x == ("__debug__" : Str)) = false := by decide)
    (hcd : (x == ("__classdict__" : Str)) = false := by decide) : DE X W ec (.Name x pos) (fV i) := (pe_var hN hv hd hcd).imp fun σ H Q ⟨C, ρ, tm, h, p⟩ => by
  unfold fV at p
  cases q : ρ[i]? with
  | none =>
    rw [q] at p
    exact p.elim
  | some s =>
    rw [q] at p
    obtain ⟨o, ho⟩ : ∃ o, σ[i]? = some o := by
      have hl : i < σ.length := by
        rw [← h.len]
        exact (List.getElem?_eq_some_iff.mp q).1
      exact ⟨_, List.getElem?_eq_getElem hl⟩
    have hs := h.slot i s o q ho
    cases s with
    | un => exact p.elim
    | ex => exact p.elim
    | nw => exact p.elim
    | dt d =>
      obtain ⟨v, rfl, r⟩ := hs
      exact ⟨v, ho, p v H (h.push_dt r) Kin.refl⟩
    | ow k ds =>
      obtain ⟨l, vs, rfl, _⟩ := hs
      exact ⟨.ref l, ho, p _ H (h.push_vw q ho) Kin.refl⟩

/-! ### operators that give a scalar -/
def fOp (g : D → D → Option D) (F G : Fm → Out RV) : Fm → Out RV := fun ρ => (F ρ).bind fun r ρ => (G ρ).bind fun s ρ => match r.get ρ, s.get ρ with
  | some x, some y => match g x y with
    | some z => .ok (.dt z) ρ
    | none => .bad
  | _, _ => .bad
/-- what an operator does with plain data -/
structure Op2 (X : Cx) (r : R2) (g : D → D → Option D) : Prop where
  run : ∀ (d e z : D) (x y : V) (H : Hp) (Q : VK), Rp X.K X.mg H (fun _ => False) d x → Rp X.K X.mg H (fun _ => False) e y → g d e = some z → (∀ v, sv z = some v → Q v H) → r x y H Q
  sc : ∀ d e z, g d e = some z → ∃ v, sv z = some v
theorem tOp_of {r : R2} {g : D → D → Option D} (o : Op2 X r g) {σ : St} {H : Hp} {Q : VK} (h : tD X.K X.mg W ec (fOp g F G) σ H Q) : tOp r (tD X.K X.mg W ec F) (tD X.K X.mg W ec G) σ H Q := by
  obtain ⟨C, ρ, tm, h, p⟩ := h
  refine tD_step (ts := []) h Kin.refl p fun r1 ρ1 v H1 h1 k1 p1 => ?_
  refine tD_step (ts := [(r1, v)]) h1 k1 p1 fun r2 ρ2 u H2 h2 k2 p2 => ?_
  cases q1 : r1.get ρ2 with
  | none =>
    rw [q1] at p2
    exact p2.elim
  | some x =>
    cases q2 : r2.get ρ2 with
    | none =>
      rw [q1, q2] at p2
      exact p2.elim
    | some y =>
      rw [q1, q2] at p2
      dsimp only at p2
      cases q3 : g x y with
      | none =>
        rw [q3] at p2
        exact p2.elim
      | some z =>
        rw [q3] at p2
        refine o.run x y z v u H2 Q (h2.get (.tail _ (.head _)) q1) (h2.get (.head _) q2) q3 fun w hw => ?_
        exact p2 w H2 (h2.pop.pop.push_sv hw) k2
theorem de_op {op : Operator} {r : R2} {g : D → D → Option D} (ho : OpR X (binaryOp op) r) (o : Op2 X r g) (ha : DE X W ec a F) (hb : DE X W ec b G) : DE X W ec (.BinOp a op b pos) (fOp g F G) :=
  (pe_op ho ha hb).imp fun σ H Q h => tOp_of o h
theorem de_cmp {op : CmpOp} {r : R2} {g : D → D → Option D} (ho : OpR X (compareOp op) r) (o : Op2 X r g) (ha : DE X W ec a F) (hb : DE X W ec b G) (hm : behindInMarks op b = false := by first | exact nomark _ | rfl) :
    DE X W ec (.Compare a [op] [b] pos) (fOp g F G) := (pe_cmpR ho ha hb hm).imp fun σ H Q h => tOp_of o h
def fTest (F : Fm → Out RV) : Fm → Out Bool := fun ρ => (F ρ).bind fun r ρ => match r with
  | .dt (.bl k) => .ok k ρ
  | _ => .bad
theorem tT_of {t : TE} (ht : ∀ σ H Q, tD X.K X.mg W ec F σ H Q → t σ H Q) {σ : St} {H : Hp} {Q : Bool → Hp → Prop} (h : tDT X.K X.mg W ec (fTest F) σ H Q) : tTest t σ H Q := by
  obtain ⟨C, ρ, tm, h, p⟩ := h
  refine ht _ _ _ (tD_stepT (ts := []) h Kin.refl p fun r1 ρ1 v H1 h1 k1 p1 => ?_)
  cases r1 with
  | dt d =>
    cases d <;> first
      | exact p1.elim
      | (rename_i k
         have e : v = .bl k := h1.tmp _ _ (.head _)
         exact ⟨k, e, p1 H1 h1.pop k1⟩)
  | vw => exact p1.elim
  | fr => exact p1.elim
theorem dt_cmp {op : CmpOp} {r : R2} {g : D → D → Option D} (ho : OpR X (compareOp op) r) (o : Op2 X r g) (ha : DE X W ec a F) (hb : DE X W ec b G) (hm : behindInMarks op b = false := by first | exact nomark _ | rfl) :
    DT X W ec (.Compare a [op] [b] pos) (fTest (fOp g F G)) := (pt_cmpR ho ha hb hm).imp fun σ H Q h => tT_of (fun σ H Q h => tOp_of o h) h
end
end DL

namespace DL
open PySem L2

/-! ### plain data, compared -/
mutual
def py : D → PyData
  | .non => .none
  | .bl b => .bool b
  | .int i => .int i
  | .str s => .str s
  | .tup ds => .tuple (pyL ds)
  | .lst ds => .list (pyL ds)
  | _ => .none
def pyL : List D → List PyData
  | [] => []
  | d :: ds => py d :: pyL ds
end
mutual
/-- None, truths, ints, texts, tuples and lists of these -/
def pl : D → Bool
  | .non => true
  | .bl _ => true
  | .int _ => true
  | .str s => PyData.strOk s
  | .tup ds => plL ds
  | .lst ds => plL ds
  | _ => false
def plL : List D → Bool
  | [] => true
  | d :: ds => pl d && plL ds
end
mutual
def dep : D → Nat
  | .tup ds => depL ds + 1
  | .lst ds => depL ds + 1
  | _ => 0
def depL : List D → Nat
  | [] => 0
  | d :: ds => max (dep d) (depL ds)
end
/-- == of plain data -/
def deq (d e : D) : Bool := PyData.eqv (py d) (py e)
/-- it may be compared -/
def cq (d : D) : Bool := pl d && decide (dep d ≤ 64)

mutual
theorem pl_can : ∀ d : D, pl d = true → (py d).canLay0 = true
  | .non, _ => rfl
  | .bl _, _ => rfl
  | .int _, _ => rfl
  | .str _, h => h
  | .tup ds, h => plL_can ds h
  | .lst ds, h => plL_can ds h
  | .ty _, h => by cases h
  | .cl _, h => by cases h
  | .fz _, h => by cases h
  | .ob _ _ _, h => by cases h
theorem plL_can : ∀ ds : List D, plL ds = true → PyData.canLayAll0 (pyL ds) = true
  | [], _ => rfl
  | d :: ds, h => by
    obtain ⟨h1, h2⟩ := Bool.and_eq_true_iff.mp h
    exact Bool.and_eq_true_iff.mpr ⟨pl_can d h1, plL_can ds h2⟩
end
mutual
theorem dep_py : ∀ d : D, (py d).depth = dep d
  | .non => rfl
  | .bl _ => rfl
  | .int _ => rfl
  | .str _ => rfl
  | .tup ds => congrArg (· + 1) (depL_py ds)
  | .lst ds => congrArg (· + 1) (depL_py ds)
  | .ty _ => rfl
  | .cl _ => rfl
  | .fz _ => rfl
  | .ob _ _ _ => rfl
theorem depL_py : ∀ ds : List D, PyData.depthAll (pyL ds) = depL ds
  | [] => rfl
  | d :: ds => by
    show max (py d).depth (PyData.depthAll (pyL ds)) = max (dep d) (depL ds)
    rw [dep_py d, depL_py ds]
end
theorem cq_shaped {d : D} (h : cq d = true) : SeqAt.shaped (py d) = true := by
  obtain ⟨h1, h2⟩ := Bool.and_eq_true_iff.mp h
  refine Bool.and_eq_true_iff.mpr ⟨pl_can d h1, ?_⟩
  rw [dep_py]
  exact h2
mutual
theorem rp_dp {K : PySem.W.Frag} {mg : Str → Option Value} {H : Hp} {av : Addr → Prop} : ∀ (d : D) (v : V), pl d = true → Rp K mg H av d v → Dp K H v (py d)
  | .non, v, _, h => by
    rw [show v = .non from h]
    exact .non
  | .bl b, v, _, h => by
    rw [show v = .bl b from h]
    exact .bl b
  | .int i, v, _, h => by
    rw [show v = .int i from h]
    exact .int i
  | .str s, v, _, h => by
    rw [show v = .str s from h]
    exact .str s
  | .tup ds, v, p, h => by
    obtain ⟨a, vs, rfl, s, r⟩ := h
    exact .tup s (rp_dpL ds vs p r)
  | .lst ds, v, p, h => by
    obtain ⟨a, vs, rfl, _, s, r⟩ := h
    exact .lst (.of s) (rp_dpL ds vs p r)
  | .ty _, _, h, _ => by cases h
  | .cl _, _, h, _ => by cases h
  | .fz _, _, h, _ => by cases h
  | .ob _ _ _, _, h, _ => by cases h
theorem rp_dpL {K : PySem.W.Frag} {mg : Str → Option Value} {H : Hp} {av : Addr → Prop} : ∀ (ds : List D) (vs : List V), plL ds = true → RpL K mg H av ds vs → DpAll K H vs (pyL ds)
  | [], vs, _, h => by
    rw [show vs = [] from h]
    exact .nil
  | d :: ds, vs, p, h => by
    obtain ⟨v, r, rfl, h1, h2⟩ := h
    obtain ⟨p1, p2⟩ := Bool.and_eq_true_iff.mp p
    exact .cons (rp_dp d v p1 h1) (rp_dpL ds r p2 h2)
end

/-! ### the operators -/
def gI (g : Int → Int → Option D) : D → D → Option D
  | .int i, .int j => g i j
  | _, _ => none
theorem gI_inv {g : Int → Int → Option D} {d e z : D} (h : gI g d e = some z) : ∃ i j, d = .int i ∧ e = .int j ∧ g i j = some z := by
  cases d <;> first | (cases h; done) | skip
  cases e <;> first | (cases h; done) | exact ⟨_, _, rfl, rfl, h⟩
/-- the greatest numbers that are multiplied -/
def big : Nat := 2 ^ 250
def gAdd : D → D → Option D
  | .int i, .int j => some (.int (i + j))
  | .str x, .str y => if x.length + y.length ≤ 16777216 then some (.str (x ++ y)) else none
  | _, _ => none
def gSub : D → D → Option D := gI fun i j => some (.int (i - j))
def gMul : D → D → Option D := gI fun i j => if i.natAbs < big ∧ j.natAbs < big then some (.int (i * j)) else none
def gDiv : D → D → Option D := gI fun i j => if 0 < j ∧ j.natAbs < big then some (.int (i / j)) else none
def gMod : D → D → Option D := gI fun i j => if 0 < j then some (.int (i % j)) else none
def gPow : D → D → Option D := gI fun i j => if 0 ≤ j ∧ j ≤ 1000 ∧ i.natAbs < 2 ^ 64 then some (.int (i ^ j.toNat)) else none
def gLt : D → D → Option D := gI fun i j => some (.bl (decide (i < j)))
def gLe : D → D → Option D := gI fun i j => some (.bl (decide (i ≤ j)))
def gGt : D → D → Option D := gI fun i j => some (.bl (decide (j < i)))
def gGe : D → D → Option D := gI fun i j => some (.bl (decide (j ≤ i)))
def gEq : D → D → Option D := fun d e => if cq d && cq e then some (.bl (deq d e)) else none
def gNe : D → D → Option D := fun d e => if cq d && cq e then some (.bl (!deq d e)) else none
def isNon : D → Bool
  | .non => true
  | _ => false
def gIs : D → D → Option D
  | d, .non => some (.bl (isNon d))
  | .bl a, .bl b => some (.bl (decide (a = b)))
  | _, _ => none
def gIsN : D → D → Option D
  | d, .non => some (.bl (!isNon d))
  | .bl a, .bl b => some (.bl (!decide (a = b)))
  | _, _ => none
def flat : D → Bool
  | .non => true
  | .bl _ => true
  | .int _ => true
  | .str _ => true
  | _ => false
def gInL (d : D) : D → Option (List D)
  | .lst ds => if flat d && ds.all flat then some ds else none
  | .tup ds => if flat d && ds.all flat then some ds else none
  | _ => none
def gIn (neg : Bool) : D → D → Option D := fun d e => (gInL d e).map fun ds => .bl (if neg then !ds.any (fun y => deq y d) else ds.any fun y => deq y d)

section
variable {X : Cx}
theorem big_log {i : Int} (h : i.natAbs < big) : i.natAbs.log2 < 250 := PySem.Flt.log2_lt_of (by decide) h
theorem op2_I {r : R2} {g : Int → Int → Option D} (h : ∀ i j z H Q, g i j = some z → (∀ v, sv z = some v → Q v H) → r (.int i) (.int j) H Q) (s : ∀ i j z, g i j = some z → ∃ v, sv z = some v) : Op2 X r (gI g) where
  run := fun d e z x y H Q rx ry q k => by
    obtain ⟨i, j, rfl, rfl, q⟩ := gI_inv q
    rw [show x = .int i from rx, show y = .int j from ry]
    exact h i j z H Q q k
  sc := fun d e z q => by
    obtain ⟨i, j, rfl, rfl, q⟩ := gI_inv q
    exact s i j z q
theorem rI0_of {f : Int → Int → V} {g : Int → Int → Option D} {G : Int → Int → D} (hg : ∀ i j, g i j = some (G i j)) (hv : ∀ i j, sv (G i j) = some (f i j)) : Op2 X (rI0 f) (gI g) :=
  op2_I (fun i j z H Q q k => ⟨i, j, rfl, rfl, k _ (by rw [hg] at q; cases q; exact hv i j)⟩) fun i j z q => by
    rw [hg] at q
    cases q
    exact ⟨_, hv i j⟩
abbrev rAddD : R2 := fun x y H Q => rI0 (fun i j => .int (i + j)) x y H Q ∨ ∃ i j, x = .str i ∧ y = .str j ∧ i.length + j.length ≤ sizeLine ∧ Q (.str (i ++ j)) H
theorem o_add : OpR X (binaryOp .Add) rAddD := op_add.or op_add_str
theorem o2_add : Op2 X rAddD gAdd where
  run := fun d e z x y H Q rx ry q k => by
    cases d <;> first | (cases q; done) | skip
    · cases e <;> first | (cases q; done) | skip
      cases q
      exact .inl ⟨_, _, rx, ry, k _ rfl⟩
    · cases e <;> first | (cases q; done) | skip
      rename_i s t
      by_cases hz : s.length + t.length ≤ 16777216
      · rw [show gAdd (.str s) (.str t) = some (.str (s ++ t)) from if_pos hz] at q
        cases q
        exact .inr ⟨_, _, rx, ry, by rw [sizeLine_eq]; exact hz, k _ rfl⟩
      · rw [show gAdd (.str s) (.str t) = none from if_neg hz] at q
        cases q
  sc := fun d e z q => by
    cases d <;> first | (cases q; done) | skip
    · cases e <;> first | (cases q; done) | skip
      cases q
      exact ⟨_, rfl⟩
    · cases e <;> first | (cases q; done) | skip
      rename_i s t
      by_cases hz : s.length + t.length ≤ 16777216
      · rw [show gAdd (.str s) (.str t) = some (.str (s ++ t)) from if_pos hz] at q
        cases q
        exact ⟨_, rfl⟩
      · rw [show gAdd (.str s) (.str t) = none from if_neg hz] at q
        cases q
theorem o2_sub : Op2 X (rI0 fun i j => .int (i - j)) gSub := rI0_of (fun _ _ => rfl) fun _ _ => rfl
theorem o2_ifI {C : Int → Int → Prop} {f : Int → Int → Int} {P : Int → Int → Prop} [∀ i j, Decidable (P i j)] (hC : ∀ i j, P i j → C i j) : Op2 X (rI C fun i j => .int (f i j)) (gI fun i j => if P i j then some (.int (f i j)) else none) :=
  op2_I (fun i j z H Q q k => by
    by_cases hp : P i j
    · rw [if_pos hp] at q
      cases q
      exact ⟨i, j, rfl, rfl, hC i j hp, k _ rfl⟩
    · rw [if_neg hp] at q
      cases q) fun i j z q => by
    by_cases hp : P i j
    · rw [if_pos hp] at q
      cases q
      exact ⟨_, rfl⟩
    · rw [if_neg hp] at q
      cases q
theorem o2_mul : Op2 X (rI CMulW fun i j => .int (i * j)) gMul := o2_ifI fun i j h => by
  have h1 := big_log h.1
  have h2 := big_log h.2
  unfold CMulW
  omega
theorem o2_div : Op2 X (rI CDivW fun i j => .int (i / j)) gDiv := o2_ifI fun i j h => ⟨h.1, by have := big_log h.2; omega⟩
theorem o2_mod : Op2 X (rI (fun _ j => 0 < j) fun i j => .int (i % j)) gMod := o2_ifI fun i j h => h
theorem o2_pow : Op2 X (rI CPow fun i j => .int (i ^ j.toNat)) gPow := o2_ifI fun i j h => ⟨h.1, by omega, h.2.2⟩
theorem o2_lt : Op2 X (rI0 fun i j => .bl (decide (i < j))) gLt := rI0_of (fun _ _ => rfl) fun _ _ => rfl
theorem o2_le : Op2 X (rI0 fun i j => .bl (decide (i ≤ j))) gLe := rI0_of (fun _ _ => rfl) fun _ _ => rfl
theorem o2_gt : Op2 X (rI0 fun i j => .bl (decide (j < i))) gGt := rI0_of (fun _ _ => rfl) fun _ _ => rfl
theorem o2_ge : Op2 X (rI0 fun i j => .bl (decide (j ≤ i))) gGe := rI0_of (fun _ _ => rfl) fun _ _ => rfl
theorem cq_and {d e z : D} {b : Bool} (q : (if cq d && cq e then some (D.bl b) else none) = some z) : pl d = true ∧ pl e = true ∧ SeqAt.shaped (py d) = true ∧ SeqAt.shaped (py e) = true ∧ z = .bl b := by
  by_cases h : (cq d && cq e) = true
  · rw [if_pos h] at q
    cases q
    obtain ⟨h1, h2⟩ := Bool.and_eq_true_iff.mp h
    exact ⟨(Bool.and_eq_true_iff.mp h1).1, (Bool.and_eq_true_iff.mp h2).1, cq_shaped h1, cq_shaped h2, rfl⟩
  · rw [if_neg h] at q
    cases q
theorem o2_eq : Op2 X (rEqD X.K) gEq where
  run := fun d e z x y H Q rx ry q k => by
    obtain ⟨h1, h2, h3, h4, rfl⟩ := cq_and q
    exact ⟨py d, py e, rp_dp d x h1 rx, rp_dp e y h2 ry, h3, h4, k _ rfl⟩
  sc := fun d e z q => by
    obtain ⟨h1, h2, h3, h4, rfl⟩ := cq_and q
    exact ⟨_, rfl⟩
theorem o2_ne : Op2 X (rNeD X.K) gNe where
  run := fun d e z x y H Q rx ry q k => by
    obtain ⟨h1, h2, h3, h4, rfl⟩ := cq_and q
    exact ⟨py d, py e, rp_dp d x h1 rx, rp_dp e y h2 ry, h3, h4, k _ rfl⟩
  sc := fun d e z q => by
    obtain ⟨h1, h2, h3, h4, rfl⟩ := cq_and q
    exact ⟨_, rfl⟩
theorem isNon_rp {K : PySem.W.Frag} {mg : Str → Option Value} {H : Hp} {av : Addr → Prop} {d : D} {v : V} (r : Rp K mg H av d v) : decide (v = .non) = isNon d := by
  have no : ∀ {a : Addr}, decide (V.ref a = .non) = false := fun {a} => decide_eq_false fun z => nomatch z
  cases d with
  | non => rw [show v = .non from r]; rfl
  | bl b => rw [show v = .bl b from r]; rfl
  | int b => rw [show v = .int b from r]; rfl
  | str b => rw [show v = .str b from r]; exact decide_eq_false fun z => nomatch z
  | ty b => rw [show v = .ty b from r]; exact decide_eq_false fun z => nomatch z
  | cl c => obtain ⟨C, rfl, _⟩ := r; exact no
  | tup ds => obtain ⟨C, _, rfl, _⟩ := r; exact no
  | lst ds => obtain ⟨C, _, rfl, _⟩ := r; exact no
  | fz ds => obtain ⟨C, rfl, _⟩ := r; exact no
  | ob c ns ds => obtain ⟨C, _, _, _, rfl, _⟩ := r; exact no
abbrev rIsD : R2 := fun x y H Q => (y = .non ∧ Q (.bl (decide (x = .non))) H) ∨ rIsB x y H Q
abbrev rIsnD : R2 := fun x y H Q => (y = .non ∧ Q (.bl (!decide (x = .non))) H) ∨ rNotB x y H Q
theorem o_is : OpR X (compareOp .Is) rIsD := op_isN.or op_isBl
theorem o_isn : OpR X (compareOp .IsNot) rIsnD := op_notN.or op_notBl
theorem gIs_non (d : D) : gIs d .non = some (.bl (isNon d)) := by cases d <;> rfl
theorem gIsN_non (d : D) : gIsN d .non = some (.bl (!isNon d)) := by cases d <;> rfl
theorem gIs_inv {d e z : D} (h : gIs d e = some z) : (e = .non ∧ z = .bl (isNon d)) ∨ ∃ a b, d = .bl a ∧ e = .bl b ∧ z = .bl (decide (a = b)) := by
  cases e with
  | non =>
    rw [gIs_non] at h
    cases h
    exact .inl ⟨rfl, rfl⟩
  | bl b => cases d <;> first | (cases h; done) | exact .inr ⟨_, _, rfl, rfl, (Option.some.inj h).symm⟩
  | _ => cases d <;> cases h
theorem gIsN_inv {d e z : D} (h : gIsN d e = some z) : (e = .non ∧ z = .bl (!isNon d)) ∨ ∃ a b, d = .bl a ∧ e = .bl b ∧ z = .bl (!decide (a = b)) := by
  cases e with
  | non =>
    rw [gIsN_non] at h
    cases h
    exact .inl ⟨rfl, rfl⟩
  | bl b => cases d <;> first | (cases h; done) | exact .inr ⟨_, _, rfl, rfl, (Option.some.inj h).symm⟩
  | _ => cases d <;> cases h
theorem o2_is : Op2 X rIsD gIs where
  run := fun d e z x y H Q rx ry q k => by
    rcases gIs_inv q with ⟨rfl, rfl⟩ | ⟨a, b, rfl, rfl, rfl⟩
    · exact .inl ⟨ry, k _ (by rw [isNon_rp rx]; rfl)⟩
    · exact .inr ⟨a, b, rx, ry, k _ rfl⟩
  sc := fun d e z q => by
    rcases gIs_inv q with ⟨rfl, rfl⟩ | ⟨a, b, rfl, rfl, rfl⟩ <;> exact ⟨_, rfl⟩
theorem o2_isn : Op2 X rIsnD gIsN where
  run := fun d e z x y H Q rx ry q k => by
    rcases gIsN_inv q with ⟨rfl, rfl⟩ | ⟨a, b, rfl, rfl, rfl⟩
    · exact .inl ⟨ry, k _ (by rw [isNon_rp rx]; rfl)⟩
    · exact .inr ⟨a, b, rx, ry, k _ rfl⟩
  sc := fun d e z q => by
    rcases gIsN_inv q with ⟨rfl, rfl⟩ | ⟨a, b, rfl, rfl, rfl⟩ <;> exact ⟨_, rfl⟩
theorem flat_rp {K : PySem.W.Frag} {mg : Str → Option Value} {H : Hp} {av : Addr → Prop} {d : D} {v : V} (r : Rp K mg H av d v) (f : flat d = true) : flatV v = true := by
  cases d <;> first | (cases f; done) | (rw [show v = _ from r]; rfl)
theorem flat_eqV {K : PySem.W.Frag} {mg : Str → Option Value} {H : Hp} {av : Addr → Prop} {d e : D} {v w : V} (r : Rp K mg H av d v) (s : Rp K mg H av e w) (f : flat d = true) (g : flat e = true) : eqV v w = deq d e := by
  cases d <;> first | (cases f; done) | (cases e <;> first | (cases g; done) | (rw [show v = _ from r, show w = _ from s]; rfl))
theorem flat_in {K : PySem.W.Frag} {mg : Str → Option Value} {H : Hp} {av : Addr → Prop} {d : D} {v : V} (r : Rp K mg H av d v) (f : flat d = true) : ∀ {ds : List D} {vs : List V}, RpL K mg H av ds vs → ds.all flat = true →
    vs.all flatV = true ∧ inV v vs = ds.any fun y => deq y d
  | [], vs, h, _ => by
    rw [show vs = [] from h]
    exact ⟨rfl, rfl⟩
  | e :: ds, vs, h, g => by
    obtain ⟨w, ws, rfl, h1, h2⟩ := h
    rw [List.all_cons, Bool.and_eq_true] at g
    obtain ⟨i1, i2⟩ := flat_in r f h2 g.2
    refine ⟨by rw [List.all_cons, flat_rp h1 g.1, i1]; rfl, ?_⟩
    show (eqV w v || inV v ws) = (deq e d || ds.any fun y => deq y d)
    rw [i2, flat_eqV h1 r g.1 f]
theorem gInL_inv {d e : D} {ds : List D} (h : gInL d e = some ds) : flat d = true ∧ ds.all flat = true ∧ (e = .lst ds ∨ e = .tup ds) := by
  cases e <;> first | (cases h; done) | skip
  all_goals
    rename_i es
    by_cases hp : (flat d && es.all flat) = true
    · have q := h
      simp only [gInL, hp, if_true] at q
      cases q
      obtain ⟨h1, h2⟩ := Bool.and_eq_true_iff.mp hp
      exact ⟨h1, h2, by first | exact .inl rfl | exact .inr rfl⟩
    · have q := h
      simp only [gInL, hp] at q
      cases q
theorem o2_in {neg : Bool} : Op2 X (rIn X.K neg) (gIn neg) where
  run := fun d e z x y H Q rx ry q k => by
    unfold gIn at q
    cases q1 : gInL d e with
    | none =>
      rw [q1] at q
      cases q
    | some ds =>
      rw [q1] at q
      cases q
      obtain ⟨f1, f2, f3⟩ := gInL_inv q1
      rcases f3 with rfl | rfl
      · obtain ⟨a, vs, rfl, _, s, r⟩ := ry
        obtain ⟨g1, g2⟩ := flat_in rx f1 r f2
        refine ⟨a, vs, rfl, .inl (.of s), flat_rp rx f1, g1, k _ ?_⟩
        rw [g2]
        rfl
      · obtain ⟨a, vs, rfl, s, r⟩ := ry
        obtain ⟨g1, g2⟩ := flat_in rx f1 r f2
        refine ⟨a, vs, rfl, .inr s, flat_rp rx f1, g1, k _ ?_⟩
        rw [g2]
        rfl
  sc := fun d e z q => by
    unfold gIn at q
    cases q1 : gInL d e with
    | none =>
      rw [q1] at q
      cases q
    | some ds =>
      rw [q1] at q
      cases q
      exact ⟨_, rfl⟩
end

/-! ### one operand; truth -/
/-- the truth of plain data -/
def tru : D → Option Bool
  | .non => some false
  | .bl b => some b
  | .int i => some (i != 0)
  | .str s => if s.length ≤ 16777216 then some ((s.length : Int) != 0) else none
  | .tup ds => some (!ds.isEmpty)
  | .lst ds => some (!ds.isEmpty)
  | _ => none
theorem rpl_empty {K : PySem.W.Frag} {mg : Str → Option Value} {H : Hp} {av : Addr → Prop} {ds : List D} {vs : List V} (r : RpL K mg H av ds vs) : vs.isEmpty = ds.isEmpty := by
  cases ds with
  | nil => rw [show vs = [] from r]; rfl
  | cons d ds => obtain ⟨v, ws, rfl, _⟩ := r; rfl
theorem tru_rp {K : PySem.W.Frag} {mg : Str → Option Value} {H : Hp} {av : Addr → Prop} {d : D} {v : V} {b : Bool} (r : Rp K mg H av d v) (h : tru d = some b) : TruV K v H b := by
  cases d with
  | non => rw [show v = .non from r]; cases h; rfl
  | bl k => rw [show v = .bl k from r]; cases h; rfl
  | int i => rw [show v = .int i from r]; cases h; rfl
  | str s =>
    rw [show v = .str s from r]
    have h : (if s.length ≤ 16777216 then some ((s.length : Int) != 0) else none) = some b := h
    by_cases hz : s.length ≤ 16777216
    · rw [if_pos hz] at h
      cases h
      exact ⟨by rw [sizeLine_eq]; exact hz, rfl⟩
    · rw [if_neg hz] at h
      cases h
  | tup ds =>
    obtain ⟨a, vs, rfl, s, r⟩ := r
    cases h
    exact .inr (.inl ⟨vs, s, by rw [rpl_empty r]⟩)
  | lst ds =>
    obtain ⟨a, vs, rfl, _, s, r⟩ := r
    cases h
    exact .inl ⟨vs, .of s, by rw [rpl_empty r]⟩
  | _ => cases h
section
variable {X : Cx} {W : WX} {ec : EC} {a b c : Expr} {rest : List Expr} {pos : Pos} {F G J : Fm → Out RV} {A B : Fm → Out Bool}
def fUn (g : D → Option D) (F : Fm → Out RV) : Fm → Out RV := fun ρ => (F ρ).bind fun r ρ => match r.get ρ with
  | some x => match g x with
    | some z => .ok (.dt z) ρ
    | none => .bad
  | none => .bad
/-- a test by the truth of a value -/
def fTru (F : Fm → Out RV) : Fm → Out Bool := fun ρ => (F ρ).bind fun r ρ => match r.get ρ with
  | some x => match tru x with
    | some k => .ok k ρ
    | none => .bad
  | none => .bad
def gNeg : D → Option D
  | .int i => some (.int (-i))
  | _ => none
def gNot (d : D) : Option D := (tru d).map fun k => .bl (!k)
theorem de_neg (ha : DE X W ec a F) : DE X W ec (.UnaryOp .USub a pos) (fUn gNeg F) := (pe_un un_neg ha).imp fun σ H Q ⟨C, ρ, tm, h, p⟩ => by
  refine tD_step (ts := []) h Kin.refl p fun r1 ρ1 v H1 h1 k1 p1 => ?_
  cases q1 : r1.get ρ1 with
  | none =>
    rw [q1] at p1
    exact p1.elim
  | some x =>
    rw [q1] at p1
    cases x <;> first
      | exact p1.elim
      | (have e := h1.get (.head _) q1
         exact ⟨_, e, p1 _ H1 (h1.pop.push_sv rfl) k1⟩)
theorem de_not (ha : DE X W ec a F) : DE X W ec (.UnaryOp .Not a pos) (fUn gNot F) := (pe_notT ha).imp fun σ H Q ⟨C, ρ, tm, h, p⟩ => by
  refine tD_step (ts := []) h Kin.refl p fun r1 ρ1 v H1 h1 k1 p1 => ?_
  cases q1 : r1.get ρ1 with
  | none =>
    rw [q1] at p1
    exact p1.elim
  | some x =>
    rw [q1] at p1
    cases q2 : tru x with
    | none =>
      simp only [gNot, q2] at p1
      exact p1.elim
    | some k =>
      simp only [gNot, q2] at p1
      exact ⟨k, tru_rp (h1.get (.head _) q1) q2, p1 _ H1 (h1.pop.push_sv rfl) k1⟩
theorem dt_tru (ha : DE X W ec a F) (he : ∀ whole, isTrue a X.env whole = (do let v ← whole; standAt a.pos; holding [v] (truthy v)) := by intro _; rfl) : DT X W ec a (fTru F) := (pt_truth ha he).imp fun σ H Q ⟨C, ρ, tm, h, p⟩ => by
  refine tD_stepT (ts := []) h Kin.refl p fun r1 ρ1 v H1 h1 k1 p1 => ?_
  cases q1 : r1.get ρ1 with
  | none =>
    rw [q1] at p1
    exact p1.elim
  | some x =>
    rw [q1] at p1
    cases q2 : tru x with
    | none =>
      simp only [q2] at p1
      exact p1.elim
    | some k =>
      simp only [q2] at p1
      exact ⟨k, tru_rp (h1.get (.head _) q1) q2, p1 H1 h1.pop k1⟩
def fNotT (A : Fm → Out Bool) : Fm → Out Bool := fun ρ => (A ρ).bind fun k ρ => .ok (!k) ρ
def fAndT (A B : Fm → Out Bool) : Fm → Out Bool := fun ρ => (A ρ).bind fun k ρ => if k then B ρ else .ok false ρ
def fOrT (A B : Fm → Out Bool) : Fm → Out Bool := fun ρ => (A ρ).bind fun k ρ => if k then .ok true ρ else B ρ
theorem finT_up {B : Fm → Out Bool} {C : Fc} {ρ ρ1 : Fm} {σ : St} {tm : Tm} {H1 : Hp} {Q : Bool → Hp → Prop} (h1 : Hold X.K X.mg ec H1 C ρ1 σ tm) (k1 : Kin ρ ρ1) (p : FinT X.K X.mg W ec C ρ σ tm (B ρ1) Q) : tDT X.K X.mg W ec B σ H1 Q := by
  refine ⟨C, ρ1, tm, h1, ?_⟩
  cases q : B ρ1 with
  | ok r ρ2 =>
    rw [q] at p
    exact fun H2 h2 k2 => p H2 h2 (k1.trans k2)
  | ex c' f d ρ2 =>
    rw [q] at p
    exact ExW.up (ts := []) p k1
  | bad =>
    rw [q] at p
    exact p.elim
theorem fin_up {F : Fm → Out RV} {C : Fc} {ρ ρ1 : Fm} {σ : St} {tm : Tm} {H1 : Hp} {Q : VK} (h1 : Hold X.K X.mg ec H1 C ρ1 σ tm) (k1 : Kin ρ ρ1) (p : Fin X.K X.mg W ec C ρ σ tm (F ρ1) Q) : tD X.K X.mg W ec F σ H1 Q := by
  refine ⟨C, ρ1, tm, h1, ?_⟩
  cases q : F ρ1 with
  | ok r ρ2 =>
    rw [q] at p
    exact fun v H2 h2 k2 => p v H2 h2 (k1.trans k2)
  | ex c' f d ρ2 =>
    rw [q] at p
    exact ExW.up (ts := []) p k1
  | bad =>
    rw [q] at p
    exact p.elim
theorem finS_up {F : Fm → SO} {C : Fc} {ρ ρ1 : Fm} {σ1 : St} {tm : Tm} {H1 : Hp} {E : Ends} (h1 : Hold X.K X.mg ec H1 C ρ1 σ1 tm) (lk : LkT ρ tm) (k1 : Kin ρ ρ1) (p : FinS X.K X.mg W ec C ρ tm (F ρ1) E) : tDS X.K X.mg W ec F E σ1 H1 := by
  refine ⟨C, ρ1, tm, h1, lk.kin k1, ?_⟩
  cases q : F ρ1 with
  | nx ρ2 =>
    rw [q] at p
    exact fun σ2 H2 h2 k2 => p σ2 H2 h2 (k1.trans k2)
  | bk ρ2 =>
    rw [q] at p
    exact fun σ2 H2 h2 k2 => p σ2 H2 h2 (k1.trans k2)
  | ct ρ2 =>
    rw [q] at p
    exact fun σ2 H2 h2 k2 => p σ2 H2 h2 (k1.trans k2)
  | rt r ρ2 =>
    rw [q] at p
    exact fun v σ2 H2 h2 k2 => p v σ2 H2 h2 (k1.trans k2)
  | ex c' f d ρ2 =>
    rw [q] at p
    exact ExW.up (ts := []) p k1
  | bad =>
    rw [q] at p
    exact p.elim
theorem dt_not (ha : DT X W ec a A) : DT X W ec (.UnaryOp .Not a pos) (fNotT A) := (pt_not ha).imp fun σ H Q ⟨C, ρ, tm, h, p⟩ =>
  tDT_stepT (ts := []) h Kin.refl p fun b ρ1 H1 h1 k1 p1 => p1 H1 h1 k1
theorem dw_and1 (ha : DT X W ec a A) : DW X W ec (.BoolOp .And [a] pos) A := pw_and1 ha
theorem dw_or1 (ha : DT X W ec a A) : DW X W ec (.BoolOp .Or [a] pos) A := pw_or1 ha
theorem dw_and (ha : DT X W ec a A) (hb : DW X W ec (.BoolOp .And (b :: rest) pos) B) : DW X W ec (.BoolOp .And (a :: b :: rest) pos) (fAndT A B) := (pw_and ha hb).imp fun σ H Q ⟨C, ρ, tm, h, p⟩ =>
  tDT_stepT (ts := []) h Kin.refl p fun k ρ1 H1 h1 k1 p1 => by
    cases k with
    | true =>
      rw [if_pos rfl]
      exact finT_up h1 k1 p1
    | false =>
      rw [if_neg Bool.false_ne_true]
      exact p1 H1 h1 k1
theorem dw_or (ha : DT X W ec a A) (hb : DW X W ec (.BoolOp .Or (b :: rest) pos) B) : DW X W ec (.BoolOp .Or (a :: b :: rest) pos) (fOrT A B) := (pw_or ha hb).imp fun σ H Q ⟨C, ρ, tm, h, p⟩ =>
  tDT_stepT (ts := []) h Kin.refl p fun k ρ1 H1 h1 k1 p1 => by
    cases k with
    | true =>
      rw [if_pos rfl]
      exact p1 H1 h1 k1
    | false =>
      rw [if_neg Bool.false_ne_true]
      exact finT_up h1 k1 p1
theorem dw_pt (h : DW X W ec a A) : DT X W ec a A := h.pt
/-- a and b, a or b as values -/
def fAnd (F G : Fm → Out RV) : Fm → Out RV := fun ρ => (F ρ).bind fun r ρ => match r.get ρ with
  | some x => match tru x with
    | some k => if k then G ρ else .ok r ρ
    | none => .bad
  | none => .bad
def fOr (F G : Fm → Out RV) : Fm → Out RV := fun ρ => (F ρ).bind fun r ρ => match r.get ρ with
  | some x => match tru x with
    | some k => if k then .ok r ρ else G ρ
    | none => .bad
  | none => .bad
theorem de_one {op} (ha : DE X W ec a F) : DE X W ec (.BoolOp op [a] pos) F := pe_one ha
theorem de_and (ha : DE X W ec a F) (hb : DE X W ec (.BoolOp .And (b :: rest) pos) G) : DE X W ec (.BoolOp .And (a :: b :: rest) pos) (fAnd F G) := (pe_andT ha hb).imp fun σ H Q ⟨C, ρ, tm, h, p⟩ => by
  refine tD_step (ts := []) h Kin.refl p fun r1 ρ1 v H1 h1 k1 p1 => ?_
  cases q1 : r1.get ρ1 with
  | none =>
    rw [q1] at p1
    exact p1.elim
  | some x =>
    rw [q1] at p1
    cases q2 : tru x with
    | none =>
      simp only [q2] at p1
      exact p1.elim
    | some k =>
      simp only [q2] at p1
      refine ⟨k, tru_rp (h1.get (.head _) q1) q2, ?_⟩
      cases k with
      | true =>
        rw [if_pos rfl] at p1 ⊢
        exact fin_up h1.pop k1 p1
      | false =>
        rw [if_neg Bool.false_ne_true] at p1 ⊢
        exact p1 v H1 h1 k1
theorem de_or (ha : DE X W ec a F) (hb : DE X W ec (.BoolOp .Or (b :: rest) pos) G) : DE X W ec (.BoolOp .Or (a :: b :: rest) pos) (fOr F G) := (pe_orT ha hb).imp fun σ H Q ⟨C, ρ, tm, h, p⟩ => by
  refine tD_step (ts := []) h Kin.refl p fun r1 ρ1 v H1 h1 k1 p1 => ?_
  cases q1 : r1.get ρ1 with
  | none =>
    rw [q1] at p1
    exact p1.elim
  | some x =>
    rw [q1] at p1
    cases q2 : tru x with
    | none =>
      simp only [q2] at p1
      exact p1.elim
    | some k =>
      simp only [q2] at p1
      refine ⟨k, tru_rp (h1.get (.head _) q1) q2, ?_⟩
      cases k with
      | false =>
        rw [if_neg Bool.false_ne_true] at p1 ⊢
        exact fin_up h1.pop k1 p1
      | true =>
        rw [if_pos rfl] at p1 ⊢
        exact p1 v H1 h1 k1
def fIf (A : Fm → Out Bool) (F G : Fm → Out RV) : Fm → Out RV := fun ρ => (A ρ).bind fun k ρ => if k then F ρ else G ρ
theorem de_if (hc : DT X W ec c A) (ha : DE X W ec a F) (hb : DE X W ec b G) : DE X W ec (.IfExp c a b pos) (fIf A F G) := (pe_ifExp hc ha hb).imp fun σ H Q ⟨C, ρ, tm, h, p⟩ =>
  tDT_step (ts := []) h Kin.refl p fun k ρ1 H1 h1 k1 p1 => by
    cases k with
    | true =>
      rw [if_pos rfl]
      exact fin_up h1 k1 p1
    | false =>
      rw [if_neg Bool.false_ne_true]
      exact fin_up h1 k1 p1
/-- a op b op' c -/
def fChain (g g' : D → D → Option D) (F G J : Fm → Out RV) : Fm → Out RV := fun ρ => (F ρ).bind fun r ρ => (G ρ).bind fun s ρ => match r.get ρ, s.get ρ with
  | some x, some y => match g x y with
    | some (.bl k) => if k then (J ρ).bind fun t ρ => match s.get ρ, t.get ρ with
        | some y, some z => match g' y z with
          | some u => .ok (.dt u) ρ
          | none => .bad
        | _, _ => .bad
      else .ok (.dt (.bl false)) ρ
    | _ => .bad
  | _, _ => .bad
theorem tChain_of {r r' : R2} {g g' : D → D → Option D} (o : Op2 X r g) (o' : Op2 X r' g') {σ : St} {H : Hp} {Q : VK} (h : tD X.K X.mg W ec (fChain g g' F G J) σ H Q) : tChain r r' (tD X.K X.mg W ec F) (tD X.K X.mg W ec G) (tD X.K X.mg W ec J) σ H Q := by
  obtain ⟨C, ρ, tm, h, p⟩ := h
  refine tD_step (ts := []) h Kin.refl p fun r1 ρ1 v H1 h1 k1 p1 => ?_
  refine tD_step (ts := [(r1, v)]) h1 k1 p1 fun r2 ρ2 u H2 h2 k2 p2 => ?_
  cases q1 : r1.get ρ2 with
  | none =>
    rw [q1] at p2
    exact p2.elim
  | some x =>
    cases q2 : r2.get ρ2 with
    | none =>
      rw [q1, q2] at p2
      exact p2.elim
    | some y =>
      rw [q1, q2] at p2
      dsimp only at p2
      cases q3 : g x y with
      | none =>
        rw [q3] at p2
        exact p2.elim
      | some z =>
        rw [q3] at p2
        cases z <;> first | exact p2.elim | skip
        rename_i k
        refine o.run x y _ v u H2 _ (h2.get (.tail _ (.head _)) q1) (h2.get (.head _) q2) q3 fun w hw => ?_
        cases hw
        refine ⟨k, rfl, ?_⟩
        cases k with
        | false =>
          rw [if_neg Bool.false_ne_true]
          exact p2 _ H2 (h2.pop.pop.push_sv rfl) k2
        | true =>
          rw [if_pos rfl]
          dsimp only at p2
          rw [if_pos rfl] at p2
          refine tD_step (ts := [(r2, u), (r1, v)]) h2 k2 p2 fun r3 ρ3 w H3 h3 k3 p3 => ?_
          cases q1 : r2.get ρ3 with
          | none =>
            rw [q1] at p3
            exact p3.elim
          | some x =>
            cases q2 : r3.get ρ3 with
            | none =>
              rw [q1, q2] at p3
              exact p3.elim
            | some y =>
              rw [q1, q2] at p3
              dsimp only at p3
              cases q3 : g' x y with
              | none =>
                rw [q3] at p3
                exact p3.elim
              | some z =>
                rw [q3] at p3
                refine o'.run x y z u w H3 Q (h3.get (.tail _ (.head _)) q1) (h3.get (.head _) q2) q3 fun w' hw => ?_
                exact p3 w' H3 (h3.pop.pop.pop.push_sv hw) k3
theorem de_chain {op op' : CmpOp} {r r' : R2} {g g' : D → D → Option D} (ho : OpR X (compareOp op) r) (o : Op2 X r g) (ho' : OpR X (compareOp op') r') (o' : Op2 X r' g') (ha : DE X W ec a F) (hb : DE X W ec b G) (hc : DE X W ec c J)
    (hm : lastMarks [op, op'] [b, c] = false := by with_unfolding_all rfl) : DE X W ec (.Compare a [op, op'] [b, c] pos) (fChain g g' F G J) := (pe_chain ho ho' ha hb hc hm).imp fun σ H Q h => tChain_of o o' h
theorem dt_chain {op op' : CmpOp} {r r' : R2} {g g' : D → D → Option D} (ho : OpR X (compareOp op) r) (o : Op2 X r g) (ho' : OpR X (compareOp op') r') (o' : Op2 X r' g') (ha : DE X W ec a F) (hb : DE X W ec b G) (hc : DE X W ec c J)
    (hm : lastMarks [op, op'] [b, c] = false := by with_unfolding_all rfl) : DT X W ec (.Compare a [op, op'] [b, c] pos) (fTest (fChain g g' F G J)) := (pt_chain ho ho' ha hb hc hm).imp fun σ H Q h => tT_of (fun σ H Q h => tChain_of o o' h) h
end
end DL

namespace DL
open PySem L2

/-! ### argument lists -/
structure LA (F : Fm → Out (List RV)) (n : Nat) : Prop where
  len : ∀ ρ rs ρ', F ρ = .ok rs ρ' → rs.length = n
def aNil : Fm → Out (List RV) := fun ρ => .ok [] ρ
def aCons (F : Fm → Out RV) (G : Fm → Out (List RV)) : Fm → Out (List RV) := fun ρ => (F ρ).bind fun r ρ => (G ρ).bind fun rs ρ => .ok (r :: rs) ρ
theorem la_nil : LA aNil 0 := ⟨fun ρ rs ρ' h => by cases h; rfl⟩
theorem la_cons {F : Fm → Out RV} {G : Fm → Out (List RV)} {n : Nat} (h : LA G n) : LA (aCons F G) (n + 1) := ⟨fun ρ rs ρ' e => by
  unfold aCons at e
  cases q : F ρ with
  | ok r ρ1 =>
    rw [q] at e
    simp only [Out.bind] at e
    cases q2 : G ρ1 with
    | ok ss ρ2 =>
      rw [q2] at e
      simp only [Out.ok.injEq] at e
      rw [← e.1, List.length_cons, h.len _ _ _ q2]
    | ex => rw [q2] at e; cases e
    | bad => rw [q2] at e; cases e
  | ex => rw [q] at e; cases e
  | bad => rw [q] at e; cases e⟩
section
variable {X : Cx} {W : WX} {ec : EC} {a b c e : Expr} {es rest : List Expr} {pos : Pos} {F G J : Fm → Out RV} {A : Fm → Out (List RV)}
theorem da_nil : DA X W ec [] aNil := pa_nil.imp fun σ H Q ⟨C, ρ, tm, h, p⟩ => p [] H rfl h Kin.refl
theorem da_cons (ha : DE X W ec e F) (hr : DA X W ec es A) (hs : starEach (e :: es) X.env = (false, eval e X.env) :: starEach es X.env := by rfl) : DA X W ec (e :: es) (aCons F A) := (pa_cons ha hr hs).imp fun σ H Q ⟨C, ρ, tm, h, p⟩ => by
  refine ⟨C, ρ, tm, h, ?_⟩
  unfold aCons at p
  cases q : F ρ with
  | ex c' f d ρ2 =>
    rw [q] at p
    exact p
  | bad =>
    rw [q] at p
    exact p.elim
  | ok r ρ1 =>
    rw [q] at p
    intro v H1 h1 k1
    refine ⟨C, ρ1, (r, v) :: tm, h1, ?_⟩
    simp only [Out.bind] at p
    cases q2 : A ρ1 with
    | ex c' f d ρ2 =>
      rw [q2] at p
      exact ExW.up (ts := [(r, v)]) p k1
    | bad =>
      rw [q2] at p
      exact p.elim
    | ok rs ρ2 =>
      rw [q2] at p
      exact fun vs H2 hl h2 k2 => p (v :: vs) H2 (congrArg (· + 1) hl) h2 (k1.trans k2)
end

/-! ### results put into something -/
def toD : RV → Option D
  | .dt d => some d
  | .fr ds => some (.lst ds)
  | .vw _ => none
def toDs : List RV → Option (List D)
  | [] => some []
  | r :: rs => match toD r, toDs rs with
    | some d, some ds => some (d :: ds)
    | _, _ => none
section
variable {K : PySem.W.Frag} {mg : Str → Option Value} {W : WX} {ec : EC} {av : Addr → Prop} {C : Fc} {ρ ρ0 ρ1 ρ2 : Fm} {σ σ0 σ1 : St} {tm ts : Tm} {H H0 H1 : Hp} {Q : VK}
theorem Av.tail {x : RV × V} {a : Addr} (h : Av av ρ σ tm a) : Av av ρ σ (x :: tm) a := by
  rcases h with z | z | ⟨ds, z⟩
  · exact .inl z
  · exact .inr (.inl z)
  · exact .inr (.inr ⟨ds, .tail _ z⟩)
theorem Hold.settle {r : RV} {v : V} {d : D} (h : Hold K mg ec H C ρ σ ((r, v) :: tm)) (e : toD r = some d) : Hold K mg ec H C ρ σ tm ∧ Rp K mg H (Av C.av ρ σ tm) d v := by
  refine ⟨h.pop, ?_⟩
  have q := h.tmp r v (.head _)
  cases r with
  | vw i => cases e
  | dt d' =>
    cases e
    exact Rp.av (fun a z => .inl z.tail) d v q
  | fr ds =>
    cases e
    obtain ⟨a, vs, rfl, n1, n2, n3, ha, q⟩ := q
    refine ⟨a, vs, rfl, fun z => ?_, ha, RpL.av (fun a z => .inl z.tail) ds vs q⟩
    rcases z with z | z | ⟨es, z⟩
    · exact n1 z
    · exact n2 z
    · exact (List.pairwise_cons.mp h.sep).1 _ z ds es a rfl rfl
theorem Hold.settles : ∀ {rs : List RV} {vs : List V} {tm : Tm} {ds : List D}, vs.length = rs.length → Hold K mg ec H C ρ σ (stk rs vs tm) → toDs rs = some ds → Hold K mg ec H C ρ σ tm ∧ RpL K mg H (Av C.av ρ σ tm) ds vs
  | [], [], tm, ds, _, h, e => by
    cases e
    exact ⟨h, rfl⟩
  | [], _ :: _, tm, ds, hl, h, e => by cases hl
  | _ :: _, [], tm, ds, hl, h, e => by cases hl
  | r :: rs, v :: vs, tm, ds, hl, h, e => by
    unfold toDs at e
    cases q1 : toD r with
    | none => rw [q1] at e; cases e
    | some d =>
      cases q2 : toDs rs with
      | none => rw [q1, q2] at e; cases e
      | some es =>
        rw [q1, q2] at e
        cases e
        obtain ⟨h1, r1⟩ := Hold.settles (Nat.succ.inj hl) h q2
        obtain ⟨h2, r2⟩ := h1.settle q1
        exact ⟨h2, .cons r2 (RpL.av (fun a z => .inl z.tail) es vs r1)⟩
theorem toDs_len : ∀ {rs : List RV} {ds : List D}, toDs rs = some ds → ds.length = rs.length
  | [], _, e => by cases e; rfl
  | r :: rs, ds, e => by
    unfold toDs at e
    cases q1 : toD r with
    | none => rw [q1] at e; cases e
    | some d =>
      cases q2 : toDs rs with
      | none => rw [q1, q2] at e; cases e
      | some es =>
        rw [q1, q2] at e
        cases e
        rw [List.length_cons, List.length_cons, toDs_len q2]
/-- the items of a list or a tuple that a result is -/
def seqD : D → Option (List D)
  | .lst ds => some ds
  | .tup ds => some ds
  | _ => none
theorem Hold.seq {r : RV} {v : V} {d : D} {ds : List D} (h : Hold K mg ec H C ρ σ tm) (hm : (r, v) ∈ tm) (g : r.get ρ = some d) (hs : seqD d = some ds) :
    ∃ a vs, v = .ref a ∧ ((d = .lst ds ∧ H a = some (.lst vs)) ∨ (d = .tup ds ∧ SqT K H a vs)) ∧ RpL K mg H (Av C.av ρ σ tm) ds vs := by
  have q := h.tmp r v hm
  cases r with
  | dt d' =>
    cases g
    cases d <;> first | (cases hs; done) | skip
    · cases hs
      obtain ⟨a, vs, rfl, s, r⟩ := q
      exact ⟨a, vs, rfl, .inr ⟨rfl, s⟩, r⟩
    · cases hs
      obtain ⟨a, vs, rfl, _, s, r⟩ := q
      exact ⟨a, vs, rfl, .inl ⟨rfl, s⟩, r⟩
  | fr es =>
    cases g
    cases hs
    obtain ⟨a, vs, e, _, _, _, ha, r⟩ := q
    exact ⟨a, vs, e, .inl ⟨rfl, ha⟩, r⟩
  | vw i =>
    obtain ⟨k, es, h1, h2⟩ := q
    have g' : (match ρ[i]? with | some (.ow _ ds) => some (D.lst ds) | _ => none) = some d := g
    rw [h1] at g'
    cases g'
    cases hs
    obtain ⟨a, vs, e, _, ha, r⟩ := h.slot i _ _ h1 h2
    cases e
    exact ⟨a, vs, rfl, .inl ⟨rfl, ha⟩, r⟩
theorem seq_sq {a : Addr} {d : D} {ds : List D} {vs : List V} (h : (d = .lst ds ∧ H a = some (.lst vs)) ∨ (d = .tup ds ∧ SqT K H a vs)) : SqL K H a vs ∨ SqT K H a vs := h.imp (fun z => .of z.2) fun z => z.2
end

section
variable {X : Cx} {W : WX} {ec : EC} {a b c e : Expr} {es rest : List Expr} {pos : Pos} {F G J : Fm → Out RV} {A : Fm → Out (List RV)}
def fTup (A : Fm → Out (List RV)) : Fm → Out RV := fun ρ => (A ρ).bind fun rs ρ => match toDs rs with
  | some ds => .ok (.dt (.tup ds)) ρ
  | none => .bad
def fLst (A : Fm → Out (List RV)) : Fm → Out RV := fun ρ => (A ρ).bind fun rs ρ => match toDs rs with
  | some ds => .ok (.fr ds) ρ
  | none => .bad
theorem size1000 {n : Nat} (h : n ≤ 1000) : n ≤ sizeLine := Nat.le_of_lt (small1000 h)
theorem de_tup {x1 n : Nat} (h : DA X W ec es A) (l : LA A n) (hn : n ≤ 1000 := by decide) : DE X W ec (.Tuple es x1 pos) (fTup A) := (pe_tup h).imp fun σ H Q ⟨C, ρ, tm, h, p⟩ => by
  cases q : A ρ with
  | ex =>
    unfold fTup at p
    rw [q] at p
    refine ⟨C, ρ, tm, h, ?_⟩
    rw [q]
    exact p
  | bad =>
    unfold fTup at p
    rw [q] at p
    exact p.elim
  | ok rs0 ρ0 =>
    have hl0 := l.len _ _ _ q
    refine ⟨C, ρ, tm, h, ?_⟩
    unfold fTup at p
    rw [q] at p ⊢
    intro vs H2 hl h2 k2
    refine ⟨size1000 (by rw [hl, hl0]; exact hn), fun x hx => ?_⟩
    simp only [Out.bind] at p
    cases q2 : toDs rs0 with
    | none =>
      rw [q2] at p
      exact p.elim
    | some ds =>
      rw [q2] at p
      obtain ⟨h3, r3⟩ := Hold.settles hl h2 q2
      exact p (.ref x) _ (h3.push_tup hx r3) k2
theorem de_lst {n : Nat} (h : DA X W ec es A) (l : LA A n) (hn : n ≤ 1000 := by decide) : DE X W ec (.List es pos) (fLst A) := (pe_lst h).imp fun σ H Q ⟨C, ρ, tm, h, p⟩ => by
  cases q : A ρ with
  | ex =>
    unfold fLst at p
    rw [q] at p
    refine ⟨C, ρ, tm, h, ?_⟩
    rw [q]
    exact p
  | bad =>
    unfold fLst at p
    rw [q] at p
    exact p.elim
  | ok rs0 ρ0 =>
    have hl0 := l.len _ _ _ q
    refine ⟨C, ρ, tm, h, ?_⟩
    unfold fLst at p
    rw [q] at p ⊢
    intro vs H2 hl h2 k2
    refine ⟨size1000 (by rw [hl, hl0]; exact hn), fun x hx => ?_⟩
    simp only [Out.bind] at p
    cases q2 : toDs rs0 with
    | none =>
      rw [q2] at p
      exact p.elim
    | some ds =>
      rw [q2] at p
      obtain ⟨h3, r3⟩ := Hold.settles hl h2 q2
      exact p (.ref x) _ (h3.push_fr hx r3) k2

/-! ### an item -/
def gIx : D → D → Option D
  | .lst ds, .int i => atI ds i
  | .tup ds, .int i => atI ds i
  | .fz ns, .int i => (atI ns i).map D.int
  | .str z, .int i => if z.length ≤ 16777216 then (atI z.cps.toList i).map fun c => .str ⟨#[c]⟩ else none
  | _, _ => none
def fIx (F G : Fm → Out RV) : Fm → Out RV := fun ρ => (F ρ).bind fun r ρ => (G ρ).bind fun s ρ => match r.get ρ, s.get ρ with
  | some x, some y => match gIx x y with
    | some z => .ok (.dt z) ρ
    | none => .bad
  | _, _ => .bad
theorem atI_rp {K : PySem.W.Frag} {mg : Str → Option Value} {H : Hp} {av : Addr → Prop} {ds : List D} {vs : List V} {i : Int} {d : D} (r : RpL K mg H av ds vs) (h : atI ds i = some d) : ∃ v, atI vs i = some v ∧ Rp K mg H av d v := by
  unfold atI at h ⊢
  rw [r.len]
  cases q : ixN ds.length i with
  | none =>
    rw [q] at h
    cases h
  | some j =>
    rw [q] at h
    exact r.get h
theorem atI_map {ns : List Int} {i k : Int} (h : atI ns i = some k) : atI (ns.map V.int) i = some (.int k) := by
  unfold atI at h ⊢
  rw [List.length_map]
  cases q : ixN ns.length i with
  | none =>
    rw [q] at h
    cases h
  | some j =>
    rw [q] at h
    have h' : ns[j]? = some k := h
    show (ns.map V.int)[j]? = some (.int k)
    rw [List.getElem?_map, h']
    rfl
theorem de_ix (ha : DE X W ec a F) (hb : DE X W ec b G) (hs : PlainIx b := by exact fun _ _ => rfl) : DE X W ec (.Subscript a b pos) (fIx F G) := (pe_ix ix_seq ha hb hs).imp fun σ H Q ⟨C, ρ, tm, h, p⟩ => by
  refine tD_step (ts := []) h Kin.refl p fun r1 ρ1 v H1 h1 k1 p1 => ?_
  refine tD_step (ts := [(r1, v)]) h1 k1 p1 fun r2 ρ2 u H2 h2 k2 p2 => ?_
  cases q1 : r1.get ρ2 with
  | none =>
    rw [q1] at p2
    exact p2.elim
  | some x =>
    cases q2 : r2.get ρ2 with
    | none =>
      rw [q1, q2] at p2
      exact p2.elim
    | some y =>
      rw [q1, q2] at p2
      dsimp only at p2
      cases q3 : gIx x y with
      | none =>
        rw [q3] at p2
        exact p2.elim
      | some z =>
        rw [q3] at p2
        have ry := h2.get (.head _) q2
        have rx := h2.get (.tail _ (.head _)) q1
        have down : ∀ {d : D} {w : V}, Rp X.K X.mg H2 (Av C.av ρ2 σ ((r2, u) :: (r1, v) :: tm)) d w → Hold X.K X.mg ec H2 C ρ2 σ ((.dt d, w) :: tm) := fun {d w} q => h2.pop.pop.push_dt (Rp.av (fun _ z => .inl z.tail.tail) d w q)
        cases x <;> first | (cases q3; done) | skip
        · -- a text
          cases y <;> first | (cases q3; done) | skip
          rename_i s i
          by_cases hz : s.length ≤ 16777216
          · have q4 : (atI s.cps.toList i).map (fun c => D.str ⟨#[c]⟩) = some z := by
              rw [← q3]
              exact (if_pos hz).symm
            cases q5 : atI s.cps.toList i with
            | none => rw [q5] at q4; cases q4
            | some k =>
              rw [q5] at q4
              cases q4
              exact .inr (.inr ⟨s, i, k, rx, ry, by rw [sizeLine_eq]; exact hz, q5, p2 _ H2 (down rfl) k2⟩)
          · rw [show gIx (.str s) (.int i) = none from if_neg hz] at q3
            cases q3
        · cases y <;> first | (cases q3; done) | skip
          obtain ⟨l, vs, rfl, hq, r⟩ := h2.seq (.tail _ (.head _)) q1 rfl
          rcases hq with ⟨z, _⟩ | ⟨_, hq⟩
          · cases z
          · obtain ⟨w, hw, rw'⟩ := atI_rp r q3
            exact .inr (.inl ⟨l, vs, _, w, rfl, ry, hq, hw, p2 _ H2 (down rw') k2⟩)
        · cases y <;> first | (cases q3; done) | skip
          obtain ⟨l, vs, rfl, hq, r⟩ := h2.seq (.tail _ (.head _)) q1 rfl
          rcases hq with ⟨_, hq⟩ | ⟨z, _⟩
          · obtain ⟨w, hw, rw'⟩ := atI_rp r q3
            exact .inl ⟨l, vs, _, w, rfl, ry, .of hq, hw, p2 _ H2 (down rw') k2⟩
          · cases z
        · cases y <;> first | (cases q3; done) | skip
          rename_i ns i
          obtain ⟨l, rfl, ho⟩ := rx
          have q4 : (atI ns i).map D.int = some z := q3
          cases q5 : atI ns i with
          | none => rw [q5] at q4; cases q4
          | some k =>
            rw [q5] at q4
            cases q4
            exact .inl ⟨l, _, i, .int k, rfl, ry, ho.sql, atI_map q5, p2 _ H2 (down rfl) k2⟩

/-! ### slices -/
/-- the items of xs[lo:hi] -/
def cutD {α : Type} (xs : List α) (lo hi : Option Int) : List α := (xs.drop (HT.sIx xs.length 0 lo)).take (HT.sIx xs.length xs.length hi - HT.sIx xs.length 0 lo)
theorem cutD_rp {K : PySem.W.Frag} {mg : Str → Option Value} {H : Hp} {av : Addr → Prop} {ds : List D} {vs : List V} {lo hi : Option Int} (r : RpL K mg H av ds vs) : RpL K mg H av (cutD ds lo hi) (cutV vs lo hi) := by
  unfold cutD cutV
  rw [r.len]
  exact (r.drop _).take _
abbrev DO (X : Cx) (W : WX) (ec : EC) (o : Option Expr) (F : Fm → Out (Option Int)) : Prop := PO X o fun σ H Q => ∃ C ρ tm, Hold X.K X.mg ec H C ρ σ tm ∧ match F ρ with
  | .ok i ρ' => ∀ H', Hold X.K X.mg ec H' C ρ' σ tm → Kin ρ ρ' → Q i H'
  | .ex c f d ρ' => ExW X.K X.mg W ec C ρ tm c f d ρ'
  | .bad => False
def oNone : Fm → Out (Option Int) := fun ρ => .ok none ρ
def oSome (F : Fm → Out RV) : Fm → Out (Option Int) := fun ρ => (F ρ).bind fun r ρ => match r with
  | .dt (.int i) => .ok (some i) ρ
  | _ => .bad
theorem po_imp {o : Option Expr} {t t' : TO} (h : PO X o t) (k : ∀ σ H Q, t' σ H Q → t σ H Q) : PO X o t' := ⟨fun pins s σ H Q I q => h.run pins s σ H Q I (k σ H Q q)⟩
theorem do_none : DO X W ec none oNone := po_imp po_none fun σ H Q ⟨C, ρ, tm, h, p⟩ => p H h Kin.refl
theorem do_some (ha : DE X W ec a F) : DO X W ec (some a) (oSome F) := po_imp (po_some ha) fun σ H Q ⟨C, ρ, tm, h, p⟩ => by
  refine ⟨C, ρ, tm, h, ?_⟩
  unfold oSome at p
  cases q : F ρ with
  | ex =>
    rw [q] at p
    exact p
  | bad =>
    rw [q] at p
    exact p.elim
  | ok r ρ1 =>
    rw [q] at p
    intro v H1 h1 k1
    cases r with
    | vw => exact p.elim
    | fr => exact p.elim
    | dt d =>
      cases d <;> first
        | exact p.elim
        | exact ⟨_, h1.tmp _ _ (.head _), p H1 h1.pop k1⟩
def fSl (F : Fm → Out RV) (L U : Fm → Out (Option Int)) : Fm → Out RV := fun ρ => (F ρ).bind fun r ρ => (L ρ).bind fun lo ρ => (U ρ).bind fun hi ρ => match r.get ρ with
  | some (.lst ds) => .ok (.fr (cutD ds lo hi)) ρ
  | some (.fz ns) => .ok (.fr ((cutD ns lo hi).map D.int)) ρ
  | some (.tup ds) => if HT.sIx ds.length 0 lo = 0 ∧ HT.sIx ds.length ds.length hi = ds.length then .bad else .ok (.dt (.tup (cutD ds lo hi))) ρ
  | _ => .bad
theorem rpl_ints {K : PySem.W.Frag} {mg : Str → Option Value} {H : Hp} {av : Addr → Prop} : ∀ ns : List Int, RpL K mg H av (ns.map D.int) (ns.map V.int)
  | [] => rfl
  | n :: ns => ⟨_, _, rfl, rfl, rpl_ints ns⟩
theorem de_slice {lo hi : Option Expr} {L U : Fm → Out (Option Int)} {p2 : Pos} (ha : DE X W ec a F) (hl : DO X W ec lo L) (hu : DO X W ec hi U) : DE X W ec (.Subscript a (.Slice lo hi none p2) pos) (fSl F L U) :=
  (pe_slice (sl_list.or sl_tup) ha hl hu).imp fun σ H Q ⟨C, ρ, tm, h, p⟩ => by
  refine tD_step (ts := []) h Kin.refl p fun r1 ρ1 v H1 h1 k1 p1 => ?_
  refine ⟨C, ρ1, (r1, v) :: tm, h1, ?_⟩
  cases q : L ρ1 with
  | ex =>
    rw [q] at p1
    exact ExW.up (ts := [(r1, v)]) p1 k1
  | bad =>
    rw [q] at p1
    exact p1.elim
  | ok l ρ2 =>
    rw [q] at p1
    intro H2 h2 k2'
    have k2 := k1.trans k2'
    refine ⟨C, ρ2, (r1, v) :: tm, h2, ?_⟩
    simp only [Out.bind] at p1
    cases q2 : U ρ2 with
    | ex =>
      rw [q2] at p1
      exact ExW.up (ts := [(r1, v)]) p1 k2
    | bad =>
      rw [q2] at p1
      exact p1.elim
    | ok u ρ3 =>
      rw [q2] at p1
      intro H3 h3 k3'
      have k3 := k2.trans k3'
      dsimp only at p1
      cases q3 : r1.get ρ3 with
      | none =>
        rw [q3] at p1
        exact p1.elim
      | some x =>
        rw [q3] at p1
        cases x <;> first | exact p1.elim | skip
        · rename_i ds
          dsimp only at p1
          obtain ⟨a1, vs, rfl, hq, r⟩ := h3.seq (.head _) q3 rfl
          rcases hq with ⟨z, _⟩ | ⟨_, hq⟩
          · cases z
          · by_cases hw : HT.sIx ds.length 0 l = 0 ∧ HT.sIx ds.length ds.length u = ds.length
            · rw [if_pos hw] at p1
              exact p1.elim
            · rw [if_neg hw] at p1
              refine .inr ⟨a1, vs, rfl, hq, by rw [r.len]; exact hw, fun x hx => ?_⟩
              exact p1 _ _ (h3.pop.push_tup hx (RpL.av (fun _ z => .inl z.tail) _ _ (cutD_rp r))) k3
        · rename_i ds
          dsimp only at p1
          obtain ⟨a1, vs, rfl, hq, r⟩ := h3.seq (.head _) q3 rfl
          rcases hq with ⟨_, hq⟩ | ⟨z, _⟩
          · refine .inl ⟨a1, vs, rfl, .of hq, fun x hx => ?_⟩
            exact p1 _ _ (h3.pop.push_fr hx (RpL.av (fun _ z => .inl z.tail) _ _ (cutD_rp r))) k3
          · cases z
        · rename_i ns
          dsimp only at p1
          obtain ⟨a1, rfl, ho⟩ := h3.get (.head _) q3
          refine .inl ⟨a1, _, rfl, ho.sql, fun x hx => ?_⟩
          have e : cutV (ns.map V.int) l u = (cutD ns l u).map V.int := by
            unfold cutV cutD
            rw [List.length_map, List.map_take, List.map_drop]
          rw [e]
          exact p1 _ _ (h3.pop.push_fr hx (rpl_ints _)) k3
end
end DL

namespace DL
open PySem L2

/-! ### a slot is stored; a list is written -/
/-- what a slot gets -/
def putS (i : Nat) (s : Sl) (ρ : Fm) : Option Fm := match ρ[i]? with
  | some (.ow (_ + 1) _) => none
  | some (.ex _ _ _) => none
  | some (.nw _) => none
  | none => none
  | some _ => some (ρ.set i s)
def slOf : RV → Option Sl
  | .dt d => some (.dt d)
  | .fr ds => some (.ow 0 ds)
  | .vw _ => none
/-- a list of the frame's own that is to be shared is no more changed -/
def cool (r : RV) (ρ : Fm) : RV × Fm := match r with
  | .vw j => match ρ[j]? with
    | some (.ow 0 ds) => (.dt (.lst ds), ρ.set j (.dt (.lst ds)))
    | _ => (.vw j, ρ)
  | r => (r, ρ)
def setS (i : Nat) (r : RV) (ρ : Fm) : Option Fm := match slOf (cool r ρ).1 with
  | some s => putS i s (cool r ρ).2
  | none => none
section
variable {K : PySem.W.Frag} {mg : Str → Option Value} {W : WX} {ec : EC} {av : Addr → Prop} {C : Fc} {ρ ρ0 ρ1 ρ2 ρ' : Fm} {σ σ0 σ1 : St} {tm ts : Tm} {H H' H0 H1 : Hp} {Q : VK}
theorem putS_inv {i : Nat} {s : Sl} (h : putS i s ρ = some ρ') : ρ' = ρ.set i s ∧ i < ρ.length ∧ ∀ k ds, ρ[i]? = some (Sl.ow k ds) → k = 0 := by
  unfold putS at h
  cases q : ρ[i]? with
  | none => rw [q] at h; cases h
  | some t =>
    rw [q] at h
    have hi : i < ρ.length := (List.getElem?_eq_some_iff.mp q).1
    cases t with
    | un => cases h; exact ⟨rfl, hi, fun k ds z => by cases z⟩
    | dt d => cases h; exact ⟨rfl, hi, fun k ds z => by cases z⟩
    | ex => cases h
    | nw => cases h
    | ow k ds =>
      cases k with
      | zero => cases h; exact ⟨rfl, hi, fun k ds z => by cases z; rfl⟩
      | succ k => cases h
theorem put_kin {i : Nat} {s : Sl} (h : putS i s ρ = some ρ') : Kin ρ ρ' := by
  obtain ⟨rfl, hi, hk⟩ := putS_inv h
  refine Kin.of_same fun j k ds q => ?_
  by_cases e : i = j
  · subst e
    exact absurd (hk _ _ q) (Nat.succ_ne_zero k)
  · rw [List.getElem?_set_ne e]
    exact q
/-- the slot i gets the newest result -/
theorem Hold.put0 {i : Nat} {r : RV} {s : Sl} {v : V} (h : Hold K mg ec H C ρ σ ((r, v) :: tm)) (lk : ∀ u, (RV.vw i, u) ∈ tm → ∃ es, ρ[i]? = some (Sl.ow 2 es)) (hs : slOf r = some s) (hp : putS i s ρ = some ρ') : Hold K mg ec H C ρ' (σ.set i (some v)) tm := by
  obtain ⟨rfl, hi, hk⟩ := putS_inv hp
  have hiσ : i < σ.length := by rw [← h.len]; exact hi
  have get1 : ∀ {j : Nat} {t : Sl}, (ρ.set i s)[j]? = some t → (j = i ∧ t = s) ∨ (j ≠ i ∧ ρ[j]? = some t) := fun {j t} q => by
    by_cases e : i = j
    · subst e
      rw [List.getElem?_set_self hi] at q
      cases q
      exact .inl ⟨rfl, rfl⟩
    · rw [List.getElem?_set_ne e] at q
      exact .inr ⟨fun z => e z.symm, q⟩
  have get2 : ∀ {j : Nat} {t : Option V}, (σ.set i (some v))[j]? = some t → (j = i ∧ t = some v) ∨ (j ≠ i ∧ σ[j]? = some t) := fun {j t} q => by
    by_cases e : i = j
    · subst e
      rw [List.getElem?_set_self hiσ] at q
      cases q
      exact .inl ⟨rfl, rfl⟩
    · rw [List.getElem?_set_ne e] at q
      exact .inr ⟨fun z => e z.symm, q⟩
  have top := h.tmp r v (.head _)
  -- what is owned now was owned, or is the new list
  have own : ∀ a, Own (ρ.set i s) (σ.set i (some v)) a → (Own ρ σ a ∧ ∀ k ds, ¬ (ρ[i]? = some (Sl.ow k ds) ∧ σ[i]? = some (some (V.ref a)))) ∨ ∃ ds, r = .fr ds ∧ v = .ref a := by
    rintro a ⟨j, k, ds, q1, q2⟩
    rcases get1 q1 with ⟨rfl, e⟩ | ⟨ne, e⟩
    · rcases get2 q2 with ⟨_, e2⟩ | ⟨ne, _⟩
      · cases e2
        cases r with
        | dt d => cases hs; cases e
        | vw d => cases hs
        | fr es => exact .inr ⟨es, rfl, rfl⟩
      · exact absurd rfl ne
    · rcases get2 q2 with ⟨z, _⟩ | ⟨_, e2⟩
      · exact absurd z ne
      · refine .inl ⟨⟨j, k, ds, e, e2⟩, fun k' ds' z => ne (h.inj j i k k' ds ds' a e z.1 e2 z.2)⟩
  have less : ∀ a, Av C.av (ρ.set i s) (σ.set i (some v)) tm a → Av C.av ρ σ ((r, v) :: tm) a := fun a q => by
    rcases q with q | q | ⟨ds, q⟩
    · exact .inl q
    · rcases own a q with q | ⟨ds, rfl, rfl⟩
      · exact .inr (.inl q.1)
      · exact .inr (.inr ⟨ds, .head _⟩)
    · exact .inr (.inr ⟨ds, .tail _ q⟩)
  refine ⟨by rw [List.length_set, List.length_set]; exact h.len, h.avt, h.ext, fun j p hio => ?_, fun j k ds a q1 q2 => ?_, fun j t o q1 q2 => ?_, fun j j' k k' ds ds' a q1 q2 q3 q4 => ?_, fun r' v' hm => ?_, (List.pairwise_cons.mp h.sep).2⟩
  · obtain ⟨ds, q1, q2⟩ := h.io j p hio
    have ne : i ≠ j := fun z => by
      subst z
      exact absurd (hk _ _ q1) (by decide)
    exact ⟨ds, by rw [List.getElem?_set_ne ne]; exact q1, by rw [List.getElem?_set_ne ne]; exact q2⟩
  · rcases get1 q1 with ⟨rfl, e⟩ | ⟨ne, e⟩
    · rcases get2 q2 with ⟨_, e2⟩ | ⟨ne, _⟩
      · cases e2
        cases r with
        | dt d => cases hs; cases e
        | vw d => cases hs
        | fr es =>
          cases hs
          cases e
          obtain ⟨a', vs, e1, n1, n2, n3, _⟩ := top
          cases e1
          exact .inr ⟨by decide, n3⟩
      · exact absurd rfl ne
    · rcases get2 q2 with ⟨z, _⟩ | ⟨_, e2⟩
      · exact absurd z ne
      · exact h.one j k ds a e e2
  · rcases get1 q1 with ⟨rfl, e⟩ | ⟨ne, e⟩
    · rcases get2 q2 with ⟨_, e2⟩ | ⟨ne, _⟩
      · subst e e2
        cases r with
        | vw d => cases hs
        | dt d =>
          cases hs
          exact ⟨v, rfl, Rp.av (fun a z => .inl (less a z)) d v top⟩
        | fr es =>
          cases hs
          obtain ⟨a', vs, rfl, n1, n2, n3, ha, q⟩ := top
          exact ⟨a', vs, rfl, n1, ha, RpL.av (fun a z => .inl (less a z)) es vs q⟩
      · exact absurd rfl ne
    · rcases get2 q2 with ⟨z, _⟩ | ⟨_, e2⟩
      · exact absurd z ne
      · exact (h.slot j t o e e2).imp (P := fun _ => False) Ext.refl (fun _ z => z.elim) (fun a z => .inl (less a z)) (fun _ z => z) fun _ _ _ _ _ _ z => z
  · rcases get1 q1 with ⟨rfl, e⟩ | ⟨ne, e⟩
    · rcases get1 q2 with ⟨rfl, _⟩ | ⟨ne', e'⟩
      · rfl
      · rcases get2 q3 with ⟨_, e3⟩ | ⟨ne, _⟩
        · rcases get2 q4 with ⟨z, _⟩ | ⟨_, e4⟩
          · exact absurd z ne'
          · cases e3
            cases r with
            | dt d => cases hs; cases e
            | vw d => cases hs
            | fr es =>
              obtain ⟨a', vs, e1, n1, n2, _⟩ := top
              cases e1
              exact absurd ⟨j', k', ds', e', e4⟩ n2
        · exact absurd rfl ne
    · rcases get1 q2 with ⟨rfl, e'⟩ | ⟨ne', e'⟩
      · rcases get2 q4 with ⟨_, e4⟩ | ⟨z, _⟩
        · rcases get2 q3 with ⟨z, _⟩ | ⟨_, e3⟩
          · exact absurd z ne
          · cases e4
            cases r with
            | dt d => cases hs; cases e'
            | vw d => cases hs
            | fr es =>
              obtain ⟨a', vs, e1, n1, n2, _⟩ := top
              cases e1
              exact absurd ⟨j, k, ds, e, e3⟩ n2
        · exact absurd rfl z
      · rcases get2 q3 with ⟨z, _⟩ | ⟨_, e3⟩
        · exact absurd z ne
        · rcases get2 q4 with ⟨z, _⟩ | ⟨_, e4⟩
          · exact absurd z ne'
          · exact h.inj j j' k k' ds ds' a e e' e3 e4
  · have q := h.tmp r' v' (.tail _ hm)
    cases r' with
    | dt d => exact Rp.av (fun a z => .inl (less a z)) d v' q
    | vw j =>
      obtain ⟨k, ds, q1, q2⟩ := q
      have ne : i ≠ j := fun z => by
        subst z
        obtain ⟨es, q3⟩ := lk v' hm
        exact absurd (hk _ _ q3) (by decide)
      exact ⟨k, ds, by rw [List.getElem?_set_ne ne]; exact q1, by rw [List.getElem?_set_ne ne]; exact q2⟩
    | fr es =>
      obtain ⟨a, vs, rfl, n1, n2, n3, ha, q⟩ := q
      refine ⟨a, vs, rfl, n1, fun z => ?_, n3, ha, RpL.av (fun a z => .inl (less a z)) es vs q⟩
      rcases own a z with z | ⟨ds, rfl, rfl⟩
      · exact n2 z.1
      · exact (List.pairwise_cons.mp h.sep).1 _ hm ds es a rfl rfl
/-- a list of the frame's own is shared: it is no more changed -/
theorem Hold.put {i : Nat} {r : RV} {s : Sl} {v : V} (h : Hold K mg ec H C ρ σ ((r, v) :: tm)) (lk : LkT ρ tm) (hs : slOf r = some s) (hp : putS i s ρ = some ρ') : Hold K mg ec H C ρ' (σ.set i (some v)) tm := h.put0 (fun u hm => lk i u hm) hs hp
theorem Hold.cool {r : RV} {v : V} (h : Hold K mg ec H C ρ σ ((r, v) :: tm)) (lk : LkT ρ tm) : Hold K mg ec H C (cool r ρ).2 σ (((cool r ρ).1, v) :: tm) ∧ Kin ρ (DL.cool r ρ).2 := by
  cases r with
  | dt d => exact ⟨h, Kin.refl⟩
  | fr d => exact ⟨h, Kin.refl⟩
  | vw j =>
    unfold DL.cool
    cases q : ρ[j]? with
    | none => exact ⟨by simpa only [q] using h, by simpa only [q] using Kin.refl⟩
    | some t =>
      cases t with
      | un => exact ⟨by simpa only [q] using h, by simpa only [q] using Kin.refl⟩
      | dt => exact ⟨by simpa only [q] using h, by simpa only [q] using Kin.refl⟩
      | ex => exact ⟨by simpa only [q] using h, by simpa only [q] using Kin.refl⟩
      | nw => exact ⟨by simpa only [q] using h, by simpa only [q] using Kin.refl⟩
      | ow k ds =>
        cases k with
        | succ k => exact ⟨by simpa only [q] using h, by simpa only [q] using Kin.refl⟩
        | zero =>
          simp only [q]
          have hj : j < ρ.length := (List.getElem?_eq_some_iff.mp q).1
          obtain ⟨k', ds', q', qv⟩ := h.tmp _ v (.head _)
          rw [q] at q'
          cases q'
          obtain ⟨a, vs, e, n, ha, rr⟩ := h.slot j _ _ q qv
          cases e
          have get1 : ∀ {i : Nat} {t : Sl}, (ρ.set j (.dt (.lst ds)))[i]? = some t → (i = j ∧ t = .dt (.lst ds)) ∨ (i ≠ j ∧ ρ[i]? = some t) := fun {i t} z => by
            by_cases e : j = i
            · subst e
              rw [List.getElem?_set_self hj] at z
              cases z
              exact .inl ⟨rfl, rfl⟩
            · rw [List.getElem?_set_ne e] at z
              exact .inr ⟨fun w => e w.symm, z⟩
          have own : ∀ b, Own (ρ.set j (.dt (.lst ds))) σ b → Own ρ σ b ∧ b ≠ a := by
            rintro b ⟨i, k, es, q1, q2⟩
            rcases get1 q1 with ⟨_, e⟩ | ⟨ne, e⟩
            · cases e
            · refine ⟨⟨i, k, es, e, q2⟩, fun z => ?_⟩
              subst z
              exact ne (h.inj i j _ _ _ _ b e q q2 qv)
          have less : ∀ b, Av C.av (ρ.set j (.dt (.lst ds))) σ ((.dt (.lst ds), .ref a) :: tm) b → Av C.av ρ σ ((.vw j, .ref a) :: tm) b := fun b z => by
            rcases z with z | z | ⟨es, z⟩
            · exact .inl z
            · exact .inr (.inl (own b z).1)
            · refine .inr (.inr ⟨es, ?_⟩)
              rcases List.mem_cons.mp z with w | w
              · cases w
              · exact .tail _ w
          have na : ¬ Av C.av (ρ.set j (.dt (.lst ds))) σ ((.dt (.lst ds), .ref a) :: tm) a := fun z => by
            rcases z with z | z | ⟨es, z⟩
            · exact n z
            · exact (own a z).2 rfl
            · rcases List.mem_cons.mp z with w | w
              · cases w
              · obtain ⟨_, _, e1, _, n2, _⟩ := h.tmp _ _ (.tail _ w)
                cases e1
                exact n2 ⟨j, 0, ds, q, qv⟩
          have rep : Rp K mg H (Av C.av (ρ.set j (.dt (.lst ds))) σ ((.dt (.lst ds), .ref a) :: tm)) (.lst ds) (.ref a) := ⟨a, vs, rfl, na, ha, RpL.av (fun b z => .inl (less b z)) ds vs rr⟩
          refine ⟨⟨by rw [List.length_set]; exact h.len, h.avt, h.ext, fun i p hio => ?_, fun i k es b q1 q2 => ?_, fun i t o q1 q2 => ?_, fun i i' k k' es es' b q1 q2 q3 q4 => ?_, fun r' v' hm => ?_, List.pairwise_cons.mpr ⟨fun y _ _ _ _ z => (nomatch z), (List.pairwise_cons.mp h.sep).2⟩⟩, Kin.of_same fun i k es z => ?_⟩
          · obtain ⟨es, q1, q2⟩ := h.io i p hio
            have ne : j ≠ i := fun z => by
              subst z
              rw [q] at q1
              cases q1
            exact ⟨es, by rw [List.getElem?_set_ne ne]; exact q1, q2⟩
          · rcases get1 q1 with ⟨_, e⟩ | ⟨ne, e⟩
            · cases e
            · exact h.one i k es b e q2
          · rcases get1 q1 with ⟨rfl, e⟩ | ⟨ne, e⟩
            · subst e
              rw [qv] at q2
              cases q2
              exact ⟨_, rfl, rep⟩
            · exact (h.slot i t o e q2).imp (P := fun _ => False) Ext.refl (fun _ z => z.elim) (fun a z => .inl (less a z)) (fun _ z => z) fun _ _ _ _ _ _ z => z
          · rcases get1 q1 with ⟨_, e⟩ | ⟨ne, e⟩
            · cases e
            · rcases get1 q2 with ⟨_, e'⟩ | ⟨ne', e'⟩
              · cases e'
              · exact h.inj i i' k k' es es' b e e' q3 q4
          · rcases List.mem_cons.mp hm with w | hm
            · cases w
              exact rep
            · have z := h.tmp r' v' (.tail _ hm)
              cases r' with
              | dt d => exact Rp.av (fun a z => .inl (less a z)) d v' z
              | vw i =>
                obtain ⟨k, es, q1, q2⟩ := z
                obtain ⟨fs, q3⟩ := lk i v' hm
                have ne : j ≠ i := fun z => by
                  subst z
                  rw [q] at q3
                  cases q3
                exact ⟨k, es, by rw [List.getElem?_set_ne ne]; exact q1, q2⟩
              | fr es =>
                obtain ⟨b, ws, rfl, n1, n2, n3, hb, z⟩ := z
                exact ⟨b, ws, rfl, n1, fun w => n2 (own b w).1, n3, hb, RpL.av (fun a z => .inl (less a z)) es ws z⟩
          · have ne : j ≠ i := fun w => by
              subst w
              rw [q] at z
              cases z
            rw [List.getElem?_set_ne ne]
            exact z
theorem Hold.set {i : Nat} {r : RV} {v : V} (h : Hold K mg ec H C ρ σ ((r, v) :: tm)) (lk : LkT ρ tm) (hs : setS i r ρ = some ρ') : Hold K mg ec H C ρ' (σ.set i (some v)) tm ∧ Kin ρ ρ' := by
  obtain ⟨h1, k1⟩ := h.cool lk
  unfold setS at hs
  cases q : slOf (DL.cool r ρ).1 with
  | none => rw [q] at hs; cases hs
  | some s =>
    rw [q] at hs
    exact ⟨h1.put (lk.kin k1) q hs, k1.trans (put_kin hs)⟩
/-- one of the frame's own lists is written (its own, or the caller's) -/
theorem Hold.write {i k : Nat} {ds es : List D} {a : Addr} {ws : List V} (hk1 : k ≤ 1) (h : Hold K mg ec H C ρ σ tm) (q1 : ρ[i]? = some (Sl.ow k ds)) (q2 : σ[i]? = some (some (V.ref a))) (e : Ext (fun b => b = a) H H') (ha : H' a = some (.lst ws))
    (rr : RpL K mg H' (Av C.av ρ σ tm) es ws) : Hold K mg ec H' C (ρ.set i (Sl.ow k es)) σ tm ∧ Kin ρ (ρ.set i (Sl.ow k es)) := by
  have hi : i < ρ.length := (List.getElem?_eq_some_iff.mp q1).1
  obtain ⟨a', vs0, e0, na, ha0, _⟩ := h.slot i _ _ q1 q2
  cases e0
  have get1 : ∀ {j : Nat} {t : Sl}, (ρ.set i (Sl.ow k es))[j]? = some t → (j = i ∧ t = .ow k es) ∨ (j ≠ i ∧ ρ[j]? = some t) := fun {j t} q => by
    by_cases e : i = j
    · subst e
      rw [List.getElem?_set_self hi] at q
      cases q
      exact .inl ⟨rfl, rfl⟩
    · rw [List.getElem?_set_ne e] at q
      exact .inr ⟨fun z => e z.symm, q⟩
  have own : ∀ b, Own (ρ.set i (Sl.ow k es)) σ b → Own ρ σ b := by
    rintro b ⟨j, k', fs, w1, w2⟩
    rcases get1 w1 with ⟨rfl, z⟩ | ⟨_, z⟩
    · exact ⟨j, k, ds, q1, w2⟩
    · exact ⟨j, k', fs, z, w2⟩
  have less : ∀ b, Av C.av (ρ.set i (Sl.ow k es)) σ tm b → Av C.av ρ σ tm b ∨ H' b = none := fun b z => by
    rcases z with z | z | z
    · exact .inl (.inl z)
    · exact .inl (.inr (.inl (own b z)))
    · exact .inl (.inr (.inr z))
  have isA : ∀ b, b = a → Av C.av ρ σ tm b := fun b z => by
    subst z
    exact .inr (.inl ⟨i, k, ds, q1, q2⟩)
  refine ⟨⟨by rw [List.length_set]; exact h.len, fun b z => e.isSome (h.avt b z), ?_, fun j p hio => ?_, fun j k' fs b w1 w2 => ?_, fun j t o w1 w2 => ?_, fun j j' k1 k2 fs fs' b w1 w2 w3 w4 => ?_, fun r v hm => ?_, h.sep⟩, ⟨fun j fs w => ?_, fun j k' fs w => ?_⟩⟩
  · intro b o hb
    rcases h.ext b o hb with ⟨x1, x2, vs, x3⟩ | x
    · rcases e b _ x3 with ⟨_, _, y⟩ | y
      · exact .inl ⟨x1, x2, y⟩
      · exact .inl ⟨x1, x2, _, y⟩
    · rcases e b _ x with ⟨y1, y2, y3⟩ | y
      · subst y1
        rcases h.one i k ds b q1 q2 with ⟨_, z⟩ | ⟨_, z⟩
        · exact .inl ⟨⟨i, z⟩, y2, y3⟩
        · rw [hb] at z
          cases z
      · exact .inr y
  · obtain ⟨fs, w1, w2⟩ := h.io j p hio
    by_cases ne : i = j
    · subst ne
      rw [q1] at w1
      cases w1
      exact ⟨es, List.getElem?_set_self hi, w2⟩
    · exact ⟨fs, by rw [List.getElem?_set_ne ne]; exact w1, w2⟩
  · rcases get1 w1 with ⟨rfl, z⟩ | ⟨_, z⟩
    · cases z
      exact h.one j k ds b q1 w2
    · exact h.one j k' fs b z w2
  · rcases get1 w1 with ⟨rfl, z⟩ | ⟨ne, z⟩
    · subst z
      rw [q2] at w2
      cases w2
      exact ⟨a, ws, rfl, na, ha, RpL.av less es ws rr⟩
    · refine (h.slot j t o z w2).imp e isA less (fun _ z => z) fun k' fs b vs y1 y2 y3 => ?_
      subst y1 y2
      rcases e b _ y3 with ⟨y, _⟩ | y
      · subst y
        exact absurd (h.inj j i _ _ _ _ b z q1 w2 q2) ne
      · exact y
  · rcases get1 w1 with ⟨rfl, z⟩ | ⟨ne, z⟩
    · rcases get1 w2 with ⟨rfl, z'⟩ | ⟨ne', z'⟩
      · rfl
      · exact h.inj j j' _ _ _ _ b q1 z' w3 w4
    · rcases get1 w2 with ⟨rfl, z'⟩ | ⟨ne', z'⟩
      · exact h.inj j j' _ _ _ _ b z q1 w3 w4
      · exact h.inj j j' _ _ _ _ b z z' w3 w4
  · have z := h.tmp r v hm
    cases r with
    | dt d => exact Rp.av less d v (Rp.ext e isA d v z)
    | vw j =>
      obtain ⟨k', fs, w1, w2⟩ := z
      by_cases ne : i = j
      · subst ne
        rw [q1] at w1
        cases w1
        exact ⟨k, es, List.getElem?_set_self hi, w2⟩
      · exact ⟨k', fs, by rw [List.getElem?_set_ne ne]; exact w1, w2⟩
    | fr fs =>
      obtain ⟨b, vs, rfl, n1, n2, n3, hb, z⟩ := z
      refine ⟨b, vs, rfl, n1, fun w => n2 (own b w), n3, ?_, RpL.av less fs vs (RpL.ext e isA fs vs z)⟩
      rcases e b _ hb with ⟨y, _⟩ | y
      · subst y
        exact absurd ⟨i, k, ds, q1, q2⟩ n2
      · exact y
  · by_cases ne : i = j
    · subst ne
      rw [q1] at w
      cases w
      exact ⟨es, List.getElem?_set_self hi⟩
    · exact ⟨fs, by rw [List.getElem?_set_ne ne]; exact w⟩
  · by_cases ne : i = j
    · subst ne
      rw [q1] at w
      cases w
      omega
    · rw [List.getElem?_set_ne ne]
      exact w
end
end DL

namespace DL
open PySem L2

section
variable {X : Cx} {W : WX} {ec : EC} {a b c e : Expr} {es : List Expr} {st : Stmt} {rest body other : List Stmt} {pos : Pos} {F G J : Fm → Out RV} {A : Fm → Out (List RV)} {B : Fm → Out Bool} {S T : Fm → SO}
def sNil : Fm → SO := fun ρ => .nx ρ
def sSeq (S T : Fm → SO) : Fm → SO := fun ρ => (S ρ).bind T
theorem dss_nil : DSs X W ec [] sNil := pss_nil.imp fun E σ H ⟨C, ρ, tm, h, lk, p⟩ => p σ H h Kin.refl
theorem dss_one (h : DS X W ec st S) : DSs X W ec [st] S := pss_one h
theorem dss_cons (h1 : DS X W ec st S) (h2 : DSs X W ec rest T) : DSs X W ec (st :: rest) (sSeq S T) := (pss_cons h1 h2).imp fun E σ H ⟨C, ρ, tm, h, lk, p⟩ => by
  refine ⟨C, ρ, tm, h, lk, ?_⟩
  unfold sSeq at p
  cases q : S ρ with
  | nx ρ1 =>
    rw [q] at p
    exact fun σ1 H1 h1 k1 => finS_up h1 lk k1 p
  | rt r ρ1 => rw [q] at p; exact p
  | bk ρ1 => rw [q] at p; exact p
  | ct ρ1 => rw [q] at p; exact p
  | ex => rw [q] at p; exact p
  | bad => rw [q] at p; exact p
theorem ds_pass : DS X W ec (.Pass pos) sNil := ps_pass.imp fun E σ H ⟨C, ρ, tm, h, lk, p⟩ => p σ H h Kin.refl
theorem ds_break : DS X W ec (.Break pos) (fun ρ => .bk ρ) := ps_break.imp fun E σ H ⟨C, ρ, tm, h, lk, p⟩ => p σ H h Kin.refl
theorem ds_continue : DS X W ec (.Continue pos) (fun ρ => .ct ρ) := ps_continue.imp fun E σ H ⟨C, ρ, tm, h, lk, p⟩ => p σ H h Kin.refl
def sExpr (F : Fm → Out RV) : Fm → SO := fun ρ => (F ρ).sbind fun _ ρ => .nx ρ
theorem ds_expr (ha : DE X W ec a F) (hs : swapsWith a none pos.line X.env = pure false := by rfl) : DS X W ec (.Expr a pos) (sExpr F) := (ps_expr ha hs).imp fun E σ H ⟨C, ρ, tm, h, lk, p⟩ =>
  tD_stepS (ts := []) h Kin.refl p fun r ρ1 v H1 h1 k1 p1 => p1 σ H1 h1.pop k1
def sRet (F : Fm → Out RV) : Fm → SO := fun ρ => (F ρ).sbind fun r ρ => .rt r ρ
theorem ds_ret (ha : DE X W ec a F) : DS X W ec (.Return (some a) pos) (sRet F) := (ps_ret ha).imp fun E σ H ⟨C, ρ, tm, h, lk, p⟩ =>
  tD_stepS (ts := []) h Kin.refl p fun r ρ1 v H1 h1 k1 p1 => p1 v σ H1 h1 k1
theorem ds_retN : DS X W ec (.Return none pos) (fun ρ => .rt (.dt .non) ρ) := ps_retN.imp fun E σ H ⟨C, ρ, tm, h, lk, p⟩ => p .non σ H (h.push_sv rfl) Kin.refl
def sIf (B : Fm → Out Bool) (S T : Fm → SO) : Fm → SO := fun ρ => (B ρ).sbind fun k ρ => if k then S ρ else T ρ
theorem ds_if (hc : DT X W ec c B) (ha : DSs X W ec body S) (hb : DSs X W ec other T) : DS X W ec (.If c body other pos) (sIf B S T) := (ps_if hc ha hb).imp fun E σ H ⟨C, ρ, tm, h, lk, p⟩ =>
  tDT_stepS (ts := []) h Kin.refl p fun k ρ1 H1 h1 k1 p1 => by
    cases k with
    | true =>
      rw [if_pos rfl]
      exact finS_up h1 lk k1 p1
    | false =>
      rw [if_neg Bool.false_ne_true]
      exact finS_up h1 lk k1 p1
/-- name = e -/
def sSet (i : Nat) (F : Fm → Out RV) : Fm → SO := fun ρ => (F ρ).sbind fun r ρ => match setS i r ρ with
  | some ρ' => .nx ρ'
  | none => .bad
theorem tSet_of {i : Nat} {E : Ends} {σ : St} {H : Hp} (h : tDS X.K X.mg W ec (sSet i F) E σ H) : tAsg (tD X.K X.mg W ec F) (gName i) E σ H := by
  obtain ⟨C, ρ, tm, h, lk, p⟩ := h
  refine tD_stepS (ts := []) h Kin.refl p fun r ρ1 v H1 h1 k1 p1 => ?_
  cases q : setS i r ρ1 with
  | none =>
    rw [q] at p1
    exact p1.elim
  | some ρ' =>
    rw [q] at p1
    obtain ⟨h2, k2⟩ := Hold.set h1 (lk.kin k1) q
    exact p1 _ H1 h2 (k1.trans k2)
theorem ds_set {i : Nat} {x : Str} {pos' : Pos} (hN : X.N.Nodup) (ha : DE X W ec a F) (hi : X.N[i]? = some x := by rfl) (hx : Loc X.env.scope x := by first | exact .inl rfl | exact .inr rfl) (hs : swapsWith a (some (.Name x pos')) pos.line X.env = pure false := by rfl)
    (hf : X.fn x = true ∨ X.env.scope.names.lookup x = some .local := by first | exact .inl rfl | exact .inr rfl | assumption) : DS X W ec (.Assign [.Name x pos'] a pos) (sSet i F) := (ps_set hN hi hx ha hs hf).imp fun E σ H h => tSet_of h

/-! ### targets -/
/-- a value is given to a target: a name, a tuple of names -/
inductive Tg where
  | nm (i : Nat) | tp (is : List Nat)
def putAll : List Nat → List D → Fm → Option Fm
  | [], [], ρ => some ρ
  | i :: is, d :: ds, ρ => (putS i (.dt d) ρ).bind (putAll is ds)
  | _, _, _ => none
def Tg.put : Tg → D → Fm → Option Fm
  | .nm i, d, ρ => putS i (.dt d) ρ
  | .tp is, .tup ds, ρ => putAll is ds ρ
  | _, _, _ => none
/-- a target's reading gives what put says -/
structure TgOk (K : PySem.W.Frag) (mg : Str → Option Value) (g : TG) (t : Tg) : Prop where
  run : ∀ {ec : EC} {C : Fc} {ρ ρ' : Fm} {σ : St} {tm : Tm} {H : Hp} {d : D} {v : V} {Q : St → Hp → Prop}, Hold K mg ec H C ρ σ ((.dt d, v) :: tm) → LkT ρ tm → t.put d ρ = some ρ' →
    (∀ σ', Hold K mg ec H C ρ' σ' tm → Kin ρ ρ' → Q σ' H) → g v σ H Q
theorem tg_name {K : PySem.W.Frag} {mg : Str → Option Value} {i : Nat} : TgOk K mg (gName i) (.nm i) := ⟨fun h lk hp q => q _ (h.put lk rfl hp) (put_kin hp)⟩
theorem hold_items {K : PySem.W.Frag} {mg : Str → Option Value} {ec : EC} {C : Fc} {ρ : Fm} {σ : St} {tm : Tm} {H : Hp} : ∀ {ds : List D} {vs : List V}, Hold K mg ec H C ρ σ tm → RpL K mg H (Av C.av ρ σ tm) ds vs → ∃ tl : Tm, tl.length = ds.length ∧ tl = (ds.zip vs).map (fun p => (RV.dt p.1, p.2)) ∧ Hold K mg ec H C ρ σ (tl ++ tm)
  | [], vs, h, r => ⟨[], rfl, by rw [show vs = [] from r]; rfl, h⟩
  | d :: ds, vs, h, r => by
    obtain ⟨v, ws, rfl, r1, r2⟩ := r
    obtain ⟨tl, e1, e2, h2⟩ := hold_items h r2
    refine ⟨(RV.dt d, v) :: tl, by rw [List.length_cons, List.length_cons, e1], by rw [e2]; rfl, h2.push_dt (Rp.av (fun b z => .inl ?_) d v r1)⟩
    rcases z with z | z | ⟨fs, z⟩
    · exact .inl z
    · exact .inr (.inl z)
    · rcases List.mem_append.mp z with z | z
      · rw [e2] at z
        obtain ⟨p, _, q⟩ := List.mem_map.mp z
        cases q
      · exact .inr (.inr ⟨fs, z⟩)
/-- the names of a tuple target, one after another -/
inductive GsOk : TGs → List Nat → Prop
  | nil : GsOk gNil []
  | cons {i : Nat} {g : TGs} {is : List Nat} : GsOk g is → GsOk (gCons (gName i) g) (i :: is)
theorem gs_run {K : PySem.W.Frag} {mg : Str → Option Value} {g : TGs} {is : List Nat} (o : GsOk g is) : ∀ {ec : EC} {C : Fc} {ρ ρ' : Fm} {σ : St} {tm : Tm} {H : Hp} {ds : List D} {vs : List V} {Q : St → Hp → Prop}, Hold K mg ec H C ρ σ ((ds.zip vs).map (fun p => (RV.dt p.1, p.2)) ++ tm) → vs.length = ds.length → LkT ρ tm →
    putAll is ds ρ = some ρ' → (∀ σ', Hold K mg ec H C ρ' σ' tm → Kin ρ ρ' → Q σ' H) → g vs σ H Q := by
  induction o with
  | nil =>
    intro ec C ρ ρ' σ tm H ds vs Q h hl lk hp q
    cases ds with
    | cons d ds => cases hp
    | nil =>
      cases hp
      have e : vs = [] := List.eq_nil_of_length_eq_zero hl
      subst e
      exact ⟨rfl, q _ h Kin.refl⟩
  | @cons i g is o ih =>
    intro ec C ρ ρ' σ tm H ds vs Q h hl lk hp q
    cases ds with
    | nil => cases hp
    | cons d ds =>
      cases vs with
      | nil => cases hl
      | cons v vs =>
        refine ⟨v, vs, rfl, ?_⟩
        cases q1 : putS i (.dt d) ρ with
        | none =>
          unfold putAll at hp
          rw [q1] at hp
          cases hp
        | some ρ1 =>
          unfold putAll at hp
          rw [q1] at hp
          have k1 := put_kin q1
          have lk2 : LkT ρ ((ds.zip vs).map (fun p => (RV.dt p.1, p.2)) ++ tm) := fun j w hm => by
            rcases List.mem_append.mp hm with z | z
            · obtain ⟨p, _, z⟩ := List.mem_map.mp z
              cases z
            · exact lk j w z
          have h1 : Hold K mg ec H C ρ1 (σ.set i (some v)) ((ds.zip vs).map (fun p => (RV.dt p.1, p.2)) ++ tm) := Hold.put (r := .dt d) h lk2 rfl q1
          exact ih h1 (Nat.succ.inj hl) (lk.kin k1) hp fun σ' h2 k2 => q σ' h2 (k1.trans k2)
theorem putAll_len : ∀ {is : List Nat} {ds : List D} {ρ ρ' : Fm}, putAll is ds ρ = some ρ' → is.length = ds.length
  | [], [], _, _, _ => rfl
  | [], _ :: _, _, _, h => by cases h
  | _ :: _, [], _, _, h => by cases h
  | i :: is, d :: ds, ρ, ρ', h => by
    unfold putAll at h
    cases q : putS i (.dt d) ρ with
    | none => rw [q] at h; cases h
    | some ρ1 =>
      rw [q] at h
      rw [List.length_cons, List.length_cons, putAll_len (is := is) h]
theorem tg_tup {K : PySem.W.Frag} {mg : Str → Option Value} {n : Nat} {g : TGs} {is : List Nat} (o : GsOk g is) (hn : is.length = n := by rfl) : TgOk K mg (gTup K n g) (.tp is) := ⟨fun {ec C ρ ρ' σ tm H d v Q} h lk hp q => by
  cases d <;> first | (cases hp; done) | skip
  rename_i ds
  obtain ⟨a, vs, e, hq, r⟩ := h.seq (.head _) (ρ := ρ) rfl rfl
  rcases hq with ⟨z, _⟩ | ⟨_, hq⟩
  · cases z
  · have hl : is.length = ds.length := putAll_len hp
    refine ⟨a, vs, e, hq, by rw [r.len, ← hl, hn], ?_⟩
    have r' : RpL K mg H (Av C.av ρ σ tm) ds vs := RpL.av (fun _ z => .inl z.tail) ds vs r
    obtain ⟨tl, _, e2, h2⟩ := hold_items h.pop r'
    rw [e2] at h2
    exact gs_run o h2 r.len lk hp q⟩
/-- target = e, the value a tuple or any value -/
def sPut (t : Tg) (F : Fm → Out RV) : Fm → SO := fun ρ => (F ρ).sbind fun r ρ => match r with
  | .dt d => match t.put d ρ with
    | some ρ' => .nx ρ'
    | none => .bad
  | _ => .bad
theorem ds_put {tg : Expr} {g : TG} {t : Tg} (ha : DE X W ec a F) (hg : PG X tg g) (ht : TgOk X.K X.mg g t) (hs : swapsWithSole [tg] a pos.line X.env = pure false := by rfl) (hw : swappedStores [tg] a X.env = pure none := by rfl)
    (h1 : (assignEach [tg] X.env).map (·.2) = [assign tg X.env] := by rfl) : DS X W ec (.Assign [tg] a pos) (sPut t F) := (ps_asg ha hg hs hw h1).imp fun E σ H ⟨C, ρ, tm, h, lk, p⟩ =>
  tD_stepS (ts := []) h Kin.refl p fun r ρ1 v H1 h1 k1 p1 => by
    cases r with
    | vw => exact p1.elim
    | fr => exact p1.elim
    | dt d =>
      cases q : t.put d ρ1 with
      | none =>
        simp only [q] at p1
        exact p1.elim
      | some ρ' =>
        simp only [q] at p1
        exact ht.run h1 (lk.kin k1) q fun σ' h2 k2 => p1 σ' H1 h2 (k1.trans k2)
/-- a, b = e1, e2 -/
def setAll : List Nat → List RV → Fm → Option Fm
  | [], [], ρ => some ρ
  | i :: is, r :: rs, ρ => match slOf r with
    | some s => (putS i s ρ).bind (setAll is rs)
    | none => none
  | _, _, _ => none
def sPar (is : List Nat) (A : Fm → Out (List RV)) : Fm → SO := fun ρ => (A ρ).sbind fun rs ρ => match setAll is rs ρ with
  | some ρ' => .nx ρ'
  | none => .bad
/-- o[i] = e, o a list of the frame's own -/
def setIx (i : Nat) (n : Int) (d : D) (ρ : Fm) : Option Fm := match ρ[i]? with
  | some (.ow k ds) => if k ≤ 1 then (ixN ds.length n).map fun j => ρ.set i (.ow k (ds.set j d)) else none
  | _ => none
def sSub (F : Fm → Out RV) (i : Nat) (G : Fm → Out RV) : Fm → SO := fun ρ => (F ρ).sbind fun r ρ => (fV i ρ).sbind fun o ρ => (G ρ).sbind fun s ρ => match toD r, o, s with
  | some d, .vw j, .dt (.int n) => match setIx j n d ρ with
    | some ρ' => .nx ρ'
    | none => .bad
  | _, _, _ => .bad
theorem setIx_inv {i : Nat} {n : Int} {d : D} {ρ ρ' : Fm} (h : setIx i n d ρ = some ρ') : ∃ k ds j, k ≤ 1 ∧ ρ[i]? = some (Sl.ow k ds) ∧ ixN ds.length n = some j ∧ ρ' = ρ.set i (.ow k (ds.set j d)) := by
  unfold setIx at h
  cases q : ρ[i]? with
  | none => rw [q] at h; cases h
  | some s =>
    rw [q] at h
    cases s with
    | un => cases h
    | dt => cases h
    | ex => cases h
    | nw => cases h
    | ow k ds =>
      by_cases hk : k ≤ 1
      · simp only [hk, if_true] at h
        cases q2 : ixN ds.length n with
        | none => rw [q2] at h; cases h
        | some j =>
          rw [q2] at h
          cases h
          exact ⟨k, ds, j, hk, rfl, q2, rfl⟩
      · simp only [hk, if_false] at h
        cases h
theorem ds_sub {i : Nat} {o x : Expr} {pos2 : Pos} (ha : DE X W ec a F) (ho : DE X W ec o (fV i)) (hx : DE X W ec x G)
    (hs : swapsWithSole [.Subscript o x pos2] a pos.line X.env = pure false := by rfl) (hw : swappedStores [.Subscript o x pos2] a X.env = pure none := by rfl)
    (h1 : (assignEach [.Subscript o x pos2] X.env).map (·.2) = [assign (.Subscript o x pos2) X.env] := by rfl)
    (hp : ∀ v, assign (.Subscript o x pos2) X.env v = (do
      let ov ← holding [v] (eval o X.env)
      let iv ← holding [v, ov] (eval x X.env)
      standAt pos2
      holding [v, ov, iv] (setItem ov iv v)
      release [v, ov, iv] []) := by intro _; rfl) : DS X W ec (.Assign [.Subscript o x pos2] a pos) (sSub F i G) :=
  (ps_asg ha (pg_sub ho hx set_list hp) hs hw h1).imp fun E σ H ⟨C, ρ, tm, h, lk, p⟩ => by
  refine tD_stepS (ts := []) h Kin.refl p fun r ρ1 v H1 h1 k1 p1 => ?_
  refine tD_stepS (ts := [(r, v)]) h1 k1 p1 fun o ρ2 ov H2 h2 k2 p2 => ?_
  refine tD_stepS (ts := [(o, ov), (r, v)]) h2 k2 p2 fun s ρ3 sv H3 h3 k3 p3 => ?_
  cases q1 : toD r with
  | none =>
    rw [q1] at p3
    exact p3.elim
  | some d =>
    rw [q1] at p3
    cases o with
    | dt => exact p3.elim
    | fr => exact p3.elim
    | vw j =>
      cases s with
      | vw => exact p3.elim
      | fr => exact p3.elim
      | dt z =>
        cases z <;> first | exact p3.elim | skip
        rename_i n
        dsimp only at p3
        cases q2 : setIx j n d ρ3 with
        | none =>
          rw [q2] at p3
          exact p3.elim
        | some ρ' =>
          rw [q2] at p3
          obtain ⟨k, ds, m, hk, q3, q4, rfl⟩ := setIx_inv q2
          have en : sv = .int n := h3.tmp _ _ (.head _)
          obtain ⟨k', ds', q3', qv⟩ := h3.tmp _ ov (.tail _ (.head _))
          obtain ⟨b, vs, e1, nb, hb, rr⟩ := h3.slot j _ _ q3 qv
          cases e1
          obtain ⟨h4, rd⟩ := h3.pop.pop.settle q1
          have rr' : RpL X.K X.mg H3 (Av C.av ρ3 σ tm) ds vs := RpL.av (fun _ z => .inl z.tail.tail.tail) ds vs rr
          refine ⟨b, vs, n, m, rfl, en, hb, by rw [rr.len]; exact q4, ?_⟩
          have e : Ext (fun c => c = b) H3 (upd H3 b (.lst (vs.set m v))) := Ext.set hb rfl
          have isA : ∀ c, c = b → Av C.av ρ3 σ tm c := fun c z => by
            subst z
            exact .inr (.inl ⟨j, k, ds, q3, qv⟩)
          obtain ⟨h5, k5⟩ := h4.write hk q3 qv e upd_same (RpL.ext e isA _ _ (RpL.set rd m rr'))
          exact p3 σ _ h5 (k3.trans k5)
/-- name op= e, of scalars -/
def sAug (i : Nat) (g : D → D → Option D) (F : Fm → Out RV) : Fm → SO := fun ρ => match ρ[i]? with
  | some (.dt x) => (F ρ).sbind fun r ρ => match r.get ρ with
    | some y => match g x y with
      | some z => match putS i (.dt z) ρ with
        | some ρ' => .nx ρ'
        | none => .bad
      | none => .bad
    | none => .bad
  | _ => .bad
structure Ip2 (t : TIp) (g : D → D → Option D) : Prop where
  run : ∀ {K : PySem.W.Frag} {mg : Str → Option Value} (d e z : D) (x y : V) (H H' : Hp) (Q : VK), Rp K mg H (fun _ => False) d x → Rp K mg H' (fun _ => False) e y → g d e = some z → (∀ v, sv z = some v → Q v H') → t x y H' Q
  sc : ∀ d e z, g d e = some z → ∃ v, sv z = some v
theorem ip2_I {f : Int → Int → Int} : Ip2 (ipI f) (gI fun i j => some (.int (f i j))) where
  run := fun d e z x y H H' Q rx ry q k => by
    obtain ⟨i, j, rfl, rfl, q⟩ := gI_inv q
    cases q
    exact ⟨i, j, rx, ry, k _ rfl⟩
  sc := fun d e z q => by
    obtain ⟨i, j, rfl, rfl, q⟩ := gI_inv q
    cases q
    exact ⟨_, rfl⟩
theorem ds_aug {i : Nat} {x : Str} {op : Operator} {t : TIp} {g : D → D → Option D} {pos' : Pos} (hN : X.N.Nodup) (ho : PIp X op t) (o : Ip2 t g) (ha : DE X W ec a F) (hi : X.N[i]? = some x := by rfl) (hx : Loc X.env.scope x := by first | exact .inl rfl | exact .inr rfl)
    (hf : X.fn x = true ∨ X.env.scope.names.lookup x = some .local := by first | exact .inl rfl | exact .inr rfl | assumption) : DS X W ec (.AugAssign (.Name x pos') op a pos) (sAug i g F) :=
  (ps_aug hN hi hx ha ho hf).imp fun E σ H ⟨C, ρ, tm, h, lk, p⟩ => by
  unfold sAug at p
  cases q : ρ[i]? with
  | none =>
    rw [q] at p
    exact p.elim
  | some s =>
    rw [q] at p
    cases s with
    | un => exact p.elim
    | ow => exact p.elim
    | ex => exact p.elim
    | nw => exact p.elim
    | dt d =>
      have hl : i < σ.length := by
        rw [← h.len]
        exact (List.getElem?_eq_some_iff.mp q).1
      obtain ⟨v, ev, rv⟩ := h.slot i _ _ q (List.getElem?_eq_getElem hl)
      refine ⟨v, by rw [List.getElem?_eq_getElem hl, ev], ?_⟩
      refine tD_stepS (ts := []) h Kin.refl p fun r ρ1 w H1 h1 k1 p1 => ?_
      cases q1 : r.get ρ1 with
      | none =>
        rw [q1] at p1
        exact p1.elim
      | some y =>
        rw [q1] at p1
        dsimp only at p1
        cases q2 : g d y with
        | none =>
          rw [q2] at p1
          exact p1.elim
        | some z =>
          rw [q2] at p1
          dsimp only at p1
          cases q3 : putS i (.dt z) ρ1 with
          | none =>
            rw [q3] at p1
            exact p1.elim
          | some ρ' =>
            rw [q3] at p1
            refine o.run d y z v w H H1 _ (Rp.av (fun _ z => z.elim) d v rv) (h1.get (.head _) q1) q2 fun u hu => ?_
            exact p1 _ H1 (Hold.put (h1.pop.push_sv hu) (lk.kin k1) rfl q3) (k1.trans (put_kin q3))
end
end DL

namespace DL
open PySem L2
open PyProof.Rows (envOfC)

/-! ### a def's promise, where no repr is under way -/
structure FnG (P : Program) (w : World) (K : PySem.W.Frag) (mg : Str → Option Value) (base : Heap) (k : Nat) (f : Addr) (fd : FuncData) (ps : List Str) (sp : Sp) : Prop where
  len : ∀ vs H Q E, sp vs H Q E → vs.length = ps.length
  run : ∀ (A : Around) (outer : List Env) (s : Shared) (H : Hp) (args : Args) (us : List Value) (vs : List V) (Q : VK) (E : XK), A.guards = some [] → Room k A → Env0 P w K mg base A outer s H → BindsTo s fd args (ps.zip us) →
    Vals vs us → sp vs H Q E → codeAny (model P w) A (.call (.ref f) args) (CR (L2.CX P w) outer P w H s Q E) s
theorem FnG.mono {P : Program} {w : World} {K : PySem.W.Frag} {mg : Str → Option Value} {base : Heap} {j k : Nat} {f : Addr} {fd : FuncData} {ps : List Str} {sp : Sp} (F : FnG P w K mg base j f fd ps sp) (h : j ≤ k) : FnG P w K mg base k f fd ps sp :=
  ⟨F.len, fun A outer s H args us vs Q E g hr => F.run A outer s H args us vs Q E g (hr.mono h)⟩
theorem guards_deeper {A : Around} {env : Env} (h : A.guards = some []) : (A.deeper env).guards = some [] := by
  first
    | exact h
    | (simp [Around.deeper, h])
/-- the def's body keeps the promise -/
theorem fnG_of {P : Program} {w : World} {K : PySem.W.Frag} {mg : Str → Option Value} {base : Heap} {x qual : Str} {params : Arguments} {body : List Stmt} {scope : Scope} {dvs : List V} {kws : List (Str × V)} {f : Addr} {fd : FuncData} {N ps : List Str} {k : Nat} {sp : Sp}
    (F : FunD K x qual params body scope dvs kws f fd) (S : FnScope N ps scope) (len : ∀ vs H Q E, sp vs H Q E → vs.length = ps.length)
    (hbody : ∀ (cdv : Value) (A : Around) (outer : List Env) (s : Shared) (H : Hp) (vs : List V) (Q : VK) (E : XK), A.guards = some [] → Room k (A.deeper (envOfC qual scope s.heap.objs.size f cdv)) → sp vs H Q E →
      ∃ t, PSs (cxOf (L2.CX P w) P w K mg base N qual scope f cdv A outer s H E) body t ∧ t { nx := fun _ H' => Q .non H', rt := Q } (L2.start N vs) H) : FnG P w K mg base (k + 1) f fd ps sp := by
  obtain ⟨oc, od, dV, kV, doc, pm, an, cdv, ct, osl, e, look, code, _, _⟩ := F.ex
  subst e
  refine ⟨len, ?_⟩
  intro A outer s H args us vs Q E g hr en hb r hsp
  have hl : vs.length = ps.length := len _ _ _ _ hsp
  have up : ∀ b o, base.get? b = some o → s.heap.get? b = some o := fun b o e => (en.bs b o e).1
  have inK : K.In s.heap := en.mod.kin.keeps up
  have room : s.heap.NoLimit := en.mod.nolimit.keeps up
  have kinds : ∀ y ∈ ps.zip us, scope.names.lookup y.1 = some .local ∨ (scope.names.lookup y.1 = some .cell ∧ ((cellsFrom (s.heap.objs.size + 1) scope.names []).lookup y.1).isSome = true) := by
    rintro ⟨n, v⟩ hy
    exact (S.par n (List.of_mem_zip hy).1).imp id fun q => ⟨q, PySem.W.cellsFrom_some _ _ _ (.inl q)⟩
  refine codeAny_call_function hr.depth (inK _ _ look) rfl S.co S.gen rfl (PySem.W.codeRec_of inK code) (hb _ _ _ _ ?_)
  refine wpAny_newFunctionEnv_cells S.kind kinds ?_
  intro env he s1 z
  subst he
  refine ⟨room.keeps z.toInCall.keep, codeAny_func ?_⟩
  obtain ⟨t, ht, hq⟩ := hbody cdv A outer s H vs Q E g (hr.deeper _) hsp
  have I := inv_start (CX := L2.CX P w) (N := N) (qual := qual) (scope := scope) (f := f) (cd := cdv) (E := E) S hr.hd en hl r z
  refine wpAny_mono (ht.run [] s1 (L2.start N vs) H _ I hq) (fun fl s' hs => ?_) (fun e s' hs => hs)
  cases fl with
  | brk => exact (hs.choose_spec.choose_spec.2 : False).elim
  | cont => exact (hs.choose_spec.choose_spec.2 : False).elim
  | next =>
    obtain ⟨σ', H', J, q⟩ := hs
    exact ⟨V.non, H', J.os, J.bare, J.base, J.hok, rfl, q⟩
  | ret u =>
    obtain ⟨v, σ', H', J, rv, q⟩ := hs
    exact ⟨v, H', J.os, J.bare, J.base, J.hok, rv, q⟩

/-! ### a def as a function on plain data -/
inductive FO where
  | ok (r : RV) (b : List D) | ex (c f : Str) (d : D) (b : List D) | bad
section
variable (K : PySem.W.Frag) (mg : Str → Option Value)
def ioI : Option (Nat × Addr) → Option Nat
  | some x => some x.1
  | none => none
/-- the places to avoid, with the list that is handed in for change -/
def AvP (av : Addr → Prop) (io : Option (Nat × Addr)) (a : Addr) : Prop := av a ∨ IoA io a
def IoR (H : Hp) (av : Addr → Prop) (io : Option (Nat × Addr)) (b : List D) : Prop := ∀ i p, io = some (i, p) → ∃ ws, H p = some (.lst ws) ∧ RpL K mg H (AvP av io) b ws
def RetR (H0 H : Hp) (av : Addr → Prop) (io : Option (Nat × Addr)) (r : RV) (v : V) : Prop := match r with
  | .dt d => Rp K mg H (AvP av io) d v
  | .fr ds => ∃ a ws, v = .ref a ∧ H0 a = none ∧ H a = some (.lst ws) ∧ RpL K mg H (fun c => AvP av io c ∨ c = a) ds ws
  | .vw _ => False
/-- the promise: ioi is the parameter whose list may be changed -/
def spD (ioi : Option Nat) (n : Nat) (F : List D → FO) : Sp := fun vs H Q E => ∃ (av : Addr → Prop) (ds : List D) (io : Option (Nat × Addr)) (b : List D),
  vs.length = n ∧ ds.length = n ∧ (∀ a, av a → H a ≠ none) ∧ ioI io = ioi ∧ (∀ i p, io = some (i, p) → ds[i]? = some (.lst b) ∧ vs[i]? = some (.ref p) ∧ ¬ av p) ∧ IoR K mg H av io b ∧
  (∀ (j : Nat) d v, some j ≠ ioi → ds[j]? = some d → vs[j]? = some v → Rp K mg H (AvP av io) d v) ∧
  match F ds with
  | .ok r b' => ∀ v H', Ext (IoA io) H H' → IoR K mg H' av io b' → RetR K mg H H' av io r v → Q v H'
  | .ex c f d b' => ∀ cl dd v fs H', mg c = some (.ref cl) → H' dd = some (.xd fs) → fs.lookup f = some v → Rp K mg H' (AvP av io) d v → Ext (IoA io) H H' → IoR K mg H' av io b' → E (.ref cl) (some dd) H'
  | .bad => False
end
/-- the slots at the entry -/
def inS : D → Sl
  | .lst b => .ow 1 b
  | d => .dt d
def slots0 (ioi : Option Nat) : Nat → List D → Fm
  | _, [] => []
  | j, d :: ds => (if some j = ioi then inS d else .dt d) :: slots0 ioi (j + 1) ds
def entry (ioi : Option Nat) (m : Nat) (ds : List D) : Fm := slots0 ioi 0 ds ++ List.replicate (m - ds.length) Sl.un
def bagOf (ioi : Option Nat) (ρ : Fm) : List D := match ioi with
  | none => []
  | some i => match ρ[i]? with
    | some (.ow _ b) => b
    | _ => []
def retV : Option Sl → Option RV
  | some (.ow 0 ds) => some (.fr ds)
  | _ => none
def retOf (r : RV) (ρ : Fm) : Option RV := match r with
  | .dt d => some (.dt d)
  | .fr ds => some (.fr ds)
  | .vw i => retV ρ[i]?
/-- the body's function -/
def runF (ioi : Option Nat) (m : Nat) (S : Fm → SO) : List D → FO := fun ds => match S (entry ioi m ds) with
  | .nx ρ => .ok (.dt .non) (bagOf ioi ρ)
  | .rt r ρ => match retOf r ρ with
    | some r => .ok r (bagOf ioi ρ)
    | none => .bad
  | .ex c f d ρ => .ex c f d (bagOf ioi ρ)
  | _ => .bad

theorem slots0_len {ioi : Option Nat} : ∀ {j : Nat} {ds : List D}, (slots0 ioi j ds).length = ds.length
  | _, [] => rfl
  | j, d :: ds => by rw [slots0, List.length_cons, List.length_cons, slots0_len]
theorem slots0_get {ioi : Option Nat} : ∀ {j i : Nat} {ds : List D}, (slots0 ioi j ds)[i]? = ds[i]?.map fun d => if some (j + i) = ioi then inS d else .dt d
  | _, _, [] => by simp [slots0]
  | j, 0, d :: ds => rfl
  | j, i + 1, d :: ds => by
    rw [slots0, List.getElem?_cons_succ, List.getElem?_cons_succ, slots0_get, show j + 1 + i = j + (i + 1) by omega]
theorem entry_get {ioi : Option Nat} {m i : Nat} {ds : List D} {s : Sl} (h : (entry ioi m ds)[i]? = some s) : s = .un ∨ ∃ d, ds[i]? = some d ∧ s = if some i = ioi then inS d else .dt d := by
  unfold entry at h
  by_cases hi : i < (slots0 ioi 0 ds).length
  · rw [List.getElem?_append_left hi, slots0_get] at h
    right
    cases q : ds[i]? with
    | none => rw [q] at h; cases h
    | some d =>
      rw [q] at h
      simp only [Option.map_some, Option.some.injEq, Nat.zero_add] at h
      exact ⟨d, rfl, h.symm⟩
  · rw [List.getElem?_append_right (Nat.le_of_not_lt hi), List.getElem?_replicate] at h
    split at h
    · cases h
      exact .inl rfl
    · cases h
theorem start_get {N : List Str} {vs : List V} {i : Nat} {o : Option V} (h : (L2.start N vs)[i]? = some o) : (o = none ∧ vs[i]? = none) ∨ ∃ v, vs[i]? = some v ∧ o = some v := by
  unfold L2.start at h
  by_cases hi : i < vs.length
  · rw [List.getElem?_append_left (by simpa using hi), List.getElem?_map, List.getElem?_eq_getElem hi] at h
    cases h
    exact .inr ⟨_, List.getElem?_eq_getElem hi, rfl⟩
  · rw [List.getElem?_append_right (by simpa using hi), List.getElem?_replicate] at h
    split at h
    · cases h
      exact .inl ⟨rfl, List.getElem?_eq_none (Nat.le_of_not_lt hi)⟩
    · cases h
theorem hold_entry {K : PySem.W.Frag} {mg : Str → Option Value} {N : List Str} {vs : List V} {ds : List D} {H : Hp} {av : Addr → Prop} {io : Option (Nat × Addr)} {b : List D} (hN : vs.length ≤ N.length) (hd : ds.length = vs.length) (hav : ∀ a, av a → H a ≠ none)
    (hio : ∀ i p, io = some (i, p) → ds[i]? = some (.lst b) ∧ vs[i]? = some (.ref p) ∧ ¬ av p) (hb : IoR K mg H av io b) (hv : ∀ (j : Nat) d v, some j ≠ ioI io → ds[j]? = some d → vs[j]? = some v → Rp K mg H (AvP av io) d v) :
    Hold K mg noEC H ⟨H, io, av⟩ (entry (ioI io) N.length ds) (L2.start N vs) [] := by
  have own1 : ∀ (i k : Nat) es a, (entry (ioI io) N.length ds)[i]? = some (Sl.ow k es) → (L2.start N vs)[i]? = some (some (V.ref a)) → k = 1 ∧ io = some (i, a) ∧ es = b := by
    intro i k es a h1 h2
    rcases entry_get h1 with z | ⟨d, q1, q2⟩
    · cases z
    · by_cases hi : some i = ioI io
      · rw [if_pos hi] at q2
        cases hq : io with
        | none => rw [hq] at hi; cases hi
        | some x =>
          obtain ⟨i', p⟩ := x
          rw [hq] at hi
          have hi' : i = i' := Option.some.inj hi
          subst hi'
          obtain ⟨z1, z2, z3⟩ := hio _ _ hq
          rw [q1] at z1
          cases z1
          cases q2
          rcases start_get h2 with ⟨z, _⟩ | ⟨v, z4, z5⟩
          · cases z
          · cases z5
            rw [z2] at z4
            cases z4
            exact ⟨rfl, rfl, rfl⟩
      · rw [if_neg hi] at q2
        cases q2
  have less : ∀ a, Av av (entry (ioI io) N.length ds) (L2.start N vs) [] a → AvP av io a := fun a z => by
    rcases z with z | ⟨i, k, es, z1, z2⟩ | ⟨_, z⟩
    · exact .inl z
    · exact .inr ⟨i, (own1 i k es a z1 z2).2.1⟩
    · cases z
  refine ⟨?_, hav, Ext.refl, fun i p q => ?_, fun i k es a h1 h2 => .inl ⟨(own1 i k es a h1 h2).1, (own1 i k es a h1 h2).2.1⟩, fun i s o h1 h2 => ?_, fun i j k k' es es' a h1 h2 h3 h4 => ?_, fun _ _ hm => (nomatch hm), List.Pairwise.nil⟩
  · unfold entry L2.start
    rw [List.length_append, List.length_append, slots0_len, List.length_replicate, List.length_map, List.length_replicate, hd]
  · obtain ⟨z1, z2, z3⟩ := hio i p q
    have hi : i < ds.length := (List.getElem?_eq_some_iff.mp z1).1
    refine ⟨b, ?_, ?_⟩
    · unfold entry
      rw [List.getElem?_append_left (by rw [slots0_len]; exact hi), slots0_get, z1]
      have q' : io = some (i, p) := q
      simp [q', inS, ioI]
    · unfold L2.start
      rw [List.getElem?_append_left (by rw [List.length_map, ← hd]; exact hi), List.getElem?_map, z2]
      rfl
  · rcases entry_get h1 with rfl | ⟨d, q1, q2⟩
    · trivial
    · have hi : i < vs.length := by
        rw [← hd]
        exact (List.getElem?_eq_some_iff.mp q1).1
      rcases start_get h2 with ⟨_, z⟩ | ⟨v, z4, rfl⟩
      · rw [List.getElem?_eq_getElem hi] at z
        cases z
      · by_cases hi : some i = ioI io
        · rw [if_pos hi] at q2
          cases hq : io with
          | none => rw [hq] at hi; cases hi
          | some x =>
            obtain ⟨i', p⟩ := x
            rw [hq] at hi
            have hi' : i = i' := Option.some.inj hi
            subst hi'
            obtain ⟨z1, z2, z3⟩ := hio _ _ hq
            rw [q1] at z1
            cases z1
            subst q2
            rw [z2] at z4
            cases z4
            obtain ⟨ws, w1, w2⟩ := hb _ _ hq
            subst hq
            exact ⟨p, ws, rfl, z3, w1, RpL.av (fun a z => .inl (less a z)) b ws w2⟩
        · rw [if_neg hi] at q2
          subst q2
          exact ⟨v, rfl, Rp.av (fun a z => .inl (less a z)) d v (hv i d v hi q1 z4)⟩
  · have e1 := (own1 i k es a h1 h3).2.1
    have e2 := (own1 j k' es' a h2 h4).2.1
    rw [e1] at e2
    cases e2
    rfl
/-- THE RULE: a def of the text keeps the promise of its body's function -/
theorem fnD {P : Program} {w : World} {K : PySem.W.Frag} {mg : Str → Option Value} {base : Heap} {x qual : Str} {params : Arguments} {body : List Stmt} {scope : Scope} {dvs : List V} {kws : List (Str × V)} {f : Addr} {fd : FuncData} {N ps : List Str} {k : Nat} {ioi : Option Nat} {S : Fm → SO}
    (F : FunD K x qual params body scope dvs kws f fd) (Sc : FnScope N ps scope)
    (hbody : ∀ (cdv : Value) (A : Around) (outer : List Env) (s : Shared) (H : Hp) (E : XK), A.guards = some [] → Room k (A.deeper (envOfC qual scope s.heap.objs.size f cdv)) →
      DSs (cxOf (L2.CX P w) P w K mg base N qual scope f cdv A outer s H E) (fun cls d _ H' => E cls d H') noEC body S) : FnG P w K mg base (k + 1) f fd ps (spD K mg ioi ps.length (runF ioi N.length S)) := by
  refine fnG_of F Sc (fun vs H Q E h => ?_) fun cdv A outer s H vs Q E g hr h => ?_
  · obtain ⟨_, _, _, _, e, _⟩ := h
    exact e
  · obtain ⟨av, ds, io, b, h1, h2, h3, h4, h5, h6, h7, h8⟩ := h
    subst h4
    have hN : vs.length ≤ N.length := by
      have q := congrArg List.length Sc.pre
      rw [List.length_take] at q
      omega
    refine ⟨_, hbody cdv A outer s H E g hr, Fc.mk H io av, entry (ioI io) N.length ds, [], hold_entry (K := K) (mg := mg) (b := b) hN (h2.trans h1.symm) h3 h5 h6 h7, fun i v hm => (nomatch hm), ?_⟩
    show FinS K mg (fun cls d _ H' => E cls d H') noEC (Fc.mk H io av) _ [] (S (entry (ioI io) N.length ds)) _
    unfold runF at h8
    have less : ∀ {ρ : Fm} {σ : St} {H' : Hp} {tm : Tm}, Hold K mg noEC H' ⟨H, io, av⟩ ρ σ tm → ∀ a, AvP av io a → Av av ρ σ tm a := fun {ρ σ H' tm} hh a z => by
      rcases z with z | ⟨i, z⟩
      · exact .inl z
      · obtain ⟨es, q1, q2⟩ := hh.io i a z
        exact .inr (.inl ⟨i, 1, es, q1, q2⟩)
    have bag : ∀ {ρ : Fm} {σ : St} {H' : Hp} {tm : Tm}, Hold K mg noEC H' ⟨H, io, av⟩ ρ σ tm → IoR K mg H' av io (bagOf (ioI io) ρ) := fun {ρ σ H' tm} hh i p q => by
      obtain ⟨es, q1, q2⟩ := hh.io i p q
      obtain ⟨a, ws, e, n, ha, r⟩ := hh.slot i _ _ q1 q2
      cases e
      have eb : bagOf (ioI io) ρ = es := by
        rw [q]
        show (match ρ[i]? with | some (.ow _ b) => b | _ => []) = es
        rw [q1]
      rw [eb]
      exact ⟨ws, ha, RpL.av (fun a z => .inl (less hh a z)) es ws r⟩
    cases q : S (entry (ioI io) N.length ds) with
    | bad => rw [q] at h8; exact h8.elim
    | bk => rw [q] at h8; exact h8.elim
    | ct => rw [q] at h8; exact h8.elim
    | nx ρ =>
      rw [q] at h8
      exact fun σ H' hh _ => h8 .non H' hh.ext (bag hh) rfl
    | ex c f' d ρ =>
      rw [q] at h8
      exact fun cl dd v fs σ H' q1 q2 q3 q4 hh _ => h8 cl dd v fs H' q1 q2 q3 (Rp.av (fun a z => .inl (less hh a z)) d v q4) hh.ext (bag hh)
    | rt r ρ =>
      rw [q] at h8
      dsimp only at h8
      intro v σ H' hh _
      cases q1 : retOf r ρ with
      | none => rw [q1] at h8; exact h8.elim
      | some r' =>
        rw [q1] at h8
        refine h8 v H' hh.ext (bag hh) ?_
        have z := hh.tmp r v (.head _)
        cases r with
        | dt d =>
          cases q1
          exact Rp.av (fun a z => .inl (less hh a z)) d v z
        | fr es =>
          cases q1
          obtain ⟨a, ws, e, n1, n2, n3, ha, z⟩ := z
          exact ⟨a, ws, e, n3, ha, RpL.av (fun c w => .inl (w.elim (less hh c) fun y => by
            subst y e
            exact .inr (.inr ⟨es, .head _⟩))) es ws z⟩
        | vw i =>
          obtain ⟨k', es, z1, z2⟩ := z
          have q1 : retV ρ[i]? = some r' := q1
          rw [z1] at q1
          cases k' with
          | succ k' => cases q1
          | zero =>
            cases q1
            obtain ⟨a, ws, e, n, ha, rr⟩ := hh.slot i _ _ z1 z2
            cases e
            rcases hh.one i 0 es a z1 z2 with ⟨y, _⟩ | ⟨_, y⟩
            · cases y
            · exact ⟨a, ws, rfl, y, ha, RpL.av (fun c w => .inl (w.elim (less hh c) fun y => by
                subst y
                exact .inr (.inl ⟨i, 0, es, z1, z2⟩))) es ws rr⟩
end DL

namespace DL
open PySem L2
open PyProof.Rows (envOfC)

section
variable {K : PySem.W.Frag} {mg : Str → Option Value} {W : WX} {ec : EC} {C : Fc} {ρ ρ0 ρ1 ρ2 ρ' : Fm} {σ σ0 σ1 : St} {tm ts : Tm} {H H' H0 H1 : Hp} {Q : VK}
/-- the newest result, a new list, is filled -/
theorem Hold.fill {es ds : List D} {a : Addr} {ws : List V} (h : Hold K mg ec H C ρ σ ((.fr es, .ref a) :: tm)) (e : Ext (fun b => b = a) H H') (ha : H' a = some (.lst ws))
    (rr : RpL K mg H' (Av C.av ρ σ ((.fr es, .ref a) :: tm)) ds ws) : Hold K mg ec H' C ρ σ ((.fr ds, .ref a) :: tm) := by
  obtain ⟨a', vs0, e0, na, no, nh, ha0, _⟩ := h.tmp _ _ (.head _)
  cases e0
  have same : ∀ b, Av C.av ρ σ ((.fr ds, .ref a) :: tm) b → Av C.av ρ σ ((.fr es, .ref a) :: tm) b ∨ H' b = none := fun b z => by
    rcases z with z | z | ⟨fs, z⟩
    · exact .inl (.inl z)
    · exact .inl (.inr (.inl z))
    · rcases List.mem_cons.mp z with w | w
      · cases w
        exact .inl (.inr (.inr ⟨es, .head _⟩))
      · exact .inl (.inr (.inr ⟨fs, .tail _ w⟩))
  have isA : ∀ b, b = a → Av C.av ρ σ ((.fr es, .ref a) :: tm) b := fun b z => by
    subst z
    exact .inr (.inr ⟨es, .head _⟩)
  refine ⟨h.len, fun b z => e.isSome (h.avt b z), ?_, h.io, h.one, fun j t o w1 w2 => ?_, h.inj, fun r v hm => ?_, List.pairwise_cons.mpr ⟨fun y hy fs gs b z1 z2 => ?_, (List.pairwise_cons.mp h.sep).2⟩⟩
  · intro b o hb
    rcases h.ext b o hb with ⟨x1, x2, vs, x3⟩ | x
    · rcases e b _ x3 with ⟨_, _, y⟩ | y
      · exact .inl ⟨x1, x2, y⟩
      · exact .inl ⟨x1, x2, _, y⟩
    · rcases e b _ x with ⟨y1, y2, y3⟩ | y
      · subst y1
        rw [hb] at nh
        cases nh
      · exact .inr y
  · refine (h.slot j t o w1 w2).imp e isA same (fun _ z => z) fun k' fs b vs y1 y2 y3 => ?_
    subst y1 y2
    rcases e b _ y3 with ⟨y, _⟩ | y
    · subst y
      exact absurd ⟨j, k', fs, w1, w2⟩ no
    · exact y
  · rcases List.mem_cons.mp hm with w | hm
    · cases w
      exact ⟨a, ws, rfl, na, no, nh, ha, RpL.av same ds ws rr⟩
    · have z := h.tmp r v (.tail _ hm)
      have hm0 := hm
      cases r with
      | dt d => exact Rp.av same d v (Rp.ext e isA d v z)
      | vw j => exact z
      | fr fs =>
        obtain ⟨b, vs, rfl, n1, n2, n3, hb, z⟩ := z
        refine ⟨b, vs, rfl, n1, n2, n3, ?_, RpL.av same fs vs (RpL.ext e isA fs vs z)⟩
        rcases e b _ hb with ⟨y, _⟩ | y
        · subst y
          exact ((List.pairwise_cons.mp h.sep).1 (RV.fr fs, V.ref b) hm0 es fs b rfl rfl).elim
        · exact y
  · cases z1
    subst z2
    exact (List.pairwise_cons.mp h.sep).1 _ hy es gs a rfl rfl
/-- the order of the results does not matter -/
theorem Hold.perm {tm' : Tm} (h : Hold K mg ec H C ρ σ tm) (p : tm'.Perm tm) : Hold K mg ec H C ρ σ tm' := by
  have hk : ∀ a, FrA tm' a → FrA tm a ∨ H a = none := fun a ⟨ds, q⟩ => .inl ⟨ds, p.mem_iff.mp q⟩
  refine h.stack hk (fun r v hm => (h.tmp r v (p.mem_iff.mp hm)).imp fun a q => Av.of hk q) ?_
  refine (p.pairwise_iff (fun {x y} z ds es a e1 e2 => z es ds a e2 e1)).mpr h.sep
theorem stk_perm : ∀ (rs : List RV) (vs : List V) (tm : Tm), (stk rs vs tm).Perm (rs.zip vs ++ tm)
  | [], vs, tm => by cases vs <;> exact .refl _
  | r :: rs, [], tm => .refl _
  | r :: rs, v :: vs, tm => by
    show (stk rs vs ((r, v) :: tm)).Perm ((r, v) :: (rs.zip vs ++ tm))
    exact (stk_perm rs vs ((r, v) :: tm)).trans List.perm_middle
/-- what is handed in for a call, the caller's list at place ioi -/
def argD (ρ : Fm) (io : Bool) (r : RV) : Option D := if io then (match r with
    | .vw i => match ρ[i]? with
      | some (.ow k b) => if k ≤ 1 then some (.lst b) else none
      | _ => none
    | _ => none) else r.get ρ
def argDs (ρ : Fm) (ioi : Option Nat) : Nat → List RV → Option (List D)
  | _, [] => some []
  | j, r :: rs => match argD ρ (ioi == some j) r, argDs ρ ioi (j + 1) rs with
    | some d, some ds => some (d :: ds)
    | _, _ => none
/-- the slot whose list is handed in for change -/
def ioSlot (ioi : Option Nat) (rs : List RV) : Option Nat := match ioi with
  | none => none
  | some j => match rs[j]? with
    | some (.vw i) => some i
    | _ => none
/-- the slots whose lists are looked at by the callee -/
def views (ioi : Option Nat) : Nat → List RV → List Nat
  | _, [] => []
  | j, .vw i :: rs => if ioi == some j then views ioi (j + 1) rs else i :: views ioi (j + 1) rs
  | j, _ :: rs => views ioi (j + 1) rs
def setIo (io : Option Nat) (b : List D) (ρ : Fm) : Fm := match io with
  | none => ρ
  | some i => match ρ[i]? with
    | some (.ow k _) => ρ.set i (.ow k b)
    | _ => ρ
def rvNoL : RV → Bool
  | .dt d => noL d
  | .fr ds => noLs ds
  | .vw _ => false
def isVw : RV → Bool
  | .vw _ => true
  | _ => false
def callF (ioi : Option Nat) (F : List D → FO) (dds : List D) (rs : List RV) (ρ : Fm) : Out RV := match argDs ρ ioi 0 rs with
  | none => .bad
  | some ds =>
    if (views ioi 0 rs).any (fun i => ioSlot ioi rs == some i) then .bad else
    match F (ds ++ dds) with
    | .ok r b => if isVw r || !noLs b || (!(views ioi 0 rs).isEmpty && !rvNoL r) then .bad else .ok r (setIo (ioSlot ioi rs) b ρ)
    | .ex c f d b => if !noLs b || (!(views ioi 0 rs).isEmpty && !noL d) then .bad else .ex c f d (setIo (ioSlot ioi rs) b ρ)
    | .bad => .bad

theorem argDs_get {ioi : Option Nat} : ∀ {j : Nat} {rs : List RV} {ds : List D}, argDs ρ ioi j rs = some ds → ds.length = rs.length ∧ ∀ (i : Nat) r, rs[i]? = some r → ∃ d, ds[i]? = some d ∧ argD ρ (ioi == some (j + i)) r = some d
  | j, [], ds, h => by
    cases h
    exact ⟨rfl, fun i r q => by simp at q⟩
  | j, r :: rs, ds, h => by
    unfold argDs at h
    cases q1 : argD ρ (ioi == some j) r with
    | none => rw [q1] at h; cases h
    | some d =>
      cases q2 : argDs ρ ioi (j + 1) rs with
      | none => rw [q1, q2] at h; cases h
      | some es =>
        rw [q1, q2] at h
        cases h
        obtain ⟨l, g⟩ := argDs_get q2
        refine ⟨by rw [List.length_cons, List.length_cons, l], fun i r' q => ?_⟩
        cases i with
        | zero =>
          cases q
          exact ⟨d, rfl, q1⟩
        | succ i =>
          obtain ⟨d', z1, z2⟩ := g i r' (by simpa using q)
          exact ⟨d', by simpa using z1, by rw [show j + (i + 1) = j + 1 + i by omega]; exact z2⟩
theorem views_mem {ioi : Option Nat} {x : Nat} : ∀ {j : Nat} {rs : List RV} (i : Nat), rs[i]? = some (RV.vw x) → ioi ≠ some (j + i) → x ∈ views ioi j rs
  | j, [], i, h, _ => by simp at h
  | j, r :: rs, 0, h, n => by
    have e : r = .vw x := by simpa using h
    subst e
    have nb : (ioi == some j) = false := by simpa using n
    simp [views, nb]
  | j, r :: rs, i + 1, h, n => by
    have h' : rs[i]? = some (RV.vw x) := by simpa using h
    have q := views_mem (j := j + 1) i h' (by rw [show j + 1 + i = j + (i + 1) by omega]; exact n)
    cases r with
    | dt d => exact q
    | fr d => exact q
    | vw y =>
      unfold views
      split
      · exact q
      · exact .tail _ q
def ioSet (io : Option (Nat × Addr)) (i : Nat) (s : Sl) (ρ : Fm) : Fm := match io with
  | none => ρ
  | some _ => ρ.set i s
theorem views_inv {ioi : Option Nat} {x : Nat} : ∀ {j : Nat} {rs : List RV}, x ∈ views ioi j rs → ∃ i : Nat, rs[i]? = some (RV.vw x)
  | j, [], h => by cases h
  | j, .dt d :: rs, h => let ⟨i, q⟩ := views_inv (j := j + 1) (rs := rs) h; ⟨i + 1, by simpa using q⟩
  | j, .fr d :: rs, h => let ⟨i, q⟩ := views_inv (j := j + 1) (rs := rs) h; ⟨i + 1, by simpa using q⟩
  | j, .vw y :: rs, h => by
    unfold views at h
    split at h
    · obtain ⟨i, q⟩ := views_inv (j := j + 1) (rs := rs) h
      exact ⟨i + 1, by simpa using q⟩
    · rcases List.mem_cons.mp h with e | h
      · exact ⟨0, by rw [e]; rfl⟩
      · obtain ⟨i, q⟩ := views_inv (j := j + 1) (rs := rs) h
        exact ⟨i + 1, by simpa using q⟩
/-- behind a call: from the state ahead of it (the arguments let go) -/
theorem Hold.called {io : Option (Nat × Addr)} {i k : Nat} {b0 b : List D} {av' : Addr → Prop} (h : Hold K mg ec H C ρ σ tm) (Vw : Addr → Prop)
    (hav : ∀ a, Av C.av ρ σ tm a → av' a ∨ IoA io a ∨ Vw a)
    (hio : ∀ j p, io = some (j, p) → k ≤ 1 ∧ ρ[i]? = some (Sl.ow k b0) ∧ σ[i]? = some (some (V.ref p)))
    (e : Ext (IoA io) H H') (hb : IoR K mg H' av' io b) (hB : noLs b = true) :
    Hold K mg ec H' C (ioSet io i (Sl.ow k b) ρ) σ tm ∧ Kin ρ (ioSet io i (Sl.ow k b) ρ) := by
  cases io with
  | none => exact ⟨h.grow (e.mono fun c ⟨_, z⟩ => by cases z), Kin.refl⟩
  | some x =>
    obtain ⟨j, p⟩ := x
    obtain ⟨hk, q1, q2⟩ := hio j p rfl
    obtain ⟨ws, w1, w2⟩ := hb j p rfl
    have e' : Ext (fun c => c = p) H H' := e.mono fun c ⟨_, z⟩ => by cases z; rfl
    exact h.write hk q1 q2 e' w1 (RpL.noL b ws hB w2)
/-- .. and its result -/
theorem Hold.result {io : Option (Nat × Addr)} {i k : Nat} {b0 b : List D} {av' : Addr → Prop} {r : RV} {v : V} (h : Hold K mg ec H C ρ σ tm) (Vw : Addr → Prop)
    (hav : ∀ a, Av C.av ρ σ tm a → av' a ∨ IoA io a ∨ Vw a)
    (hio : ∀ j p, io = some (j, p) → k ≤ 1 ∧ ρ[i]? = some (Sl.ow k b0) ∧ σ[i]? = some (some (V.ref p)))
    (e : Ext (IoA io) H H') (hb : IoR K mg H' av' io b) (hr : RetR K mg H H' av' io r v) (hV : (∃ a, Vw a) → rvNoL r = true) (hB : noLs b = true) :
    Hold K mg ec H' C (ioSet io i (Sl.ow k b) ρ) σ ((r, v) :: tm) ∧ Kin ρ (ioSet io i (Sl.ow k b) ρ) := by
  obtain ⟨h1, k1⟩ := h.called Vw hav hio e hb hB
  refine ⟨?_, k1⟩
  have avEq : ∀ a, Av C.av (ioSet io i (Sl.ow k b) ρ) σ tm a → Av C.av ρ σ tm a := fun a z => by
    cases io with
    | none => exact z
    | some x =>
      obtain ⟨j, p⟩ := x
      obtain ⟨hk, q1, q2⟩ := hio j p rfl
      rcases z with z | ⟨m, k', fs, z1, z2⟩ | z
      · exact .inl z
      · by_cases ne : i = m
        · subst ne
          exact .inr (.inl ⟨i, k, b0, q1, z2⟩)
        · have z1' : (ρ.set i (Sl.ow k b))[m]? = some (Sl.ow k' fs) := z1
          rw [List.getElem?_set_ne ne] at z1'
          exact .inr (.inl ⟨m, k', fs, z1', z2⟩)
      · exact .inr (.inr z)
  cases r with
  | vw j => exact hr.elim
  | dt d =>
    refine h1.push_dt ?_
    by_cases hv : ∃ a, Vw a
    · exact Rp.noL d v (hV hv) hr
    · refine Rp.av (fun a z => .inl ?_) d v hr
      rcases hav a (avEq a z) with y | y | y
      · exact .inl y
      · exact .inr y
      · exact absurd ⟨a, y⟩ hv
  | fr ds =>
    obtain ⟨a, ws, rfl, na, ha, rr⟩ := hr
    -- the list is laid empty, filled, then the caller's list is changed
    have g1 : Hold K mg ec (upd H a (.lst [])) C ρ σ ((.fr [], .ref a) :: tm) := h.push_fr na rfl
    have rr' : RpL K mg H' (Av C.av ρ σ ((.fr [], .ref a) :: tm)) ds ws := by
      by_cases hv : ∃ a, Vw a
      · exact RpL.noL ds ws (hV hv) rr
      · refine RpL.av (fun c z => .inl ?_) ds ws rr
        have z' : Av C.av ρ σ tm c ∨ c = a := by
          rcases z with z | z | z
          · exact .inl (.inl z)
          · exact .inl (.inr (.inl z))
          · rcases FrA.cons_fr.mp z with z | z
            · exact .inr z
            · exact .inl (.inr (.inr z))
        rcases z' with z | z
        · rcases hav c z with y | y | y
          · exact .inl (.inl y)
          · exact .inl (.inr y)
          · exact absurd ⟨c, y⟩ hv
        · exact .inr z
    cases io with
    | none =>
      have e2 : Ext (fun c => c = a) (upd H a (.lst [])) H' := fun c o hc => by
        by_cases hca : c = a
        · subst hca
          rw [upd_same] at hc
          cases hc
          exact .inl ⟨rfl, ⟨_, rfl⟩, _, ha⟩
        · rw [upd_ne hca] at hc
          rcases e c o hc with ⟨⟨_, z⟩, _⟩ | z
          · cases z
          · exact .inr z
      exact g1.fill e2 ha rr'
    | some x =>
      obtain ⟨j, p⟩ := x
      obtain ⟨hk, q1, q2⟩ := hio j p rfl
      obtain ⟨us, w1, w2⟩ := hb j p rfl
      obtain ⟨p', vs, ep, np, hp, _⟩ := h.slot i _ _ q1 q2
      cases ep
      have nap : a ≠ p := fun z => by
        subst z
        rw [na] at hp
        cases hp
      have ha2 : (upd H' p (.lst vs)) a = some (.lst ws) := by
        rw [upd_ne nap]
        exact ha
      have e2 : Ext (fun c => c = a) (upd H a (.lst [])) (upd H' p (.lst vs)) := fun c o hc => by
        by_cases hca : c = a
        · subst hca
          rw [upd_same] at hc
          cases hc
          exact .inl ⟨rfl, ⟨_, rfl⟩, _, ha2⟩
        · rw [upd_ne hca] at hc
          by_cases hcp : c = p
          · subst hcp
            rw [hp] at hc
            cases hc
            exact .inr upd_same
          · rw [upd_ne hcp]
            rcases e c o hc with ⟨⟨_, z⟩, _⟩ | z
            · cases z
              exact absurd rfl hcp
            · exact .inr z
      have e3 : Ext (fun c => c = p) H' (upd H' p (.lst vs)) := Ext.set w1 rfl
      have isP : ∀ c, c = p → Av C.av ρ σ ((.fr [], .ref a) :: tm) c := fun c z => by
        subst z
        exact .inr (.inl ⟨i, k, b0, q1, q2⟩)
      have g2 : Hold K mg ec (upd H' p (.lst vs)) C ρ σ ((.fr ds, .ref a) :: tm) := g1.fill e2 ha2 (RpL.ext e3 isP ds ws rr')
      have e4 : Ext (fun c => c = p) (upd H' p (.lst vs)) H' := fun c o hc => by
        by_cases hcp : c = p
        · subst hcp
          rw [upd_same] at hc
          cases hc
          exact .inl ⟨rfl, ⟨_, rfl⟩, _, w1⟩
        · rw [upd_ne hcp] at hc
          exact .inr hc
      have rb : RpL K mg H' (Av C.av ρ σ ((.fr ds, .ref a) :: tm)) b us := RpL.noL b us hB w2
      exact (g2.write hk q1 q2 e4 w1 rb).1
theorem Hold.sub {tm' : Tm} (h : Hold K mg ec H C ρ σ tm) (p : tm'.Sublist tm) : Hold K mg ec H C ρ σ tm' := by
  have hk : ∀ a, FrA tm' a → FrA tm a ∨ H a = none := fun a ⟨ds, q⟩ => .inl ⟨ds, p.subset q⟩
  exact h.stack hk (fun r v hm => (h.tmp r v (p.subset hm)).imp fun a q => Av.of hk q) (h.sep.sublist p)
theorem zip_get {α β : Type} : ∀ {xs : List α} {ys : List β} {j : Nat} {x : α} {y : β}, xs[j]? = some x → ys[j]? = some y → (xs.zip ys)[j]? = some (x, y) := fun {xs ys j x y} h1 h2 => by
  rw [List.getElem?_zip_eq_some]
  exact ⟨h1, h2⟩
/-- a call keeps what the callee's promise asks -/
theorem callF_sp {ioi : Option Nat} {F : List D → FO} {dds : List D} {rs : List RV} {vs dvs : List V} (hl : vs.length = rs.length) (hj : ∀ j, ioi = some j → j < rs.length) (h : Hold K mg ec H C ρ σ (stk rs vs tm)) (k0 : Kin ρ0 ρ)
    (hd : ∀ A, RpL K mg H A dds dvs) (p : Fin K mg W ec C ρ0 σ tm (callF ioi F dds rs ρ) Q) : spD K mg ioi (rs.length + dds.length) F (vs ++ dvs) H Q (fun cls d H' => W cls d σ H') := by
  have hz : Hold K mg ec H C ρ σ (rs.zip vs ++ tm) := h.perm (stk_perm rs vs tm).symm
  have h0 : Hold K mg ec H C ρ σ tm := hz.pops
  have one : ∀ {j : Nat} {r : RV} {v : V}, rs[j]? = some r → vs[j]? = some v → Hold K mg ec H C ρ σ ((r, v) :: tm) := fun {j r v} q1 q2 => by
    have hm : (r, v) ∈ rs.zip vs := List.mem_of_getElem? (zip_get q1 q2)
    exact hz.sub ((List.singleton_sublist.mpr hm).append (List.Sublist.refl tm))
  unfold callF at p
  cases qa : argDs ρ ioi 0 rs with
  | none => rw [qa] at p; exact p.elim
  | some ds =>
    rw [qa] at p
    dsimp only at p
    obtain ⟨hdl, hget⟩ := argDs_get qa
    by_cases hvw : ((views ioi 0 rs).any fun i => ioSlot ioi rs == some i) = true
    · rw [if_pos hvw] at p
      exact p.elim
    · rw [if_neg hvw] at p
      -- the list that is handed in
      have dn : dvs.length = dds.length := (hd fun _ => False).len
      have hio : ∃ (io : Option (Nat × Addr)) (i k : Nat) (b : List D), ioI io = ioi ∧ (∀ j q, io = some (j, q) → ds[j]? = some (.lst b) ∧ vs[j]? = some (.ref q) ∧ k ≤ 1 ∧ ρ[i]? = some (Sl.ow k b) ∧ σ[i]? = some (some (V.ref q)) ∧ ioSlot ioi rs = some i) ∧
          (∀ b', setIo (ioSlot ioi rs) b' ρ = ioSet io i (.ow k b') ρ) := by
        cases ioi with
        | none => exact ⟨none, 0, 0, [], rfl, fun j q e => (nomatch e), fun b' => rfl⟩
        | some j =>
          have hlt := hj j rfl
          obtain ⟨d, z1, z2⟩ := hget j _ (List.getElem?_eq_getElem hlt)
          have z3 : (some j == some (0 + j)) = true := by simp
          unfold argD at z2
          rw [z3, if_pos rfl] at z2
          cases qr : rs[j] with
          | dt d => rw [qr] at z2; cases z2
          | fr d => rw [qr] at z2; cases z2
          | vw i =>
            rw [qr] at z2
            dsimp only at z2
            have es : ioSlot (some j) rs = some i := by
              show (match rs[j]? with | some (RV.vw i) => some i | _ => none) = some i
              rw [List.getElem?_eq_getElem hlt, qr]
            cases qs : ρ[i]? with
            | none => rw [qs] at z2; cases z2
            | some s =>
              rw [qs] at z2
              cases s with
              | un => cases z2
              | dt => cases z2
              | ex => cases z2
              | nw => cases z2
              | ow k b =>
                by_cases hk : k ≤ 1
                · simp only [hk, if_true] at z2
                  cases z2
                  have hlv : j < vs.length := by rw [hl]; exact hlt
                  obtain ⟨k', b', w1, w2⟩ := (one (List.getElem?_eq_getElem hlt) (List.getElem?_eq_getElem hlv)).tmp _ _ (by rw [qr]; exact .head _)
                  obtain ⟨a, ws, w3, _⟩ := h0.slot i _ _ w1 w2
                  refine ⟨some (j, a), i, k, b, rfl, fun j' q e => ?_, fun b' => ?_⟩
                  · cases e
                    have w3' : vs[j] = .ref a := Option.some.inj w3
                    exact ⟨z1, by rw [List.getElem?_eq_getElem hlv, w3'], hk, qs, by rw [w2, w3'], es⟩
                  · rw [es]
                    show (match ρ[i]? with | some (.ow k _) => ρ.set i (.ow k b') | _ => ρ) = ρ.set i (Sl.ow k b')
                    rw [qs]
                · simp only [hk, if_false] at z2
                  cases z2
      obtain ⟨io, i, k, b, hioi, hio1, hset⟩ := hio
      -- the places that the callee looks at
      let Vw : Addr → Prop := fun a => ∃ m, m ∈ views ioi 0 rs ∧ σ[m]? = some (some (V.ref a))
      have noV : ∀ {a j}, io = some (j, a) → ¬ Vw a := fun {a j} e ⟨m, hm, q⟩ => by
        obtain ⟨_, _, hk, w1, w2, w3⟩ := hio1 _ _ e
        have hmi : m ≠ i := fun z => by
          subst z
          exact hvw (List.any_eq_true.mpr ⟨m, hm, by rw [w3]; simp⟩)
        obtain ⟨j', q'⟩ := views_inv hm
        have hlv : j' < vs.length := by
          rw [hl]
          exact (List.getElem?_eq_some_iff.mp q').1
        obtain ⟨k', b', y1, y2⟩ := (one q' (List.getElem?_eq_getElem hlv)).tmp _ _ (.head _)
        exact hmi (h0.inj m i _ _ _ _ a y1 w1 q w2)
      have vw_av : ∀ {a}, Vw a → Av C.av ρ σ tm a := fun {a} ⟨m, hm, q⟩ => by
        obtain ⟨j', q'⟩ := views_inv hm
        have hlv : j' < vs.length := by
          rw [hl]
          exact (List.getElem?_eq_some_iff.mp q').1
        obtain ⟨k', b', y1, y2⟩ := (one q' (List.getElem?_eq_getElem hlv)).tmp _ _ (.head _)
        exact .inr (.inl ⟨m, k', b', y1, q⟩)
      have io_av : ∀ {a}, IoA io a → Av C.av ρ σ tm a := fun {a} ⟨j, e⟩ => by
        obtain ⟨_, _, hk, w1, w2, w3⟩ := hio1 _ _ e
        exact .inr (.inl ⟨i, k, b, w1, w2⟩)
      let av' : Addr → Prop := fun a => Av C.av ρ σ tm a ∧ ¬ IoA io a ∧ ¬ Vw a
      have avp : ∀ {a}, AvP av' io a → Av C.av ρ σ tm a ∧ ¬ Vw a := fun {a} z => by
        rcases z with z | z
        · exact ⟨z.1, z.2.2⟩
        · obtain ⟨j, e⟩ := id z
          exact ⟨io_av z, noV e⟩
      have hav : ∀ a, Av C.av ρ σ tm a → av' a ∨ IoA io a ∨ Vw a := fun a z => by
        by_cases h1 : IoA io a
        · exact .inr (.inl h1)
        · by_cases h2 : Vw a
          · exact .inr (.inr h2)
          · exact .inl ⟨z, h1, h2⟩
      have hVe : (∃ a, Vw a) → (views ioi 0 rs).isEmpty = false := fun ⟨a, m, hm, _⟩ => by
        cases q : views ioi 0 rs with
        | nil => rw [q] at hm; cases hm
        | cons => rfl
      have hio2 : ∀ j q, io = some (j, q) → k ≤ 1 ∧ ρ[i]? = some (Sl.ow k b) ∧ σ[i]? = some (some (V.ref q)) := fun j q e => let ⟨_, _, a1, a2, a3, _⟩ := hio1 j q e; ⟨a1, a2, a3⟩
      refine ⟨av', ds ++ dds, io, b, by rw [List.length_append, hl, dn], by rw [List.length_append, hdl], fun a z => ?_, hioi, fun j q e => ?_, fun j q e => ?_, fun j d v hji hd1 hv1 => ?_, ?_⟩
      · rcases z.1 with y | y | y
        · exact h0.avt a y
        · obtain ⟨us, y⟩ := Own.there h0 y
          rw [y]
          exact fun z => nomatch z
        · obtain ⟨us, y⟩ := FrA.there h0 y
          rw [y]
          exact fun z => nomatch z
      · obtain ⟨y1, y2, _⟩ := hio1 j q e
        have a1 : j < ds.length := (List.getElem?_eq_some_iff.mp y1).1
        have a2 : j < vs.length := (List.getElem?_eq_some_iff.mp y2).1
        exact ⟨by rw [List.getElem?_append_left a1]; exact y1, by rw [List.getElem?_append_left a2]; exact y2, fun z => z.2.1 ⟨j, e⟩⟩
      · obtain ⟨_, _, hk, w1, w2, _⟩ := hio1 j q e
        obtain ⟨a, ws, e1, na, ha, rr⟩ := h0.slot i _ _ w1 w2
        cases e1
        exact ⟨ws, ha, RpL.av (fun a z => .inl (avp z).1) b ws rr⟩
      · by_cases hlt : j < rs.length
        · have a1 : j < ds.length := by rw [hdl]; exact hlt
          have a2 : j < vs.length := by rw [hl]; exact hlt
          rw [List.getElem?_append_left a1] at hd1
          rw [List.getElem?_append_left a2] at hv1
          obtain ⟨d', z1, z2⟩ := hget j _ (List.getElem?_eq_getElem hlt)
          rw [hd1] at z1
          cases z1
          have nb : (ioi == some (0 + j)) = false := by
            simp only [Nat.zero_add, beq_eq_false_iff_ne, ne_eq]
            exact fun z => hji z.symm
          unfold argD at z2
          rw [nb, if_neg Bool.false_ne_true] at z2
          have h1 := one (List.getElem?_eq_getElem hlt) hv1
          cases qr : rs[j] with
          | dt d2 =>
            rw [qr] at z2 h1
            cases z2
            exact Rp.av (fun a z => .inl (avp z).1) d v (h1.settle rfl).2
          | fr es =>
            rw [qr] at z2 h1
            cases z2
            exact Rp.av (fun a z => .inl (avp z).1) _ v (h1.settle rfl).2
          | vw m =>
            rw [qr] at z2 h1
            obtain ⟨k', b', y1, y2⟩ := h1.tmp _ _ (.head _)
            have z2' : (match ρ[m]? with | some (.ow _ ds) => some (D.lst ds) | _ => none) = some d := z2
            rw [y1] at z2'
            cases z2'
            obtain ⟨a, ws, e1, na, ha, rr⟩ := h0.slot m _ _ y1 y2
            cases e1
            refine ⟨a, ws, rfl, fun z => (avp z).2 ⟨m, ?_, y2⟩, ha, RpL.av (fun a z => .inl (avp z).1) _ ws rr⟩
            exact views_mem (j := 0) j (by rw [List.getElem?_eq_getElem hlt, qr]) (by simpa using fun z => hji z.symm)
        · have a1 : ds.length ≤ j := by rw [hdl]; omega
          have a2 : vs.length ≤ j := by rw [hl]; omega
          rw [List.getElem?_append_right a1] at hd1
          rw [List.getElem?_append_right a2] at hv1
          obtain ⟨v', y1, y2⟩ := (hd (AvP av' io)).get hd1
          rw [show j - ds.length = j - vs.length by omega, hv1] at y1
          cases y1
          exact y2
      · cases qf : F (ds ++ dds) with
        | bad => rw [qf] at p; exact p.elim
        | ok r b' =>
          rw [qf] at p
          dsimp only at p
          by_cases hc : (isVw r || !noLs b' || (!(views ioi 0 rs).isEmpty && !rvNoL r)) = true
          · rw [if_pos hc] at p
            exact p.elim
          · rw [if_neg hc] at p
            intro v H' e1 hb' hr
            simp only [Bool.or_eq_true, Bool.and_eq_true, Bool.not_eq_true', not_or, not_and, Bool.not_eq_false] at hc
            obtain ⟨⟨_, c2⟩, c3⟩ := hc
            obtain ⟨h2, k2⟩ := h0.result (b := b') Vw hav hio2 e1 hb' hr (fun z => c3 (hVe z)) c2
            refine p v H' ?_ (k0.trans ?_)
            · rw [hset]
              exact h2
            · rw [hset]
              exact k2
        | ex c f d b' =>
          rw [qf] at p
          dsimp only at p
          by_cases hc : (!noLs b' || (!(views ioi 0 rs).isEmpty && !noL d)) = true
          · rw [if_pos hc] at p
            exact p.elim
          · rw [if_neg hc] at p
            intro cl dd v fs H' q1 q2 q3 q4 e1 hb'
            simp only [Bool.or_eq_true, Bool.and_eq_true, Bool.not_eq_true', not_or, not_and, Bool.not_eq_false] at hc
            obtain ⟨c2, c3⟩ := hc
            obtain ⟨h2, k2⟩ := h0.called (b := b') Vw hav hio2 e1 hb' c2
            rw [hset] at p
            refine p cl dd v fs σ H' q1 q2 q3 ?_ h2 (k0.trans k2)
            by_cases hv : ∃ a, Vw a
            · exact Rp.noL d v (c3 (hVe hv)) q4
            · refine Rp.av (fun a z => .inl ?_) d v q4
              have z' : Av C.av ρ σ tm a := by
                rcases z with z | ⟨m, k', fs', z1, z2⟩ | z
                · exact .inl z
                · cases hq : io with
                  | none =>
                    rw [hq] at z1
                    exact .inr (.inl ⟨m, k', fs', z1, z2⟩)
                  | some x =>
                    obtain ⟨j, q⟩ := x
                    obtain ⟨_, w1, w2⟩ := hio2 j q hq
                    by_cases ne : i = m
                    · subst ne
                      exact .inr (.inl ⟨i, k, b, w1, z2⟩)
                    · rw [hq] at z1
                      have z1' : (ρ.set i (Sl.ow k b'))[m]? = some (Sl.ow k' fs') := z1
                      rw [List.getElem?_set_ne ne] at z1'
                      exact .inr (.inl ⟨m, k', fs', z1', z2⟩)
                · exact .inr (.inr z)
              rcases hav a z' with y | y | y
              · exact .inl y
              · exact .inr y
              · exact absurd ⟨a, y⟩ hv
/-- a new list that is handed in for change: it stands in a slot of its own for the call -/
theorem Hold.extend {es : List D} {p : Addr} (h : Hold K mg ec H C ρ σ ((.fr es, .ref p) :: tm)) : Hold K mg ec H C (ρ ++ [.ow 0 es]) (σ ++ [some (.ref p)]) ((.vw ρ.length, .ref p) :: tm) := by
  obtain ⟨p', vs, e0, na, no, nh, hp, rr⟩ := h.tmp _ _ (.head _)
  cases e0
  have gl : ∀ {i : Nat} {s}, (ρ ++ [Sl.ow 0 es])[i]? = some s → ρ[i]? = some s ∨ (i = ρ.length ∧ s = .ow 0 es) := fun {i s} q => by
    by_cases hi : i < ρ.length
    · rw [List.getElem?_append_left hi] at q
      exact .inl q
    · rw [List.getElem?_append_right (Nat.le_of_not_lt hi)] at q
      have e : i = ρ.length := by
        rcases Nat.lt_or_ge (i - ρ.length) 1 with z | z
        · omega
        · rw [List.getElem?_eq_none (by simpa using z)] at q
          cases q
      subst e
      rw [Nat.sub_self] at q
      exact .inr ⟨rfl, (Option.some.inj q).symm⟩
  have gs : ∀ {i : Nat}, i < ρ.length → (σ ++ [some (V.ref p)])[i]? = σ[i]? := fun {i} hi => List.getElem?_append_left (by rw [← h.len]; exact hi)
  have lt : ∀ {i : Nat} {s}, ρ[i]? = some s → i < ρ.length := fun q => (List.getElem?_eq_some_iff.mp q).1
  have gp : ∀ {o}, (σ ++ [some (V.ref p)])[ρ.length]? = some o → o = some (.ref p) := fun {o} q => by
    rw [List.getElem?_append_right (by rw [h.len]; exact Nat.le_refl _), h.len, Nat.sub_self] at q
    exact (Option.some.inj q).symm
  have gr : ∀ {i : Nat} {s}, ρ[i]? = some s → (ρ ++ [Sl.ow 0 es])[i]? = some s := fun {i s} q => by
    rw [List.getElem?_append_left (lt q)]
    exact q
  have av : ∀ a, Av C.av (ρ ++ [Sl.ow 0 es]) (σ ++ [some (V.ref p)]) ((.vw ρ.length, .ref p) :: tm) a → Av C.av ρ σ ((.fr es, .ref p) :: tm) a ∨ H a = none := fun a z => .inl (by
    rcases z with z | ⟨i, k, fs, q1, q2⟩ | z
    · exact .inl z
    · rcases gl q1 with y | ⟨y1, y2⟩
      · rw [gs (lt y)] at q2
        exact .inr (.inl ⟨i, k, fs, y, q2⟩)
      · subst y1
        have y := gp q2
        cases y
        exact .inr (.inr ⟨es, .head _⟩)
    · obtain ⟨fs, z⟩ := FrA.cons_vw.mp z
      exact .inr (.inr ⟨fs, .tail _ z⟩))
  refine ⟨by rw [List.length_append, List.length_append, h.len]; rfl, h.avt, h.ext, fun i q e => ?_, fun i k ds a q1 q2 => ?_, fun i s o q1 q2 => ?_, fun i j k k' ds ds' a q1 q2 q3 q4 => ?_, fun r v hm => ?_, List.pairwise_cons.mpr ⟨fun y hy ds es' a z => (nomatch z), (List.pairwise_cons.mp h.sep).2⟩⟩
  · obtain ⟨ds, y1, y2⟩ := h.io i q e
    exact ⟨ds, gr y1, by rw [gs (lt y1)]; exact y2⟩
  · rcases gl q1 with y | ⟨y1, y2⟩
    · rw [gs (lt y)] at q2
      exact h.one i k ds a y q2
    · subst y1
      cases y2
      have y := gp q2
      cases y
      exact .inr ⟨by decide, nh⟩
  · rcases gl q1 with y | ⟨y1, y2⟩
    · rw [gs (lt y)] at q2
      exact (h.slot i s o y q2).imp (P := fun _ => False) Ext.refl (fun _ z => z.elim) av (fun _ z => z) fun _ _ _ _ _ _ z => z
    · subst y1 y2
      have y := gp q2
      subst y
      exact ⟨p, vs, rfl, na, hp, RpL.av av es vs rr⟩
  · rcases gl q1 with y | ⟨y1, y2⟩
    · rw [gs (lt y)] at q3
      rcases gl q2 with u | ⟨u1, u2⟩
      · rw [gs (lt u)] at q4
        exact h.inj i j k k' ds ds' a y u q3 q4
      · subst u1
        have u := gp q4
        cases u
        exact absurd ⟨i, k, ds, y, q3⟩ no
    · subst y1
      have y := gp q3
      cases y
      rcases gl q2 with u | ⟨u1, u2⟩
      · rw [gs (lt u)] at q4
        exact absurd ⟨j, k', ds', u, q4⟩ no
      · exact u1.symm
  · rcases List.mem_cons.mp hm with z | hm
    · cases z
      refine ⟨0, es, by rw [List.getElem?_append_right (Nat.le_refl _), Nat.sub_self]; rfl, ?_⟩
      rw [List.getElem?_append_right (by rw [h.len]; exact Nat.le_refl _), h.len, Nat.sub_self]
      rfl
    · have y := h.tmp r v (.tail _ hm)
      cases r with
      | dt d => exact Rp.av av d v y
      | vw i =>
        obtain ⟨k, ds, y1, y2⟩ := y
        exact ⟨k, ds, gr y1, by rw [gs (lt y1)]; exact y2⟩
      | fr ds =>
        obtain ⟨a, ws, rfl, n1, n2, n3, n4, y⟩ := y
        refine ⟨a, ws, rfl, n1, fun ⟨i, k, fs, q1, q2⟩ => ?_, n3, n4, RpL.av av ds ws y⟩
        rcases gl q1 with u | ⟨u1, u2⟩
        · rw [gs (lt u)] at q2
          exact n2 ⟨i, k, fs, u, q2⟩
        · subst u1
          have u := gp q2
          cases u
          exact (List.pairwise_cons.mp h.sep).1 _ hm es ds _ rfl rfl
/-- the last slot is dropped -/
theorem Hold.shrink {es : List D} {o : Option V} (h : Hold K mg ec H C (ρ ++ [.ow 0 es]) (σ ++ [o]) tm) (hv : ∀ v, (RV.vw ρ.length, v) ∉ tm) : Hold K mg ec H C ρ σ tm := by
  have hl : ρ.length = σ.length := by
    have := h.len
    rw [List.length_append, List.length_append] at this
    simpa using this
  have gr : ∀ {i : Nat} {s}, ρ[i]? = some s → (ρ ++ [Sl.ow 0 es])[i]? = some s := fun {i s} q => by
    rw [List.getElem?_append_left (List.getElem?_eq_some_iff.mp q).1]
    exact q
  have gs : ∀ {i : Nat} {s}, σ[i]? = some s → (σ ++ [o])[i]? = some s := fun {i s} q => by
    rw [List.getElem?_append_left (List.getElem?_eq_some_iff.mp q).1]
    exact q
  have bk : ∀ {i : Nat}, i < ρ.length → (ρ ++ [Sl.ow 0 es])[i]? = ρ[i]? ∧ (σ ++ [o])[i]? = σ[i]? := fun {i} hi => ⟨List.getElem?_append_left hi, List.getElem?_append_left (by rw [← hl]; exact hi)⟩
  have av : ∀ a, Av C.av ρ σ tm a → Av C.av (ρ ++ [Sl.ow 0 es]) (σ ++ [o]) tm a ∨ H a = none := fun a z => .inl (by
    rcases z with z | ⟨i, k, fs, q1, q2⟩ | z
    · exact .inl z
    · exact .inr (.inl ⟨i, k, fs, gr q1, gs q2⟩)
    · exact .inr (.inr z))
  have last : ∀ {i : Nat} {s}, (ρ ++ [Sl.ow 0 es])[i]? = some s → i < ρ.length ∨ (i = ρ.length ∧ s = .ow 0 es) := fun {i s} q => by
    by_cases hi : i < ρ.length
    · exact .inl hi
    · rw [List.getElem?_append_right (Nat.le_of_not_lt hi)] at q
      have e : i = ρ.length := by
        rcases Nat.lt_or_ge (i - ρ.length) 1 with z | z
        · omega
        · rw [List.getElem?_eq_none (by simpa using z)] at q
          cases q
      subst e
      rw [Nat.sub_self] at q
      exact .inr ⟨rfl, (Option.some.inj q).symm⟩
  refine ⟨hl, h.avt, h.ext, fun i q e => ?_, fun i k ds a q1 q2 => h.one i k ds a (gr q1) (gs q2), fun i s o' q1 q2 => (h.slot i s o' (gr q1) (gs q2)).imp (P := fun _ => False) Ext.refl (fun _ z => z.elim) av (fun _ z => z) fun _ _ _ _ _ _ z => z,
    fun i j k k' ds ds' a q1 q2 q3 q4 => h.inj i j k k' ds ds' a (gr q1) (gr q2) (gs q3) (gs q4), fun r v hm => ?_, h.sep⟩
  · obtain ⟨ds, y1, y2⟩ := h.io i q e
    rcases last y1 with z | ⟨_, z⟩
    · obtain ⟨b1, b2⟩ := bk z
      exact ⟨ds, by rw [← b1]; exact y1, by rw [← b2]; exact y2⟩
    · cases z
  · have y := h.tmp r v hm
    cases r with
    | dt d => exact Rp.av av d v y
    | vw i =>
      obtain ⟨k, ds, y1, y2⟩ := y
      rcases last y1 with z | ⟨z, _⟩
      · obtain ⟨b1, b2⟩ := bk z
        exact ⟨k, ds, by rw [← b1]; exact y1, by rw [← b2]; exact y2⟩
      · subst z
        exact absurd hm (hv v)
    | fr ds =>
      obtain ⟨a, ws, e, n1, n2, n3, n4, y⟩ := y
      exact ⟨a, ws, e, n1, fun ⟨i, k, fs, q1, q2⟩ => n2 ⟨i, k, fs, gr q1, gs q2⟩, n3, n4, RpL.av av ds ws y⟩
theorem perm_pick {α : Type} {x : α} : ∀ {l : List α} {j : Nat}, l[j]? = some x → l.Perm (x :: l.eraseIdx j)
  | [], _, h => by simp at h
  | y :: l, 0, h => by
    cases h
    exact .refl _
  | y :: l, j + 1, h => ((perm_pick (by simpa using h)).cons y).trans (List.Perm.swap _ _ _)
theorem zip_set {α β : Type} {x : α} {y : β} : ∀ {l : List α} {m : List β} {j : Nat}, m[j]? = some y → (l.set j x).zip m = (l.zip m).set j (x, y)
  | [], m, j, h => rfl
  | a :: l, [], j, h => by simp at h
  | a :: l, b :: m, 0, h => by
    cases h
    rfl
  | a :: l, b :: m, j + 1, h => by
    show (a, b) :: ((l.set j x).zip m) = (a, b) :: ((l.zip m).set j (x, y))
    rw [zip_set (by simpa using h)]
def dropS : Out RV → Out RV
  | .ok r ρ => .ok r ρ.dropLast
  | .ex c f d ρ => .ex c f d ρ.dropLast
  | .bad => .bad
def callX (ioi : Option Nat) (F : List D → FO) (dds : List D) (rs : List RV) (ρ : Fm) : Out RV := match ioi with
  | none => callF none F dds rs ρ
  | some j => match rs[j]? with
    | some (.fr es) => dropS (callF (some j) F dds (rs.set j (.vw ρ.length)) (ρ ++ [.ow 0 es]))
    | _ => callF (some j) F dds rs ρ
theorem callF_ok {ioi : Option Nat} {F : List D → FO} {dds : List D} {rs : List RV} {r : RV} (h : callF ioi F dds rs ρ = .ok r ρ') : isVw r = false ∧ ∃ b, ρ' = setIo (ioSlot ioi rs) b ρ := by
  unfold callF at h
  split at h
  · cases h
  · split at h
    · cases h
    · split at h
      · split at h
        · cases h
        · rename_i hc
          cases h
          simp only [Bool.or_eq_true, not_or] at hc
          exact ⟨by simpa using hc.1.1, _, rfl⟩
      · split at h <;> cases h
      · cases h
theorem callF_ex {ioi : Option Nat} {F : List D → FO} {dds : List D} {rs : List RV} {c f : Str} {d : D} (h : callF ioi F dds rs ρ = .ex c f d ρ') : ∃ b, ρ' = setIo (ioSlot ioi rs) b ρ := by
  unfold callF at h
  split at h
  · cases h
  · split at h
    · cases h
    · split at h
      · split at h <;> cases h
      · split at h
        · cases h
        · cases h
          exact ⟨_, rfl⟩
      · cases h
theorem callX_sp {ioi : Option Nat} {F : List D → FO} {dds : List D} {rs : List RV} {vs dvs : List V} (hl : vs.length = rs.length) (hj : ∀ j, ioi = some j → j < rs.length) (h : Hold K mg ec H C ρ σ (stk rs vs tm)) (k0 : Kin ρ0 ρ)
    (hd : ∀ A, RpL K mg H A dds dvs) (p : Fin K mg W ec C ρ0 σ tm (callX ioi F dds rs ρ) Q) : spD K mg ioi (rs.length + dds.length) F (vs ++ dvs) H Q (fun cls d H' => W cls d σ H') := by
  unfold callX at p
  cases ioi with
  | none => exact callF_sp hl hj h k0 hd p
  | some j =>
    have hjl := hj j rfl
    dsimp only at p
    cases qr : rs[j]? with
    | none => rw [List.getElem?_eq_none_iff] at qr; omega
    | some r =>
      rw [qr] at p
      cases r with
      | dt d => exact callF_sp hl hj h k0 hd p
      | vw i => exact callF_sp hl hj h k0 hd p
      | fr es =>
        dsimp only at p
        have hvl : j < vs.length := by rw [hl]; exact hjl
        have hz : Hold K mg ec H C ρ σ (rs.zip vs ++ tm) := h.perm (stk_perm rs vs tm).symm
        have zl : j < (rs.zip vs).length := by
          rw [List.length_zip]
          omega
        have p1 : (rs.zip vs).Perm ((RV.fr es, vs[j]) :: (rs.zip vs).eraseIdx j) := perm_pick (zip_get qr (List.getElem?_eq_getElem hvl))
        have h1 : Hold K mg ec H C ρ σ ((RV.fr es, vs[j]) :: ((rs.zip vs).eraseIdx j ++ tm)) := hz.perm (p1.symm.append_right tm)
        obtain ⟨q, us, eq', _⟩ := h1.tmp _ _ (.head _)
        rw [eq'] at h1 p1
        have h2 := h1.extend
        have ez2 : (rs.set j (.vw ρ.length)).zip vs = (rs.zip vs).set j (RV.vw ρ.length, .ref q) := zip_set (by rw [List.getElem?_eq_getElem hvl, eq'])
        have p2 : ((rs.set j (.vw ρ.length)).zip vs).Perm ((RV.vw ρ.length, V.ref q) :: (rs.zip vs).eraseIdx j) := by
          have := perm_pick (l := (rs.zip vs).set j (RV.vw ρ.length, V.ref q)) (List.getElem?_set_self zl)
          rw [List.eraseIdx_set_eq] at this
          rw [ez2]
          exact this
        have h3 : Hold K mg ec H C (ρ ++ [.ow 0 es]) (σ ++ [some (.ref q)]) (stk (rs.set j (.vw ρ.length)) vs tm) := h2.perm (((stk_perm _ vs tm).trans (p2.append_right tm)))
        have k1 : Kin ρ0 (ρ ++ [.ow 0 es]) := k0.trans (Kin.of_same fun i k ds y => by
          rw [List.getElem?_append_left (List.getElem?_eq_some_iff.mp y).1]
          exact y)
        have nv : ∀ v, (RV.vw ρ.length, v) ∉ tm := fun v hm => by
          obtain ⟨k, ds, y, _⟩ := hz.tmp _ _ (List.mem_append_right _ hm)
          exact absurd (List.getElem?_eq_some_iff.mp y).1 (Nat.lt_irrefl _)
        have fmE : ∀ b, setIo (ioSlot (some j) (rs.set j (.vw ρ.length))) b (ρ ++ [.ow 0 es]) = ρ ++ [.ow 0 b] := fun b => by
          have e1 : ioSlot (some j) (rs.set j (.vw ρ.length)) = some ρ.length := by
            show (match (rs.set j (RV.vw ρ.length))[j]? with | some (RV.vw i) => some i | _ => none) = _
            rw [List.getElem?_set_self hjl]
          rw [e1]
          show (match (ρ ++ [Sl.ow 0 es])[ρ.length]? with | some (.ow k _) => (ρ ++ [Sl.ow 0 es]).set ρ.length (.ow k b) | _ => ρ ++ [Sl.ow 0 es]) = _
          rw [List.getElem?_append_right (Nat.le_refl _), Nat.sub_self]
          show (ρ ++ [Sl.ow 0 es]).set ρ.length (.ow 0 b) = _
          rw [List.set_append_right _ _ (Nat.le_refl _), Nat.sub_self]
          rfl
        have p3 : Fin K mg (fun cls d σ' H' => W cls d σ'.dropLast H') ec C ρ0 (σ ++ [some (.ref q)]) tm (callF (some j) F dds (rs.set j (.vw ρ.length)) (ρ ++ [.ow 0 es])) Q := by
          cases qc : callF (some j) F dds (rs.set j (.vw ρ.length)) (ρ ++ [.ow 0 es]) with
          | bad => rw [qc] at p; exact p.elim
          | ok r ρ' =>
            rw [qc] at p
            obtain ⟨nr, b, eb⟩ := callF_ok qc
            rw [fmE] at eb
            subst eb
            have p : ∀ v H, Hold K mg ec H C (ρ ++ [Sl.ow 0 b]).dropLast σ ((r, v) :: tm) → Kin ρ0 (ρ ++ [Sl.ow 0 b]).dropLast → Q v H := p
            rw [List.dropLast_concat] at p
            intro v H' hh _
            refine p v H' (hh.shrink fun u hm => ?_) k0
            rcases List.mem_cons.mp hm with z | z
            · cases z
              cases nr
            · exact nv u z
          | ex c f d ρ' =>
            rw [qc] at p
            obtain ⟨b, eb⟩ := callF_ex qc
            rw [fmE] at eb
            subst eb
            have p : ExW K mg W ec C ρ0 tm c f d (ρ ++ [Sl.ow 0 b]).dropLast := p
            rw [List.dropLast_concat] at p
            intro cl dd v fs σ' H' q1 q2 q3 q4 hh _
            have ln : σ'.length = ρ.length + 1 := by rw [← hh.len, List.length_append]; rfl
            have ne : σ' ≠ [] := fun z => by rw [z] at ln; cases ln
            obtain ⟨o, es'⟩ : ∃ o, σ' = σ'.dropLast ++ [o] := ⟨_, (List.dropLast_concat_getLast ne).symm⟩
            generalize σ'.dropLast = τ at es' ⊢
            clear ne
            subst es'
            refine p cl dd v fs τ H' q1 q2 q3 (Rp.av (fun a z => .inl ?_) d v q4) (hh.shrink nv) k0
            rcases z with z | ⟨i, k, gs, z1, z2⟩ | z
            · exact .inl z
            · refine .inr (.inl ⟨i, k, gs, ?_, ?_⟩)
              · rw [List.getElem?_append_left (List.getElem?_eq_some_iff.mp z1).1]
                exact z1
              · rw [List.getElem?_append_left (List.getElem?_eq_some_iff.mp z2).1]
                exact z2
            · exact .inr (.inr z)
        have sp := callF_sp (W := fun cls d σ' H' => W cls d σ'.dropLast H') (by rw [List.length_set]; exact hl) (fun j' e => by rw [List.length_set]; exact hj j' e) h3 k1 hd p3
        rw [List.length_set, List.dropLast_concat] at sp
        exact sp
end
end DL

namespace DL
open PySem L2
open PyProof.Rows (envOfC)

/-! ### the call of a def -/
def pickL {α : Type} (is : List Nat) (xs : List α) : List α := is.filterMap fun i => xs[i]?
theorem Vals.pick {xs : List V} {us : List Value} (r : Vals xs us) : ∀ is : List Nat, Vals (pickL is xs) (pickL is us)
  | [] => .nil
  | i :: is => by
    unfold pickL
    rw [List.filterMap_cons, List.filterMap_cons]
    cases q : xs[i]? with
    | none =>
      rw [Vals.none_of r q]
      exact Vals.pick r is
    | some x =>
      obtain ⟨u, h1, h2⟩ := Vals.get r q
      rw [h1]
      exact .cons h2 (Vals.pick r is)
theorem RpL.pick {K : PySem.W.Frag} {mg : Str → Option Value} {H : Hp} {av : Addr → Prop} {ds : List D} {vs : List V} (r : RpL K mg H av ds vs) : ∀ is : List Nat, RpL K mg H av (pickL is ds) (pickL is vs)
  | [] => rfl
  | i :: is => by
    unfold pickL
    rw [List.filterMap_cons, List.filterMap_cons]
    cases q : ds[i]? with
    | none =>
      have q2 : vs[i]? = none := by
        rw [List.getElem?_eq_none_iff] at q ⊢
        rw [r.len]
        exact q
      rw [q2]
      exact RpL.pick r is
    | some d =>
      obtain ⟨v, h1, h2⟩ := RpL.get r q
      rw [h1]
      exact ⟨v, _, rfl, h2, RpL.pick r is⟩
/-- how a call binds: n values by place, the keywords named ks, the defaults; each parameter's place among these -/
structure KB (K : PySem.W.Frag) (fd : FuncData) (ps : List Str) (n : Nat) (ks : List Str) (dvs : List V) (is : List Nat) : Prop where
  to : ∃ its : List Value, Vals dvs its ∧ ∀ (s : Shared) (us ws : List Value), K.In s.heap → us.length = n → ws.length = ks.length → BindsTo s fd ⟨us, ks.zip ws⟩ (ps.zip (pickL is (us ++ ws ++ its)))
section
variable {X : Cx} {W : WX} {ec : EC} {k n : Nat} {f : Addr} {fd : FuncData} {ps ks : List Str} {sp : Sp} {x : Str} {p pos : Pos} {e : Expr} {es : List Expr} {kws : List Keyword} {t tk : TA} {dvs : List V} {is : List Nat}
def tCG (n m : Nat) (sp : Sp) (is : List Nat) (dvs : List V) (W : WX) (t tk : TA) : TE := fun σ H Q => t σ H fun vs H1 => tk σ H1 fun zs H2 => vs.length = n ∧ zs.length = m ∧ sp (pickL is (vs ++ zs ++ dvs)) H2 Q (fun cls d H' => W cls d σ H')
theorem run_G {pins : List (Addr × Obj)} {σ : St} {H : Hp} {s : Shared} {Q : VK} {us ws : List Value} {vs zs : List V} (F : FnG X.prog X.w X.K X.mg X.base k f fd ps sp) (gd : X.A.guards = some []) (hr : Room k X.A) (hb : KB X.K fd ps n ks dvs is) (tk : Takes X W)
    (I : Inv X pins σ H s) (r : Vals vs us) (rz : Vals zs ws) (l1 : vs.length = n) (l2 : zs.length = ks.length) (h : sp (pickL is (vs ++ zs ++ dvs)) H Q (fun cls d H' => W cls d σ H')) :
    wpAny (model X.prog X.w) X.A (call (.ref f) us (ks.zip ws)) (EP X pins σ Q) X.xe s := by
  obtain ⟨its, ri, hto⟩ := hb.to
  have rr : Vals (pickL is (vs ++ zs ++ dvs)) (pickL is (us ++ ws ++ its)) := Vals.pick ((r.append rz).append ri) is
  refine wpAny_call (codeAny_mono (F.run X.A X.stack s H ⟨us, ks.zip ws⟩ _ _ Q _ gd hr I.env0 (hto s us ws I.kIn (r.length.symm.trans l1) (rz.length.symm.trans l2)) rr h) ?_)
  intro res s' q
  cases res with
  | error u => exact passAt tk σ pins H s u s' I q
  | ok fl => cases fl with
    | ret u => exact I.after q
    | next => exact q.elim
    | brk => exact q.elim
    | cont => exact q.elim
theorem pe_G (F : FnG X.prog X.w X.K X.mg X.base k f fd ps sp) (gd : X.A.guards = some []) (hr : Room k X.A) (hg : Gl X x) (hm : X.mg x = some (.ref f)) (hk : PySem.W.keepIn X.K (.ref f) = true) (hb : KB X.K fd ps n ks dvs is) (tx : Takes X W)
    (ha : PA X (e :: es) t) (hkw : PK X kws tk) (hall : (backToKw pos (keywordEach kws X.env)).all (·.1.isSome) = true) (hks : (backToKw pos (keywordEach kws X.env)).filterMap (·.1) = ks)
    (hdb : (x == ("__debug__" : Str)) = false) (he : starEach (e :: es) X.env = (false, eval e X.env) :: starEach es X.env)
    (hpl : ((backTo pos (starEach (e :: es) X.env)).any (·.1) || (backToKw pos (keywordEach kws X.env)).any (·.1.isNone)) = false) :
    PE X (.Call (.Name x p) (e :: es) kws pos) (tCG n ks.length sp is dvs W t tk) := ⟨fun pins s σ H Q I h => by
  refine wpAny_Call_Name_kw (ld_glob I hg hm ?_ hdb)
  refine PySem.W.callWith_KW (h₀ := X.base) I.ok.mod.kin hk hall ?_ hpl he
  refine thn (ha.run pos pins s σ H _ I h) fun us s1 h1 => ?_
  obtain ⟨vs, H1, I1, r, q⟩ := h1
  refine thn (hkw.run pos pins s1 σ H1 _ I1 q) fun ws s2 h2 => ?_
  obtain ⟨zs, H2, I2, rz, l1, l2, q2⟩ := h2
  refine ⟨I2.kIn, ?_⟩
  rw [hks]
  exact run_G F gd hr hb tx I2 r rz l1 l2 q2⟩
theorem pe_G0 (F : FnG X.prog X.w X.K X.mg X.base k f fd ps sp) (gd : X.A.guards = some []) (hr : Room k X.A) (hg : Gl X x) (hm : X.mg x = some (.ref f)) (hk : PySem.W.keepIn X.K (.ref f) = true) (hb : KB X.K fd ps 0 ks dvs is) (tx : Takes X W)
    (hkw : PK X kws tk) (hall : (backToKw pos (keywordEach kws X.env)).all (·.1.isSome) = true) (hks : (backToKw pos (keywordEach kws X.env)).filterMap (·.1) = ks)
    (hdb : (x == ("__debug__" : Str)) = false) (hpl : ((backTo pos (starEach [] X.env)).any (·.1) || (backToKw pos (keywordEach kws X.env)).any (·.1.isNone)) = false) :
    PE X (.Call (.Name x p) [] kws pos) (tCG 0 ks.length sp is dvs W tNil tk) := ⟨fun pins s σ H Q I h => by
  refine wpAny_Call_Name_kw (ld_glob I hg hm ?_ hdb)
  refine PySem.W.callWith_KW0 (h₀ := X.base) I.ok.mod.kin hk hall ?_ hpl
  refine thn (hkw.run pos pins s σ H _ I h) fun ws s2 h2 => ?_
  obtain ⟨zs, H2, I2, rz, l1, l2, q2⟩ := h2
  refine ⟨I2.kIn, ?_⟩
  rw [hks]
  exact run_G (us := []) (vs := []) F gd hr hb tx I2 .nil rz rfl l2 q2⟩
end

/-! ### the values of keywords -/
abbrev DK (X : Cx) (W : WX) (ec : EC) (kws : List Keyword) (F : Fm → Out (List RV)) : Prop := PK X kws (tDA X.K X.mg W ec F)
theorem pk_imp {X : Cx} {kws : List Keyword} {t t' : TA} (h : PK X kws t) (k : ∀ σ H Q, t' σ H Q → t σ H Q) : PK X kws t' := ⟨fun pos pins s σ H Q I q => h.run pos pins s σ H Q I (k σ H Q q)⟩
section
variable {X : Cx} {W : WX} {ec : EC} {e : Expr} {es : List Expr} {kws : List Keyword} {F : Fm → Out RV} {A B : Fm → Out (List RV)} {nm : Option Str} {kpos : Pos}
theorem dk_nil : DK X W ec [] aNil := pk_imp pk_nil fun σ H Q ⟨C, ρ, tm, h, p⟩ => p [] H rfl h Kin.refl
theorem dk_cons (ha : DE X W ec e F) (hr : DK X W ec kws A) : DK X W ec (⟨nm, e, kpos⟩ :: kws) (aCons F A) := pk_imp (pk_cons ha hr) fun σ H Q ⟨C, ρ, tm, h, p⟩ => by
  refine ⟨C, ρ, tm, h, ?_⟩
  unfold aCons at p
  cases q : F ρ with
  | ex c' f d ρ2 =>
    rw [q] at p
    exact p
  | bad =>
    rw [q] at p
    exact p.elim
  | ok r ρ1 =>
    rw [q] at p
    intro v H1 h1 k1
    refine ⟨C, ρ1, (r, v) :: tm, h1, ?_⟩
    simp only [Out.bind] at p
    cases q2 : A ρ1 with
    | ex c' f d ρ2 =>
      rw [q2] at p
      exact ExW.up (ts := [(r, v)]) p k1
    | bad =>
      rw [q2] at p
      exact p.elim
    | ok rs ρ2 =>
      rw [q2] at p
      exact fun vs H2 hl h2 k2 => p (v :: vs) H2 (congrArg (· + 1) hl) h2 (k1.trans k2)
/-- two argument lists, one behind the other -/
def aApp (A B : Fm → Out (List RV)) : Fm → Out (List RV) := fun ρ => (A ρ).bind fun rs ρ => (B ρ).bind fun ss ρ => .ok (rs ++ ss) ρ
end
/-- f(..) as a function: the places is of the parameters among the values and the defaults -/
def fCall (ioi : Option Nat) (F : List D → FO) (is : List Nat) (dds : List D) (A B : Fm → Out (List RV)) : Fm → Out RV := fun ρ => (A ρ).bind fun rs ρ => (B ρ).bind fun ss ρ => callX ioi (fun ds => F (pickL is (ds ++ dds))) [] (rs ++ ss) ρ
/-- the places of the parameters, the changed list's among them: it stays where it is -/
structure IsOk (ioi : Option Nat) (n : Nat) (is : List Nat) (m : Nat) : Prop where
  len : is.length = n
  lt : ∀ i ∈ is, i < m
  io : ∀ j, ioi = some j → ∀ k : Nat, is[k]? = some j ↔ k = j
theorem pick_get {α : Type} {is : List Nat} {xs : List α} (h : ∀ i ∈ is, i < xs.length) (j : Nat) : (pickL is xs)[j]? = (is[j]?).bind fun i => xs[i]? := by
  induction is generalizing j with
  | nil => simp [pickL]
  | cons i is ih =>
    have hi : i < xs.length := h i (.head _)
    unfold pickL
    rw [List.filterMap_cons, List.getElem?_eq_getElem hi]
    cases j with
    | zero => simp [List.getElem?_eq_getElem hi]
    | succ j =>
      have := ih (fun i hi => h i (.tail _ hi)) j
      unfold pickL at this
      simpa using this
theorem pick_len {α : Type} {is : List Nat} {xs : List α} (h : ∀ i ∈ is, i < xs.length) : (pickL is xs).length = is.length := by
  induction is with
  | nil => rfl
  | cons i is ih =>
    have hi : i < xs.length := h i (.head _)
    unfold pickL
    rw [List.filterMap_cons, List.getElem?_eq_getElem hi]
    have := ih fun i hi => h i (.tail _ hi)
    unfold pickL at this
    simpa using this
theorem spD_pick {K : PySem.W.Frag} {mg : Str → Option Value} {ioi : Option Nat} {n m : Nat} {F : List D → FO} {is : List Nat} {vs : List V} {H : Hp} {Q : VK} {E : XK} {dds : List D} {dvs : List V} (o : IsOk ioi n is (m + dds.length)) (hd : ∀ H A, RpL K mg H A dds dvs) (hj : ∀ j, ioi = some j → j < m)
    (h : spD K mg ioi m (fun ds => F (pickL is (ds ++ dds))) vs H Q E) : spD K mg ioi n F (pickL is (vs ++ dvs)) H Q E := by
  obtain ⟨av, ds, io, b, h1, h2, h3, h4, h5, h6, h7, h8⟩ := h
  have dn : dvs.length = dds.length := (hd H fun _ => False).len
  have lv : ∀ i ∈ is, i < (vs ++ dvs).length := fun i hi => by rw [List.length_append, h1, dn]; exact o.lt i hi
  have ld : ∀ i ∈ is, i < (ds ++ dds).length := fun i hi => by rw [List.length_append, h2]; exact o.lt i hi
  refine ⟨av, pickL is (ds ++ dds), io, b, by rw [pick_len lv, o.len], by rw [pick_len ld, o.len], h3, h4, fun j q e => ?_, h6, fun j d v hji hd1 hv1 => ?_, h8⟩
  · obtain ⟨y1, y2, y3⟩ := h5 j q e
    have hji : ioi = some j := by rw [← h4, e]; rfl
    have ej := (o.io j hji j).mpr rfl
    have a1 : j < ds.length := (List.getElem?_eq_some_iff.mp y1).1
    have a2 : j < vs.length := (List.getElem?_eq_some_iff.mp y2).1
    refine ⟨?_, ?_, y3⟩
    · rw [pick_get ld, ej]
      show (ds ++ dds)[j]? = _
      rw [List.getElem?_append_left a1]
      exact y1
    · rw [pick_get lv, ej]
      show (vs ++ dvs)[j]? = _
      rw [List.getElem?_append_left a2]
      exact y2
  · rw [pick_get ld] at hd1
    rw [pick_get lv] at hv1
    cases q : is[j]? with
    | none => rw [q] at hd1; cases hd1
    | some i =>
      rw [q] at hd1 hv1
      have hd2 : (ds ++ dds)[i]? = some d := hd1
      have hv2 : (vs ++ dvs)[i]? = some v := hv1
      have hii : some i ≠ ioi := fun z => by
        have e := (o.io i z.symm j).mp q
        subst e
        exact hji z
      by_cases hlt : i < ds.length
      · rw [List.getElem?_append_left hlt] at hd2
        rw [List.getElem?_append_left (by rw [h1, ← h2]; exact hlt)] at hv2
        exact h7 i d v hii hd2 hv2
      · rw [List.getElem?_append_right (Nat.le_of_not_lt hlt)] at hd2
        rw [List.getElem?_append_right (by rw [h1, ← h2]; exact Nat.le_of_not_lt hlt)] at hv2
        obtain ⟨v', y1, y2⟩ := (hd H (AvP av io)).get hd2
        rw [h2, ← h1, hv2] at y1
        cases y1
        exact y2
section
variable {X : Cx} {W : WX} {ec : EC} {k n m1 m2 : Nat} {f : Addr} {fd : FuncData} {ps ks : List Str} {x : Str} {p pos : Pos} {e : Expr} {es : List Expr} {kws : List Keyword} {dvs : List V} {dds : List D} {is : List Nat} {A B : Fm → Out (List RV)} {ioi : Option Nat} {F : List D → FO}
theorem stk_app : ∀ (rs ss : List RV) (vs zs : List V) (tm : Tm), vs.length = rs.length → stk ss zs (stk rs vs tm) = stk (rs ++ ss) (vs ++ zs) tm
  | [], ss, [], zs, tm, _ => rfl
  | [], _, _ :: _, _, _, h => by cases h
  | _ :: _, _, [], _, _, h => by cases h
  | r :: rs, ss, v :: vs, zs, tm, h => stk_app rs ss vs zs ((r, v) :: tm) (Nat.succ.inj h)
theorem stk_ts : ∀ (rs : List RV) (vs : List V) (tm : Tm), ∃ ts, stk rs vs tm = ts ++ tm
  | [], vs, tm => ⟨[], by cases vs <;> rfl⟩
  | r :: rs, [], tm => ⟨[], rfl⟩
  | r :: rs, v :: vs, tm => by
    obtain ⟨ts, e⟩ := stk_ts rs vs ((r, v) :: tm)
    exact ⟨ts ++ [(r, v)], by
      show stk rs vs ((r, v) :: tm) = _
      rw [e, List.append_assoc]
      rfl⟩
theorem tCG_of (l1 : LA A m1) (l2 : LA B m2) (hj : ∀ j, ioi = some j → j < m1 + m2) (o : IsOk ioi n is (m1 + m2 + dds.length)) (hd : ∀ H A, RpL X.K X.mg H A dds dvs) {σ : St} {H : Hp} {Q : VK} (h : tD X.K X.mg W ec (fCall ioi F is dds A B) σ H Q) :
    tCG m1 m2 (spD X.K X.mg ioi n F) is dvs W (tDA X.K X.mg W ec A) (tDA X.K X.mg W ec B) σ H Q := by
  obtain ⟨C, ρ, tm, h, pf⟩ := h
  refine ⟨C, ρ, tm, h, ?_⟩
  unfold fCall at pf
  cases q : A ρ with
  | ex => rw [q] at pf; exact pf
  | bad => rw [q] at pf; exact pf.elim
  | ok rs ρ1 =>
    rw [q] at pf
    intro vs H1 hl1 h1 k1
    refine ⟨C, ρ1, stk rs vs tm, h1, ?_⟩
    simp only [Out.bind] at pf
    obtain ⟨ts, ets⟩ := stk_ts rs vs tm
    cases q2 : B ρ1 with
    | ex =>
      rw [q2] at pf
      rw [ets]
      exact ExW.up pf k1
    | bad => rw [q2] at pf; exact pf.elim
    | ok ss ρ2 =>
      rw [q2] at pf
      intro zs H2 hl2 h2 k2
      have e1 : rs.length = m1 := l1.len _ _ _ q
      have e2 : ss.length = m2 := l2.len _ _ _ q2
      refine ⟨hl1.trans e1, hl2.trans e2, ?_⟩
      rw [stk_app rs ss vs zs tm hl1] at h2
      have sp := callX_sp (dds := []) (dvs := []) (ioi := ioi) (F := fun ds => F (pickL is (ds ++ dds))) (by rw [List.length_append, List.length_append, hl1, hl2]) (fun j e => by rw [List.length_append, e1, e2]; exact hj j e) h2 (k1.trans k2) (fun _ => rfl) pf
      rw [List.append_nil, List.length_append, e1, e2] at sp
      exact spD_pick o hd hj sp
/-- f(e, .., k = v, ..) -/
theorem de_call (G : FnG X.prog X.w X.K X.mg X.base k f fd ps (spD X.K X.mg ioi n F)) (gd : X.A.guards = some []) (hr : Room k X.A) (hm : X.mg x = some (.ref f)) (hk : PySem.W.keepIn X.K (.ref f) = true) (hb : KB X.K fd ps m1 ks dvs is) (tx : Takes X W)
    (hd : ∀ H A, RpL X.K X.mg H A dds dvs) (ha : DA X W ec (e :: es) A) (hkw : DK X W ec kws B) (l1 : LA A m1) (l2 : LA B ks.length) (hj : ∀ j, ioi = some j → j < m1 + ks.length) (o : IsOk ioi n is (m1 + ks.length + dds.length)) (hg : Gl X x := by rfl)
    (hall : (backToKw pos (keywordEach kws X.env)).all (·.1.isSome) = true := by rfl) (hks : (backToKw pos (keywordEach kws X.env)).filterMap (·.1) = ks := by rfl)
    (hdb : (x == ("__debug__" : Str)) = false := by decide) (he : starEach (e :: es) X.env = (false, eval e X.env) :: starEach es X.env := by rfl)
    (hpl : ((backTo pos (starEach (e :: es) X.env)).any (·.1) || (backToKw pos (keywordEach kws X.env)).any (·.1.isNone)) = false := by rfl) : DE X W ec (.Call (.Name x p) (e :: es) kws pos) (fCall ioi F is dds A B) :=
  (pe_G G gd hr hg hm hk hb tx ha hkw hall hks hdb he hpl).imp fun σ H Q h => tCG_of l1 l2 hj o hd h
/-- f(k = v, ..), f() -/
theorem de_call0 (G : FnG X.prog X.w X.K X.mg X.base k f fd ps (spD X.K X.mg ioi n F)) (gd : X.A.guards = some []) (hr : Room k X.A) (hm : X.mg x = some (.ref f)) (hk : PySem.W.keepIn X.K (.ref f) = true) (hb : KB X.K fd ps 0 ks dvs is) (tx : Takes X W)
    (hd : ∀ H A, RpL X.K X.mg H A dds dvs) (hkw : DK X W ec kws B) (l2 : LA B ks.length) (hj : ∀ j, ioi = some j → j < 0 + ks.length) (o : IsOk ioi n is (0 + ks.length + dds.length)) (hg : Gl X x := by rfl)
    (hall : (backToKw pos (keywordEach kws X.env)).all (·.1.isSome) = true := by rfl) (hks : (backToKw pos (keywordEach kws X.env)).filterMap (·.1) = ks := by rfl)
    (hdb : (x == ("__debug__" : Str)) = false := by decide)
    (hpl : ((backTo pos (starEach [] X.env)).any (·.1) || (backToKw pos (keywordEach kws X.env)).any (·.1.isNone)) = false := by rfl) : DE X W ec (.Call (.Name x p) [] kws pos) (fCall ioi F is dds aNil B) :=
  (pe_G0 G gd hr hg hm hk hb tx hkw hall hks hdb hpl).imp fun σ H Q h => by
    have q := tCG_of (A := aNil) la_nil l2 hj o hd h
    obtain ⟨C, ρ, tm, h1, p1⟩ := q
    exact p1 [] H rfl h1 Kin.refl
/-- all parameters are given by place -/
theorem kb_all {K : PySem.W.Frag} {qual : Str} {params : Arguments} {body : List Stmt} {scope : Scope} {kwv : List (Str × V)} (F : FunD K x qual params body scope dvs kwv f fd)
    (h : ∀ (dV kV doc pm : Value) (an : Option Addr) (cdv ct : Value) (us : List Value), us.length = ps.length → bindArgs (PySem.W.fnOf x qual params body scope dV kV doc pm an cdv ct) ⟨us, []⟩ = pure (ps.zip us)) : KB K fd ps ps.length [] [] (List.range ps.length) := by
  obtain ⟨oc, od, dV, kV, doc, pm, an, cdv, ct, osl, rfl, _⟩ := F.ex
  refine ⟨[], .nil, fun s us ws _ l1 l2 => ?_⟩
  have e : ws = [] := List.eq_nil_of_length_eq_zero l2
  subst e
  have e2 : pickL (List.range ps.length) (us ++ [] ++ []) = us := by
    rw [List.append_nil, List.append_nil, ← l1]
    apply List.ext_getElem?
    intro j
    rw [pick_get (fun i hi => List.mem_range.mp hi)]
    by_cases hj : j < us.length
    · rw [List.getElem?_range hj]
      rfl
    · rw [List.getElem?_eq_none (by rw [List.length_range]; exact Nat.le_of_not_lt hj), List.getElem?_eq_none (Nat.le_of_not_lt hj)]
      rfl
  rw [e2]
  exact .of_eq (h dV kV doc pm an cdv ct us l1)
end
end DL

namespace DL
open PySem L2
open PyProof.Rows (envOfC)

/-! ### calls of built-in functions -/
def gets (ρ : Fm) : List RV → Option (List D)
  | [] => some []
  | r :: rs => match r.get ρ, gets ρ rs with
    | some d, some ds => some (d :: ds)
    | _, _ => none
section
variable {K : PySem.W.Frag} {mg : Str → Option Value} {W : WX} {ec : EC} {C : Fc} {ρ : Fm} {σ : St} {tm : Tm} {H : Hp}
theorem Hold.gets : ∀ {rs : List RV} {vs : List V} {tm : Tm} {ds : List D}, vs.length = rs.length → Hold K mg ec H C ρ σ (stk rs vs tm) → gets ρ rs = some ds → RpL K mg H (fun _ => False) ds vs
  | [], [], tm, ds, _, h, e => by
    cases e
    exact rfl
  | [], _ :: _, tm, ds, hl, h, e => by cases hl
  | _ :: _, [], tm, ds, hl, h, e => by cases hl
  | r :: rs, v :: vs, tm, ds, hl, h, e => by
    unfold DL.gets at e
    cases q1 : r.get ρ with
    | none => rw [q1] at e; cases e
    | some d =>
      cases q2 : DL.gets ρ rs with
      | none => rw [q1, q2] at e; cases e
      | some es =>
        rw [q1, q2] at e
        cases e
        have r1 := Hold.gets (Nat.succ.inj hl) h q2
        obtain ⟨ts, e⟩ := stk_ts rs vs ((r, v) :: tm)
        have h0 : Hold K mg ec H C ρ σ (ts ++ ((r, v) :: tm)) := by
          rw [← e]
          exact h
        exact .cons (h0.pops.get (.head _) q1) r1
theorem Hold.unstk {rs : List RV} {vs : List V} {tm : Tm} (h : Hold K mg ec H C ρ σ (stk rs vs tm)) : Hold K mg ec H C ρ σ tm := by
  obtain ⟨ts, e⟩ := stk_ts rs vs tm
  rw [e] at h
  exact h.pops
end
/-- a built-in function whose result is a scalar -/
structure CB (X : Cx) (f : Value) (g : List D → Option D) : Prop where
  run : ∃ r : List V → Hp → VK → Prop, CallR X f r ∧ ∀ ds z xs H Q, RpL X.K X.mg H (fun _ => False) ds xs → g ds = some z → (∀ v, sv z = some v → Q v H) → r xs H Q
  sc : ∀ ds z, g ds = some z → ∃ v, sv z = some v
def fCB (g : List D → Option D) (A : Fm → Out (List RV)) : Fm → Out RV := fun ρ => (A ρ).bind fun rs ρ => match gets ρ rs with
  | some ds => match g ds with
    | some z => .ok (.dt z) ρ
    | none => .bad
  | none => .bad
section
variable {X : Cx} {W : WX} {ec : EC} {x : Str} {p pos : Pos} {e : Expr} {es : List Expr} {A : Fm → Out (List RV)} {F : Fm → Out RV} {id T : String} {g : List D → Option D} {f : Value}
theorem tCB_of {r : List V → Hp → VK → Prop} (hr : ∀ ds z xs H Q, RpL X.K X.mg H (fun _ => False) ds xs → g ds = some z → (∀ v, sv z = some v → Q v H) → r xs H Q) (sc : ∀ ds z, g ds = some z → ∃ v, sv z = some v) {σ : St} {H : Hp} {Q : VK} (h : tD X.K X.mg W ec (fCB g A) σ H Q) : tCB r (tDA X.K X.mg W ec A) σ H Q := by
  obtain ⟨C, ρ, tm, h, p⟩ := h
  refine tDA_step (ts := []) h Kin.refl p fun rs ρ1 vs H1 hl h1 k1 p1 => ?_
  cases q : gets ρ1 rs with
  | none =>
    rw [q] at p1
    exact p1.elim
  | some ds =>
    rw [q] at p1
    dsimp only at p1
    cases q2 : g ds with
    | none =>
      rw [q2] at p1
      exact p1.elim
    | some z =>
      rw [q2] at p1
      exact hr ds z vs H1 Q (h1.gets hl q) q2 fun w hw => p1 w H1 (h1.unstk.push_sv hw) k1
theorem de_cb (c : CB X (.builtin id) g) (ha : DA X W ec (e :: es) A) (hm : X.mg x = none) (hg : Gl X x := by rfl) (hv : bootBuiltins x = some (.builtin id) := by rfl) (hn : x ≠ "__name__" := by decide) (hdb : (x == ("__debug__" : Str)) = false := by decide)
    (he : starEach (e :: es) X.env = (false, eval e X.env) :: starEach es X.env := by rfl) (hpl : (backTo pos (starEach es X.env)).any (·.1) = false := by rfl) : DE X W ec (.Call (.Name x p) (e :: es) [] pos) (fCB g A) := by
  obtain ⟨r, hc, hr⟩ := c.run
  exact (pe_callB hc hg hm hv ha hn hdb he hpl).imp fun σ H Q h => tCB_of hr c.sc h
theorem de_ct (c : CB X (.type T) g) (ha : DA X W ec (e :: es) A) (hm : X.mg x = none) (hg : Gl X x := by rfl) (hv : bootBuiltins x = some (.type T) := by rfl) (hn : x ≠ "__name__" := by decide) (hdb : (x == ("__debug__" : Str)) = false := by decide)
    (he : starEach (e :: es) X.env = (false, eval e X.env) :: starEach es X.env := by rfl) (hpl : (backTo pos (starEach es X.env)).any (·.1) = false := by rfl) : DE X W ec (.Call (.Name x p) (e :: es) [] pos) (fCB g A) := by
  obtain ⟨r, hc, hr⟩ := c.run
  exact (pe_callTy hc hg hm hv ha hn hdb he hpl).imp fun σ H Q h => tCB_of hr c.sc h
/-- the name of a type -/
theorem de_ty (hm : X.mg x = none) (hg : Gl X x := by rfl) (hv : bootBuiltins x = some (.type T) := by rfl) (hn : x ≠ "__name__" := by decide) (hdb : (x == ("__debug__" : Str)) = false := by decide) : DE X W ec (.Name x p) (fC (.ty T)) :=
  de_sv ⟨fun pins s σ H Q I q => ld_blt (X := X) I hg hm hv ⟨.ty T, H, I, rfl, q⟩ hn hdb⟩ rfl

/-! ### which built-in functions -/
def gLen : List D → Option D
  | [.str z] => if z.length ≤ 16777216 then some (.int z.length) else none
  | [.lst ds] => some (.int ds.length)
  | [.tup ds] => some (.int ds.length)
  | [.fz ns] => some (.int ns.length)
  | _ => none
theorem rp1 {K : PySem.W.Frag} {mg : Str → Option Value} {H : Hp} {av : Addr → Prop} {d : D} {xs : List V} (h : RpL K mg H av [d] xs) : ∃ v, xs = [v] ∧ Rp K mg H av d v := by
  obtain ⟨v, r, rfl, h1, h2⟩ := h
  rw [show r = [] from h2]
  exact ⟨v, rfl, h1⟩
theorem rp2 {K : PySem.W.Frag} {mg : Str → Option Value} {H : Hp} {av : Addr → Prop} {d e : D} {xs : List V} (h : RpL K mg H av [d, e] xs) : ∃ v u, xs = [v, u] ∧ Rp K mg H av d v ∧ Rp K mg H av e u := by
  obtain ⟨v, r, rfl, h1, h2⟩ := h
  obtain ⟨u, rfl, h3⟩ := rp1 h2
  exact ⟨v, u, rfl, h1, h3⟩
theorem cb_len : CB X (.builtin "len") gLen where
  run := ⟨_, call_len, fun ds z xs H Q r q k => by
    unfold gLen at q
    split at q
    · obtain ⟨v, rfl, r1⟩ := rp1 r
      rename_i z
      by_cases hz : z.length ≤ 16777216
      · rw [if_pos hz] at q
        cases q
        rw [show v = .str z from r1]
        exact ⟨_, _, rfl, ⟨by rw [sizeLine_eq]; exact hz, rfl⟩, k _ rfl⟩
      · rw [if_neg hz] at q
        cases q
    · obtain ⟨v, rfl, r1⟩ := rp1 r
      cases q
      obtain ⟨a, vs, rfl, _, hq, rr⟩ := r1
      exact ⟨_, _, rfl, .inl ⟨vs, .of hq, rfl⟩, by rw [rr.len]; exact k _ rfl⟩
    · obtain ⟨v, rfl, r1⟩ := rp1 r
      cases q
      obtain ⟨a, vs, rfl, hq, rr⟩ := r1
      exact ⟨_, _, rfl, .inr ⟨vs, hq, rfl⟩, by rw [rr.len]; exact k _ rfl⟩
    · obtain ⟨v, rfl, r1⟩ := rp1 r
      cases q
      obtain ⟨a, rfl, hq⟩ := r1
      exact ⟨_, _, rfl, .inl ⟨_, hq.sql, rfl⟩, by rw [List.length_map]; exact k _ rfl⟩
    · cases q⟩
  sc := fun ds z q => by
    unfold gLen at q
    split at q
    · split at q
      · cases q
        exact ⟨_, rfl⟩
      · cases q
    all_goals first | (cases q; exact ⟨_, rfl⟩) | cases q
def gAbs : List D → Option D
  | [.int i] => some (.int (if i < 0 then -i else i))
  | _ => none
theorem cb_abs : CB X (.builtin "abs") gAbs where
  run := ⟨_, call_abs, fun ds z xs H Q r q k => by
    unfold gAbs at q
    split at q
    · obtain ⟨v, rfl, r1⟩ := rp1 r
      cases q
      rw [show v = _ from r1]
      exact ⟨_, rfl, k _ rfl⟩
    · cases q⟩
  sc := fun ds z q => by
    unfold gAbs at q
    split at q
    · cases q
      exact ⟨_, rfl⟩
    · cases q
def gMax : List D → Option D
  | [.int i, .int j] => some (.int (if j > i then j else i))
  | _ => none
def gMin : List D → Option D
  | [.int i, .int j] => some (.int (if j < i then j else i))
  | _ => none
theorem cb_max (hc : X.calm = true) : CB X (.builtin "max") gMax where
  run := ⟨_, call_max2 hc, fun ds z xs H Q r q k => by
    unfold gMax at q
    split at q
    · obtain ⟨v, u, rfl, r1, r2⟩ := rp2 r
      cases q
      rw [show v = _ from r1, show u = _ from r2]
      exact ⟨_, _, rfl, k _ rfl⟩
    · cases q⟩
  sc := fun ds z q => by
    unfold gMax at q
    split at q
    · cases q
      exact ⟨_, rfl⟩
    · cases q
theorem cb_min (hc : X.calm = true) : CB X (.builtin "min") gMin where
  run := ⟨_, call_min2 hc, fun ds z xs H Q r q k => by
    unfold gMin at q
    split at q
    · obtain ⟨v, u, rfl, r1, r2⟩ := rp2 r
      cases q
      rw [show v = _ from r1, show u = _ from r2]
      exact ⟨_, _, rfl, k _ rfl⟩
    · cases q⟩
  sc := fun ds z q => by
    unfold gMin at q
    split at q
    · cases q
      exact ⟨_, rfl⟩
    · cases q
def gInt : List D → Option D
  | [.int i] => some (.int i)
  | [.bl b] => some (.int (if b then 1 else 0))
  | _ => none
theorem cb_int : CB X (.type "int") gInt where
  run := ⟨_, call_int1, fun ds z xs H Q r q k => by
    unfold gInt at q
    split at q
    · obtain ⟨v, rfl, r1⟩ := rp1 r
      cases q
      rw [show v = _ from r1]
      exact .inl ⟨_, rfl, k _ rfl⟩
    · obtain ⟨v, rfl, r1⟩ := rp1 r
      cases q
      rw [show v = _ from r1]
      exact .inr ⟨_, rfl, k _ rfl⟩
    · cases q⟩
  sc := fun ds z q => by
    unfold gInt at q
    split at q
    · cases q
      exact ⟨_, rfl⟩
    · cases q
      exact ⟨_, rfl⟩
    · cases q
/-- isinstance(x, T), T a built-in type -/
def tyOf : D → Option String
  | .non => some "NoneType"
  | .bl _ => some "bool"
  | .int _ => some "int"
  | .str _ => some "str"
  | .tup _ => some "tuple"
  | .lst _ => some "list"
  | .fz _ => some "list"
  | _ => none
def gIsi : List D → Option D
  | [d, .ty T] => match tyOf d with
    | some t => (kitB t T).map D.bl
    | none => none
  | _ => none
theorem tyOf_ok {K : PySem.W.Frag} {mg : Str → Option Value} {H : Hp} {av : Addr → Prop} {d : D} {v : V} {t : String} (r : Rp K mg H av d v) (h : tyOf d = some t) : TyX K H v (.type t) := by
  cases d <;> first | (cases h; done) | skip
  · cases h
    rw [show v = _ from r]
    exact .base .non
  · cases h
    rw [show v = _ from r]
    exact .base (.bl _)
  · cases h
    rw [show v = _ from r]
    exact .base (.int _)
  · cases h
    rw [show v = _ from r]
    exact .base (.str _)
  · cases h
    obtain ⟨a, vs, rfl, s, _⟩ := r
    rcases s with (s | ⟨o, s⟩) | ⟨o, its, n, s, c, _⟩
    · exact .base (.tup s)
    · exact .fTuple s
    · exact .kTuple s c
  · cases h
    obtain ⟨a, vs, rfl, _, s, _⟩ := r
    exact .base (.lst s)
  · cases h
    obtain ⟨a, rfl, s⟩ := r
    rcases s with ⟨o, s⟩ | ⟨o, its, n, s, c, _⟩
    · exact .base (.frz s)
    · exact .kList s c
theorem gIsi_inv {ds : List D} {z : D} (h : gIsi ds = some z) : ∃ d T t b, ds = [d, .ty T] ∧ tyOf d = some t ∧ kitB t T = some b ∧ z = .bl b := by
  unfold gIsi at h
  split at h
  · rename_i d T
    cases q : tyOf d with
    | none => rw [q] at h; cases h
    | some t =>
      rw [q] at h
      dsimp only at h
      cases q2 : kitB t T with
      | none => rw [q2] at h; cases h
      | some b =>
        rw [q2] at h
        cases h
        exact ⟨d, T, t, b, rfl, q, q2, rfl⟩
  · cases h
theorem cb_isi : CB X (.builtin "isinstance") gIsi where
  run := ⟨_, call_isi, fun ds z xs H Q r q k => by
    obtain ⟨d, T, t, b, rfl, h1, h2, rfl⟩ := gIsi_inv q
    obtain ⟨v, u, rfl, r1, r2⟩ := rp2 r
    rw [show u = _ from r2]
    exact ⟨v, _, _, _, b, rfl, .ty T, tyOf_ok r1 h1, kit_ty h2, k _ rfl⟩⟩
  sc := fun ds z q => by
    obtain ⟨d, T, t, b, rfl, h1, h2, rfl⟩ := gIsi_inv q
    exact ⟨_, rfl⟩

/-! ### repr -/
def rpOk (d : D) : Bool := pl d && (py d).showable && decide (dep d ≤ 64) && decide ((py d).shown.length ≤ 16777216)
def gRepr : List D → Option D
  | [d] => if rpOk d then some (.str (py d).shown) else none
  | _ => none
def rReprD (K : PySem.W.Frag) : List V → Hp → VK → Prop := fun xs H Q => ∃ v d, xs = [v] ∧ Dp K H v d ∧ d.showable = true ∧ d.depth ≤ 64 ∧ d.hasDict = false ∧ d.shown.length ≤ sizeLine ∧ Q (.str d.shown) H
theorem call_reprD (gd : X.A.guards = some []) (hu : X.A.units + 66 < cLine) : CallR X (.builtin "repr") (rReprD X.K) := by
  intro pins s σ H xs us Q I r h
  obtain ⟨v, d, rfl, hd, hs, hdep, hnd, hl, q⟩ := h
  obtain ⟨u, rfl, ru⟩ := vals1 r
  have fin : ∀ h' tk u, (∀ b o, s.heap.get? b = some o → h'.get? b = some o) → EP X pins σ Q (.str d.shown u) { s with heap := h', toks := tk } := fun h' tk u kp => ⟨.str d.shown, H, I.kept (t' := tk) kp, ⟨_, rfl⟩, q⟩
  cases hd with
  | non =>
    rw [show u = Value.none from ru]
    exact P.repr_of_none (by
      rw [PyData.shown_none] at fin
      exact fin s.heap (s.toks + 1) s.toks fun _ _ e => e)
  | bl b =>
    rw [show u = Value.bool b from ru]
    exact P.repr_of_bool (by
      rw [PyData.shown_bool] at fin
      have z := fin s.heap (s.toks + 1) s.toks fun _ _ e => e
      cases b <;> exact z)
  | int i =>
    obtain ⟨t, rfl⟩ := ru
    exact P.repr_of_int (of_decide_eq_true hs) (by
      rw [PyData.shown_int] at fin
      exact fin s.heap (s.toks + 1) s.toks fun _ _ e => e)
  | str x =>
    obtain ⟨t, rfl⟩ := ru
    rw [PyData.shown_str] at hl
    exact P.repr_of_str (by
      rw [PyData.shown_str] at fin
      exact fin s.heap (s.toks + 1) s.toks fun _ _ e => e) hl
  | @lst a xs ds hq ha =>
    cases (show u = Value.ref a from ru)
    obtain ⟨as, rr⟩ := Dp.reads I (.list ds) (.ref a) (.ref a) (.lst hq ha) rfl
    exact repr_of_reads' rr hs (fun z => by rw [hnd] at z; cases z) gd (by omega) (fun _ _ e => e) (fun h' u tk kp => fin h' tk u kp) hl
  | @tup a xs ds hq ha =>
    cases (show u = Value.ref a from ru)
    obtain ⟨as, rr⟩ := Dp.reads I (.tuple ds) (.ref a) (.ref a) (.tup hq ha) rfl
    exact repr_of_reads' rr hs (fun z => by rw [hnd] at z; cases z) gd (by omega) (fun _ _ e => e) (fun h' u tk kp => fin h' tk u kp) hl
mutual
theorem pl_nd : ∀ d : D, (py d).hasDict = false
  | .non => rfl
  | .bl _ => rfl
  | .int _ => rfl
  | .str _ => rfl
  | .tup ds => plL_nd ds
  | .lst ds => plL_nd ds
  | .ty _ => rfl
  | .cl _ => rfl
  | .fz _ => rfl
  | .ob _ _ _ => rfl
theorem plL_nd : ∀ ds : List D, PyData.hasDictAll (pyL ds) = false
  | [] => rfl
  | d :: ds => by
    show ((py d).hasDict || PyData.hasDictAll (pyL ds)) = false
    rw [pl_nd d, plL_nd ds]
    rfl
end
theorem gRepr_inv {ds : List D} {z : D} (h : gRepr ds = some z) : ∃ d, ds = [d] ∧ rpOk d = true ∧ z = .str (py d).shown := by
  unfold gRepr at h
  split at h
  · rename_i d
    by_cases q : rpOk d = true
    · rw [if_pos q] at h
      cases h
      exact ⟨d, rfl, q, rfl⟩
    · rw [if_neg q] at h
      cases h
  · cases h
theorem cb_repr (gd : X.A.guards = some []) (hu : X.A.units + 66 < cLine) : CB X (.builtin "repr") gRepr where
  run := ⟨_, call_reprD gd hu, fun ds z xs H Q r q k => by
    obtain ⟨d, rfl, h, rfl⟩ := gRepr_inv q
    obtain ⟨v, rfl, r1⟩ := rp1 r
    unfold rpOk at h
    simp only [Bool.and_eq_true, decide_eq_true_eq] at h
    obtain ⟨⟨⟨h1, h2⟩, h3⟩, h4⟩ := h
    exact ⟨v, py d, rfl, rp_dp d v h1 r1, h2, by rw [dep_py]; exact h3, pl_nd d, by rw [sizeLine_eq]; exact h4, k _ rfl⟩⟩
  sc := fun ds z q => by
    obtain ⟨d, rfl, h, rfl⟩ := gRepr_inv q
    exact ⟨_, rfl⟩
end
end DL

namespace DL
open PySem L2
open PyProof.Rows (envOfC)

/-! ### targets, any -/
abbrev PutF := D → Fm → Option Fm
/-- only these slots are written -/
structure Off (is : List Nat) (σ σ' : St) : Prop where
  len : σ'.length = σ.length
  at' : ∀ i : Nat, i ∉ is → σ'[i]? = σ[i]?
theorem Off.refl {is : List Nat} {σ : St} : Off is σ σ := ⟨rfl, fun _ _ => rfl⟩
theorem Off.trans {is js ks : List Nat} {σ σ1 σ2 : St} (a : Off is σ σ1) (b : Off js σ1 σ2) (h1 : ∀ i ∈ is, i ∈ ks) (h2 : ∀ i ∈ js, i ∈ ks) : Off ks σ σ2 := ⟨b.len.trans a.len, fun i hi => (b.at' i fun z => hi (h2 i z)).trans (a.at' i fun z => hi (h1 i z))⟩
/-- pending views of these slots are locked -/
def LkI (is : List Nat) (ρ : Fm) (tm : Tm) : Prop := ∀ i v, (RV.vw i, v) ∈ tm → i ∈ is → ∃ ds, ρ[i]? = some (Sl.ow 2 ds)
theorem LkT.lkI {is : List Nat} {ρ : Fm} {tm : Tm} (h : LkT ρ tm) : LkI is ρ tm := fun i v hm _ => h i v hm
theorem LkI.kin {is : List Nat} {ρ ρ1 : Fm} {tm : Tm} (h : LkI is ρ tm) (k : Kin ρ ρ1) : LkI is ρ1 tm := fun i v hm hi => let ⟨ds, q⟩ := h i v hm hi; ⟨ds, k.lk i 0 ds q⟩
theorem LkI.sub {is js : List Nat} {ρ : Fm} {tm : Tm} (h : LkI is ρ tm) (k : ∀ i ∈ js, i ∈ is) : LkI js ρ tm := fun i v hm hi => h i v hm (k i hi)
structure TgP (K : PySem.W.Frag) (mg : Str → Option Value) (ec : EC) (g : TG) (put : PutF) (is : List Nat) : Prop where
  run : ∀ {C : Fc} {ρ ρ' : Fm} {σ : St} {tm : Tm} {H : Hp} {d : D} {v : V} {Q : St → Hp → Prop}, Hold K mg ec H C ρ σ ((.dt d, v) :: tm) → LkI is ρ tm → put d ρ = some ρ' →
    (∀ σ' H', Hold K mg ec H' C ρ' σ' tm → Kin ρ ρ' → Off is σ σ' → Q σ' H') → g v σ H Q
def pNm (i : Nat) : PutF := fun d ρ => putS i (.dt d) ρ
def pAll : List PutF → List D → Fm → Option Fm
  | [], [], ρ => some ρ
  | p :: ps, d :: ds, ρ => (p d ρ).bind (pAll ps ds)
  | _, _, _ => none
def pTp (ps : List PutF) : PutF := fun d ρ => match d with
  | .tup ds => pAll ps ds ρ
  | _ => none
def pIx (i : Nat) (G : Fm → Out RV) : PutF := fun d ρ => match fV i ρ with
  | .ok (.vw j) ρ1 => match G ρ1 with
    | .ok (.dt (.int n)) ρ' => setIx j n d ρ'
    | _ => none
  | _ => none
section
variable {K : PySem.W.Frag} {mg : Str → Option Value} {ec : EC}
theorem tp_nm {i : Nat} : TgP K mg ec (gName i) (pNm i) [i] := ⟨fun h lk hp q => q _ _ (h.put0 (fun u hm => lk _ u hm (.head _)) rfl hp) (put_kin hp) ⟨List.length_set, fun j hj => List.getElem?_set_ne (fun z => hj (by rw [z]; exact .head _))⟩⟩
inductive GsP (K : PySem.W.Frag) (mg : Str → Option Value) (ec : EC) : TGs → List PutF → List Nat → Prop
  | nil : GsP K mg ec gNil [] []
  | cons {g : TG} {p : PutF} {gs : TGs} {ps : List PutF} {is js : List Nat} : TgP K mg ec g p is → GsP K mg ec gs ps js → GsP K mg ec (gCons g gs) (p :: ps) (is ++ js)
theorem gsP_run {g : TGs} {ps : List PutF} {is : List Nat} (o : GsP K mg ec g ps is) : ∀ {C : Fc} {ρ ρ' : Fm} {σ : St} {tm : Tm} {H : Hp} {ds : List D} {vs : List V} {Q : St → Hp → Prop}, Hold K mg ec H C ρ σ ((ds.zip vs).map (fun p => (RV.dt p.1, p.2)) ++ tm) → vs.length = ds.length → LkI is ρ tm →
    pAll ps ds ρ = some ρ' → (∀ σ' H', Hold K mg ec H' C ρ' σ' tm → Kin ρ ρ' → Off is σ σ' → Q σ' H') → g vs σ H Q := by
  induction o with
  | nil =>
    intro C ρ ρ' σ tm H ds vs Q h hl lk hp q
    cases ds with
    | cons d ds => cases hp
    | nil =>
      cases hp
      have e : vs = [] := List.eq_nil_of_length_eq_zero hl
      subst e
      exact ⟨rfl, q _ _ h Kin.refl Off.refl⟩
  | @cons g p gs ps is js t o ih =>
    intro C ρ ρ' σ tm H ds vs Q h hl lk hp q
    cases ds with
    | nil => cases hp
    | cons d ds =>
      cases vs with
      | nil => cases hl
      | cons v vs =>
        refine ⟨v, vs, rfl, ?_⟩
        cases q1 : p d ρ with
        | none =>
          unfold pAll at hp
          rw [q1] at hp
          cases hp
        | some ρ1 =>
          unfold pAll at hp
          rw [q1] at hp
          have lk2 : LkI is ρ ((ds.zip vs).map (fun p => (RV.dt p.1, p.2)) ++ tm) := fun j w hm hj => by
            rcases List.mem_append.mp hm with z | z
            · obtain ⟨p, _, z⟩ := List.mem_map.mp z
              cases z
            · exact lk j w z (List.mem_append_left _ hj)
          exact t.run h lk2 q1 fun σ1 H1 h1 k1 o1 => ih h1 (Nat.succ.inj hl) ((lk.sub fun i z => List.mem_append_right _ z).kin k1) hp fun σ' H' h2 k2 o2 => q σ' H' h2 (k1.trans k2) (o1.trans o2 (fun i z => List.mem_append_left _ z) fun i z => List.mem_append_right _ z)
theorem pAll_len : ∀ {ps : List PutF} {ds : List D} {ρ ρ' : Fm}, pAll ps ds ρ = some ρ' → ps.length = ds.length
  | [], [], _, _, _ => rfl
  | [], _ :: _, _, _, h => by cases h
  | _ :: _, [], _, _, h => by cases h
  | p :: ps, d :: ds, ρ, ρ', h => by
    unfold pAll at h
    cases q : p d ρ with
    | none => rw [q] at h; cases h
    | some ρ1 =>
      rw [q] at h
      rw [List.length_cons, List.length_cons, pAll_len (ps := ps) h]
theorem tp_tup {n : Nat} {g : TGs} {ps : List PutF} {is : List Nat} (o : GsP K mg ec g ps is) (hn : ps.length = n := by rfl) : TgP K mg ec (gTup K n g) (pTp ps) is := ⟨fun {C ρ ρ' σ tm H d v Q} h lk hp q => by
  cases d <;> first | (cases hp; done) | skip
  rename_i ds
  obtain ⟨a, vs, e, hq, r⟩ := h.seq (.head _) (ρ := ρ) rfl rfl
  rcases hq with ⟨z, _⟩ | ⟨_, hq⟩
  · cases z
  · have hl : ps.length = ds.length := pAll_len hp
    refine ⟨a, vs, e, hq, by rw [r.len, ← hl, hn], ?_⟩
    have r' : RpL K mg H (Av C.av ρ σ tm) ds vs := RpL.av (fun _ z => .inl z.tail) ds vs r
    obtain ⟨tl, _, e2, h2⟩ := hold_items h.pop r'
    rw [e2] at h2
    exact gsP_run o h2 r.len lk hp q⟩
/-- o[i] = .., o a list of the frame's own -/
theorem tp_ix {W : WX} {i : Nat} {G : Fm → Out RV} : TgP K mg ec (L2.gSub (tD K mg W ec (fV i)) (tD K mg W ec G) rSetL) (pIx i G) [] := ⟨fun {C ρ ρ' σ tm H d v Q} h lk hp q => by
  unfold pIx at hp
  cases q1 : fV i ρ with
  | ex => rw [q1] at hp; cases hp
  | bad => rw [q1] at hp; cases hp
  | ok r ρ1 =>
    rw [q1] at hp
    cases r with
    | dt => cases hp
    | fr => cases hp
    | vw j =>
      dsimp only at hp
      cases q2 : G ρ1 with
      | ex => rw [q2] at hp; cases hp
      | bad => rw [q2] at hp; cases hp
      | ok s ρ2 =>
        rw [q2] at hp
        cases s with
        | vw => cases hp
        | fr => cases hp
        | dt z =>
          cases z <;> first | (cases hp; done) | skip
          rename_i n
          dsimp only at hp
          refine ⟨C, ρ, _, h, ?_⟩
          rw [q1]
          intro ov H1 h1 k1
          refine ⟨C, ρ1, _, h1, ?_⟩
          rw [q2]
          intro iv H2 h2 k2
          obtain ⟨k, ds, m, hk, q3, q4, rfl⟩ := setIx_inv hp
          have en : iv = .int n := h2.tmp _ _ (.head _)
          obtain ⟨k', ds', q3', qv⟩ := h2.tmp _ ov (.tail _ (.head _))
          obtain ⟨b, vs, e1, nb, hb, rr⟩ := h2.slot j _ _ q3 qv
          cases e1
          have rd : Rp K mg H2 (Av C.av ρ2 σ tm) d v := Rp.av (fun _ z => .inl z.tail.tail.tail) d v (h2.tmp _ _ (.tail _ (.tail _ (.head _))))
          have rr' : RpL K mg H2 (Av C.av ρ2 σ tm) ds vs := RpL.av (fun _ z => .inl z.tail.tail.tail) ds vs rr
          refine ⟨b, vs, n, m, rfl, en, hb, by rw [rr.len]; exact q4, ?_⟩
          have e : Ext (fun c => c = b) H2 (upd H2 b (.lst (vs.set m v))) := Ext.set hb rfl
          have isA : ∀ c, c = b → Av C.av ρ2 σ tm c := fun c z => by
            subst z
            exact .inr (.inl ⟨j, k, ds, q3, qv⟩)
          obtain ⟨h5, k5⟩ := h2.pop.pop.pop.write hk q3 qv e upd_same (RpL.ext e isA _ _ (RpL.set rd m rr'))
          exact q _ _ h5 ((k1.trans k2).trans k5) Off.refl⟩
end
section
variable {X : Cx} {W : WX} {ec : EC} {a b c e o : Expr} {es : List Expr} {pos : Pos} {F G J : Fm → Out RV} {A : Fm → Out (List RV)}
def sTg (p : PutF) (F : Fm → Out RV) : Fm → SO := fun ρ => (F ρ).sbind fun r ρ => match r with
  | .dt d => match p d ρ with
    | some ρ' => .nx ρ'
    | none => .bad
  | _ => .bad
theorem ds_tg {tg : Expr} {g : TG} {pu : PutF} {is : List Nat} (ha : DE X W ec a F) (hg : PG X tg g) (ht : TgP X.K X.mg ec g pu is) (hs : swapsWithSole [tg] a pos.line X.env = pure false := by rfl) (hw : swappedStores [tg] a X.env = pure none := by rfl)
    (h1 : (assignEach [tg] X.env).map (·.2) = [assign tg X.env] := by rfl) : DS X W ec (.Assign [tg] a pos) (sTg pu F) := (ps_asg ha hg hs hw h1).imp fun E σ H ⟨C, ρ, tm, h, lk, p⟩ =>
  tD_stepS (ts := []) h Kin.refl p fun r ρ1 v H1 h1 k1 p1 => by
    cases r with
    | vw => exact p1.elim
    | fr => exact p1.elim
    | dt d =>
      cases q : pu d ρ1 with
      | none =>
        simp only [q] at p1
        exact p1.elim
      | some ρ' =>
        simp only [q] at p1
        exact ht.run h1 (lk.kin k1).lkI q fun σ' H' h2 k2 _ => p1 σ' H' h2 (k1.trans k2)
theorem setAll_len : ∀ {is : List Nat} {rs : List RV} {ρ ρ' : Fm}, setAll is rs ρ = some ρ' → is.length = rs.length
  | [], [], _, _, _ => rfl
  | [], _ :: _, _, _, h => by cases h
  | _ :: _, [], _, _, h => by cases h
  | i :: is, r :: rs, ρ, ρ', h => by
    unfold setAll at h
    cases q : slOf r with
    | none => rw [q] at h; cases h
    | some s =>
      rw [q] at h
      dsimp only at h
      cases q1 : putS i s ρ with
      | none => rw [q1] at h; cases h
      | some ρ1 =>
        rw [q1] at h
        rw [List.length_cons, List.length_cons, setAll_len (is := is) h]
/-- a, b = e1, e2 -/
theorem ds_par {i j : Nat} {x y : Str} {px py pt : Pos} {kt k2 pt2} (hc : X.calm = true) (hN : X.N.Nodup) (hij : i ≠ j) (ha : DA X W ec [a, b] A) (la : LA A 2) (hi : X.N[i]? = some x := by rfl) (hj : X.N[j]? = some y := by rfl)
    (hx : X.env.scope.names.lookup x = some .local := by rfl) (hy : X.env.scope.names.lookup y = some .local := by rfl)
    (hw : swappedStores [.Tuple [.Name x px, .Name y py] kt pt] (.Tuple [a, b] k2 pt2) X.env = pure (some [x, y]) := by rfl)
    (hs : swapsWithSole [.Tuple [.Name x px, .Name y py] kt pt] (.Tuple [a, b] k2 pt2) pos.line X.env = pure false := by rfl) :
    DS X W ec (.Assign [.Tuple [.Name x px, .Name y py] kt pt] (.Tuple [a, b] k2 pt2) pos) (sPar [i, j] A) := (ps_par hc hN hi hj hij hx hy ha hw hs).imp fun E σ H ⟨C, ρ, tm, h, lk, p⟩ =>
  tDA_stepS (ts := []) h Kin.refl p fun rs ρ1 vs H1 hl h1 k1 p1 => by
    cases q : setAll [i, j] rs ρ1 with
    | none =>
      rw [q] at p1
      exact p1.elim
    | some ρ' =>
      rw [q] at p1
      have p1 : FinS X.K X.mg W ec C ρ tm (.nx ρ') E := p1
      obtain ⟨r1, r2, rfl⟩ : ∃ r1 r2, rs = [r1, r2] := by
        have z := setAll_len q
        match rs, z with
        | [r1, r2], _ => exact ⟨r1, r2, rfl⟩
      obtain ⟨v, w, rfl⟩ : ∃ v w, vs = [v, w] := by
        match vs, hl with
        | [v, w], _ => exact ⟨v, w, rfl⟩
      refine ⟨v, w, rfl, ?_⟩
      have h1 : Hold X.K X.mg ec H1 C ρ1 σ ((r2, w) :: (r1, v) :: tm) := h1
      have h2 := h1.perm (List.Perm.swap _ _ _)
      unfold setAll at q
      cases s1 : slOf r1 with
      | none => rw [s1] at q; cases q
      | some s1' =>
        rw [s1] at q
        dsimp only at q
        cases z : putS i s1' ρ1 with
        | none => rw [z] at q; cases q
        | some ρ2 =>
          rw [z] at q
          have q : setAll [j] [r2] ρ2 = some ρ' := q
          unfold setAll at q
          cases s2 : slOf r2 with
          | none => rw [s2] at q; cases q
          | some s2' =>
            rw [s2] at q
            dsimp only at q
            cases z2 : putS j s2' ρ2 with
            | none => rw [z2] at q; cases q
            | some ρ3 =>
              rw [z2] at q
              have e3 : ρ3 = ρ' := Option.some.inj q
              subst e3
              have lk1 := lk.kin k1
              have lk2 : LkT ρ1 ((r2, w) :: tm) := fun n u hm => by
                rcases List.mem_cons.mp hm with z | z
                · cases z
                  cases s2
                · exact lk1 n u z
              have h3 := h2.put lk2 s1 z
              have k3 := put_kin z
              have h4 := h3.put (lk1.kin k3) s2 z2
              exact p1 _ _ h4 ((k1.trans k3).trans (put_kin z2))

/-! ### new lists of the items of a list or a tuple -/
structure CS (X : Cx) (f : Value) (g : D → Option (List D)) : Prop where
  run : ∃ r : List V → Hp → VK → Prop, CallR X f r ∧ ∀ (d : D) (ds zs : List D) (a : Addr) (vs : List V) (av : Addr → Prop) (H : Hp) (Q : VK), ((d = .lst ds ∧ H a = some (.lst vs)) ∨ (d = .tup ds ∧ SqT X.K H a vs)) → RpL X.K X.mg H av ds vs → g d = some zs →
    (∀ l ws, H l = none → RpL X.K X.mg H av zs ws → Q (.ref l) (upd H l (.lst ws))) → r [.ref a] H Q
def fCS (g : D → Option (List D)) (F : Fm → Out RV) : Fm → Out RV := fun ρ => (F ρ).bind fun r ρ => match r.get ρ with
  | some d => match seqD d, g d with
    | some _, some zs => .ok (.fr zs) ρ
    | _, _ => .bad
  | none => .bad
theorem tCS_of {r : List V → Hp → VK → Prop} {g : D → Option (List D)} (hr : ∀ (d : D) (ds zs : List D) (a : Addr) (vs : List V) (av : Addr → Prop) (H : Hp) (Q : VK), ((d = .lst ds ∧ H a = some (.lst vs)) ∨ (d = .tup ds ∧ SqT X.K H a vs)) → RpL X.K X.mg H av ds vs → g d = some zs →
    (∀ l ws, H l = none → RpL X.K X.mg H av zs ws → Q (.ref l) (upd H l (.lst ws))) → r [.ref a] H Q) {σ : St} {H : Hp} {Q : VK} (h : tD X.K X.mg W ec (fCS g F) σ H Q) : tCB r (tDA X.K X.mg W ec (aCons F aNil)) σ H Q := by
  obtain ⟨C, ρ, tm, h, p⟩ := h
  have p' : Fin X.K X.mg W ec C ρ σ tm ((aCons F aNil ρ).bind fun rs ρ => match rs with
    | [r] => (match r.get ρ with
      | some d => match seqD d, g d with
        | some _, some zs => .ok (.fr zs) ρ
        | _, _ => .bad
      | none => .bad)
    | _ => .bad) Q := by
    unfold fCS at p
    unfold aCons
    cases q : F ρ with
    | ex => rw [q] at p; exact p
    | bad => rw [q] at p; exact p
    | ok r ρ1 => rw [q] at p; exact p
  refine tDA_step (ts := []) h Kin.refl p' fun rs ρ1 vs H1 hl h1 k1 p1 => ?_
  match rs, vs, hl, h1, p1 with
  | [], [], _, h1, p1 => exact p1.elim
  | _ :: _ :: _, _, _, h1, p1 => exact p1.elim
  | [r], [v], _, h1, p1 =>
    have h1 : Hold X.K X.mg ec H1 C ρ1 σ ((r, v) :: tm) := h1
    dsimp only at p1
    cases q : r.get ρ1 with
    | none => rw [q] at p1; exact p1.elim
    | some d =>
      rw [q] at p1
      dsimp only at p1
      cases q2 : seqD d with
      | none => rw [q2] at p1; exact p1.elim
      | some ds =>
        rw [q2] at p1
        cases q3 : g d with
        | none => rw [q3] at p1; exact p1.elim
        | some zs =>
          rw [q3] at p1
          obtain ⟨a, ws, rfl, hq, rr⟩ := h1.seq (.head _) q q2
          exact hr d ds zs a ws (Av C.av ρ1 σ tm) H1 Q hq (RpL.av (fun _ z => .inl z.tail) _ _ rr) q3 fun l us hl ru => p1 _ _ (h1.pop.push_fr hl ru) k1
variable {x : Str} {p : Pos} {id T : String} {g : D → Option (List D)}
theorem de_cs (c : CS X (.builtin id) g) (ha : DE X W ec e F) (hm : X.mg x = none) (hg : Gl X x := by rfl) (hv : bootBuiltins x = some (.builtin id) := by rfl) (hn : x ≠ "__name__" := by decide) (hdb : (x == ("__debug__" : Str)) = false := by decide)
    (he : starEach [e] X.env = (false, eval e X.env) :: starEach [] X.env := by rfl) (hpl : (backTo pos (starEach [] X.env)).any (·.1) = false := by rfl) : DE X W ec (.Call (.Name x p) [e] [] pos) (fCS g F) := by
  obtain ⟨r, hc, hr⟩ := c.run
  exact (pe_callB hc hg hm hv (da_cons ha da_nil he) hn hdb he hpl).imp fun σ H Q h => tCS_of hr h
theorem de_cst (c : CS X (.type T) g) (ha : DE X W ec e F) (hm : X.mg x = none) (hg : Gl X x := by rfl) (hv : bootBuiltins x = some (.type T) := by rfl) (hn : x ≠ "__name__" := by decide) (hdb : (x == ("__debug__" : Str)) = false := by decide)
    (he : starEach [e] X.env = (false, eval e X.env) :: starEach [] X.env := by rfl) (hpl : (backTo pos (starEach [] X.env)).any (·.1) = false := by rfl) : DE X W ec (.Call (.Name x p) [e] [] pos) (fCS g F) := by
  obtain ⟨r, hc, hr⟩ := c.run
  exact (pe_callTy hc hg hm hv (da_cons ha da_nil he) hn hdb he hpl).imp fun σ H Q h => tCS_of hr h
theorem cs_list : CS X (.type "list") seqD where
  run := ⟨_, call_list_of, fun d ds zs a vs av H Q hq r e k => by
    have e' : ds = zs := by
      rcases hq with ⟨rfl, _⟩ | ⟨rfl, _⟩ <;> exact Option.some.inj e
    subst e'
    exact ⟨a, vs, rfl, seq_sq hq, fun l hl => k l vs hl r⟩⟩
/-- tuple(x) -/
def fTupOf (F : Fm → Out RV) : Fm → Out RV := fun ρ => (F ρ).bind fun r ρ => match r.get ρ with
  | some d => match seqD d with
    | some ds => .ok (.dt (.tup ds)) ρ
    | none => .bad
  | none => .bad
theorem de_tupOf (ha : DE X W ec e F) (hm : X.mg "tuple" = none) (hg : Gl X "tuple" := by rfl) 
    (he : starEach [e] X.env = (false, eval e X.env) :: starEach [] X.env := by rfl) (hpl : (backTo pos (starEach [] X.env)).any (·.1) = false := by rfl) : DE X W ec (.Call (.Name "tuple" p) [e] [] pos) (fTupOf F) :=
  (pe_callTy call_tuple_of hg hm (by rfl) (da_cons ha da_nil he) (by decide) (by decide) he hpl).imp fun σ H Q ⟨C, ρ, tm, h, p⟩ => by
  have p' : Fin X.K X.mg W ec C ρ σ tm ((aCons F aNil ρ).bind fun rs ρ => match rs with
    | [r] => (match r.get ρ with
      | some d => match seqD d with
        | some ds => .ok (.dt (.tup ds)) ρ
        | none => .bad
      | none => .bad)
    | _ => .bad) Q := by
    unfold fTupOf at p
    unfold aCons
    cases q : F ρ with
    | ex => rw [q] at p; exact p
    | bad => rw [q] at p; exact p
    | ok r ρ1 => rw [q] at p; exact p
  refine tDA_step (ts := []) h Kin.refl p' fun rs ρ1 vs H1 hl h1 k1 p1 => ?_
  match rs, vs, hl, h1, p1 with
  | [], [], _, h1, p1 => exact p1.elim
  | _ :: _ :: _, _, _, h1, p1 => exact p1.elim
  | [r], [v], _, h1, p1 =>
    have h1 : Hold X.K X.mg ec H1 C ρ1 σ ((r, v) :: tm) := h1
    dsimp only at p1
    cases q : r.get ρ1 with
    | none => rw [q] at p1; exact p1.elim
    | some d =>
      rw [q] at p1
      dsimp only at p1
      cases q2 : seqD d with
      | none => rw [q2] at p1; exact p1.elim
      | some ds =>
        rw [q2] at p1
        obtain ⟨a, ws, rfl, hq, rr⟩ := h1.seq (.head _) q q2
        have rr' : RpL X.K X.mg H1 (Av C.av ρ1 σ tm) ds ws := RpL.av (fun _ z => .inl z.tail) _ _ rr
        rcases hq with ⟨_, hq⟩ | ⟨_, hq⟩
        · exact ⟨a, ws, rfl, .inl ⟨.of hq, fun l hl => p1 _ _ (h1.pop.push_tup hl rr') k1⟩⟩
        · exact ⟨a, ws, rfl, .inr ⟨hq, p1 _ _ (h1.pop.push_dt ⟨a, ws, rfl, hq, rr'⟩) k1⟩⟩
end
end DL

namespace DL
open PySem L2
open PyProof.Rows (envOfC)

/-! ### sorted, of pairs of ints -/
abbrev PP := Int × Int
def insP (p : PP) : List PP → List PP
  | [] => [p]
  | q :: r => if SrtO.lexB q p then q :: insP p r else p :: q :: r
def psort : List PP → List PP
  | [] => []
  | p :: r => insP p (psort r)
theorem insP_perm (p : PP) : ∀ l : List PP, (insP p l).Perm (p :: l)
  | [] => .refl _
  | q :: r => by
    unfold insP
    by_cases h : SrtO.lexB q p = true
    · rw [if_pos h]
      exact ((insP_perm p r).cons q).trans (List.Perm.swap _ _ _)
    · rw [if_neg h]
theorem psort_perm : ∀ l : List PP, (psort l).Perm l
  | [] => .refl _
  | p :: r => (insP_perm p _).trans ((psort_perm r).cons p)
abbrev Asc (l : List PP) : Prop := SrtO.Srtd SrtO.lexB l
theorem insP_asc (p : PP) : ∀ {l : List PP}, Asc l → Asc (insP p l)
  | [], _ => List.pairwise_singleton _ _
  | q :: r, h => by
    unfold insP
    obtain ⟨h1, h2⟩ := List.pairwise_cons.mp h
    by_cases e : SrtO.lexB q p = true
    · rw [if_pos e]
      refine List.pairwise_cons.mpr ⟨fun y hy => ?_, insP_asc p h2⟩
      rcases List.mem_cons.mp ((insP_perm p r).mem_iff.mp hy) with z | z
      · subst z
        have a := SrtO.lexB_iff.mp e
        exact SrtO.lexB_no.mpr (by omega)
      · exact h1 y z
    · rw [if_neg e]
      have e' : SrtO.lexB q p = false := by
        cases z : SrtO.lexB q p with
        | true => exact absurd z e
        | false => rfl
      refine List.pairwise_cons.mpr ⟨fun y hy => ?_, h⟩
      rcases List.mem_cons.mp hy with z | z
      · rw [z]
        exact e'
      · have a := SrtO.lexB_no.mp e'
        have b := SrtO.lexB_no.mp (h1 y z)
        exact SrtO.lexB_no.mpr (by omega)
theorem psort_asc : ∀ l : List PP, Asc (psort l)
  | [] => List.Pairwise.nil
  | p :: r => insP_asc p (psort_asc r)
theorem asc_uniq : ∀ {l m : List PP}, Asc l → Asc m → l.Perm m → l = m
  | [], m, _, _, h => h.symm.eq_nil.symm
  | x :: l, [], _, _, h => absurd h.length_eq (by simp)
  | x :: l, y :: m, hl, hm, h => by
    obtain ⟨l1, l2⟩ := List.pairwise_cons.mp hl
    obtain ⟨m1, m2⟩ := List.pairwise_cons.mp hm
    have e : x = y := by
      have a : x = y ∨ SrtO.lexB x y = false := (List.mem_cons.mp (h.mem_iff.mp (List.mem_cons_self (a := x) (l := l)))).imp id (m1 x)
      have b : y = x ∨ SrtO.lexB y x = false := (List.mem_cons.mp (h.mem_iff.mpr (List.mem_cons_self (a := y) (l := m)))).imp id (l1 y)
      rcases a with a | a
      · exact a
      · rcases b with b | b
        · exact b.symm
        · have a := SrtO.lexB_no.mp a
          have b := SrtO.lexB_no.mp b
          exact Prod.ext (by omega) (by omega)
    subst e
    rw [asc_uniq l2 m2 h.cons_inv]
def dPair (p : PP) : D := .tup [.int p.1, .int p.2]
def prs : List D → Option (List PP)
  | [] => some []
  | .tup [.int i, .int j] :: ds => (prs ds).map ((i, j) :: ·)
  | _ => none
theorem prs_map : ∀ {ds : List D} {ps : List PP}, prs ds = some ps → ds = ps.map dPair
  | [], ps, h => by cases h; rfl
  | d :: ds, ps, h => by
    unfold prs at h
    split at h
    · rename_i h0
      cases h0
    · rename_i h0
      cases h0
      cases q : prs ds with
      | none => rw [q] at h; cases h
      | some r =>
        rw [q] at h
        cases h
        rw [prs_map q]
        rfl
    · cases h
theorem map_prs : ∀ ps : List PP, prs (ps.map dPair) = some ps
  | [] => rfl
  | p :: ps => by
    show (prs (ps.map dPair)).map _ = _
    rw [map_prs ps]
    rfl
def gSorted (ds : List D) : Option (List D) := (prs ds).map fun ps => (psort ps).map dPair
def rSortedQ (K : PySem.W.Frag) : List V → Hp → VK → Prop := fun vs H Q => ∃ (a : Addr) (xs : List V), vs = [V.ref a] ∧ SqL K H a xs ∧ (∀ x ∈ xs, ∃ t i j, x = V.ref t ∧ SqT K H t [.int i, .int j]) ∧
  ∀ (k : V → PP) ys p, (∀ x ∈ xs, ∃ t, x = V.ref t ∧ SqT K H t [.int (k x).1, .int (k x).2]) → (∀ x ∈ xs, ∀ t i j, x = V.ref t → SqT K H t [.int i, .int j] → k x = (i, j)) → SrtO.Srtd (ltP k) ys → ys.Perm xs → H p = none → Q (.ref p) (upd H p (.lst ys))
section
variable {X : Cx}
open Classical in
theorem cr_sortedQ : CallR X (.builtin "sorted") (rSortedQ X.K) := by
  intro pins s σ H vs us Q I r h
  obtain ⟨a, xs, rfl, hs, hx, q⟩ := h
  obtain ⟨its, rv, hl, hz⟩ := I.list hs
  obtain ⟨u, rfl, ru⟩ := vals1 r
  obtain rfl : u = Value.ref a := ru
  obtain ⟨e1, e2⟩ := refs_back rv fun x m => by
    obtain ⟨t, _, _, e, _⟩ := hx x m
    exact ⟨t, e⟩
  let k : V → PP := fun x => if h : ∃ p : PP, ∃ t, x = V.ref t ∧ SqT X.K H t [.int p.1, .int p.2] then h.choose else (0, 0)
  have k1 : ∀ x ∈ xs, ∃ t, x = V.ref t ∧ SqT X.K H t [.int (k x).1, .int (k x).2] := fun x m => by
    obtain ⟨t, i, j, e, ht⟩ := hx x m
    have ex : ∃ p : PP, ∃ t, x = V.ref t ∧ SqT X.K H t [.int p.1, .int p.2] := ⟨(i, j), t, e, ht⟩
    have ek : k x = ex.choose := dif_pos ex
    rw [ek]
    exact ex.choose_spec
  have k2 : ∀ x ∈ xs, ∀ t i j, x = V.ref t → SqT X.K H t [.int i, .int j] → k x = (i, j) := fun x m t i j e ht => by
    obtain ⟨t', e', ht'⟩ := k1 x m
    rw [e] at e'
    cases e'
    have z := I.tuple_inj ht' ht
    injection z with z1 z2
    injection z2 with z2 _
    injection z1 with z1
    injection z2 with z2
    exact Prod.ext z1 z2
  refine SrtO.sorted_pairsO (k := fun u => k (backV u)) hl.isList (by rw [← rv.length]; exact hz) (fun v hv => ?_) fun h' d out h1 h2 kp hd hn => ?_
  · obtain ⟨t, rfl⟩ := e2 v hv
    have hm : V.ref t ∈ xs := by rw [e1]; exact List.mem_map.mpr ⟨_, hv, rfl⟩
    obtain ⟨t', e, ht⟩ := k1 _ hm
    cases e
    obtain ⟨its2, r2, ⟨o, ho, hc, n, hd⟩, _⟩ := I.tuple ht
    obtain ⟨u1, u2, rfl, ri, rj⟩ := vals2 r2
    obtain ⟨t1, rfl⟩ := ri
    obtain ⟨t2, rfl⟩ := rj
    exact ⟨t, o, t1, t2, n, rfl, ho, hc, hd⟩
  · have h3 : ∀ u ∈ out, ∃ a, u = Value.ref a := fun u hu => e2 u (h2.perm.mem_iff.mp hu)
    obtain ⟨n, hn⟩ := hn
    have hb : SrtO.Stb (ltP k) (out.map backV) xs := by
      rw [e1]
      exact SrtO.Stb.map (ltP_swo k) backV h2
    refine ⟨.ref d, upd H d (.lst (out.map backV)), I.laid (t' := s.toks) kp hd ⟨?_, out, n, vals_back h3, hn⟩, rfl, q k _ d k1 k2 (SrtO.srtd_map h1) hb.perm (I.hok.fresh hd)⟩
    rw [hb.len]
    exact hz
theorem rpl_pairs {K : PySem.W.Frag} {mg : Str → Option Value} {H : Hp} {av : Addr → Prop} : ∀ {ps : List PP} {vs : List V}, RpL K mg H av (ps.map dPair) vs → (∀ x ∈ vs, ∃ t i j, x = V.ref t ∧ SqT K H t [.int i, .int j]) ∧
    ∀ k : V → PP, (∀ x ∈ vs, ∀ t i j, x = V.ref t → SqT K H t [.int i, .int j] → k x = (i, j)) → vs.map k = ps
  | [], vs, h => by
    rw [show vs = [] from h]
    exact ⟨fun x hx => (nomatch hx), fun _ _ => rfl⟩
  | p :: ps, vs, h => by
    obtain ⟨v, r, rfl, h1, h2⟩ := h
    obtain ⟨a, ws, rfl, hs, hr⟩ := h1
    obtain ⟨w1, w2, rfl, e1, e2⟩ := rp2 hr
    rw [show w1 = _ from e1, show w2 = _ from e2] at hs
    obtain ⟨i1, i2⟩ := rpl_pairs h2
    refine ⟨fun x hx => ?_, fun k hk => ?_⟩
    · rcases List.mem_cons.mp hx with z | z
      · exact ⟨a, _, _, z, hs⟩
      · exact i1 x z
    · rw [List.map_cons, i2 k fun x hx => hk x (.tail _ hx), hk _ (.head _) a _ _ rfl hs]
theorem pairs_rpl {K : PySem.W.Frag} {mg : Str → Option Value} {H : Hp} {av : Addr → Prop} {k : V → PP} : ∀ {vs : List V}, (∀ x ∈ vs, ∃ t, x = V.ref t ∧ SqT K H t [.int (k x).1, .int (k x).2]) → RpL K mg H av ((vs.map k).map dPair) vs
  | [], _ => rfl
  | v :: vs, h => by
    obtain ⟨t, e, ht⟩ := h v (.head _)
    exact ⟨v, vs, rfl, ⟨t, _, e, ht, ⟨_, _, rfl, rfl, _, _, rfl, rfl, rfl⟩⟩, pairs_rpl fun x hx => h x (.tail _ hx)⟩
def gSortL : D → Option (List D)
  | .lst ds => gSorted ds
  | _ => none
theorem cs_sortedP : CS X (.builtin "sorted") gSortL where
  run := ⟨_, cr_sortedQ, fun d ds zs a vs av H Q hq r e kk => by
    rcases hq with ⟨rfl, hq⟩ | ⟨rfl, hq⟩
    · have e : (prs ds).map (fun ps => (psort ps).map dPair) = some zs := e
      cases q : prs ds with
      | none => rw [q] at e; cases e
      | some ps =>
        rw [q] at e
        cases e
        rw [prs_map q] at r
        obtain ⟨r1, r2⟩ := rpl_pairs r
        refine ⟨a, vs, rfl, .of hq, r1, fun k ys p k1 k2 hs hp hn => kk p ys hn ?_⟩
        have e1 := r2 k k2
        have e2 : ys.map k = psort ps := asc_uniq (SrtO.srtd_map (lt := SrtO.lexB) hs) (psort_asc ps) ((hp.map k).trans (by rw [e1]; exact (psort_perm ps).symm))
        show RpL X.K X.mg H av ((psort ps).map dPair) ys
        rw [← e2]
        exact pairs_rpl fun x hx => k1 x (hp.mem_iff.mp hx)
    · cases e⟩

/-! ### methods that change a list of the frame's own -/
def updS (i : Nat) (f : List D → Option (List D)) (ρ : Fm) : Option Fm := match ρ[i]? with
  | some (.ow k ds) => if k ≤ 1 then (f ds).map fun es => ρ.set i (.ow k es) else none
  | _ => none
theorem updS_inv {i : Nat} {f : List D → Option (List D)} {ρ ρ' : Fm} (h : updS i f ρ = some ρ') : ∃ k ds es, k ≤ 1 ∧ ρ[i]? = some (Sl.ow k ds) ∧ f ds = some es ∧ ρ' = ρ.set i (.ow k es) := by
  unfold updS at h
  cases q : ρ[i]? with
  | none => rw [q] at h; cases h
  | some s =>
    rw [q] at h
    cases s with
    | un => cases h
    | dt => cases h
    | ex => cases h
    | nw => cases h
    | ow k ds =>
      by_cases hk : k ≤ 1
      · simp only [hk, if_true] at h
        cases q2 : f ds with
        | none => rw [q2] at h; cases h
        | some j =>
          rw [q2] at h
          cases h
          exact ⟨k, ds, j, hk, rfl, q2, rfl⟩
      · simp only [hk, if_false] at h
        cases h
structure MU (X : Cx) (id : String) (g : List D → List D → Option (List D)) : Prop where
  run : ∃ r : V → List V → Hp → VK → Prop, MtR X id r ∧ ∀ (ds args zs : List D) (l : Addr) (xs vs : List V) (av : Addr → Prop) (H : Hp) (Q : VK), H l = some (.lst xs) → RpL X.K X.mg H av ds xs → RpL X.K X.mg H av args vs → g ds args = some zs →
    (∀ ws, RpL X.K X.mg H av zs ws → Q .non (upd H l (.lst ws))) → r (.ref l) vs H Q
def fMU (i : Nat) (g : List D → List D → Option (List D)) (A : Fm → Out (List RV)) : Fm → Out RV := fun ρ => (fV i ρ).bind fun o ρ => match o with
  | .vw j => (A ρ).bind fun rs ρ => match toDs rs with
    | some args => match updS j (fun ds => g ds args) ρ with
      | some ρ' => .ok (.dt .non) ρ'
      | none => .bad
    | none => .bad
  | _ => .bad
variable {W : WX} {ec : EC} {o e : Expr} {es : List Expr} {name : Str} {apos cpos : Pos} {id : String} {A : Fm → Out (List RV)} {i : Nat}
theorem de_mu {g : List D → List D → Option (List D)} (m : MU X id g) (slot : Slot "list" name id) (hty : typeOf (.builtin id) = pure (.type "method_descriptor")) (ho : DE X W ec o (fV i)) (ha : DA X W ec (e :: es) A)
    (hbase : attributeBase o name X.env (eval o X.env) = eval o X.env := by rfl)
    (hfew : ((backTo cpos (starEach (e :: es) X.env)).all (fun x => !x.1) && (backToKw cpos (keywordEach [] X.env)).all (fun x => x.1.isSome)
      && decide ((e :: es).length + ([] : List Keyword).length + (if ([] : List Keyword).isEmpty then 0 else 1) < 30)) = true := by rfl)
    (hline : (apos.endLine == cpos.line) = true := by rfl) (hs : starEach (e :: es) X.env = (false, eval e X.env) :: starEach es X.env := by rfl) (hplain : (backTo cpos (starEach es X.env)).any (·.1) = false := by rfl) :
    DE X W ec (.Call (.Attribute o name apos) (e :: es) [] cpos) (fMU i g A) := by
  obtain ⟨r, hm, hr⟩ := m.run
  refine (pe_bm PySem.F.plainAttrs_list slot hty hm ho ha hbase hfew hline hs hplain).imp fun σ H Q ⟨C, ρ, tm, h, p⟩ => ?_
  refine tD_step (ts := []) h Kin.refl p fun o1 ρ1 ov H1 h1 k1 p1 => ?_
  cases o1 with
  | dt => exact p1.elim
  | fr => exact p1.elim
  | vw j =>
    have hv := h1.tmp _ _ (.head _)
    obtain ⟨k', ds', q3', qv'⟩ := hv
    obtain ⟨b', vs', e1', _, hb', _⟩ := h1.slot j _ _ q3' qv'
    cases e1'
    refine ⟨.inl ⟨rfl, vs', .of hb'⟩, ?_⟩
    dsimp only at p1
    refine tDA_step (ts := [(RV.vw j, V.ref b')]) h1 k1 p1 fun rs ρ2 vs H2 hl h2 k2 p2 => ?_
    cases q : toDs rs with
    | none => rw [q] at p2; exact p2.elim
    | some args =>
      rw [q] at p2
      dsimp only at p2
      cases q2 : updS j (fun ds => g ds args) ρ2 with
      | none => rw [q2] at p2; exact p2.elim
      | some ρ' =>
        rw [q2] at p2
        obtain ⟨k, ds, zs, hk, q3, q4, rfl⟩ := updS_inv q2
        obtain ⟨h3, ra⟩ := Hold.settles hl h2 q
        obtain ⟨_, _, q5, qv⟩ := h3.tmp _ _ (.head _)
        obtain ⟨b, xs, e1, nb, hb, rr⟩ := h3.slot j _ _ q3 qv
        cases e1
        have h4 := h3.pop
        have rr' : RpL X.K X.mg H2 (Av C.av ρ2 σ tm) ds xs := RpL.av (fun _ z => .inl z.tail) ds xs rr
        have ra' : RpL X.K X.mg H2 (Av C.av ρ2 σ tm) args vs := RpL.av (fun _ z => .inl z.tail) args vs ra
        refine hr ds args zs _ xs vs _ H2 Q hb rr' ra' q4 fun ws rw' => ?_
        have e : Ext (fun c => c = b') H2 (upd H2 b' (.lst ws)) := Ext.set hb rfl
        have isA : ∀ c, c = b' → Av C.av ρ2 σ tm c := fun c z => by
          rw [z]
          exact .inr (.inl ⟨j, k, ds, q3, qv⟩)
        obtain ⟨h5, k5⟩ := h4.write hk q3 qv e upd_same (RpL.ext e isA _ _ rw')
        exact p2 _ _ (h5.push_sv rfl) (k2.trans k5)
def gAppend (ds args : List D) : Option (List D) := match args with
  | [d] => if ds.length < 1000000 then some (ds ++ [d]) else none
  | _ => none
theorem mu_append : MU X "list.append" gAppend where
  run := ⟨_, mt_append, fun ds args zs l xs vs av H Q hl rx rv e k => by
    unfold gAppend at e
    split at e
    · rename_i d
      by_cases hz : ds.length < 1000000
      · rw [if_pos hz] at e
        cases e
        obtain ⟨v, rfl, r1⟩ := rp1 rv
        refine ⟨l, xs, v, rfl, rfl, hl, ?_, k _ (rx.app (.cons r1 .nil))⟩
        rw [rx.len, sizeLine_eq]
        omega
      · rw [if_neg hz] at e
        cases e
    · cases e⟩
def gInsert (ds args : List D) : Option (List D) := match args with
  | [.int i, d] => if ds.length < 1000000 ∧ 0 ≤ i ∧ i < 1000000 then some (ds.take i.toNat ++ [d] ++ ds.drop i.toNat) else none
  | _ => none
theorem mu_insert : MU X "list.insert" gInsert where
  run := ⟨_, mt_insert, fun ds args zs l xs vs av H Q hl rx rv e k => by
    unfold gInsert at e
    split at e
    · rename_i i d
      by_cases hz : ds.length < 1000000 ∧ 0 ≤ i ∧ i < 1000000
      · rw [if_pos hz] at e
        cases e
        obtain ⟨v, u, rfl, r1, r2⟩ := rp2 rv
        refine ⟨l, xs, i, u, rfl, by rw [show v = _ from r1], hl, ?_, hz.2.1, by omega, k _ (((rx.take _).app (.cons r2 .nil)).app (rx.drop _))⟩
        rw [rx.len, sizeLine_eq]
        omega
      · rw [if_neg hz] at e
        cases e
    · cases e⟩
end
end DL

namespace DL
open PySem L2

/-! ### walking: a list or a tuple -/
def iSeq (K : PySem.W.Frag) (tl : TE) : TI := fun σ H R => tl σ H fun x H1 => ∃ a, x = .ref a ∧ (((∃ xs, SqL K H1 a xs) ∧ R (Itl K a) H1) ∨ ((∃ xs, SqT K H1 a xs) ∧ R (Itt K a) H1))
theorem pi_seq {X : Cx} {tg l : Expr} {tl : TE} (hl : PE X l tl) : PI X tg l (iSeq X.K tl) := ⟨fun pins s σ H R I h => by
  refine thn (hl.run pins s σ H _ I h) fun v s1 ⟨x, H1, I1, r1, a, e, q1⟩ => ?_
  subst e
  cases r1
  have own : ∀ b ∈ [s1.heap.objs.size], FpOk X pins H1 b := fun b hb => by
    have e : b = s1.heap.objs.size := by simpa using hb
    subst e
    exact I1.fpOk (Nat.le_refl _) (I1.hok.fresh (Nat.le_refl _))
  rcases q1 with ⟨⟨xs, hq⟩, q⟩ | ⟨⟨xs, hq⟩, q⟩
  · obtain ⟨its, rv, p, _⟩ := I1.list hq
    exact wpAny_pyIter_list p.isList ⟨s1.heap.objs.size, [s1.heap.objs.size], _, _, H1, rfl, I1.kept (t' := s1.toks) fun b o e => Heap.get?_push_of_some _ e, turn_list a _, ⟨_, Heap.get?_push_size _ rfl, rfl, rfl⟩, own, q⟩
  · obtain ⟨its, rv, p, _⟩ := I1.tuple hq
    exact wpAny_pyIter_tuple (show s1.heap.IsTuple a its.toArray from p) ⟨s1.heap.objs.size, [s1.heap.objs.size], _, _, H1, rfl, I1.kept (t' := s1.toks) fun b o e => Heap.get?_push_of_some _ e, turn_tuple a _, ⟨_, Heap.get?_push_size _ rfl, rfl, rfl⟩, own, q⟩⟩

/-! ### enumerate, of a tuple too -/
theorem meets_enumT (t : Addr) (items : Array Value) :
    Meets (Builtin.«enumerate.__new__» ⟨[.type "enumerate", .ref t], []⟩) (fun _ R s => s.heap.IsTuple t items ∧
      R (.ok (.ret (.ref (s.heap.push { cls := .type "tuple_iterator", data := .fields #[.ref t, .int 0 0] }).objs.size)))
        { s with heap := (s.heap.push { cls := .type "tuple_iterator", data := .fields #[.ref t, .int 0 0] }).push { cls := .type "enumerate", data := .fields #[.none, .bool false, .ref s.heap.objs.size, rawInt 0, .none, .none] } }) :=
  .of_wp fun prog w A R s h => by
    obtain ⟨hp, g, d, tk, os⟩ := s
    obtain ⟨hl, h⟩ := h
    have hsub := sub_enumerate
    have q1 : ∀ {A' : Around} {E : Value → Shared → Prop} {Q : Value → Shared → Prop}, Q (.ref hp.objs.size) ⟨hp.push { cls := .type "tuple_iterator", data := .fields #[.ref t, .int 0 0] }, g, d, tk, os⟩ → wpAny (model prog w) A' (pyIter (.ref t)) Q E ⟨hp, g, d, tk, os⟩ :=
      fun q => wpAny_pyIter_tuple (s := ⟨hp, g, d, tk, os⟩) hl q
    wp_walk using q1
    refine wpAny_stack_any fun st => wpAny_pure ?_
    split
    · rename_i c _ _ _ _ _
      cases (c == Value.type "enumerate") <;>
      · wp_walk using q1
        exact ⟨_, rfl, h⟩
    · wp_walk using q1
      exact ⟨_, rfl, h⟩
theorem call_enumT {prog : Program} {w : World} {A : Around} {E : Value → Shared → Prop} {s : Shared} {t : Addr} {items : Array Value} {Q : Value → Shared → Prop} (hL : s.heap.IsTuple t items)
    (h : ∀ h', IsEnum h' (s.heap.objs.size + 1) s.heap.objs.size 0 .none → h'.IsTupleIter s.heap.objs.size t 0 → h'.objs.size = s.heap.objs.size + 2 →
      (∀ b o, s.heap.get? b = some o → h'.get? b = some o) → Q (.ref (s.heap.objs.size + 1)) { s with heap := h' }) :
    wpAny (model prog w) A (call (.type "enumerate") [.ref t]) Q E s := by
  refine callType_new F.called_enumerate (by decide) (F.typeCall_enumerate_1 _) (F.newCall_enumerate_1 _) (fun obj => F.args_object_init_2 obj _) F.entry_enumerate_new (meets_enumT t items) ⟨hL, ?_⟩
  have hz : (s.heap.push { cls := .type "tuple_iterator", data := .fields #[.ref t, .int 0 0] }).objs.size = s.heap.objs.size + 1 := Heap.size_push ..
  show _ ∧ _
  rw [hz]
  have he : IsEnum ((s.heap.push { cls := .type "tuple_iterator", data := .fields #[.ref t, .int 0 0] }).push
      { cls := .type "enumerate", data := .fields #[.none, .bool false, .ref s.heap.objs.size, rawInt 0, .none, .none] }) (s.heap.objs.size + 1) s.heap.objs.size 0 .none := by
    have := Heap.get?_push_size (s.heap.push { cls := .type "tuple_iterator", data := .fields #[.ref t, .int 0 0] })
      (o := { cls := .type "enumerate", data := .fields #[.none, .bool false, .ref s.heap.objs.size, rawInt 0, .none, .none] }) rfl
    rw [hz] at this
    exact this
  exact ⟨⟨_, he, rfl⟩, h _ he ⟨_, Heap.get?_push_of_some _ (Heap.get?_push_size _ rfl), rfl, rfl⟩ (by rw [Heap.size_push, hz]) fun b o x => Heap.get?_push_of_some _ (Heap.get?_push_of_some _ x)⟩
/-- the tuple at a, each item in a new pair -/
def IteT (K : PySem.W.Frag) (a : Addr) : It :=
  ⟨fun i H => ∃ (xs : List V) (x : V), SqT K H a xs ∧ xs[i]? = some x, fun i H v H' => ∃ T x, v = .ref T ∧ H T = none ∧ H' = upd H T (.tup [.int (i : Nat), x]) ∧ ∀ xs, SqT K H a xs → xs[i]? = some x, fun i H => ∃ xs : List V, SqT K H a xs ∧ xs.length = i⟩
theorem turn_enumT {P : Program} {w : World} {K : PySem.W.Frag} {elts : List Expr} {kk : Nat} {tpos : Pos} (a e it : Addr) :
    Turn P w K (.Tuple elts kk tpos) (IteT K a) [e, it] e (fun i h => (∃ old, IsEnum h e it ((i : Nat) : Int) old) ∧ h.IsTupleIter it a i ∧ e ≠ it ∧ a ≠ it ∧ e ≠ a) where
  mem := by simp
  obj := fun i h st b hb => by
    obtain ⟨⟨old, he⟩, ⟨o, ho, hc, hd⟩, _⟩ := st
    have e' : b = e ∨ b = it := by simpa using hb
    rcases e' with z | z
    · rw [z]
      exact ⟨_, he, fun v q => nomatch q⟩
    · rw [z]
      exact ⟨o, ho, fun v q => by rw [hd] at q; cases q⟩
  keep := fun i h h' st k => by
    obtain ⟨⟨old, he⟩, hi, hne⟩ := st
    exact ⟨⟨old, k e (by simp) _ he⟩, hi.at fun o q => k it (by simp) o q, hne⟩
  item := by
    intro X hP hw hK hc i pins s σ H E I hf st hg
    subst hP hw hK
    obtain ⟨⟨old, he⟩, hit, hne, hai, hea⟩ := st
    obtain ⟨xs, x, hq, hx⟩ := hg
    obtain ⟨its, rv, p, hz⟩ := I.tuple hq
    obtain ⟨u, hu, ru⟩ := rv.get hx
    have hel : e < s.heap.objs.size := Heap.lt_size he
    have hil : it < s.heap.objs.size := by
      obtain ⟨_, q, _⟩ := hit
      exact Heap.lt_size q
    have hlt : i < its.toArray.size := by
      rw [List.size_toArray]
      exact (List.getElem?_eq_some_iff.mp hu).1
    have DD := Draws.tuple (prog := X.prog) (w := X.w) (A := X.A.in1) (I.ok.hd hc) it a hai its.toArray
    refine wpAny_pyNext_enum_itemD DD he ⟨hit, (show s.heap.IsTuple a its.toArray from p)⟩ hlt hne (by simp [hne, hea]) fun x' h' tk hP ho hst' hT hsz hk => ?_
    have ex : x' = u := by
      have z : its.toArray[i]? = some x' := hP
      rw [← Array.getElem?_toList] at z
      have z' : its[i]? = some x' := z
      rw [hu] at z'
      exact (Option.some.inj z').symm
    subst ex
    refine ⟨_, rfl, wpAny_letOwnedTupleGo_enum (s := { s with heap := h', toks := tk + 1 }) ho fun h'' he' sb => ?_⟩
    have hT2 : h''.get? s.heap.objs.size = some { cls := .type "tuple", data := .seq #[.int i tk, x'] } := (sb.2 _ (Nat.ne_of_gt hel)).trans hT
    have new : ObjOk X.prog X.w (upd H s.heap.objs.size (.tup [.int (i : Nat), x])) h'' s.heap.objs.size (.tup [.int (i : Nat), x]) :=
      ⟨by show 2 ≤ sizeLine; decide, [.int i tk, x'], .cons ⟨_, rfl⟩ (.cons ru .nil), ⟨_, hT2, rfl, _, rfl⟩⟩
    have I1 : Inv X pins σ (upd H s.heap.objs.size (.tup [.int (i : Nat), x])) { s with heap := h'', toks := tk + 1 } :=
      I.turnedNew (ch := [e, it]) (fun b ob hb q => (sb.2 b (fun z => hb (by simp [z]))).trans (hk b ob (fun z => hb (by simp [z])) (fun z => hb (by simp [z])) q)) hf (Nat.le_refl _) new
    refine ⟨.ref s.heap.objs.size, _, I1, rfl, ⟨_, x, rfl, I.hok.fresh (Nat.le_refl _), rfl, fun ys hy => by rw [I.tuple_inj hy hq]; exact hx⟩, ⟨⟨x', ?_⟩, hst'.1.at fun o q => (sb.2 it (Ne.symm hne)).trans q, hne, hai, hea⟩, fun b hb => ?_⟩
    · have e1 : ((i + 1 : Nat) : Int) = (i : Int) + 1 := by omega
      rw [e1]
      exact he'
    · have hb' : b < s.heap.objs.size := by
        have e' : b = e ∨ b = it := by simpa using hb
        rcases e' with z | z
        · rw [z]; exact hel
        · rw [z]; exact hil
      rw [upd_ne (Nat.ne_of_lt hb')]
      exact (hf b hb).1
  done := by
    intro X hP hw hK hc i pins s σ H E I hf st hg
    subst hP hw hK
    obtain ⟨⟨old, he⟩, hit, hne, hai, hea⟩ := st
    obtain ⟨xs, hq, hx⟩ := hg
    obtain ⟨its, rv, p, hz⟩ := I.tuple hq
    obtain ⟨f0, f1, f2, f3, f4, f5⟩ := hf it (by simp)
    have hl := rv.length
    have DD := Draws.tuple (prog := X.prog) (w := X.w) (A := X.A.in1) (I.ok.hd hc) it a hai its.toArray
    have ei : i = its.toArray.size := by
      rw [List.size_toArray]
      omega
    subst ei
    exact wpAny_pyNext_enum_endD DD he ⟨hit, (show s.heap.IsTuple a its.toArray from p)⟩ fun h' eb => ⟨rfl, I.turned (t' := s.toks) (fun b o hb q => eb b o hb q) f0 f1 f3 f4 f5⟩
  self := fun A i s Q E st h => let ⟨⟨_, he⟩, _⟩ := st; wpAny_pyIter_enum he h
def iEnumS (K : PySem.W.Frag) (ta : TA) : TI := fun σ H R => ta σ H fun vs H1 => ∃ a, vs = [.ref a] ∧ (((∃ xs, SqL K H1 a xs) ∧ R (Ite K a) H1) ∨ ((∃ xs, SqT K H1 a xs) ∧ R (IteT K a) H1))
theorem pi_enumS {X : Cx} {e : Expr} {ta : TA} {p pos tpos : Pos} {elts : List Expr} {kk : Nat} (hm : X.mg "enumerate" = none) (ha : PA X [e] ta) (hg : Gl X "enumerate" := by rfl) (hs : starEach [e] X.env = [(false, eval e X.env)] := by rfl) :
    PI X (.Tuple elts kk tpos) (.Call (.Name "enumerate" p) [e] [] pos) (iEnumS X.K ta) := ⟨fun pins s σ H R I h => by
  refine PyProof.Rows.Call_ (ld_blt I hg hm PyProof.Rows.boot_enumerate (PyProof.Rows.callWith_type1 (thn (ha.run pos pins s σ H _ I h) fun us s1 ⟨vs, H1, I1, r1, a, ex, q1⟩ => ?_) hs rfl))
  subst ex
  cases r1 with
  | cons r rr =>
    cases rr
    cases r
    have own : ∀ b ∈ [s1.heap.objs.size + 1, s1.heap.objs.size], FpOk X pins H1 b := fun b hb => by
      have e' : b = s1.heap.objs.size + 1 ∨ b = s1.heap.objs.size := by simpa using hb
      have hle : s1.heap.objs.size ≤ b := by
        rcases e' with z | z
        · rw [z]
          exact Nat.le_add_right _ _
        · rw [z]
          exact Nat.le_refl _
      exact I1.fpOk hle (I1.hok.fresh hle)
    rcases q1 with ⟨⟨xs, hq⟩, q⟩ | ⟨⟨xs, hq⟩, q⟩
    · obtain ⟨its, rv, p', hz⟩ := I1.list hq
      refine call_enumerate_list p'.isList fun h' he hit hsz hk => wpAny_pyIter_enum he ?_
      exact ⟨s1.heap.objs.size + 1, [s1.heap.objs.size + 1, s1.heap.objs.size], _, _, H1, rfl, I1.kept (t' := s1.toks) hk, turn_enum a (s1.heap.objs.size + 1) s1.heap.objs.size, ⟨⟨.none, he⟩, hit, Nat.succ_ne_self _⟩, own, q⟩
    · obtain ⟨its, rv, p', hz⟩ := I1.tuple hq
      have lt : a < s1.heap.objs.size := by
        obtain ⟨o, ho, _⟩ := p'
        exact Heap.lt_size ho
      refine call_enumT (show s1.heap.IsTuple a its.toArray from p') fun h' he hit hsz hk => wpAny_pyIter_enum he ?_
      exact ⟨s1.heap.objs.size + 1, [s1.heap.objs.size + 1, s1.heap.objs.size], _, _, H1, rfl, I1.kept (t' := s1.toks) hk, turn_enumT a (s1.heap.objs.size + 1) s1.heap.objs.size,
        ⟨⟨.none, he⟩, hit, Nat.succ_ne_self _, Nat.ne_of_lt lt, Nat.ne_of_gt (Nat.lt_succ_of_lt lt)⟩, own, q⟩⟩
end DL

namespace DL
open PySem L2

/-! ### own lists that are walked -/
def lkS (b : Bool) (s : Sl) : Sl := if b then (match s with
    | .ow _ es => .ow 2 es
    | s => s) else s
def reS (b : Bool) (s0 s : Sl) : Sl := if b then (match s0, s with
    | .ow k _, .ow _ es => .ow k es
    | _, s => s) else s
def lockG (vws : List Nat) : Nat → Fm → Fm
  | _, [] => []
  | j, s :: ρ => lkS (vws.contains j) s :: lockG vws (j + 1) ρ
def reK (vws : List Nat) : Nat → Fm → Fm → Fm
  | j, s0 :: ρ0, s :: ρ => reS (vws.contains j) s0 s :: reK vws (j + 1) ρ0 ρ
  | _, _, ρ => ρ
theorem lockG_len {vws : List Nat} : ∀ {j : Nat} {ρ : Fm}, (lockG vws j ρ).length = ρ.length
  | _, [] => rfl
  | j, s :: ρ => by rw [lockG, List.length_cons, List.length_cons, lockG_len]
theorem reK_len {vws : List Nat} : ∀ {j : Nat} {ρ0 ρ : Fm}, (reK vws j ρ0 ρ).length = ρ.length
  | _, [], [] => rfl
  | _, [], _ :: _ => rfl
  | _, _ :: _, [] => rfl
  | j, s0 :: ρ0, s :: ρ => by rw [reK, List.length_cons, List.length_cons, reK_len]
theorem lockG_get {vws : List Nat} : ∀ {j i : Nat} {ρ : Fm}, (lockG vws j ρ)[i]? = ρ[i]?.map (lkS (vws.contains (j + i)))
  | _, _, [] => by simp [lockG]
  | j, 0, s :: ρ => rfl
  | j, i + 1, s :: ρ => by
    rw [lockG, List.getElem?_cons_succ, List.getElem?_cons_succ, lockG_get, show j + 1 + i = j + (i + 1) by omega]
theorem reK_get {vws : List Nat} : ∀ {j i : Nat} {ρ0 ρ : Fm} {s0 : Sl}, ρ0[i]? = some s0 → (reK vws j ρ0 ρ)[i]? = ρ[i]?.map (reS (vws.contains (j + i)) s0)
  | _, _, [], _, _, h => by simp at h
  | _, _, _ :: _, [], _, h => by simp [reK]
  | j, 0, s0 :: ρ0, s :: ρ, _, h => by
    cases h
    rfl
  | j, i + 1, s0 :: ρ0, s :: ρ, _, h => by
    rw [reK, List.getElem?_cons_succ, List.getElem?_cons_succ, reK_get (by simpa using h), show j + 1 + i = j + (i + 1) by omega]
theorem reK_get2 {vws : List Nat} : ∀ {j i : Nat} {ρ0 ρ : Fm}, ρ0[i]? = none → (reK vws j ρ0 ρ)[i]? = ρ[i]?
  | _, _, [], [], h => rfl
  | _, _, [], _ :: _, h => rfl
  | _, _, _ :: _, [], h => rfl
  | j, 0, s0 :: ρ0, s :: ρ, h => by simp at h
  | j, i + 1, s0 :: ρ0, s :: ρ, h => by
    rw [reK, List.getElem?_cons_succ, List.getElem?_cons_succ, reK_get2 (by simpa using h)]
section
variable {K : PySem.W.Frag} {mg : Str → Option Value} {W : WX} {ec : EC} {C : Fc} {ρ ρ0 ρ1 ρ2 ρ' : Fm} {σ σ' σ0 σ1 : St} {tm ts : Tm} {H H' H0 H1 : Hp} {Q : VK}
/-- other counts at lists that are not the caller's -/
theorem Hold.kk (h : Hold K mg ec H C ρ σ tm) (hl : ρ'.length = ρ.length) (hk : ∀ (i : Nat) s', ρ'[i]? = some s' → ρ[i]? = some s' ∨ ∃ k k' es, ρ[i]? = some (Sl.ow k es) ∧ s' = .ow k' es ∧ k ≠ 1 ∧ k' ≠ 1) : Hold K mg ec H C ρ' σ tm := by
  have fwd : ∀ {i k : Nat} {es}, ρ'[i]? = some (Sl.ow k es) → ∃ k2, ρ[i]? = some (Sl.ow k2 es) ∧ (k2 = k ∨ (k2 ≠ 1 ∧ k ≠ 1)) := fun {i k es} q => by
    rcases hk i _ q with z | ⟨k1, k2, es', z1, z2, z3, z4⟩
    · exact ⟨k, z, .inl rfl⟩
    · cases z2
      exact ⟨k1, z1, .inr ⟨z3, z4⟩⟩
  have bwd : ∀ {i k : Nat} {es}, ρ[i]? = some (Sl.ow k es) → ∃ k2, ρ'[i]? = some (Sl.ow k2 es) ∧ (k2 = k ∨ (k2 ≠ 1 ∧ k ≠ 1)) := fun {i k es} q => by
    have hi : i < ρ'.length := by
      rw [hl]
      exact (List.getElem?_eq_some_iff.mp q).1
    have e := List.getElem?_eq_getElem hi
    rcases hk i _ e with z | ⟨k1, k2, es', z1, z2, z3, z4⟩
    · rw [q] at z
      exact ⟨k, by rw [e, ← Option.some.inj z], .inl rfl⟩
    · rw [q] at z1
      cases z1
      exact ⟨k2, by rw [e, z2], .inr ⟨z4, z3⟩⟩
  have own : ∀ a, Own ρ' σ a → Own ρ σ a := fun a ⟨i, k, es, q1, q2⟩ => let ⟨k2, q, _⟩ := fwd q1; ⟨i, k2, es, q, q2⟩
  have own' : ∀ a, Own ρ σ a → Own ρ' σ a := fun a ⟨i, k, es, q1, q2⟩ => let ⟨k2, q, _⟩ := bwd q1; ⟨i, k2, es, q, q2⟩
  have av : ∀ a, Av C.av ρ' σ tm a → Av C.av ρ σ tm a ∨ H a = none := fun a z => .inl (by
    rcases z with z | z | z
    · exact .inl z
    · exact .inr (.inl (own a z))
    · exact .inr (.inr z))
  refine ⟨hl.trans h.len, h.avt, h.ext, fun i p e => ?_, fun i k ds a q1 q2 => ?_, fun i s o q1 q2 => ?_, fun i j k k' ds ds' a q1 q2 q3 q4 => ?_, fun r v hm => ?_, h.sep⟩
  · obtain ⟨ds, q1, q2⟩ := h.io i p e
    obtain ⟨k2, q, z⟩ := bwd q1
    rcases z with z | z
    · subst z
      exact ⟨ds, q, q2⟩
    · exact absurd rfl z.2
  · obtain ⟨k2, q, z⟩ := fwd q1
    rcases h.one i k2 ds a q q2 with ⟨y1, y2⟩ | ⟨y1, y2⟩
    · rcases z with z | z
      · subst z
        exact .inl ⟨y1, y2⟩
      · exact absurd y1 z.1
    · rcases z with z | z
      · subst z
        exact .inr ⟨y1, y2⟩
      · exact .inr ⟨z.2, y2⟩
  · rcases hk i s q1 with z | ⟨k1, k2, es, z1, z2, z3, z4⟩
    · exact (h.slot i s o z q2).imp (P := fun _ => False) Ext.refl (fun _ z => z.elim) av (fun _ z => z) fun _ _ _ _ _ _ z => z
    · subst z2
      have y := h.slot i _ o z1 q2
      exact SlR.imp (s := .ow k2 es) (P := fun _ => False) (show SlR K mg ec H C.av (Av C.av ρ σ tm) (.ow k2 es) o from y) Ext.refl (fun _ z => z.elim) av (fun _ z => z) fun _ _ _ _ _ _ z => z
  · obtain ⟨_, y1, _⟩ := fwd q1
    obtain ⟨_, y2, _⟩ := fwd q2
    exact h.inj i j _ _ _ _ a y1 y2 q3 q4
  · have y := h.tmp r v hm
    cases r with
    | dt d => exact Rp.av av d v y
    | vw i =>
      obtain ⟨k, ds, y1, y2⟩ := y
      obtain ⟨k2, q, _⟩ := bwd y1
      exact ⟨k2, ds, q, y2⟩
    | fr ds =>
      obtain ⟨a, vs, e, n1, n2, n3, n4, y⟩ := y
      exact ⟨a, vs, e, n1, fun z => n2 (own a z), n3, n4, RpL.av av ds vs y⟩
/-- what is walked is no list of the caller's -/
def noIo (vws : List Nat) (ρ : Fm) : Bool := vws.all fun j => match ρ[j]? with
  | some (.ow k _) => k != 1
  | _ => true
theorem noIo_at {vws : List Nat} {ρ : Fm} (h : noIo vws ρ = true) {j k : Nat} {es : List D} (hj : vws.contains j = true) (q : ρ[j]? = some (Sl.ow k es)) : k ≠ 1 := by
  have z := List.all_eq_true.mp h j (by simpa using hj)
  rw [q] at z
  simpa using z
theorem Hold.lock {vws : List Nat} (h : Hold K mg ec H C ρ σ tm) (hn : noIo vws ρ = true) : Hold K mg ec H C (lockG vws 0 ρ) σ tm := h.kk lockG_len fun i s' q => by
  rw [lockG_get, Nat.zero_add] at q
  cases e : ρ[i]? with
  | none => rw [e] at q; cases q
  | some s =>
    rw [e] at q
    cases q
    unfold lkS
    cases hv : vws.contains i with
    | false => exact .inl rfl
    | true =>
      cases s with
      | ow k es => exact .inr ⟨k, 2, es, rfl, rfl, noIo_at hn hv e, by decide⟩
      | _ => exact .inl rfl
/-- the content as it was -/
def LkC (vws : List Nat) (ρs ρ : Fm) : Prop := ∀ j ∈ vws, ∀ k es, ρs[j]? = some (Sl.ow k es) → ρ[j]? = some (Sl.ow 2 es)
theorem LkC.kin {vws : List Nat} {ρs ρ ρ' : Fm} (h : LkC vws ρs ρ) (k : Kin ρ ρ') : LkC vws ρs ρ' := fun j hj k' es q => k.lk j 0 es (h j hj k' es q)
theorem LkC.lock {vws : List Nat} {ρ : Fm} : LkC vws ρ (lockG vws 0 ρ) := fun j hj k es q => by
  rw [lockG_get, q, Nat.zero_add]
  have : vws.contains j = true := by simpa using hj
  unfold lkS
  rw [this]
  rfl
theorem Hold.unlock {vws : List Nat} (h : Hold K mg ec H C ρ σ tm) (hn : noIo vws ρ0 = true) (hc : LkC vws ρ0 ρ) : Hold K mg ec H C (reK vws 0 ρ0 ρ) σ tm := h.kk reK_len fun i s' q => by
  cases e0 : ρ0[i]? with
  | none =>
    rw [reK_get2 e0] at q
    exact .inl q
  | some s0 =>
    rw [reK_get e0, Nat.zero_add] at q
    cases e : ρ[i]? with
    | none => rw [e] at q; cases q
    | some s =>
      rw [e] at q
      cases q
      unfold reS
      cases hv : vws.contains i with
      | false => exact .inl rfl
      | true =>
        cases s0 with
        | ow k0 es0 =>
          have y := hc i (by simpa using hv) k0 es0 e0
          rw [e] at y
          cases y
          exact .inr ⟨2, k0, es0, rfl, rfl, by decide, noIo_at hn hv e0⟩
        | _ => exact .inl rfl
theorem kin_unlock {vws : List Nat} (hn : noIo vws ρ0 = true) (k : Kin (lockG vws 0 ρ0) ρ) : Kin ρ0 (reK vws 0 ρ0 ρ) := by
  refine ⟨fun i ds q => ?_, fun i n ds q => ?_⟩
  · have hv : vws.contains i = false := by
      cases z : vws.contains i with
      | false => rfl
      | true => exact absurd rfl (noIo_at hn z q)
    obtain ⟨es, y⟩ := k.io i ds (by rw [lockG_get, q, Nat.zero_add, hv]; rfl)
    exact ⟨es, by rw [reK_get q, Nat.zero_add, y, hv]; rfl⟩
  · cases hv : vws.contains i with
    | false =>
      have y := k.lk i n ds (by rw [lockG_get, q, Nat.zero_add, hv]; rfl)
      rw [reK_get q, Nat.zero_add, y, hv]
      rfl
    | true =>
      have y := k.lk i 0 ds (by rw [lockG_get, q, Nat.zero_add, hv]; rfl)
      rw [reK_get q, Nat.zero_add, y, hv]
      rfl
/-- frame and slots changed where nothing is known -/
theorem Hold.mask (h : Hold K mg ec H C ρ σ tm) (hl : ρ'.length = σ'.length) (a : ∀ (i : Nat) s, ρ'[i]? = some s → s ≠ Sl.un → ρ[i]? = some s ∧ σ'[i]? = σ[i]?) (b : ∀ (i k : Nat) es, ρ[i]? = some (Sl.ow k es) → ρ'[i]? = some (Sl.ow k es) ∧ σ'[i]? = σ[i]?) : Hold K mg ec H C ρ' σ' tm := by
  have own : ∀ c, Own ρ' σ' c → Own ρ σ c := fun c ⟨i, k, es, q1, q2⟩ => by
    obtain ⟨y1, y2⟩ := a i _ q1 (fun z => nomatch z)
    exact ⟨i, k, es, y1, by rw [← y2]; exact q2⟩
  have av : ∀ c, Av C.av ρ' σ' tm c → Av C.av ρ σ tm c ∨ H c = none := fun c z => .inl (by
    rcases z with z | z | z
    · exact .inl z
    · exact .inr (.inl (own c z))
    · exact .inr (.inr z))
  refine ⟨hl, h.avt, h.ext, fun i p e => ?_, fun i k ds c q1 q2 => ?_, fun i s o q1 q2 => ?_, fun i j k k' ds ds' c q1 q2 q3 q4 => ?_, fun r v hm => ?_, h.sep⟩
  · obtain ⟨ds, q1, q2⟩ := h.io i p e
    obtain ⟨y1, y2⟩ := b i _ _ q1
    exact ⟨ds, y1, y2.trans q2⟩
  · obtain ⟨y1, y2⟩ := a i _ q1 (fun z => nomatch z)
    exact h.one i k ds c y1 (y2 ▸ q2)
  · cases s with
    | un => trivial
    | dt d =>
      obtain ⟨y1, y2⟩ := a i _ q1 (fun z => nomatch z)
      exact (h.slot i _ o y1 (y2 ▸ q2)).imp (P := fun _ => False) Ext.refl (fun _ z => z.elim) av (fun _ z => z) fun _ _ _ _ _ _ z => z
    | ow k es =>
      obtain ⟨y1, y2⟩ := a i _ q1 (fun z => nomatch z)
      exact (h.slot i _ o y1 (y2 ▸ q2)).imp (P := fun _ => False) Ext.refl (fun _ z => z.elim) av (fun _ z => z) fun _ _ _ _ _ _ z => z
    | ex c1 f1 x1 =>
      obtain ⟨y1, y2⟩ := a i _ q1 (fun z => nomatch z)
      exact (h.slot i _ o y1 (y2 ▸ q2)).imp (P := fun _ => False) Ext.refl (fun _ z => z.elim) av (fun _ z => z) fun _ _ _ _ _ _ z => z
    | nw c1 =>
      obtain ⟨y1, y2⟩ := a i _ q1 (fun z => nomatch z)
      exact (h.slot i _ o y1 (y2 ▸ q2)).imp (P := fun _ => False) Ext.refl (fun _ z => z.elim) av (fun _ z => z) fun _ _ _ _ _ _ z => z
  · obtain ⟨y1, y2⟩ := a i _ q1 (fun z => nomatch z)
    obtain ⟨y3, y4⟩ := a j _ q2 (fun z => nomatch z)
    exact h.inj i j _ _ _ _ c y1 y3 (y2 ▸ q3) (y4 ▸ q4)
  · have y := h.tmp r v hm
    cases r with
    | dt d => exact Rp.av av d v y
    | vw i =>
      obtain ⟨k, ds, y1, y2⟩ := y
      obtain ⟨z1, z2⟩ := b i _ _ y1
      exact ⟨k, ds, z1, z2.trans y2⟩
    | fr ds =>
      obtain ⟨c, vs, e, n1, n2, n3, n4, y⟩ := y
      exact ⟨c, vs, e, n1, fun z => n2 (own c z), n3, n4, RpL.av av ds vs y⟩
end

/-! ### what is walked -/
abbrev SrcF := Fm → Out (List D × List Nat)
structure Walked (K : PySem.W.Frag) (mg : Str → Option Value) (ec : EC) (tl : Tm) (vws : List Nat) (ρs : Fm) (J : It) (ds : List D) : Prop where
  go : ∀ {C : Fc} {ρ : Fm} {σ : St} {tm : Tm} {H : Hp} (i : Nat) d, Hold K mg ec H C ρ σ (tl ++ tm) → LkC vws ρs ρ → ds[i]? = some d → J.go i H ∧ ∀ x H', J.yld i H x H' → Hold K mg ec H' C ρ σ ((.dt d, x) :: (tl ++ tm))
  stop : ∀ {C : Fc} {ρ : Fm} {σ : St} {tm : Tm} {H : Hp}, Hold K mg ec H C ρ σ (tl ++ tm) → LkC vws ρs ρ → J.stop ds.length H
section
variable (K : PySem.W.Frag) (mg : Str → Option Value) (W : WX) (ec : EC)
def tDI (Fs : SrcF) : TI := fun σ H R => ∃ C ρ tm, Hold K mg ec H C ρ σ tm ∧ match Fs ρ with
  | .ok p ρ1 => ∀ tl J H1, Hold K mg ec H1 C ρ1 σ (tl ++ tm) → Kin ρ ρ1 → (∀ i v, (RV.vw i, v) ∈ tl → i ∈ p.2) → (∀ i ∈ p.2, ∃ k es, ρ1[i]? = some (Sl.ow k es)) → Walked K mg ec tl p.2 ρ1 J p.1 → R J H1
  | .ex c f d ρ1 => ExW K mg W ec C ρ tm c f d ρ1
  | .bad => False
end
abbrev DI (X : Cx) (W : WX) (ec : EC) (tg iter : Expr) (Fs : SrcF) : Prop := PI X tg iter (tDI X.K X.mg W ec Fs)
theorem pi_imp {X : Cx} {tg e : Expr} {t t' : TI} (h : PI X tg e t) (k : ∀ σ H R, t' σ H R → t σ H R) : PI X tg e t' := ⟨fun pins s σ H R I q => h.run pins s σ H R I (k σ H R q)⟩
def vwOf : RV → List Nat
  | .vw i => [i]
  | _ => []
def sSrc (F : Fm → Out RV) : SrcF := fun ρ => (F ρ).bind fun r ρ => match r.get ρ with
  | some d => match seqD d with
    | some ds => .ok (ds, vwOf r) ρ
    | none => .bad
  | none => .bad
def enumD : Nat → List D → List D
  | _, [] => []
  | i, d :: ds => .tup [.int i, d] :: enumD (i + 1) ds
def eSrc (F : Fm → Out RV) : SrcF := fun ρ => (F ρ).bind fun r ρ => match r.get ρ with
  | some d => match seqD d with
    | some ds => .ok (enumD 0 ds, vwOf r) ρ
    | none => .bad
  | none => .bad
theorem enumD_get : ∀ {i j : Nat} {ds : List D}, (enumD i ds)[j]? = ds[j]?.map fun d => .tup [.int ((i + j : Nat) : Int), d]
  | _, _, [] => by simp [enumD]
  | i, 0, d :: ds => rfl
  | i, j + 1, d :: ds => by
    rw [enumD, List.getElem?_cons_succ, List.getElem?_cons_succ, enumD_get, show i + 1 + j = i + (j + 1) by omega]
theorem enumD_len : ∀ {i : Nat} {ds : List D}, (enumD i ds).length = ds.length
  | _, [] => rfl
  | i, d :: ds => by rw [enumD, List.length_cons, List.length_cons, enumD_len]
section
variable {K : PySem.W.Frag} {mg : Str → Option Value} {W : WX} {ec : EC} {C : Fc} {ρ ρs : Fm} {σ : St} {tm : Tm} {H : Hp} {r : RV} {v : V} {d : D} {ds : List D}
/-- the result while it is walked -/
theorem get_lk (g : r.get ρs = some d) (h : LkC (vwOf r) ρs ρ) : r.get ρ = some d := by
  cases r with
  | dt => exact g
  | fr => exact g
  | vw i =>
    have g' : (match ρs[i]? with | some (.ow _ ds) => some (D.lst ds) | _ => none) = some d := g
    show (match ρ[i]? with | some (.ow _ ds) => some (D.lst ds) | _ => none) = some d
    cases q : ρs[i]? with
    | none => rw [q] at g'; cases g'
    | some s =>
      rw [q] at g'
      cases s with
      | ow k es =>
        rw [h i (.head _) k es q]
        exact g'
      | un => cases g'
      | dt => cases g'
      | ex => cases g'
      | nw => cases g'
theorem vw_src (g : r.get ρs = some d) : ∀ i ∈ vwOf r, ∃ k es, ρs[i]? = some (Sl.ow k es) := fun i hi => by
  cases r with
  | dt => cases hi
  | fr => cases hi
  | vw j =>
    have hi : i = j := by simpa [vwOf] using hi
    subst hi
    have g' : (match ρs[i]? with | some (.ow _ ds) => some (D.lst ds) | _ => none) = some d := g
    cases q : ρs[i]? with
    | none => rw [q] at g'; cases g'
    | some s =>
      cases s with
      | ow k es => exact ⟨k, es, rfl⟩
      | un => rw [q] at g'; cases g'
      | dt => rw [q] at g'; cases g'
      | ex => rw [q] at g'; cases g'
      | nw => rw [q] at g'; cases g'
theorem walked_lst (g : r.get ρs = some (.lst ds)) {a : Addr} : Walked K mg ec [(r, .ref a)] (vwOf r) ρs (Itl K a) ds where
  go := fun {C ρ σ tm H} i d h lk hd => by
    obtain ⟨a', vs, e, hq, rr⟩ := h.seq (.head _) (get_lk g lk) rfl
    cases e
    rcases hq with ⟨_, hq⟩ | ⟨z, _⟩
    · obtain ⟨x, hx, rx⟩ := rr.get hd
      refine ⟨⟨vs, x, .of hq, hx⟩, fun y H' ⟨e1, e2⟩ => ?_⟩
      subst e1
      have e3 := e2 vs (.of hq)
      rw [hx] at e3
      cases e3
      exact h.push_dt rx
    · cases z
  stop := fun {C ρ σ tm H} h lk => by
    obtain ⟨a', vs, e, hq, rr⟩ := h.seq (.head _) (get_lk g lk) rfl
    cases e
    rcases hq with ⟨_, hq⟩ | ⟨z, _⟩
    · exact ⟨vs, .of hq, by rw [rr.len]; exact Nat.le_refl _⟩
    · cases z
theorem walked_tup (g : r.get ρs = some (.tup ds)) {a : Addr} : Walked K mg ec [(r, .ref a)] (vwOf r) ρs (Itt K a) ds where
  go := fun {C ρ σ tm H} i d h lk hd => by
    obtain ⟨a', vs, e, hq, rr⟩ := h.seq (.head _) (get_lk g lk) rfl
    cases e
    rcases hq with ⟨z, _⟩ | ⟨_, hq⟩
    · cases z
    · obtain ⟨x, hx, rx⟩ := rr.get hd
      refine ⟨⟨vs, x, hq, hx⟩, fun y H' ⟨e1, e2⟩ => ?_⟩
      subst e1
      have e3 := e2 vs hq
      rw [hx] at e3
      cases e3
      exact h.push_dt rx
  stop := fun {C ρ σ tm H} h lk => by
    obtain ⟨a', vs, e, hq, rr⟩ := h.seq (.head _) (get_lk g lk) rfl
    cases e
    rcases hq with ⟨z, _⟩ | ⟨_, hq⟩
    · cases z
    · exact ⟨vs, hq, by rw [rr.len]; exact Nat.le_refl _⟩
theorem rp_pair {A : Addr → Prop} {i : Int} {x : V} (rx : Rp K mg H A d x) : RpL K mg H A [.int i, d] [.int i, x] := .cons rfl (.cons rx .nil)
theorem walked_enumL (g : r.get ρs = some (.lst ds)) {a : Addr} : Walked K mg ec [(r, .ref a)] (vwOf r) ρs (Ite K a) (enumD 0 ds) where
  go := fun {C ρ σ tm H} i d h lk hd => by
    rw [enumD_get, Nat.zero_add] at hd
    cases q : ds[i]? with
    | none => rw [q] at hd; cases hd
    | some d0 =>
      rw [q] at hd
      cases hd
      obtain ⟨a', vs, e, hq, rr⟩ := h.seq (.head _) (get_lk g lk) rfl
      cases e
      rcases hq with ⟨_, hq⟩ | ⟨z, _⟩
      · obtain ⟨x, hx, rx⟩ := rr.get q
        refine ⟨⟨vs, x, .of hq, hx⟩, fun y H' ⟨T, x', e0, e1, e2, e3⟩ => ?_⟩
        subst e0 e2
        have e3 := e3 vs (.of hq)
        rw [hx] at e3
        cases e3
        exact h.push_tup e1 (rp_pair rx)
      · cases z
  stop := fun {C ρ σ tm H} h lk => by
    obtain ⟨a', vs, e, hq, rr⟩ := h.seq (.head _) (get_lk g lk) rfl
    cases e
    rcases hq with ⟨_, hq⟩ | ⟨z, _⟩
    · exact ⟨vs, .of hq, by rw [rr.len, enumD_len]; exact Nat.le_refl _⟩
    · cases z
theorem walked_enumT (g : r.get ρs = some (.tup ds)) {a : Addr} : Walked K mg ec [(r, .ref a)] (vwOf r) ρs (IteT K a) (enumD 0 ds) where
  go := fun {C ρ σ tm H} i d h lk hd => by
    rw [enumD_get, Nat.zero_add] at hd
    cases q : ds[i]? with
    | none => rw [q] at hd; cases hd
    | some d0 =>
      rw [q] at hd
      cases hd
      obtain ⟨a', vs, e, hq, rr⟩ := h.seq (.head _) (get_lk g lk) rfl
      cases e
      rcases hq with ⟨z, _⟩ | ⟨_, hq⟩
      · cases z
      · obtain ⟨x, hx, rx⟩ := rr.get q
        refine ⟨⟨vs, x, hq, hx⟩, fun y H' ⟨T, x', e0, e1, e2, e3⟩ => ?_⟩
        subst e0 e2
        have e3 := e3 vs hq
        rw [hx] at e3
        cases e3
        exact h.push_tup e1 (rp_pair rx)
  stop := fun {C ρ σ tm H} h lk => by
    obtain ⟨a', vs, e, hq, rr⟩ := h.seq (.head _) (get_lk g lk) rfl
    cases e
    rcases hq with ⟨z, _⟩ | ⟨_, hq⟩
    · cases z
    · exact ⟨vs, hq, by rw [rr.len, enumD_len]⟩
end
section
variable {X : Cx} {W : WX} {ec : EC} {e l tg : Expr} {F G : Fm → Out RV} {p pos tpos : Pos} {A : Fm → Out (List RV)}
theorem vw_tl {r : RV} {v : V} : ∀ i u, (RV.vw i, u) ∈ [(r, v)] → i ∈ vwOf r := fun i u hm => by
  cases hm with
  | head => exact .head _
  | tail _ z => cases z
theorem di_seq (ha : DE X W ec l F) : DI X W ec tg l (sSrc F) := pi_imp (pi_seq ha) fun σ H R ⟨C, ρ, tm, h, p⟩ => by
  refine ⟨C, ρ, tm, h, ?_⟩
  unfold sSrc at p
  cases q : F ρ with
  | ex => rw [q] at p; exact p
  | bad => rw [q] at p; exact p.elim
  | ok r ρ1 =>
    rw [q] at p
    intro v H1 h1 k1
    simp only [Out.bind] at p
    cases g : r.get ρ1 with
    | none => rw [g] at p; exact p.elim
    | some d =>
      rw [g] at p
      dsimp only at p
      cases d <;> first | exact p.elim | skip
      · obtain ⟨a, vs, rfl, hq, _⟩ := h1.seq (.head _) g rfl
        rcases hq with ⟨z, _⟩ | ⟨_, hq⟩
        · cases z
        · exact ⟨a, rfl, .inr ⟨⟨vs, hq⟩, p [(r, .ref a)] _ H1 h1 k1 vw_tl (vw_src g) (walked_tup g)⟩⟩
      · obtain ⟨a, vs, rfl, hq, _⟩ := h1.seq (.head _) g rfl
        rcases hq with ⟨_, hq⟩ | ⟨z, _⟩
        · exact ⟨a, rfl, .inl ⟨⟨vs, .of hq⟩, p [(r, .ref a)] _ H1 h1 k1 vw_tl (vw_src g) (walked_lst g)⟩⟩
        · cases z
theorem di_enum {elts : List Expr} {kk : Nat} (ha : DE X W ec e F) (hm : X.mg "enumerate" = none) (hg : Gl X "enumerate" := by rfl) (hs : starEach [e] X.env = [(false, eval e X.env)] := by rfl) :
    DI X W ec (.Tuple elts kk tpos) (.Call (.Name "enumerate" p) [e] [] pos) (eSrc F) := pi_imp (pi_enumS hm (da_cons ha da_nil hs) hg hs) fun σ H R ⟨C, ρ, tm, h, p⟩ => by
  refine ⟨C, ρ, tm, h, ?_⟩
  unfold eSrc at p
  unfold aCons
  cases q : F ρ with
  | ex => rw [q] at p; exact p
  | bad => rw [q] at p; exact p.elim
  | ok r ρ1 =>
    rw [q] at p
    intro vs H1 hl h1 k1
    obtain ⟨v, rfl⟩ : ∃ v, vs = [v] := by
      match vs, hl with
      | [v], _ => exact ⟨v, rfl⟩
    have h1 : Hold X.K X.mg ec H1 C ρ1 σ ((r, v) :: tm) := h1
    simp only [Out.bind] at p
    cases g : r.get ρ1 with
    | none => rw [g] at p; exact p.elim
    | some d =>
      rw [g] at p
      dsimp only at p
      cases d <;> first | exact p.elim | skip
      · obtain ⟨a, vs, rfl, hq, _⟩ := h1.seq (.head _) g rfl
        rcases hq with ⟨z, _⟩ | ⟨_, hq⟩
        · cases z
        · exact ⟨a, rfl, .inr ⟨⟨vs, hq⟩, p [(r, .ref a)] _ H1 h1 k1 vw_tl (vw_src g) (walked_enumT g)⟩⟩
      · obtain ⟨a, vs, rfl, hq, _⟩ := h1.seq (.head _) g rfl
        rcases hq with ⟨_, hq⟩ | ⟨z, _⟩
        · exact ⟨a, rfl, .inl ⟨⟨vs, .of hq⟩, p [(r, .ref a)] _ H1 h1 k1 vw_tl (vw_src g) (walked_enumL g)⟩⟩
        · cases z
/-- range(j), range(i, j) -/
def rangeD (lo : Int) (n : Nat) : List D := (List.range n).map fun i => .int (lo + (i : Nat))
def rSrc (A : Fm → Out (List RV)) : SrcF := fun ρ => (A ρ).bind fun rs ρ => match rs with
  | [.dt (.int j)] => if -(2 ^ 62) ≤ j ∧ j < 2 ^ 62 then .ok (rangeD 0 j.toNat, []) ρ else .bad
  | [.dt (.int i), .dt (.int j)] => if -(2 ^ 62) ≤ i ∧ i < 2 ^ 62 ∧ -(2 ^ 62) ≤ j ∧ j < 2 ^ 62 then .ok (rangeD i (j - i).toNat, []) ρ else .bad
  | _ => .bad
theorem walked_range {K : PySem.W.Frag} {mg : Str → Option Value} {ρs : Fm} {lo : Int} {n : Nat} : Walked K mg ec [] [] ρs (Itr lo n) (rangeD lo n) where
  go := fun {C ρ σ tm H} i d h lk hd => by
    unfold rangeD at hd
    rw [List.getElem?_map] at hd
    by_cases hi : i < n
    · rw [List.getElem?_range hi] at hd
      cases hd
      exact ⟨hi, fun x H' ⟨e1, e2⟩ => by
        subst e1 e2
        exact h.push_dt rfl⟩
    · rw [List.getElem?_eq_none (by simpa using hi)] at hd
      cases hd
  stop := fun {C ρ σ tm H} h lk => by
    show n ≤ (rangeD lo n).length
    unfold rangeD
    rw [List.length_map, List.length_range]
    exact Nat.le_refl _
theorem di_range1 (ha : DA X W ec [e] A) (la : LA A 1) (hm : X.mg "range" = none) (hg : Gl X "range" := by rfl) (hs : starEach [e] X.env = [(false, eval e X.env)] := by rfl) :
    DI X W ec tg (.Call (.Name "range" p) [e] [] pos) (rSrc A) := pi_imp (pi_range1 hg hm ha hs) fun σ H R ⟨C, ρ, tm, h, p⟩ => by
  refine ⟨C, ρ, tm, h, ?_⟩
  unfold rSrc at p
  cases q : A ρ with
  | ex => rw [q] at p; exact p
  | bad => rw [q] at p; exact p.elim
  | ok rs ρ1 =>
    rw [q] at p
    intro vs H1 hl h1 k1
    have l1 := la.len _ _ _ q
    simp only [Out.bind] at p
    match rs, vs, l1, hl, h1, p with
    | [r], [v], z1, z2, h1, p =>
      clear z1 z2
      change Hold X.K X.mg ec H1 C ρ1 σ ((r, v) :: tm) at h1
      cases r with
      | vw => exact p.elim
      | fr => exact p.elim
      | dt d =>
        cases d <;> first | exact p.elim | skip
        rename_i j
        dsimp only at p
        by_cases hj : -(2 ^ 62) ≤ j ∧ j < 2 ^ 62
        · rw [if_pos hj] at p
          have ev : v = .int j := h1.tmp _ _ (.head _)
          subst ev
          exact ⟨j, rfl, hj.1, hj.2, p [] _ H1 h1.pop k1 (fun i v z => by cases z) (fun i z => by cases z) walked_range⟩
        · rw [if_neg hj] at p
          exact p.elim
theorem di_range2 {b : Expr} (ha : DA X W ec [e, b] A) (la : LA A 2) (hm : X.mg "range" = none) (hg : Gl X "range" := by rfl) (hs : starEach [e, b] X.env = [(false, eval e X.env), (false, eval b X.env)] := by rfl) (hs2 : starEach [b] X.env = [(false, eval b X.env)] := by rfl) :
    DI X W ec tg (.Call (.Name "range" p) [e, b] [] pos) (rSrc A) := pi_imp (pi_range2 hg hm ha hs hs2) fun σ H R ⟨C, ρ, tm, h, p⟩ => by
  refine ⟨C, ρ, tm, h, ?_⟩
  unfold rSrc at p
  cases q : A ρ with
  | ex => rw [q] at p; exact p
  | bad => rw [q] at p; exact p.elim
  | ok rs ρ1 =>
    rw [q] at p
    intro vs H1 hl h1 k1
    have l1 := la.len _ _ _ q
    simp only [Out.bind] at p
    match rs, vs, l1, hl, h1, p with
    | [r, r'], [v, v'], z1, z2, h1, p =>
      clear z1 z2
      change Hold X.K X.mg ec H1 C ρ1 σ ((r', v') :: (r, v) :: tm) at h1
      cases r with
      | vw => exact p.elim
      | fr => exact p.elim
      | dt d =>
        cases r' with
        | vw => cases d <;> exact p.elim
        | fr => cases d <;> exact p.elim
        | dt d' =>
          cases d <;> first | exact p.elim | skip
          cases d' <;> first | exact p.elim | skip
          rename_i i j
          dsimp only at p
          by_cases hj : -(2 ^ 62) ≤ i ∧ i < 2 ^ 62 ∧ -(2 ^ 62) ≤ j ∧ j < 2 ^ 62
          · rw [if_pos hj] at p
            have ev' : v' = .int j := h1.tmp _ _ (.head _)
            have ev : v = .int i := h1.tmp _ _ (.tail _ (.head _))
            subst ev ev'
            exact ⟨i, j, rfl, hj, p [] _ H1 h1.pop.pop k1 (fun i v z => by cases z) (fun i z => by cases z) walked_range⟩
          · rw [if_neg hj] at p
            exact p.elim
end
end DL

namespace DL
open PySem L2

/-! ### for -/
def loopD (put : PutF) (S : Fm → SO) : List D → Fm → SO
  | [], ρ => .nx ρ
  | d :: ds, ρ => match put d ρ with
    | none => .bad
    | some ρ1 => match S ρ1 with
      | .nx ρ2 => loopD put S ds ρ2
      | .ct ρ2 => loopD put S ds ρ2
      | .bk ρ2 => .nx ρ2
      | .rt r ρ2 => .rt r ρ2
      | .ex c f x ρ2 => .ex c f x ρ2
      | .bad => .bad
def unlk (g : Fm → Fm) : SO → SO
  | .nx ρ => .nx (g ρ)
  | .ct ρ => .ct (g ρ)
  | .bk ρ => .bk (g ρ)
  | .rt r ρ => .rt r (g ρ)
  | .ex c f x ρ => .ex c f x (g ρ)
  | .bad => .bad
def sFor (Fs : SrcF) (put : PutF) (S : Fm → SO) : Fm → SO := fun ρ => (Fs ρ).sbind fun p ρ1 => if noIo p.2 ρ1 then unlk (reK p.2 0 ρ1) (loopD put S p.1 (lockG p.2 0 ρ1)) else .bad
theorem get_drop {α : Type} {l : List α} {i : Nat} (h : i < l.length) : l.drop i = l[i] :: l.drop (i + 1) := List.drop_eq_getElem_cons h
section
variable {X : Cx} {W : WX} {ec : EC} {iter tg : Expr} {body : List Stmt} {pos : Pos} {Fs : SrcF} {put : PutF} {S : Fm → SO} {g : TG} {is : List Nat}
theorem ds_for (hp : PassesOwn (model X.prog X.w) X.A X.env X.xe) (hc : X.calm = true) (hi : DI X W ec tg iter Fs) (hg : PG X tg g) (ht : TgP X.K X.mg ec g put is) (hb : DSs X W ec body S)
    (hs : ∀ x, foldedSetIterable iter X.env x = pure x := by intro _; rfl) : DS X W ec (.For tg iter body [] pos) (sFor Fs put S) := (ps_for hp hc hi hg hb hs).imp fun E σ H ⟨C, ρ, tm, h, lk, p⟩ => by
  refine ⟨C, ρ, tm, h, ?_⟩
  unfold sFor at p
  cases q : Fs ρ with
  | ex => rw [q] at p; exact p
  | bad => rw [q] at p; exact p.elim
  | ok pr ρ1 =>
    obtain ⟨ds, vws⟩ := pr
    rw [q] at p
    intro tl J H1 h1 k1 hv hw wk
    have hw : ∀ i ∈ vws, ∃ k es, ρ1[i]? = some (Sl.ow k es) := hw
    have hv : ∀ i v, (RV.vw i, v) ∈ tl → i ∈ vws := hv
    have wk : Walked X.K X.mg ec tl vws ρ1 J ds := wk
    simp only [Out.sbind] at p
    cases hn : noIo vws ρ1 with
    | false =>
      rw [hn] at p
      exact p.elim
    | true =>
      rw [hn] at p
      have p : FinS X.K X.mg W ec C ρ tm (unlk (reK vws 0 ρ1) (loopD put S ds (lockG vws 0 ρ1))) E := p
      have hL := h1.lock hn
      let Pv : Nat → St → Hp → Prop := fun i σ' H' => ∃ ρ', Hold X.K X.mg ec H' C ρ' σ' (tl ++ tm) ∧ Kin (lockG vws 0 ρ1) ρ' ∧ FinS X.K X.mg W ec C ρ tm (unlk (reK vws 0 ρ1) (loopD put S (ds.drop i) ρ')) E
      have lkc : ∀ {ρ'}, Kin (lockG vws 0 ρ1) ρ' → LkC vws ρ1 ρ' := fun {ρ'} k => LkC.lock.kin k
      have lkt : ∀ {ρ'}, Kin (lockG vws 0 ρ1) ρ' → LkT ρ' (tl ++ tm) := fun {ρ'} k i v hm => by
        rcases List.mem_append.mp hm with z | z
        · obtain ⟨k', es, y⟩ := hw i (hv i v z)
          exact ⟨es, lkc k i (hv i v z) k' es y⟩
        · obtain ⟨ds', y⟩ := lk i v z
          have y1 := k1.lk i 0 ds' y
          have y2 : ∃ es, (lockG vws 0 ρ1)[i]? = some (Sl.ow 2 es) := by
            rw [lockG_get, y1, Nat.zero_add]
            unfold lkS
            cases vws.contains i <;> exact ⟨_, rfl⟩
          obtain ⟨es, y2⟩ := y2
          exact ⟨es, k.lk i 0 es y2⟩
      have out : ∀ {ρ' σ' H' ts}, Hold X.K X.mg ec H' C ρ' σ' (ts ++ (tl ++ tm)) → Kin (lockG vws 0 ρ1) ρ' → Hold X.K X.mg ec H' C (reK vws 0 ρ1 ρ') σ' (ts ++ tm) ∧ Kin ρ (reK vws 0 ρ1 ρ') := fun {ρ' σ' H' ts} hh k =>
        ⟨(hh.sub ((List.Sublist.refl ts).append (List.sublist_append_right tl tm))).unlock hn (lkc k), k1.trans (kin_unlock hn k)⟩
      refine ⟨fun i m σ H => m = ds.length - i ∧ i ≤ ds.length ∧ Pv i σ H, ⟨ds.length, by simp, Nat.zero_le _, lockG vws 0 ρ1, hL, Kin.refl, p⟩, ?_⟩
      rintro i m σ' H' ⟨rfl, hle, ρ', hh, k, pf⟩
      by_cases hlt : i < ds.length
      · right
        obtain ⟨go, yld⟩ := wk.go i _ hh (lkc k) (List.getElem?_eq_getElem hlt)
        refine ⟨go, Pv (i + 1), fun σ2 H2 p2 => ⟨ds.length - (i + 1), by omega, rfl, hlt, p2⟩, fun x H2 y => ?_⟩
        have h2 := yld x H2 y
        rw [get_drop hlt] at pf
        unfold loopD at pf
        cases q1 : put ds[i] ρ' with
        | none => rw [q1] at pf; exact pf.elim
        | some ρ2 =>
          rw [q1] at pf
          refine ht.run h2 (lkt k).lkI q1 fun σ3 H3 h3 k3 _ => ⟨C, ρ2, tl ++ tm, h3, lkt (k.trans k3), ?_⟩
          have kk : ∀ {ρ3}, Kin ρ2 ρ3 → Kin (lockG vws 0 ρ1) ρ3 := fun z => (k.trans k3).trans z
          dsimp only at pf
          cases q2 : S ρ2 with
          | nx ρ3 =>
            rw [q2] at pf
            exact fun σ4 H4 h4 k4 => ⟨ρ3, h4, kk k4, pf⟩
          | ct ρ3 =>
            rw [q2] at pf
            exact fun σ4 H4 h4 k4 => ⟨ρ3, h4, kk k4, pf⟩
          | bk ρ3 =>
            rw [q2] at pf
            intro σ4 H4 h4 k4
            obtain ⟨z1, z2⟩ := out (ts := []) h4 (kk k4)
            exact pf σ4 H4 z1 z2
          | rt r ρ3 =>
            rw [q2] at pf
            intro v σ4 H4 h4 k4
            obtain ⟨z1, z2⟩ := out (ts := [(r, v)]) h4 (kk k4)
            exact pf v σ4 H4 z1 z2
          | ex c f d ρ3 =>
            rw [q2] at pf
            intro cl dd v fs σ4 H4 y1 y2 y3 y4 h4 k4
            obtain ⟨z1, z2⟩ := out (ts := []) h4 (kk k4)
            refine pf cl dd v fs σ4 H4 y1 y2 y3 (Rp.av (fun a q => ?_) d v y4) z1 z2
            rcases q with q | ⟨i', k', es, q1', q2'⟩ | ⟨es, q⟩
            · exact .inl (.inl q)
            · obtain ⟨o, ho⟩ : ∃ o, ρ3[i']? = some o := by
                have hl : i' < ρ3.length := by
                  rw [← reK_len (vws := vws) (j := 0) (ρ0 := ρ1)]
                  exact (List.getElem?_eq_some_iff.mp q1').1
                exact ⟨_, List.getElem?_eq_getElem hl⟩
              have : ∃ k2, ρ3[i']? = some (Sl.ow k2 es) := by
                cases e0 : ρ1[i']? with
                | none =>
                  rw [reK_get2 e0] at q1'
                  exact ⟨_, q1'⟩
                | some s0 =>
                  rw [reK_get e0, ho] at q1'
                  have q1' : reS (vws.contains (0 + i')) s0 o = Sl.ow k' es := Option.some.inj q1'
                  rw [ho]
                  unfold reS at q1'
                  split at q1'
                  · split at q1'
                    · cases q1'
                      exact ⟨_, rfl⟩
                    · rw [q1']
                      exact ⟨_, rfl⟩
                  · rw [q1']
                    exact ⟨_, rfl⟩
              obtain ⟨k2, q3⟩ := this
              exact .inl (.inr (.inl ⟨i', k2, es, q3, q2'⟩))
            · exact .inl (.inr (.inr ⟨es, List.mem_append_right _ q⟩))
          | bad => rw [q2] at pf; exact pf.elim
      · have e : i = ds.length := by omega
        subst e
        left
        refine ⟨wk.stop hh (lkc k), ?_⟩
        rw [List.drop_length] at pf
        obtain ⟨z1, z2⟩ := out (ts := []) hh k
        exact pf σ' H' z1 z2
end

/-! ### comprehensions -/
def wipeS (vs : List Nat) (ρ : Fm) : Option Fm := if vs.all (fun i => match ρ[i]? with
    | some (.ow _ _) => false
    | _ => true) then some (vs.foldl (fun ρ i => ρ.set i .un) ρ) else none
theorem foldl_un : ∀ {vs : List Nat} {ρ : Fm}, (vs.foldl (fun ρ i => ρ.set i Sl.un) ρ).length = ρ.length ∧ ∀ i : Nat, (i ∈ vs ∧ ((vs.foldl (fun ρ i => ρ.set i Sl.un) ρ)[i]? = some .un ∨ ρ[i]? = none)) ∨ (i ∉ vs ∧ (vs.foldl (fun ρ i => ρ.set i Sl.un) ρ)[i]? = ρ[i]?)
  | [], ρ => ⟨rfl, fun i => .inr ⟨fun z => (nomatch z), rfl⟩⟩
  | v :: vs, ρ => by
    obtain ⟨e, f⟩ := @foldl_un vs (ρ.set v .un)
    refine ⟨e.trans List.length_set, fun i => ?_⟩
    rcases f i with ⟨h1, h2⟩ | ⟨h1, h2⟩
    · refine .inl ⟨.tail _ h1, h2.imp id fun z => ?_⟩
      rw [List.getElem?_eq_none_iff, List.length_set] at z
      exact List.getElem?_eq_none_iff.mpr z
    · by_cases hv : v = i
      · subst hv
        refine .inl ⟨.head _, ?_⟩
        by_cases hl : v < ρ.length
        · rw [List.getElem?_set_self hl] at h2
          exact .inl h2
        · exact .inr (List.getElem?_eq_none (Nat.le_of_not_lt hl))
      · rw [List.getElem?_set_ne hv] at h2
        exact .inr ⟨fun z => (List.mem_cons.mp z).elim (fun z => hv z.symm) h1, h2⟩
theorem wipe_get (σ : St) : ∀ (vs : List Nat) (i : Nat), (i ∈ vs ∧ ((wipe σ vs)[i]? = some none ∨ σ[i]? = none)) ∨ (i ∉ vs ∧ (wipe σ vs)[i]? = σ[i]?)
  | [], i => .inr ⟨fun z => (nomatch z), rfl⟩
  | v :: vs, i => by
    by_cases hv : v = i
    · subst hv
      refine .inl ⟨.head _, ?_⟩
      by_cases hl : v < σ.length
      · exact .inl (by
          show ((wipe σ vs).set v none)[v]? = _
          rw [List.getElem?_set_self (by rw [wipe_length]; exact hl)])
      · exact .inr (List.getElem?_eq_none (Nat.le_of_not_lt hl))
    · have e : (wipe σ (v :: vs))[i]? = (wipe σ vs)[i]? := List.getElem?_set_ne hv
      rcases wipe_get σ vs i with ⟨h1, h2⟩ | ⟨h1, h2⟩
      · exact .inl ⟨.tail _ h1, by rw [e]; exact h2⟩
      · exact .inr ⟨fun z => (List.mem_cons.mp z).elim (fun z => hv z.symm) h1, by rw [e]; exact h2⟩
theorem wipe_off {σ σ' : St} {vs is : List Nat} (o : Off is (wipe σ vs) σ') (hs : ∀ i ∈ is, i ∈ vs) : wipe σ' vs = wipe σ vs := by
  apply List.ext_getElem?
  intro i
  have hl : σ'.length = σ.length := by rw [o.len, wipe_length]
  rcases wipe_get σ' vs i with ⟨h1, h2⟩ | ⟨h1, h2⟩
  · rcases wipe_get σ vs i with ⟨h3, h4⟩ | ⟨h3, h4⟩
    · rcases h2 with h2 | h2
      · rcases h4 with h4 | h4
        · rw [h2, h4]
        · rw [List.getElem?_eq_none_iff] at h4
          rw [List.getElem?_eq_none (by rw [wipe_length, hl]; exact h4), List.getElem?_eq_none (by rw [wipe_length]; exact h4)]
      · rw [List.getElem?_eq_none_iff] at h2
        rw [List.getElem?_eq_none (by rw [wipe_length]; exact h2), List.getElem?_eq_none (by rw [wipe_length, ← hl]; exact h2)]
    · exact absurd h1 h3
  · rw [h2, o.at' i fun z => h1 (hs i z)]
section
variable {K : PySem.W.Frag} {mg : Str → Option Value} {ec : EC} {C : Fc} {ρ ρ' : Fm} {σ σ' : St} {tm : Tm} {H : Hp}
theorem wipeS_inv {vs : List Nat} (h : wipeS vs ρ = some ρ') : ρ'.length = ρ.length ∧ (∀ (i k : Nat) es, ρ[i]? = some (Sl.ow k es) → i ∉ vs) ∧ ∀ i : Nat, (i ∈ vs ∧ (ρ'[i]? = some .un ∨ ρ[i]? = none)) ∨ (i ∉ vs ∧ ρ'[i]? = ρ[i]?) := by
  unfold wipeS at h
  split at h
  · rename_i hc
    cases h
    obtain ⟨e, f⟩ := @foldl_un vs ρ
    refine ⟨e, fun i k es q hm => ?_, f⟩
    have z := List.all_eq_true.mp hc i hm
    rw [q] at z
    cases z
  · cases h
/-- the block's slots are forgotten, in the frame and in the state -/
theorem Hold.wipe {vs : List Nat} (h : Hold K mg ec H C ρ σ tm) (hw : wipeS vs ρ = some ρ') : Hold K mg ec H C ρ' (L2.wipe σ vs) tm := by
  obtain ⟨e, f, g⟩ := wipeS_inv hw
  refine h.mask (by rw [e, wipe_length]; exact h.len) (fun i s q hs => ?_) fun i k es q => ?_
  · rcases g i with ⟨h1, h2⟩ | ⟨h1, h2⟩
    · rcases h2 with h2 | h2
      · rw [h2] at q
        cases q
        exact absurd rfl hs
      · rw [List.getElem?_eq_none_iff, ← e] at h2
        rw [List.getElem?_eq_none h2] at q
        cases q
    · rcases wipe_get σ vs i with ⟨h3, _⟩ | ⟨_, h4⟩
      · exact absurd h3 h1
      · exact ⟨by rw [← h2]; exact q, h4⟩
  · have hi := f i k es q
    rcases g i with ⟨h1, _⟩ | ⟨_, h2⟩
    · exact absurd h1 hi
    · rcases wipe_get σ vs i with ⟨h3, _⟩ | ⟨_, h4⟩
      · exact absurd h3 hi
      · exact ⟨by rw [h2]; exact q, h4⟩
/-- nothing is known of these slots -/
def Unk (vs : List Nat) (ρ : Fm) : Prop := ∀ i ∈ vs, ∀ s, ρ[i]? = some s → s = Sl.un
theorem wipeS_unk {vs : List Nat} (hw : wipeS vs ρ = some ρ') : Unk vs ρ' := fun i hi s q => by
  obtain ⟨e, f, g⟩ := wipeS_inv hw
  rcases g i with ⟨h1, h2⟩ | ⟨h1, h2⟩
  · rcases h2 with h2 | h2
    · rw [h2] at q
      exact (Option.some.inj q).symm
    · rw [List.getElem?_eq_none_iff, ← e] at h2
      rw [List.getElem?_eq_none h2] at q
      cases q
  · exact absurd hi h1
theorem Hold.unwipe {vs : List Nat} (h : Hold K mg ec H C ρ (L2.wipe σ vs) tm) (hu : Unk vs ρ) : Hold K mg ec H C ρ σ tm := by
  refine h.mask (by rw [h.len, wipe_length]) (fun i s q hs => ⟨q, ?_⟩) fun i k es q => ⟨q, ?_⟩
  · rcases wipe_get σ vs i with ⟨h3, _⟩ | ⟨_, h4⟩
    · exact absurd (hu i h3 s q) hs
    · exact h4.symm
  · rcases wipe_get σ vs i with ⟨h3, _⟩ | ⟨_, h4⟩
    · cases hu i h3 _ q
    · exact h4.symm
theorem kin_wipe {vs : List Nat} (hw : wipeS vs ρ = some ρ') : Kin ρ ρ' := by
  obtain ⟨e, f, g⟩ := wipeS_inv hw
  refine Kin.of_same fun i k ds q => ?_
  have hi := f i _ ds q
  rcases g i with ⟨h1, _⟩ | ⟨_, h2⟩
  · exact absurd h1 hi
  · rw [h2]
    exact q
end
def compD (put : PutF) (B : Fm → Out Bool) (F : Fm → Out RV) (vs : List Nat) : List D → List D → Fm → Out (List D)
  | [], acc, ρ => .ok acc ρ
  | d :: ds, acc, ρ => match put d ρ with
    | none => .bad
    | some ρ1 => match B ρ1 with
      | .ok true ρ2 => match F ρ2 with
        | .ok r ρ3 => match toD r, wipeS vs ρ3 with
          | some e, some ρ4 => if acc.length < 1000000 then compD put B F vs ds (acc ++ [e]) ρ4 else .bad
          | _, _ => .bad
        | _ => .bad
      | .ok false ρ2 => match wipeS vs ρ2 with
        | some ρ4 => compD put B F vs ds acc ρ4
        | none => .bad
      | _ => .bad
def fLc (Fs : SrcF) (put : PutF) (B : Fm → Out Bool) (F : Fm → Out RV) (vs : List Nat) : Fm → Out RV := fun ρ => (Fs ρ).bind fun p ρ1 => if noIo p.2 ρ1 then (match wipeS vs (lockG p.2 0 ρ1) with
  | some ρL => match compD put B F vs p.1 [] ρL with
    | .ok zs ρ2 => .ok (.fr zs) (reK p.2 0 ρ1 ρ2)
    | _ => .bad
  | none => .bad) else .bad
abbrev noW : WX := fun _ _ _ _ => False
section
variable {X : Cx} {W : WX} {ec : EC} {iter tg elt : Expr} {pos : Pos} {Fs : SrcF} {put : PutF} {g : TG} {is : List Nat} {B : Fm → Out Bool} {F : Fm → Out RV} {tt : TT} {te : TE} {vs : List Nat}
theorem tLc_of (hi : ∀ i ∈ is, i ∈ vs) (ht : TgP X.K X.mg ec g put is) {σ : St} {H : Hp} {Q : VK} (h : tD X.K X.mg W ec (fLc Fs put B F vs) σ H Q) : tLc (tDI X.K X.mg W ec Fs) g (tDT X.K X.mg noW ec B) (tD X.K X.mg noW ec F) vs σ H Q := by
  obtain ⟨C, ρ, tm, h, p⟩ := h
  refine ⟨C, ρ, tm, h, ?_⟩
  unfold fLc at p
  cases q : Fs ρ with
  | ex => rw [q] at p; exact p
  | bad => rw [q] at p; exact p.elim
  | ok pr ρ1 =>
    obtain ⟨ds, vws⟩ := pr
    rw [q] at p
    intro tl J H1 h1 k1 hv hw wk
    have hw : ∀ i ∈ vws, ∃ k es, ρ1[i]? = some (Sl.ow k es) := hw
    have hv : ∀ i v, (RV.vw i, v) ∈ tl → i ∈ vws := hv
    have wk : Walked X.K X.mg ec tl vws ρ1 J ds := wk
    simp only [Out.bind] at p
    cases hn : noIo vws ρ1 with
    | false =>
      rw [hn] at p
      exact p.elim
    | true =>
      rw [hn] at p
      simp only [if_true] at p
      cases qw : wipeS vs (lockG vws 0 ρ1) with
      | none => rw [qw] at p; exact p.elim
      | some ρL =>
        rw [qw] at p
        dsimp only at p
        have hL := (h1.lock hn).wipe qw
        have kL := kin_wipe qw
        intro N hN
        let ST : List D → Tm := fun acc => tl ++ ((RV.fr acc, V.ref N) :: tm)
        let Fin' : Out (List D) → Prop := fun o => Fin X.K X.mg W ec C ρ σ tm (match o with
          | .ok zs ρ2 => .ok (.fr zs) (reK vws 0 ρ1 ρ2)
          | _ => .bad) Q
        let Pv : Nat → Hp → Prop := fun i H' => ∃ ρ' acc, Hold X.K X.mg ec H' C ρ' (wipe σ vs) (ST acc) ∧ Kin ρL ρ' ∧ Unk vs ρ' ∧ Fin' (compD put B F vs (ds.drop i) acc ρ')
        have lkc : ∀ {ρ'}, Kin ρL ρ' → LkC vws ρ1 ρ' := fun {ρ'} k => (LkC.lock.kin kL).kin k
        have st0 : Hold X.K X.mg ec (upd H1 N (.lst [])) C ρL (wipe σ vs) (ST []) := by
          have z := hL.push_fr hN (ds := []) (vs := []) rfl
          exact z.perm (List.perm_middle)
        refine ⟨fun i m H => m = ds.length - i ∧ i ≤ ds.length ∧ Pv i H, ⟨ds.length, by simp, Nat.zero_le _, ρL, [], st0, Kin.refl, wipeS_unk qw, p⟩, ?_⟩
        rintro i m H' ⟨rfl, hle, ρ', acc, hh, k, hu, pf⟩
        by_cases hlt : i < ds.length
        · right
          obtain ⟨go, yld⟩ := wk.go i _ hh (lkc k) (List.getElem?_eq_getElem hlt)
          refine ⟨go, Pv (i + 1), fun H2 p2 => ⟨ds.length - (i + 1), by omega, rfl, hlt, p2⟩, fun x H2 y => ?_⟩
          have h2 := yld x H2 y
          rw [get_drop hlt] at pf
          unfold compD at pf
          cases q1 : put ds[i] ρ' with
          | none => rw [q1] at pf; exact pf.elim
          | some ρ2 =>
            rw [q1] at pf
            have lki : LkI is ρ' (ST acc) := fun j v hm hj => by
              obtain ⟨k', es, y1, _⟩ := hh.tmp _ _ hm
              cases hu j (hi j hj) _ y1
            refine ht.run h2 lki q1 fun σ3 H3 h3 k3 o3 => ?_
            have eσ := wipe_off o3 hi
            refine ⟨eσ, C, ρ2, ST acc, h3, ?_⟩
            dsimp only at pf
            cases q2 : B ρ2 with
            | ex => rw [q2] at pf; exact pf.elim
            | bad => rw [q2] at pf; exact pf.elim
            | ok b ρ3 =>
              rw [q2] at pf
              intro H4 h4 k4
              cases b with
              | false =>
                rw [if_neg Bool.false_ne_true]
                dsimp only at pf
                cases q3 : wipeS vs ρ3 with
                | none => rw [q3] at pf; exact pf.elim
                | some ρ4 =>
                  rw [q3] at pf
                  have h5 := h4.wipe q3
                  rw [eσ] at h5
                  exact ⟨ρ4, acc, h5, ((k.trans k3).trans k4).trans (kin_wipe q3), wipeS_unk q3, pf⟩
              | true =>
                rw [if_pos rfl]
                refine ⟨C, ρ3, ST acc, h4, ?_⟩
                dsimp only at pf
                cases q3 : F ρ3 with
                | ex => rw [q3] at pf; exact pf.elim
                | bad => rw [q3] at pf; exact pf.elim
                | ok r ρ4 =>
                  rw [q3] at pf
                  intro v H5 h5 k5
                  dsimp only at pf
                  cases q4 : toD r with
                  | none => rw [q4] at pf; exact pf.elim
                  | some e =>
                    cases q5 : wipeS vs ρ4 with
                    | none => rw [q4, q5] at pf; exact pf.elim
                    | some ρ5 =>
                      rw [q4, q5] at pf
                      dsimp only at pf
                      by_cases hz : acc.length < 1000000
                      · rw [if_pos hz] at pf
                        obtain ⟨h6, re⟩ := h5.settle q4
                        have h7 : Hold X.K X.mg ec H5 C ρ4 σ3 ((RV.fr acc, V.ref N) :: (tl ++ tm)) := h6.perm List.perm_middle.symm
                        obtain ⟨N', ws, eN, _, _, _, hNl, rw'⟩ := h7.tmp _ _ (.head _)
                        cases eN
                        have isA : ∀ c, c = N → Av C.av ρ4 σ3 ((RV.fr acc, V.ref N) :: (tl ++ tm)) c := fun c z => by
                          rw [z]
                          exact .inr (.inr ⟨acc, .head _⟩)
                        have e1 : Ext (fun c => c = N) H5 (upd H5 N (.lst (ws ++ [v]))) := Ext.set hNl rfl
                        have re' : Rp X.K X.mg H5 (Av C.av ρ4 σ3 ((RV.fr acc, V.ref N) :: (tl ++ tm))) e v := Rp.av (fun a z => .inl (by
                          rcases z with z | z | ⟨es, z⟩
                          · exact .inl z
                          · exact .inr (.inl z)
                          · exact .inr (.inr ⟨es, List.perm_middle.symm.mem_iff.mp z⟩)) ) e v re
                        have h8 := h7.fill e1 upd_same (RpL.ext e1 isA _ _ (rw'.app (.cons re' .nil)))
                        have h9 : Hold X.K X.mg ec (upd H5 N (.lst (ws ++ [v]))) C ρ4 σ3 (ST (acc ++ [e])) := h8.perm List.perm_middle
                        have h10 := h9.wipe q5
                        rw [eσ] at h10
                        refine ⟨ws, hNl, by rw [rw'.len, sizeLine_eq]; omega, ρ5, acc ++ [e], h10, (((k.trans k3).trans k4).trans k5).trans (kin_wipe q5), wipeS_unk q5, pf⟩
                      · rw [if_neg hz] at pf
                        exact pf.elim
        · have e : i = ds.length := by omega
          subst e
          left
          refine ⟨wk.stop hh (lkc k), ?_⟩
          rw [List.drop_length] at pf
          have pf : Fin X.K X.mg W ec C ρ σ tm (.ok (.fr acc) (reK vws 0 ρ1 ρ')) Q := pf
          have h6 := hh.unwipe hu
          have h7 : Hold X.K X.mg ec H' C ρ' σ ((RV.fr acc, V.ref N) :: (tl ++ tm)) := h6.perm List.perm_middle.symm
          have h8 := (h7.sub (tm' := (RV.fr acc, V.ref N) :: tm) (List.Sublist.cons_cons _ (List.sublist_append_right tl tm))).unlock hn (lkc k)
          exact pf _ _ h8 (k1.trans (kin_unlock hn (kL.trans k)))
abbrev CtxB (X : Cx) (s : Shared) (H : Hp) (scope : Scope) (C : Addr) (cl : List (Str × Addr)) (fp : List Addr) : Cx := X.blk s H scope (compEnvC scope cl C X.env) fp
def bYes : Fm → Out Bool := fun ρ => .ok true ρ
variable {ifs : List Expr} {scope : Scope} {own : List (Str × Nat)}
theorem dts_nil {X : Cx} : PTs X [] (tDT X.K X.mg noW ec bYes) := ⟨fun pins s σ H Q I ⟨C, ρ, tm, h, p⟩ => pts_nil.run pins s σ H Q I (p H h Kin.refl)⟩
theorem dts_one {X : Cx} {c : Expr} (h : DT X noW ec c B) : PTs X [c] (tDT X.K X.mg noW ec B) := pts_one h
theorem de_lc (hc : X.calm = true) (hN : X.N.Nodup) (hi : DI X W ec tg iter Fs) (ok : BlkOk X.N X.env.scope scope own)
    (hg : ∀ (s : Shared) (H : Hp) (C : Addr) (cl : List (Str × Addr)) (fp : List Addr), PG (CtxB X s H scope C cl fp) tg g) (ht : TgP X.K X.mg ec g put is)
    (hc1 : ∀ (s : Shared) (H : Hp) (C : Addr) (cl : List (Str × Addr)) (fp : List Addr), PTs (CtxB X s H scope C cl fp) ifs (tDT X.K X.mg noW ec B))
    (he : ∀ (s : Shared) (H : Hp) (C : Addr) (cl : List (Str × Addr)) (fp : List Addr), DE (CtxB X s H scope C cl fp) noW ec elt F) (his : ∀ i ∈ is, i ∈ own.map (·.2) := by decide) (hs : ∀ x, foldedSetIterable iter X.env x = pure x := by intro _; rfl) :
    DE X W ec (.ListComp elt [⟨tg, iter, ifs, 0⟩] scope pos) (fLc Fs put B F (own.map (·.2))) :=
  (pe_lc hc hN hi ok hg hc1 he hs).imp fun σ H Q h => tLc_of his ht h
/-- name = [..], on one line -/
theorem ds_setLc {i : Nat} {y : Str} {py spos : Pos} (hc : X.calm = true) (hN : X.N.Nodup) (hi : DI X W ec tg iter Fs) (ok : BlkOk X.N X.env.scope scope own)
    (hg : ∀ (s : Shared) (H : Hp) (C : Addr) (cl : List (Str × Addr)) (fp : List Addr), PG (CtxB X s H scope C cl fp) tg g) (ht : TgP X.K X.mg ec g put is)
    (hc1 : ∀ (s : Shared) (H : Hp) (C : Addr) (cl : List (Str × Addr)) (fp : List Addr), PTs (CtxB X s H scope C cl fp) ifs (tDT X.K X.mg noW ec B))
    (he : ∀ (s : Shared) (H : Hp) (C : Addr) (cl : List (Str × Addr)) (fp : List Addr), DE (CtxB X s H scope C cl fp) noW ec elt F) (his : ∀ i ∈ is, i ∈ own.map (·.2) := by decide) (hs : ∀ x, foldedSetIterable iter X.env x = pure x := by intro _; rfl)
    (hy : X.N[i]? = some y := by rfl) (hyl : X.env.scope.names.lookup y = some .local := by rfl)
    (hsw : swapsWith (.ListComp elt [⟨tg, iter, ifs, 0⟩] scope pos) (some (.Name y py)) spos.line X.env = pure true := by rfl) :
    DS X W ec (.Assign [.Name y py] (.ListComp elt [⟨tg, iter, ifs, 0⟩] scope pos) spos) (sSet i (fLc Fs put B F (own.map (·.2)))) :=
  (ps_setLc hc hN hy hyl hsw hi ok hg hc1 he hs).imp fun E σ H h => by
    have h2 := tSet_of h
    exact tLc_of his ht (is := is) (W := W) h2
end
end DL

namespace DL
open PySem L2
open PyProof.Rows (envOfC)

/-! ### binding with defaults and keywords -/
section
variable {K : PySem.W.Frag} {x qual : Str} {params : Arguments} {body : List Stmt} {scope : Scope} {dvs : List V} {kwv : List (Str × V)} {f : Addr} {fd : FuncData} {ps : List Str}
theorem kb_dfl {n : Nat} {ks : List Str} {is : List Nat} (F : FunD K x qual params body scope dvs kwv f fd) (hd : dvs ≠ [])
    (h : ∀ (T : Addr) (kV doc pm : Value) (an : Option Addr) (cdv ct : Value) (us its ws : List Value), us.length = n → its.length = dvs.length → ws.length = ks.length →
      ∃ k, bindArgs (PySem.W.fnOf x qual params body scope (.ref T) kV doc pm an cdv ct) ⟨us, ks.zip ws⟩ = seqItems? (.ref T) >>= k ∧ k (some its.toArray) = pure (ps.zip (pickL is (us ++ ws ++ its)))) : KB K fd ps n ks dvs is := by
  obtain ⟨oc, od, dV, kV, doc, pm, an, cdv, ct, osl, rfl, lk, hcd, hD, hK⟩ := F.ex
  rcases hD with ⟨e, _⟩ | ⟨_, T, o, its, m, rfl, lT, oT, rT⟩
  · exact absurd e hd
  · refine ⟨its, rT, fun s us ws X l1 l2 => ?_⟩
    obtain ⟨k, e1, e2⟩ := h T kV doc pm an cdv ct us its ws l1 rT.length.symm l2
    refine BindsTo.of_looks fun M => ?_
    rw [e1]
    exact looks_items X lT oT (.of_pure e2)
/-- all given, no default is looked up -/
theorem kb_raw {n : Nat} {ks : List Str} {is : List Nat} (F : FunD K x qual params body scope [] kwv f fd)
    (h : ∀ (kV doc pm : Value) (an : Option Addr) (cdv ct : Value) (us ws : List Value), us.length = n → ws.length = ks.length →
      bindArgs (PySem.W.fnOf x qual params body scope .none kV doc pm an cdv ct) ⟨us, ks.zip ws⟩ = pure (ps.zip (pickL is (us ++ ws)))) : KB K fd ps n ks [] is := by
  obtain ⟨oc, od, dV, kV, doc, pm, an, cdv, ct, osl, rfl, lk, hcd, hD, hK⟩ := F.ex
  rcases hD with ⟨_, rfl⟩ | ⟨e, _⟩
  · exact ⟨[], .nil, fun s us ws X l1 l2 => .of_eq (by
      rw [h kV doc pm an cdv ct us ws l1 l2, List.append_nil])⟩
  · exact absurd rfl e
end

/-! ### constants of a class; what never comes -/
section
variable {X : Cx} {W : WX} {ec : EC} {C : Addr} {mc : Value} {x f : Str} {p pos : Pos} {d : D} {v : V} {u : Value}
theorem de_cval (hm : X.mg x = some (.ref C)) (r : ClX.CRead X.K C mc) (c : ClX.CVal X.K C mc f v u) (e : sv d = some v) (hg : Gl X x := by rfl) (hdb : (x == ("__debug__" : Str)) = false := by decide)
    (hb : attributeBase (.Name x p) f X.env (eval (.Name x p) X.env) = eval (.Name x p) X.env := by rfl) : DE X W ec (.Attribute (.Name x p) f pos) (fC d) :=
  (ClX.pe_cval (pe_glob (v := .ref C) (u := .ref C) hg hm rfl hdb) hb).imp fun σ H Q ⟨C', ρ, tm, h, q⟩ => ⟨C, mc, v, u, rfl, r, c, q v H (h.push_sv e) Kin.refl⟩
theorem ds_never {st : Stmt} : DS X W ec st (fun _ => .bad) := ⟨fun pins s σ H E I ⟨C, ρ, tm, h, lk, p⟩ => p.elim⟩
end

/-! ### the law's own call -/
theorem law_callG {P : Program} {w : World} {K : PySem.W.Frag} {mg mb : Str → Option Value} {k : Nat} {fa a : Addr} {fd : FuncData} {x : Str} {sp : Sp} {s₁ : Shared} {vs : List Value} {ns : List Int}
    (KX : K.In s₁.heap) (hns : s₁.heap.Ns mainGlobals mg) (hb : s₁.heap.Ns builtinsNs mb) (hbb : ∀ x : Str, x ≠ "__name__" → mb x = bootBuiltins x) (hlim : s₁.heap.NoLimit) (hg : s₁.gens = #[])
    (ha : s₁.heap.get? a = some { cls := .type "list", data := .seq vs.toArray }) (hi : PyProof.Rows.IntsAre vs ns) (hl : ns.length ≤ sizeLine) (hr : Room k callerA)
    (F : ∀ base : Heap, K.In base → base.Ns mainGlobals mg → FnG P w K mg base k fa fd [x] sp) (hbind : ∀ (s : Shared) (u : Value), BindsTo s fd ⟨[u], []⟩ [(x, u)])
    (hsp : ∀ H : Hp, FzL K H a (ns.map V.int) → sp [.ref a] H (fun v _ => v = .bl true) fun _ _ _ => False) :
    codeAny (model P w) callerA (.call (.ref fa) ⟨[.ref a], []⟩) (fun r s' => r = .ok (.ret (.bool true)) ∧ OldK s₁.heap s'.heap ∧ s'.os = s₁.os ∧ PyProof.Rows.AllBare s'.gens) s₁ := by
  have rv := vals_ints hi
  have hO : ∃ H : Hp, Only H ∧ FzL K H a (ns.map V.int) ∧ HOk P w H s₁.heap ∧ (∀ b, H b ≠ none → b = a) ∧ (H a ≠ none → K.lookup a = none) := by
    cases hk : K.lookup a with
    | some o =>
      have e := KX a o hk
      rw [ha] at e
      cases e
      exact ⟨fun _ => none, fun _ => .inl rfl, .inr ⟨_, vs.toArray, _, hk, rfl, rfl, rfl, by rw [List.size_toArray, hi.length]; exact hl, by simpa using rv⟩, fun b u z => (nomatch z), fun b z => absurd rfl z, fun z => absurd rfl z⟩
    | none =>
      refine ⟨fun b => if b = a then some (.frz { cls := .type "list", data := .seq vs.toArray } (.lst (ns.map V.int))) else none, fun b => ?_, .inl ⟨{ cls := .type "list", data := .seq vs.toArray }, if_pos rfl⟩, fun b u z => ?_, fun b z => ?_, fun _ => rfl⟩
      · by_cases q : b = a
        · exact .inr ⟨_, _, if_pos q⟩
        · exact .inl (if_neg q)
      · by_cases q : b = a
        · have z := (if_pos q).symm.trans z
          cases z
          rw [q]
          exact ⟨ha, by rw [List.length_map]; exact hl, vs, _, rv, ha⟩
        · have z := (if_neg q).symm.trans z
          cases z
      · by_cases q : b = a
        · exact q
        · exact absurd (if_neg q) z
  obtain ⟨H, only, fz, hok, isA, notK⟩ := hO
  have keep : ∀ {b o}, s₁.heap.get? b = some o → H b = none → (hidT s₁.heap H).get? b = some o := fun e n => hidT_get e n
  have dct : ∀ {b o es ep}, s₁.heap.get? b = some o → o.data = .dict es ep → H b = none := fun {b o es ep} e d => by
    cases q : H b with
    | none => rfl
    | some u =>
      have e' : b = a := isA b (by rw [q]; exact fun z => nomatch z)
      rw [e', ha] at e
      cases e
      have d' : Data.seq vs.toArray _ = Data.dict es ep := d
      cases d'
  have up : ∀ {b m}, s₁.heap.Ns b m → (hidT s₁.heap H).Ns b m := fun {b m} ⟨o, es, ep, e, d, r⟩ => ⟨o, es, ep, keep e (dct e d), d, r⟩
  have inK : K.In (hidT s₁.heap H) := fun b o e => keep (KX b o e) (by
    cases q : H b with
    | none => rfl
    | some u =>
      have e' : b = a := isA b (by rw [q]; exact fun z => nomatch z)
      subst e'
      rw [notK (by rw [q]; exact fun z => nomatch z)] at e
      cases e)
  have md : Mod K mg (hidT s₁.heap H) := ⟨inK, up hns, ⟨mb, up hb, hbb⟩, let ⟨mc, h1, h2⟩ := hlim; ⟨mc, up h1, h2⟩⟩
  have en : Env0 P w K mg (hidT s₁.heap H) callerA [] s₁ H := ⟨rfl, md, fun b o e => of_hidT e, Nat.le_of_eq (hidT_size _ _), trivial, fun b hb => (nomatch hb), hok, .of_eq hg⟩
  refine codeAny_mono ((F _ inK (up hns)).run callerA [] s₁ H ⟨[.ref a], []⟩ [.ref a] [.ref a] _ _ rfl hr en (hbind s₁ (.ref a)) (.cons rfl .nil) (hsp H fz)) fun r s' h => ?_
  cases r with
  | error e =>
    obtain ⟨_, _, _, _, _, _, _, _, _, _, _, _, z⟩ := h
    exact z.elim
  | ok fl =>
    cases fl with
    | next => exact h.elim
    | brk => exact h.elim
    | cont => exact h.elim
    | ret u =>
      obtain ⟨v, H', os, bare, un, hok', r', q⟩ := h
      have q : v = .bl true := q
      subst q
      obtain rfl : u = Value.bool true := r'
      refine ⟨rfl, OldK.of_keep fun b o e => ?_, os, bare⟩
      rcases only b with z | ⟨ob, xs, z⟩
      · exact un.keep b o e z (fun z => nomatch z) (fun z => nomatch z)
      · obtain ⟨e1, _⟩ := hok b _ z
        obtain ⟨e2, _⟩ := hok' b _ (un.frzs b ob _ z)
        rw [e] at e1
        cases e1
        exact e2
/-- the goal that the head leaves, from the law's function on plain data -/
theorem walk_G {l : PySem.W.OpenLaw} {n k m : Nat} {q : Program} {loose : List Str} {XP : (Str → Option Value) → Heap → Prop} {YP : World → Heap → Prop} {d : DefRec} {K : Params → PySem.W.Frag} {x : Str} {S : Fm → SO}
    (hn : l.most = some n) (hn2 : n ≤ sizeLine) (hdf : d.params.defaults = []) (hr : Room k PySem.callerA)
    (hY : ∀ (w : World) (h : Heap), YP w h → (K w.params).In h)
    (F : ∀ (w : World) (mg : Str → Option Value) (fa : Addr) (h : Heap), (K w.params).In h → h.Ns mainGlobals mg → mg d.name = some (.ref fa) →
      ∃ fd : FuncData, (∀ (s : Shared) (u : Value), BindsTo s fd ⟨[u], []⟩ [(x, u)]) ∧
        ∀ base : Heap, (K w.params).In base → base.Ns mainGlobals mg → FnG l.prog w (K w.params) mg base k fa fd [x] (spD (K w.params) mg none 1 (runF none m S)))
    (hm : ∀ ns : List Int, ns.length ≤ n → ∃ ρ, S (entry none m [.fz ns]) = .rt (.dt (.bl true)) ρ) :
    PySem.W.WalkO q loose XP YP l.row.toRowW d [] (fun f vs => PySem.call f vs) := by
  refine Att.attach_call hn hdf fun w s₀ s₁ mg mb fa o pm cd doc a vs ns G Y ho hd hcd hmg hobj hints hlen hg => ?_
  have KX := hY w _ Y
  obtain ⟨fd, hb, hF⟩ := F w mg fa _ KX G.T.g hmg
  refine law_callG KX G.T.g G.T.b G.T.builtins G.T.nolimit hg hobj hints (Nat.le_trans hlen hn2) hr hF hb fun H fz => ?_
  obtain ⟨ρ, e⟩ := hm ns hlen
  refine ⟨fun _ => False, [.fz ns], none, [], rfl, rfl, fun a z => z.elim, rfl, fun i p z => (nomatch z), fun i p z => (nomatch z), fun j d v _ h1 h2 => ?_, ?_⟩
  · match j, h1, h2 with
    | 0, h1, h2 =>
      cases h1
      cases h2
      exact ⟨a, rfl, fz⟩
    | j + 1, h1, h2 => simp at h1
  · show (match runF none m S [.fz ns] with | .ok r b' => _ | .ex c f d b' => _ | .bad => False)
    unfold runF
    rw [e]
    exact fun v H' _ _ r => r
end DL

namespace DL
open PySem L2
/-- a constant of the module -/
def Gc (mg : Str → Option Value) (x : Str) (v : V) : Prop := ∃ u, mg x = some u ∧ RelV v u
theorem de_gc {X : Cx} {W : WX} {ec : EC} {x : Str} {p : Pos} {d : D} {v : V} (h : Gc X.mg x v) (e : sv d = some v := by rfl) (hg : Gl X x := by rfl) (hd : (x == ("__debug__" : Str)) = false := by decide) : DE X W ec (.Name x p) (fC d) := by
  obtain ⟨u, h1, h2⟩ := h
  exact de_gl hg h1 h2 (fun H A => sv_rp e) hd
def svs : List D → Option (List V)
  | [] => some []
  | d :: ds => match sv d, svs ds with
    | some v, some vs => some (v :: vs)
    | _, _ => none
theorem rpl_sc {K : PySem.W.Frag} {mg : Str → Option Value} {H : Hp} {A : Addr → Prop} : ∀ {ds : List D} {vs : List V}, svs ds = some vs → RpL K mg H A ds vs
  | [], vs, h => by
    cases h
    exact rfl
  | d :: ds, vs, h => by
    unfold svs at h
    cases q : sv d with
    | none => rw [q] at h; cases h
    | some v =>
      cases q2 : svs ds with
      | none => rw [q, q2] at h; cases h
      | some ws =>
        rw [q, q2] at h
        cases h
        exact .cons (sv_rp q) (rpl_sc q2)
def gAugA : D → D → Option D := gI fun i j => some (.int (i + j))
def gAugS : D → D → Option D := gI fun i j => some (.int (i - j))
end DL
/-- the place of the changed list -/
local macro_rules | `(tactic| walk_at "is_ok") => `(tactic| (intro j h k; cases h; match k with | 0 => simp | 1 => simp | 2 => simp | 3 => simp | k + 4 => simp))
namespace DL
open PySem L2
theorem takes_no {X : Cx} : Takes X noW := fun u s' ⟨_, _, _, _, _, _, _, _, _, _, _, _, _, _, _, _, w⟩ => w.elim
end DL
namespace DL
open PySem L2
open PyProof.Rows (envOfC)
theorem fnE {P : Program} {w : World} {K : PySem.W.Frag} {mg : Str → Option Value} {base : Heap} {x qual : Str} {params : Arguments} {body : List Stmt} {scope : Scope} {dvs : List V} {kws : List (Str × V)} {f : Addr} {fd : FuncData} {N ps : List Str} {k j n m : Nat} {ioi : Option Nat} {F0 : List D → FO}
    (F : FunD K x qual params body scope dvs kws f fd) (Sc : FnScope N ps scope) (S : Fm → SO) (hF : F0 = runF ioi m S) (hn : ps.length = n) (hm : N.length = m) (hk : k + 1 = j)
    (hbody : ∀ (cdv : Value) (A : Around) (outer : List Env) (s : Shared) (H : Hp) (E : XK), A.guards = some [] → Room k (A.deeper (envOfC qual scope s.heap.objs.size f cdv)) →
      DSs (cxOf (L2.CX P w) P w K mg base N qual scope f cdv A outer s H E) (fun cls d _ H' => E cls d H') noEC body S) : FnG P w K mg base j f fd ps (spD K mg ioi n F0) := by
  subst hF hn hm hk
  exact fnD F Sc hbody
end DL
theorem DL.u66 {k : Nat} {A : PySem.Around} (hr : L2.Room k A) : A.units + 66 < PySem.cLine := by
  have := hr.un
  omega

namespace DL
open PySem L2
section
variable {X : Cx} {W : WX} {ec : EC} {a b c e o : Expr} {es : List Expr} {pos : Pos} {F G J : Fm → Out RV} {A : Fm → Out (List RV)}
/-- one more of the results goes into its slot -/
theorem setAll_step {ρ ρ' : Fm} {i : Nat} {r : RV} {is : List Nat} {rs : List RV} (q : setAll (i :: is) (r :: rs) ρ = some ρ') : ∃ s ρ1, slOf r = some s ∧ putS i s ρ = some ρ1 ∧ setAll is rs ρ1 = some ρ' := by
  unfold setAll at q
  cases s1 : slOf r with
  | none => rw [s1] at q; cases q
  | some s =>
    rw [s1] at q
    dsimp only at q
    cases z : putS i s ρ with
    | none => rw [z] at q; cases q
    | some ρ1 =>
      rw [z] at q
      exact ⟨s, ρ1, rfl, z, q⟩
theorem slOf_noVw {r : RV} {s : Sl} (h : slOf r = some s) (j : Nat) : r ≠ .vw j := fun z => by
  subst z
  cases h
/-- a, b, c = e1, e2, e3 -/
theorem ds_par3 {i j l : Nat} {x y z : Str} {px py pz pt : Pos} {kt k2 pt2} (hc : X.calm = true) (hN : X.N.Nodup) (hij : i ≠ j) (hil : i ≠ l) (hjl : j ≠ l) (ha : DA X W ec [a, b, c] A) (la : LA A 3) (hi : X.N[i]? = some x := by rfl) (hj : X.N[j]? = some y := by rfl) (hl : X.N[l]? = some z := by rfl)
    (hx : X.env.scope.names.lookup x = some .local := by rfl) (hy : X.env.scope.names.lookup y = some .local := by rfl) (hz : X.env.scope.names.lookup z = some .local := by rfl)
    (hw : swappedStores [.Tuple [.Name x px, .Name y py, .Name z pz] kt pt] (.Tuple [a, b, c] k2 pt2) X.env = pure (some [x, y, z]) := by rfl)
    (hs : swapsWithSole [.Tuple [.Name x px, .Name y py, .Name z pz] kt pt] (.Tuple [a, b, c] k2 pt2) pos.line X.env = pure false := by rfl) :
    DS X W ec (.Assign [.Tuple [.Name x px, .Name y py, .Name z pz] kt pt] (.Tuple [a, b, c] k2 pt2) pos) (sPar [i, j, l] A) := (ps_par3 hc hN hi hj hl hij hil hjl hx hy hz ha hw hs).imp fun E σ H ⟨C, ρ, tm, h, lk, p⟩ =>
  tDA_stepS (ts := []) h Kin.refl p fun rs ρ1 vs H1 hlen h1 k1 p1 => by
    cases q : setAll [i, j, l] rs ρ1 with
    | none =>
      rw [q] at p1
      exact p1.elim
    | some ρ' =>
      rw [q] at p1
      have p1 : FinS X.K X.mg W ec C ρ tm (.nx ρ') E := p1
      have zl := setAll_len q
      obtain ⟨r1, r2, r3, rfl⟩ : ∃ r1 r2 r3, rs = [r1, r2, r3] := by
        match rs, zl with
        | [r1, r2, r3], _ => exact ⟨r1, r2, r3, rfl⟩
      obtain ⟨u, v, w, rfl⟩ : ∃ u v w, vs = [u, v, w] := by
        match vs, hlen with
        | [u, v, w], _ => exact ⟨u, v, w, rfl⟩
      refine ⟨u, v, w, rfl, ?_⟩
      obtain ⟨s1, ρa, a1, b1, q⟩ := setAll_step q
      obtain ⟨s2, ρb, a2, b2, q⟩ := setAll_step q
      obtain ⟨s3, ρc, a3, b3, q⟩ := setAll_step q
      cases q
      have h1 : Hold X.K X.mg ec H1 C ρ1 σ ((r3, w) :: (r2, v) :: (r1, u) :: tm) := h1
      have h2 : Hold X.K X.mg ec H1 C ρ1 σ ((r1, u) :: (r2, v) :: (r3, w) :: tm) := h1.perm (((List.Perm.swap _ _ _).trans ((List.Perm.swap _ _ _).cons _)).trans (List.Perm.swap _ _ _))
      have lk1 := lk.kin k1
      have l2 : LkT ρ1 ((r2, v) :: (r3, w) :: tm) := fun n t hm => by
        rcases List.mem_cons.mp hm with z | z
        · cases z
          exact absurd rfl (slOf_noVw a2 n)
        · rcases List.mem_cons.mp z with z | z
          · cases z
            exact absurd rfl (slOf_noVw a3 n)
          · exact lk1 n t z
      have h3 := h2.put l2 a1 b1
      have ka := put_kin b1
      have l3 : LkT ρa ((r3, w) :: tm) := fun n t hm => by
        rcases List.mem_cons.mp hm with z | z
        · cases z
          exact absurd rfl (slOf_noVw a3 n)
        · exact (lk1.kin ka) n t z
      have h4 := h3.put l3 a2 b2
      have kb := put_kin b2
      have h5 := h4.put ((lk1.kin ka).kin kb) a3 b3
      exact p1 _ _ h5 (((k1.trans ka).trans kb).trans (put_kin b3))
/-! ### x + y: numbers, texts, lists -/
def fAdd (F G : Fm → Out RV) : Fm → Out RV := fun ρ => (F ρ).bind fun r ρ => (G ρ).bind fun s ρ => match r.get ρ, s.get ρ with
  | some (.lst ds), some (.lst es) => if ds.length + es.length < 1000000 then .ok (.fr (ds ++ es)) ρ else .bad
  | some x, some y => match gAdd x y with
    | some z => .ok (.dt z) ρ
    | none => .bad
  | _, _ => .bad
theorem de_add (ha : DE X W ec a F) (hb : DE X W ec b G) : DE X W ec (.BinOp a .Add b pos) (fAdd F G) := (pe_op (o_add.or op_cat) ha hb).imp fun σ H Q ⟨C, ρ, tm, h, p⟩ => by
  refine tD_step (ts := []) h Kin.refl p fun r1 ρ1 v H1 h1 k1 p1 => ?_
  refine tD_step (ts := [(r1, v)]) h1 k1 p1 fun r2 ρ2 u H2 h2 k2 p2 => ?_
  cases q1 : r1.get ρ2 with
  | none =>
    rw [q1] at p2
    exact p2.elim
  | some x =>
    cases q2 : r2.get ρ2 with
    | none =>
      rw [q1, q2] at p2
      cases x <;> exact p2.elim
    | some y =>
      rw [q1, q2] at p2
      have sc : ∀ p3 : Fin X.K X.mg W ec C ρ σ tm (match gAdd x y with | some z => .ok (.dt z) ρ2 | none => .bad) Q, rAddD v u H2 Q := fun p3 => by
        cases q3 : gAdd x y with
        | none =>
          rw [q3] at p3
          exact p3.elim
        | some z =>
          rw [q3] at p3
          refine (o2_add (X := X)).run x y z v u H2 Q (h2.get (.tail _ (.head _)) q1) (h2.get (.head _) q2) q3 fun w hw => ?_
          exact p3 w H2 (h2.pop.pop.push_sv hw) k2
      by_cases hx : ∃ ds, x = .lst ds
      · obtain ⟨ds, rfl⟩ := hx
        by_cases hy : ∃ es, y = .lst es
        · obtain ⟨es, rfl⟩ := hy
          dsimp only at p2
          by_cases hz : ds.length + es.length < 1000000
          · rw [if_pos hz] at p2
            obtain ⟨l, xs, rfl, e1, rx⟩ := h2.seq (.tail _ (.head _)) q1 rfl
            obtain ⟨l', ys, rfl, e2, ry⟩ := h2.seq (.head _) q2 rfl
            rcases e1 with ⟨_, e1⟩ | ⟨z, _⟩
            · rcases e2 with ⟨_, e2⟩ | ⟨z, _⟩
              · have rx' : RpL X.K X.mg H2 (Av C.av ρ2 σ tm) ds xs := RpL.av (fun _ z => .inl z.tail.tail) _ _ rx
                have ry' : RpL X.K X.mg H2 (Av C.av ρ2 σ tm) es ys := RpL.av (fun _ z => .inl z.tail.tail) _ _ ry
                refine .inr ⟨l, l', xs, ys, rfl, rfl, e1, e2, by rw [rx.len, ry.len, sizeLine_eq]; omega, fun p hp => ?_⟩
                exact p2 _ _ (h2.pop.pop.push_fr hp (rx'.app ry')) k2
              · cases z
            · cases z
          · rw [if_neg hz] at p2
            exact p2.elim
        · refine .inl (sc ?_)
          cases y <;> first | exact p2 | exact absurd ⟨_, rfl⟩ hy
      · refine .inl (sc ?_)
        cases x <;> first | exact p2 | exact absurd ⟨_, rfl⟩ hx
end
end DL

namespace DL
open PySem L2
/-! ### comprehensions, evaluated -/
theorem wipe1 {i : Nat} {d : D} {ρ : Fm} (h : ρ[i]? = some .un) : wipeS [i] (ρ.set i (.dt d)) = some ρ := by
  have hl : i < ρ.length := (List.getElem?_eq_some_iff.mp h).1
  refine (if_pos ?_).trans ?_
  · simp [List.getElem?_set_self hl]
  show some ((ρ.set i (.dt d)).set i .un) = some ρ
  rw [List.set_set]
  congr 1
  apply List.ext_getElem?
  intro j
  by_cases hj : i = j
  · subst hj
    rw [List.getElem?_set_self hl, h]
  · rw [List.getElem?_set_ne hj]
theorem putU {i : Nat} {s : Sl} {ρ : Fm} (h : ρ[i]? = some .un) : putS i s ρ = some (ρ.set i s) := by
  unfold putS
  rw [h]
/-- [x for x in ds if g x] -/
theorem comp_filter {i : Nat} {B : Fm → Out Bool} {g : D → Bool} {ρ : Fm} (h : ρ[i]? = some .un) : ∀ (ds acc : List D), (∀ d ∈ ds, B (ρ.set i (.dt d)) = .ok (g d) (ρ.set i (.dt d))) → acc.length + ds.length < 1000000 →
    compD (fun d ρ => putS i (.dt d) ρ) B (fV i) [i] ds acc ρ = .ok (acc ++ ds.filter g) ρ
  | [], acc, _, _ => by simp [compD]
  | d :: ds, acc, hb, hl => by
    simp only [List.length_cons] at hl
    have hi : i < ρ.length := (List.getElem?_eq_some_iff.mp h).1
    unfold compD
    rw [putU h]
    dsimp only
    rw [hb d (.head _)]
    cases hg : g d with
    | true =>
      have e : fV i (ρ.set i (.dt d)) = .ok (.dt d) (ρ.set i (.dt d)) := by
        unfold fV
        rw [List.getElem?_set_self hi]
      dsimp only
      rw [e]
      dsimp only [toD]
      rw [wipe1 h]
      dsimp only
      rw [if_pos (by omega), comp_filter h ds (acc ++ [d]) (fun z hz => hb z (.tail _ hz)) (by simp; omega), List.filter_cons_of_pos hg, List.append_assoc]
      rfl
    | false =>
      dsimp only
      rw [wipe1 h]
      dsimp only
      rw [comp_filter h ds acc (fun z hz => hb z (.tail _ hz)) (by omega), List.filter_cons_of_neg (by rw [hg]; decide)]
end DL

namespace DL
open PySem L2
theorem de_eq {X : Cx} {W : WX} {ec : EC} {e : Expr} {F G : Fm → Out RV} (h : DE X W ec e F) (q : F = G) : DE X W ec e G := q ▸ h
end DL

/-! own exceptions over any of the built-in classes, whose __init__ calls the base's and stores one field -/
namespace DL
open PySem L2 PyProof.Rows
section low
open PySem.W PySem.Calls Builtin Builtin.ObjectAttr
/-- the first store into a new exception: its dict is laid -/
theorem osaB {prog : Program} {w : World} {A : Around} {R : Result → Shared → Prop} {hp : Heap} {gs : Array GenState} {dr : Drawn} {tk0 : Nat} {os : OsState} {K : Frag} {fld : Str} {tk : Tok} {v : Value} {a C t : Addr} {B : String} {bmB : List Value}
    (SF : StoreFacts B bmB "object.__setattr__" "object") (kin : K.In hp) (ha : hp.get? a = some (excObj C t none .none)) (ov : excOver K C bmB = true) (ht : takerIn K C fld = some none) (hd : hasDictIn K C = true)
    (hq : ∀ h' tk' dd, (∀ b o, b ≠ a → hp.get? b = some o → h'.get? b = some o) → hp.objs.size ≤ dd → dd ≠ a → h'.get? a = some (excObj C t (some dd) .none) → h'.Ns1 dd (fun y => if y = fld then some v else none) → R (.ok (.ret .none)) ⟨h', gs, dr, tk', os⟩) :
    codeAny (model prog w) A (.call (.builtin "object.__setattr__") ⟨[.ref a, .str fld tk, v], []⟩) R ⟨hp, gs, dr, tk0, os⟩ := by
  obtain ⟨cd, hcd, hdict⟩ := any_some hd
  have lt : a < hp.objs.size := Heap.lt_size ha
  have ne : a ≠ hp.objs.size := Nat.ne_of_lt lt
  refine osa_openX (od := none) SF kin ⟨ha, rfl, rfl, trivial⟩ ov ht fun b => ?_
  refine wpAny_bind (wpAny_pure (wpAny_bind (instanceDict_exc ha (looks_clsIn kin hcd) hdict ?_)))
  show wpAny _ _ (storeInDict hp.objs.size (.str fld tk) fld v) _ _ _
  refine HandSPX.store_in_new ⟨_, #[], _, (Heap.get?_update_ne _ _ _ _ (Ne.symm ne)).trans (Heap.get?_push_at rfl rfl), rfl, fun e he => absurd he (by simp), fun _ => rfl⟩ fun h' tk' ns sb => ?_
  have keepP : ∀ c o, hp.get? c = some o → (hp.push (dictOf [] 0)).get? c = some o := fun c o z => Heap.get?_push_of_some _ z
  refine hq h' tk' _ (fun c o hc z => ?_) (Nat.le_refl _) (Ne.symm ne) ?_ ns
  · rw [sb.2 c (Nat.ne_of_lt (Heap.lt_size z))]
    exact (Heap.get?_update_ne _ _ _ _ hc).trans (keepP c o z)
  · rw [sb.2 a ne]
    exact Heap.get?_update_self _ (keepP a _ ha) rfl
end low
/-- what the written part says of such a class -/
structure OexB (K : PySem.W.Frag) (C : Addr) (newId : String) (bmB : List Value) : Prop where
  xi : PySem.W.excInitIn K C bmB newId = true
  ov : PySem.W.excOver K C bmB = true
  hd : PySem.W.hasDictIn K C = true
  sa : PySem.W.findIn K (.ref C) "__setattr__" = some (some (.builtin "object.__setattr__"))
  exC : PySem.W.subIn K (.ref C) (.type "BaseException") = some true
  tyC : PySem.W.typeIn K (.ref C) = some (.type "type")
  kC : PySem.W.keepIn K (.ref C) = true
section
variable {X : Cx} {pins : List (Addr × Obj)} {σ : L2.St} {H : Hp} {s : Shared} {a C : Addr} {f : Str} {y : V} {u : Value} {A : Around} {E : Value → Shared → Prop} {B newId initId : String} {bmB : List Value}
theorem ostB_new {Q : Unit → Shared → Prop} (SF : StoreFacts B bmB "object.__setattr__" "object") (T : OexB X.K C newId bmB) (I : Inv X pins σ H s) (e : H a = some (exo a C none)) (ht : PySem.W.takerIn X.K C f = some none) (ry : RelV y u)
    (k : ∀ dx s', H dx = none → dx ≠ a → Inv X pins σ (upd (upd H dx (exd dx [(f, y)])) a (exo a C (some dx))) s' → Q () s') : wpAny (model X.prog X.w) A (setAttr (.ref a) f u) Q E s := by
  obtain ⟨t1, hoa⟩ := exo_at I.hok e
  rcases s with ⟨hp, gs, dr, tk, os⟩
  refine PySem.W.set_plain I.kIn (od := none) ⟨hoa, rfl, rfl, trivial⟩ T.sa (osaB SF I.kIn hoa T.ov ht T.hd fun h' tk' dd kp big nea hx ns => ?_)
  have fr : H dd = none := I.hok.fresh big
  have off : ∀ {b : Addr} {o : Obj}, hp.get? b = some o → b ≠ dd := fun {b o} q z => absurd (Nat.lt_of_lt_of_le (Heap.lt_size q) big) (by rw [z]; exact Nat.lt_irrefl _)
  have offa : ∀ {b : Addr}, H b = none → b ≠ a := fun {b} n z => by
    subst z
    rw [e] at n
    cases n
  have un : Un X.fs [] H (upd (upd H dd (exd dd [(f, y)])) a (exo a C (some dd))) hp h' := by
    constructor
    · exact fun b o q n _ _ => kp b o (offa n) q
    · exact fun b o q n _ _ => ⟨o.slots, kp b o (offa n) q⟩
    · intro b o q n _
      rw [upd_ne (offa n), upd_ne (off q)]
      exact n
    · intro b o q _
      by_cases z : b = a
      · subst z
        exact ⟨_, hx⟩
      · exact ⟨o, kp b o z q⟩
    · intro b xs q
      rw [upd_ne (at_ne e q exo_tup), upd_ne (ne_of_none q fr), q]
    · intro b o v q
      rw [upd_ne (at_ne e q exo_frz), upd_ne (ne_of_none q fr), q]
    · intro b ps q
      refine ⟨#[], ?_⟩
      rw [upd_ne (at_ne e q exo_tbl), upd_ne (ne_of_none q fr), q]
      simp
  refine k dd _ fr nea (I.un (t' := tk') un fun b o q => ?_)
  by_cases z : b = a
  · subst z
    rw [upd_same] at q
    cases q
    exact exo_ok hx
  rw [upd_ne z] at q
  by_cases z2 : b = dd
  · subst z2
    rw [upd_same] at q
    cases q
    exact exd_ok ns (relO_put (fs := []) ry fun _ => trivial)
  rw [upd_ne z2] at q
  have oa : ∀ c, H c = some (.own b) → c ≠ a := fun c hc => at_ne e hc exo_own
  refine (I.hok b o q).stay (fun c v hc z3 => kp c v (hc.elim (fun w => by rw [w]; exact z) (oa c)) z3) (fun c hc => ?_) fun c xs hc => ?_
  · rw [upd_ne (oa c hc), upd_ne (ne_of_none hc fr), hc]
  · rw [upd_ne (at_ne e hc exo_tup), upd_ne (ne_of_none hc fr), hc]
/-- Base.__init__(self, ..): nothing of it is told -/
theorem oinitB {us : List Value} {Q : Value → Shared → Prop} (F : ExcBaseFacts B newId initId bmB) (T : OexB X.K C newId bmB) (I : Inv X pins σ H s) (e : H a = some (exo a C none)) (hl : us.length ≤ sizeLine) (k : ∀ s', Inv X pins σ H s' → Q .none s') :
    wpAny (model X.prog X.w) A (call (.builtin initId) (.ref a :: us)) Q E s := by
  obtain ⟨nm, N, qn, bs, bm, hdct, sn, sub, ab, col, dd, k0, k1, k2, k3, k5, hC, hT⟩ := PySem.W.excInit_of I.kIn T.xi
  obtain ⟨t1, hoa⟩ := exo_at I.hok e
  rcases s with ⟨hp, gs, dr, tk, os⟩
  refine wpAny_call (PySem.HandSPX.init_base F hT hC hoa hl fun h' t2 kp hx => ?_)
  have same : upd H a (exo a C none) = H := funext fun b => by
    by_cases z : b = a
    · subst z
      rw [upd_same, e]
    · exact upd_ne z
  exact k _ (same ▸ I.write (t' := tk) (x := a) (e := a) (o := exo a C none) (by rw [e]; trivial) (.inl rfl) kp ⟨_, hx⟩ (exo_ok hx))
end
/-- Base.__init__(self, ..) -/
def tInB (K : PySem.W.Frag) (newId : String) (bmB : List Value) (ta : TA) : TE := fun σ H Q => ta σ H fun vs H1 => ∃ (a C : Addr) (ws : List V), vs = .ref a :: ws ∧ ws.length ≤ 900 ∧ OexB K C newId bmB ∧ H1 a = some (exo a C none) ∧ Q .non H1
/-- self.f = e, the first store -/
def tOsB (K : PySem.W.Frag) (newId : String) (bmB : List Value) (f : Str) (to te : TE) : TS := fun D σ H => te σ H fun y H1 => to σ H1 fun x H2 => ∃ a C : Addr, x = .ref a ∧ OexB K C newId bmB ∧ PySem.W.takerIn K C f = some none ∧
  H2 a = some (exo a C none) ∧ ∀ dx, H2 dx = none → dx ≠ a → D.nx σ (upd (upd H2 dx (exd dx [(f, y)])) a (exo a C (some dx)))
section
variable {X : Cx} {o e : Expr} {es : List Expr} {to te : TE} {ta : TA} {f bs : Str} {p p' p1 p2 pos : Pos} {B newId initId : String} {bmB : List Value}
theorem pe_initB {pl : Sem Bool} (F : ExcBaseFacts B newId initId bmB) (ty : typeOf (.type B) = pure (.type "type")) (st : Manifest.isStub B = false) (hi : PySem.W.handedIn (.builtin initId) = true) (hg : Gl X bs) (hm : X.mg bs = none) (hv : bootBuiltins bs = some (.type B)) (hn : bs ≠ "__name__") (hdb : (bs == ("__debug__" : Str)) = false)
    (vB : PySem.W.findCls X.K (.type B) (.type "type") "__init__" = some (.val (.builtin initId))) (ha : PA X (e :: es) ta)
    (hc : eval (.Call (.Attribute (.Name bs p1) "__init__" p2) (e :: es) [] pos) X.env = (do
      let ov ← eval (.Name bs p1) X.env
      standAt p2.atName
      let (f, first) ← holding [ov] (getMethod ov "__init__" pl)
      callWith pos f first (backTo pos (starEach (e :: es) X.env)) (backToKw pos (keywordEach [] X.env))) := by rfl)
    (he : starEach (e :: es) X.env = (false, eval e X.env) :: starEach es X.env := by rfl) (hpl : (backTo pos (starEach es X.env)).any (·.1) = false := by rfl) :
    PE X (.Call (.Attribute (.Name bs p1) "__init__" p2) (e :: es) [] pos) (tInB X.K newId bmB ta) := ⟨fun pins s σ H Q I h => by
  obtain ⟨m, fr⟩ := I.fr
  refine PySem.W.methodCall_KW (ld_blt I hg hm hv (PySem.W.method_type fr I.ok.mod.kin ty st vB hi ?_) hn hdb) hc
  show wpAny _ _ (callWith pos (Value.builtin initId) [] (backTo pos (starEach (e :: es) X.env)) []) _ _ _
  refine PyProof.Rows.callWith_method1 (thn (ha.run pos pins _ σ H _ (I.tok _) h) fun us s1 q => ?_) he hpl
  obtain ⟨vs, H1, I1, r1, a, C, ws, rfl, hl, T, ea, q⟩ := q
  cases r1 with
  | @cons _ u0 _ ur ra rw' =>
    cases (show u0 = Value.ref a from ra)
    have hz : ur.length ≤ sizeLine := by
      have := Paired.length rw'
      rw [sizeLine_eq]
      omega
    exact oinitB F T I1 ea hz fun s' J => ⟨.non, H1, J, rfl, q⟩⟩
theorem ps_ostB (SF : StoreFacts B bmB "object.__setattr__" "object") (ho : PE X o to) (he : PE X e te) (hs : swapsWith e (some (.Attribute o f p')) pos.line X.env = pure false := by rfl) : PS X (.Assign [.Attribute o f p'] e pos) (tOsB X.K newId bmB f to te) := ⟨fun pins s σ H D I h => by
  refine plainObj_wpAny_Assign_Attribute (thn (he.run pins s σ H _ I h) fun v s1 q => ?_) hs
  obtain ⟨y, H1, I1, r1, q⟩ := q
  refine thn (ho.run pins s1 σ H1 _ I1 q) fun u s2 q => ?_
  obtain ⟨x, H2, I2, r2, a, C, rfl, T, ht, ea, q⟩ := q
  cases (show u = Value.ref a from r2)
  exact ostB_new SF T I2 ea ht r1 fun dx s' n ne J => ⟨σ, _, J, q dx n ne⟩⟩
theorem pmk_oexB {CX : CXT} {x : Str} {C fI : Addr} {k : Nat} {fd : FuncData} {ps : List Str} {sp : Sp} (F : ExcBaseFacts B newId initId bmB) (T : OexB X.K C newId bmB) (iC : PySem.W.findIn X.K (.ref C) "__init__" = some (some (.ref fI))) (tI : PySem.W.typeIn X.K (.ref fI) = some (.type "function"))
    (F1 : FnOk X.prog X.w X.K X.mg X.base CX k fI fd ps sp) (hr : Room (k + 1) X.A) (hb : Binds X.K fd ps []) (hx : Passes CX X (fun _ _ _ => False)) (hg : Gl X x) (hm : X.mg x = some (.ref C)) (ha : PA X (e :: es) ta)
    (hdb : (x == ("__debug__" : Str)) = false := by decide) (he : starEach (e :: es) X.env = (false, eval e X.env) :: starEach es X.env := by rfl) (hpl : (backTo pos (starEach es X.env)).any (·.1) = false := by rfl) :
    PMk X (.Call (.Name x p) (e :: es) [] pos) (tMkO C sp [] ta) := fun pins s σ H Q I h => by
  refine wpAny_Call_Name_kw (ld_glob I hg hm (PySem.W.callWith_K (h₀ := X.base) I.ok.mod.kin T.kC (thn (ha.run pos pins s σ H _ I h) fun us s1 q => ?_) he hpl) hdb)
  obtain ⟨vs, H1, I1, r1, hz, q1⟩ := q
  refine ⟨I1.kIn, ?_⟩
  show wpAny _ _ (call (.ref C) us) _ _ _
  obtain ⟨nm, N, qn, bs', bm, hdct, sn, sub, ab, col, dd, k0, k1, k2, k3, k5, hC, hT⟩ := PySem.W.excInit_of I1.kIn T.xi
  rcases s1 with ⟨hp, gs, dr, tk, os⟩
  have up1 : hp.objs.size ≤ hp.objs.size + 1 := Nat.le_succ _
  have q1 := q1 (hp.objs.size + 1) (I1.hok.fresh up1)
  rw [List.append_nil] at q1
  have kk : ∀ b o, hp.get? b = some o → ((hp.push (PySem.W.kdv_tup us)).push (PySem.HandSPX.excO C hp.objs.size)).get? b = some o := fun b o z => Heap.get?_push_of_some _ (Heap.get?_push_of_some _ z)
  have at1 : ((hp.push (PySem.W.kdv_tup us)).push (PySem.HandSPX.excO C hp.objs.size)).get? (hp.objs.size + 1) = some (PySem.HandSPX.excO C hp.objs.size) := by heap_get
  have I2 := I1.laid (t' := tk) (a := hp.objs.size + 1) (o := exo (hp.objs.size + 1) C none) kk up1 (exo_ok at1)
  have len : (Value.ref (hp.objs.size + 1) :: us).length = ps.length := by
    have z := F1.len _ _ _ _ q1
    rw [← z, List.length_cons, List.length_cons, Paired.length r1]
  have small : us.length ≤ sizeLine := by
    rw [← Paired.length r1, sizeLine_eq]
    omega
  have bind := hb _ (Value.ref (hp.objs.size + 1) :: us) I2.kIn (by rw [List.append_nil]; exact len)
  rw [List.append_nil] at bind
  refine wpAny_call (PySem.HandSPX.call_own F hT hC (PySem.W.looks_findIn I1.kIn iC) (fun self => PySem.W.bind_fn I1.kIn self tI) small (codeAny_mono (F1.run _ X.stack _ _ ⟨Value.ref (hp.objs.size + 1) :: us, []⟩ (Value.ref (hp.objs.size + 1) :: us) (V.ref (hp.objs.size + 1) :: vs) _ (fun _ _ _ => False) (hr.make C us []) (I2.env0.make C us []) bind (.cons rfl r1) q1) fun r s' qr => ?_))
  cases r with
  | error er => exact hx pins σ _ _ er s' I2 qr
  | ok fl =>
    cases fl with
    | next => exact False.elim qr
    | brk => exact False.elim qr
    | cont => exact False.elim qr
    | ret u =>
      obtain ⟨v, H2, os2, bare2, un2, hok2, rv, rfl, d, fs, ea, ed, hd1, q2⟩ := qr
      rcases s' with ⟨h2, g2, d2, t2, os'⟩
      exact ⟨rv, mk_end (raises_own T.exC T.tyC) I1 up1 kk un2 hok2 os2 bare2 ea ed hd1 q2⟩
end
end DL

/-! raise; the caught exception's field and class -/
namespace DL
open PySem L2 PyProof.Rows
open PyProof.Rows (envOfC)
/-- what __init__ of such a class does -/
def tXI (K : PySem.W.Frag) (newId : String) (bmB : List Value) (f msg : Str) : TS := tSeq (tDrop (tInB K newId bmB (tCons (tVar 0) (tCons (tC (.str msg)) tNil)))) (tOsB K newId bmB f (tVar 0) (tVar 1))
def spX (K : PySem.W.Frag) (newId : String) (bmB : List Value) (f : Str) : Sp := fun vs H Q _ => ∃ (a C : Addr) (v : V), vs = [.ref a, v] ∧ OexB K C newId bmB ∧ PySem.W.takerIn K C f = some none ∧ H a = some (exo a C none) ∧
  ∀ dx, H dx = none → dx ≠ a → Q .non (upd (upd H dx (exd dx [(f, v)])) a (exo a C (some dx)))
theorem xinit {PR : Program} {w : World} {K : PySem.W.Frag} {mg : Str → Option Value} {base : Heap} {x qual f msg : Str} {params : Arguments} {body : List Stmt} {scope : Scope} {fI : Addr} {fd : FuncData} {newId : String} {bmB : List Value}
    (F : FunD K x qual params body scope [] [] fI fd) (Sc : FnScope ["self", f] ["self", f] scope)
    (hb : ∀ (cdv : Value) (A : Around) (outer : List Env) (s : Shared) (H : Hp) (E : XK), PSs (cxOf L2.CX0 PR w K mg base ["self", f] qual scope fI cdv A outer s H E) body (tXI K newId bmB f msg)) :
    FnOk PR w K mg base L2.CX0 1 fI fd ["self", f] (spX K newId bmB f) := by
  refine F.ok Sc (fun vs H Q E h => ?_) fun cdv A outer s H vs Q E hr h => ⟨_, hb cdv A outer s H E, ?_⟩
  · obtain ⟨a, C, v, rfl, _⟩ := h
    rfl
  · obtain ⟨a, C, v, rfl, T, ht, ha, k⟩ := h
    exact ⟨_, rfl, a, C, [.str msg], rfl, by show 1 ≤ 900; decide, T, ha, v, rfl, _, rfl, a, C, rfl, T, ht, ha, fun dx n ne => k dx n ne⟩
/-- all that is asked of a class for raise C(e) -/
structure RaiseB (PR : Program) (w : World) (K : PySem.W.Frag) (mg : Str → Option Value) (base : Heap) (x f : Str) (C : Addr) (B newId initId : String) (bmB : List Value) : Prop where
  F : ExcBaseFacts B newId initId bmB
  T : OexB K C newId bmB
  m : mg x = some (.ref C)
  tk : PySem.W.takerIn K C f = some none
  ok : ∃ (fI : Addr) (fd : FuncData), PySem.W.findIn K (.ref C) "__init__" = some (some (.ref fI)) ∧ PySem.W.typeIn K (.ref fI) = some (.type "function") ∧ FnOk PR w K mg base L2.CX0 1 fI fd ["self", f] (spX K newId bmB f) ∧ Binds K fd ["self", f] []
def sRaise (c f : Str) (F : Fm → Out RV) : Fm → SO := fun ρ => (F ρ).sbind fun r ρ => match toD r with
  | some d => .ex c f d ρ
  | none => .bad
section
variable {X : Cx} {W : WX} {ec : EC} {e : Expr} {F : Fm → Out RV} {p pos pos2 : Pos} {x f : Str} {C : Addr} {B newId initId : String} {bmB : List Value} {k : Nat}
theorem ds_raise (R : RaiseB X.prog X.w X.K X.mg X.base x f C B newId initId bmB) (hr : Room 2 X.A) (tk : Takes X W) (ha : DE X W ec e F) (hc : X.calm = true := by rfl) (hg : Gl X x := by rfl) (hdb : (x == ("__debug__" : Str)) = false := by decide)
    (he : starEach (e :: []) X.env = (false, eval e X.env) :: starEach [] X.env := by rfl) (hpl : (backTo pos (starEach [] X.env)).any (·.1) = false := by rfl) :
    DS X W ec (.Raise (some (.Call (.Name x p) [e] [] pos)) none pos2) (sRaise x f F) := by
  obtain ⟨fI, fd, iC, tI, FI, hb⟩ := R.ok
  refine (ps_raise hc tk (pmk_oexB R.F R.T iC tI FI hr hb pass0 hg R.m (pa_cons ha pa_nil he) hdb he hpl)).imp fun E σ H ⟨C0, ρ, tm, h, lk, p⟩ => ?_
  refine tD_stepS (ts := []) h Kin.refl p fun r ρ1 v H1 h1 k1 p1 => ?_
  cases q : toD r with
  | none =>
    rw [q] at p1
    exact p1.elim
  | some d =>
    rw [q] at p1
    obtain ⟨h2, rd⟩ := h1.settle q
    refine ⟨by show 1 ≤ 1000; decide, fun a na => ⟨a, C, v, rfl, R.T, R.tk, upd_same, fun dx n ne => ?_⟩⟩
    rw [upd_ne ne] at n
    refine ⟨rfl, dx, [(f, v)], upd_same, by rw [upd_ne ne, upd_same], n, ?_⟩
    have eH : upd (del (upd (upd (upd H1 a (exo a C none)) dx (exd dx [(f, v)])) a (exo a C (some dx))) a) dx (.xd [(f, v)]) = upd H1 dx (.xd [(f, v)]) := by
      funext b
      by_cases z : b = dx
      · subst z
        rw [upd_same, upd_same]
      rw [upd_ne z, upd_ne z]
      by_cases z2 : b = a
      · subst z2
        rw [del_same, na]
      rw [del_ne z2, upd_ne z2, upd_ne z, upd_ne z2]
    rw [eH]
    have ext : Ext (fun _ => False) H1 (upd H1 dx (.xd [(f, v)])) := Ext.new n
    exact p1 C dx v [(f, v)] σ _ R.m upd_same (by simp [List.lookup]) (Rp.ext ext (fun _ z => z.elim) d v rd) (h2.grow ext) k1
end
/-! ### within an except suite -/
/-- the exception that the suite holds -/
def ecOf (mg : Str → Option Value) (a : Addr) (cls : Value) (d : Option Addr) : EC := fun a' dd c => a' = a ∧ d = some dd ∧ ∃ cl, mg c = some (.ref cl) ∧ cls = .ref cl
def fXf (i : Nat) (c f : Str) : Fm → Out RV := fun ρ => match ρ[i]? with
  | some (.ex c' f' d) => if c' = c ∧ f' = f then .ok (.dt d) ρ else .bad
  | _ => .bad
section
variable {X : Cx} {W : WX} {a C : Addr} {oe : Obj} {cls : Value} {d : Option Addr} {pn : List (Addr × Obj)} {i : Nat} {x c f : Str} {p pos : Pos}
theorem de_xf (T : XfC X.K C) (hm : X.mg c = some (.ref C)) (hno : PySem.W.findIn X.K (.ref C) f = some none) (hz : Zc cls d oe) (hf : ∃ vs, oe.data = .fields vs) (hN : X.N[i]? = some x := by rfl) (hv : Vis X.env.scope x := by first | exact Or.inl rfl | exact Or.inr (Or.inl rfl) | exact Or.inr (Or.inr rfl))
    (hd : (x == ("__debug__" : Str)) = false := by decide) (hcd : (x == ("__classdict__" : Str)) = false := by decide) (hb : attributeBase (.Name x p) f X.env (eval (.Name x p) X.env) = eval (.Name x p) X.env := by rfl) :
    DE (X.suite a ((a, oe) :: pn)) W (ecOf X.mg a cls d) (.Attribute (.Name x p) f pos) (fXf i c f) :=
  (pe_xf T hno hz hf (pe_var hN hv hd hcd) hb).imp fun σ H Q ⟨C0, ρ, tm, h, q⟩ => by
    unfold fXf at q
    cases e1 : ρ[i]? with
    | none =>
      rw [e1] at q
      exact q.elim
    | some s =>
      rw [e1] at q
      have hl : i < σ.length := by
        rw [← h.len]
        exact (List.getElem?_eq_some_iff.mp e1).1
      have hs := h.slot i s _ e1 (List.getElem?_eq_getElem hl)
      cases s <;> first | exact q.elim | skip
      rename_i c' f' z
      dsimp only at q
      obtain ⟨a', dd, v, fs, ⟨rfl, rfl, cl, hcl, rfl⟩, eo, hdd, hlk, r⟩ := hs
      by_cases hcf : c' = c ∧ f' = f
      · obtain ⟨rfl, rfl⟩ := hcf
        rw [if_pos ⟨rfl, rfl⟩] at q
        have : C = cl := by
          have := hm.symm.trans hcl
          cases this
          rfl
        subst this
        exact ⟨.ref a', by rw [List.getElem?_eq_getElem hl, eo], rfl, rfl, dd, fs, v, rfl, hdd, hlk, q v H (h.push_dt r) Kin.refl⟩
      · rw [if_neg hcf] at q
        exact q.elim
end
end DL

/-! isinstance of the exception that an except suite holds, its dict laid -/
namespace DL
section low
open PySem PySem.W PySem.Spec PySem.Calls PyProof.Rows
variable {prog : Program} {w : World} {K : Frag} {a D : Addr} {oa : Obj} {od : Obj}
theorem inst_seen {D : Addr} (hd : hasDictIn K D = true) : ∃ c dd cd sl, K.lookup D = some (⟨c, dd, .cls cd, sl⟩ : Obj) := by
  obtain ⟨cd, h, _⟩ := any_some hd
  unfold clsIn at h
  split at h <;> first | exact ⟨_, _, _, _, by assumption⟩ | cases h
theorem exc_class {A : Around} {E : Value → Shared → Prop} {s : Shared} {Q : Option Value → Shared → Prop} (T : L2.ExcC K D) (kin : K.In s.heap) (I : InstAt s.heap a oa D (some od)) (h : Q (some (.ref D)) { s with toks := s.toks + 1 }) :
    wpAny (model prog w) A (getAttr? (.ref a) "__class__") Q E s := by
  have fo : findObj K D (some od) "__class__" = some (.bind (.builtin "getset_descriptor.__get__") (.builtin "object.__class__")) := by
    refine findObj_data ?_ T.ha T.hn T.ht
    obtain ⟨cd, hc, _⟩ := any_some T.hd
    rw [hc]; rfl
  rcases s with ⟨hp, gs, dr, tk, os⟩
  have l1 : Looks (model prog w) hp (typeOf (.ref a)) (.ref D) := I.type
  have l2 := looks_findIn (M := model prog w) kin T.hg
  have l3 := looks_findIn (M := model prog w) kin T.hk
  have l4 := looks_find (M := model prog w) kin I fo
  have l5 : Looks (model prog w) hp (isInstance (.ref a) (.type "BaseException")) true := l1.andThen (looks_subIn kin T.hs)
  have ne : (Value.builtin "BaseException.__getattribute__" == Value.builtin "object.__getattribute__") = false := by decide +kernel
  unfold getAttr? getAttrBy? getAttrBy
  refine wpAny_bind (wpAny_mkText (wpAny_bind (wpAny_attempt (wpAny_holding (wpAny_bind (l1.at (wpAny_bind (l2.at ?_))))))))
  show wpAny _ _ (if (true && Value.builtin "BaseException.__getattribute__" == Value.builtin "object.__getattribute__") = true then _ else _) _ _ _
  rw [ne, if_neg (show ¬ ((true && false) = true) by decide)]
  unfold getAttrByItsOwn hookBefore
  refine wpAny_bind ?_
  rw [if_pos (show onTheHeap (Value.ref D) = true by rfl)]
  refine l3.at (wpAny_bind (wpAny_attempt (wpAny_holding ?_)))
  unfold callGetattribute
  rw [if_neg (show ¬ ((false && onTheHeap (Value.builtin "BaseException.__getattribute__")) = true) by decide)]
  unfold boundAndCalled
  rw [PySem.F.excAttr_ValueError.ga.bind (.ref a)]
  refine wpAny_bind (wpAny_pure (show wpAny _ _ (call (.builtin "BaseException.__getattribute__") [.ref a, .str "__class__" tk]) _ _ _ from ?_))
  refine wpAny_call (codeAny_call_builtin PySem.F.excAttr_ValueError.ga.plain PySem.F.entry_bexc_ga ?_)
  refine @check_slot (model prog w) _ _ ⟨hp, gs, dr, tk + 1, os⟩ "BaseException.__getattribute__" "BaseException" "__getattribute__" (.ref a) [.str "__class__" tk] [] _ (by decide +kernel) (by decide +kernel) l5 (PySem.F.args_bexc_ga (.ref a) (.str "__class__" tk)) ?_
  unfold Builtin.«object.__getattribute__»
  refine wpAny_bind (wpAny_of_eq (a := ((Value.ref a : Value), [Value.str "__class__" tk])) (by first | rfl | (simp only [slotArgs]; rfl)) (wpAny_bind (wpAny_pure (wpAny_bind (l1.at (wpAny_bind (l4.at ?_)))))))
  show wpAny _ _ (holding [Value.builtin "object.__class__"] (call (.builtin "getset_descriptor.__get__") [.builtin "object.__class__", .ref a, .ref D]) >>= ret) _ _ _
  refine wpAny_bind (wpAny_holding (wpAny_call (class_get (s := ⟨hp, gs, dr, tk + 1, os⟩) (ox := oa) (od := some od) kin I T.hm (wpAny_pure ?_))))
  show wpAny _ _ (handedOut (.ref D)) _ _ _
  rw [handedOut_of (show handedIn (.ref D) = true from rfl)]
  first | exact wpAny_pure (wpAny_pure h) | exact wpAny_pure h | exact wpAny_pure (wpAny_bind (wpAny_pure (wpAny_pure h)))
theorem kitx_exd (T : L2.ExcC K D) : KitX K (.ref a) (.ref D) (fun h => InstAt h a oa D (some od)) := by
  obtain ⟨c, dd, cd, sl, hD⟩ := inst_seen T.hd
  refine ⟨fun _ _ _ I => I.type, fun M h kin _ A Q E s k q => ?_, fun h tp dd' its n sl' kin htp => ?_, fun kin I k => exc_class T kin I k⟩
  · unfold isType loadHead
    exact wpAny_bind (wpAny_loadPart (k _ _ (kin _ _ hD)) (wpAny_pure q))
  · cases z : (Value.ref D == Value.ref tp) with
    | false => rfl
    | true =>
      cases Value.ref.inj (beq_iff_eq.mp z)
      cases (kin _ _ hD).symm.trans htp
end low
open PySem L2
open PyProof.Rows (envOfC)
/-- isinstance(e, c), e the exception that the suite holds, its dict at dd -/
def rIsX (K : PySem.W.Frag) (D a : Addr) : List V → Hp → VK → Prop := fun xs H Q => ∃ (c : V) (cv : Value) (b : Bool) (dd : Addr) (fs : List (Str × V)), xs = [.ref a, c] ∧ (∀ u, RelV c u → u = cv) ∧ PySem.W.kitOne K (.ref D) cv = some b ∧ H dd = some (.xd fs) ∧ Q (.bl b) H
theorem call_isX {X : Cx} {a D dd : Addr} {oe : Obj} {pn : List (Addr × Obj)} (T : ExcC X.K D) (hz : Zc (.ref D) (some dd) oe) (hf : ∃ vs, oe.data = .fields vs) : CallR (X.suite a ((a, oe) :: pn)) (.builtin "isinstance") (fun xs H Q => (∃ fs, H dd = some (.xd fs)) ∧ ∃ (c : V) (cv : Value) (b : Bool), xs = [.ref a, c] ∧ (∀ u, RelV c u → u = cv) ∧ PySem.W.kitOne X.K (.ref D) cv = some b ∧ Q (.bl b) H) := by
  intro pins s σ H xs us Q I r h
  obtain ⟨⟨fs, hdd⟩, c, cv, b, rfl, hcv, e, q⟩ := h
  match r with
  | .cons rx (.cons rt .nil) =>
    cases rx
    obtain rfl := hcv _ rt
    obtain ⟨hget, _⟩ := I.pin (a, oe) (List.mem_append_left _ List.mem_cons_self)
    obtain ⟨vs, hv⟩ := hf
    obtain ⟨mA, hns, _⟩ := (show ObjOk X.prog X.w H s.heap dd (.xd fs) from I.hok dd _ hdd)
    obtain ⟨od, ho, _⟩ := lookIn_ns hns
    have J : PySem.W.InstAt s.heap a oe D (some od) := ⟨hget, hz.1, by unfold PySem.W.notCls; rw [hv] <;> rfl, by rw [hz.2]; exact ho⟩
    exact PySem.W.kia_one (kitx_exd T) I.kIn J e (fun z => nomatch z) fun tk => ⟨.bl b, H, I.kept (t' := tk) fun _ _ z => z, rfl, q⟩
def fIsX (i : Nat) (c : Str) (b : Bool) : Fm → Out RV := fun ρ => match ρ[i]? with
  | some (.ex c' _ _) => if c' = c then .ok (.dt (.bl b)) ρ else .bad
  | _ => .bad
section
variable {X : Cx} {W : WX} {a C : Addr} {oe : Obj} {cls : Value} {d : Option Addr} {pn : List (Addr × Obj)} {i : Nat} {x y c : Str} {p p1 p2 pos : Pos} {b : Bool} {cv : V} {cu : Value}
theorem de_isX (T : ExcC X.K C) (hm : X.mg c = some (.ref C)) (hz : Zc cls d oe) (hf : ∃ vs, oe.data = .fields vs) (hi : X.mg "isinstance" = none) (hy : PE (X.suite a ((a, oe) :: pn)) (.Name y p2) (tC cv)) (hu : ∀ u, RelV cv u → u = cu) (hk : PySem.W.kitOne X.K (.ref C) cu = some b)
    (hN : X.N[i]? = some x := by rfl) (hv : Vis X.env.scope x := by first | exact Or.inl rfl | exact Or.inr (Or.inl rfl) | exact Or.inr (Or.inr rfl)) (hg : Gl X "isinstance" := by rfl)
    (hd : (x == ("__debug__" : Str)) = false := by decide) (hcd : (x == ("__classdict__" : Str)) = false := by decide)
    (h1 : starEach [.Name x p1, .Name y p2] X.env = (false, eval (.Name x p1) X.env) :: starEach [.Name y p2] X.env := by rfl) (h2 : starEach [.Name y p2] X.env = (false, eval (.Name y p2) X.env) :: starEach [] X.env := by rfl) (hpl : (backTo pos (starEach [.Name y p2] X.env)).any (·.1) = false := by rfl) :
    DE (X.suite a ((a, oe) :: pn)) W (ecOf X.mg a cls d) (.Call (.Name "isinstance" p) [.Name x p1, .Name y p2] [] pos) (fIsX i c b) := by
  refine ⟨fun pins s σ H Q I ⟨C0, ρ, tm, h, q⟩ => ?_⟩
  unfold fIsX at q
  cases e1 : ρ[i]? with
  | none =>
    rw [e1] at q
    exact q.elim
  | some sl =>
    rw [e1] at q
    have hl : i < σ.length := by
      rw [← h.len]
      exact (List.getElem?_eq_some_iff.mp e1).1
    have hs := h.slot i sl _ e1 (List.getElem?_eq_getElem hl)
    cases sl <;> first | exact q.elim | skip
    rename_i c' f' z
    dsimp only at q
    obtain ⟨a', dd, v, fs, ⟨rfl, rfl, cl, hcl, rfl⟩, eo, hdd, hlk, r⟩ := hs
    by_cases hcf : c' = c
    · subst hcf
      rw [if_pos rfl] at q
      have : C = cl := by
        have z := hm.symm.trans hcl
        cases z
        rfl
      subst this
      have var : PE (X.suite a' ((a', oe) :: pn)) (.Name x p1) (tVar i) := pe_var hN hv hd hcd
      refine (pe_callB (call_isX T hz hf) hg hi (by decide +kernel) (pa_cons var (pa_cons hy pa_nil h2) h1) (by decide) (by decide) h1 hpl).run pins s σ H Q I ?_
      exact ⟨.ref a', by rw [List.getElem?_eq_getElem hl, eo], ⟨fs, hdd⟩, cv, cu, b, rfl, hu, hk, q (.bl b) H (h.push_sv rfl) Kin.refl⟩
    · rw [if_neg hcf] at q
      exact q.elim
end
end DL

/-! try with several clauses, each with a name or without -/
namespace DL
open PySem PySem.Spec PyProof.Rows
open L2 (Cx WX TS Hp Inv Ends Takes PSs PS Names Zc SP)
abbrev LSt := L2.St
/-- a clause's class, its slot, its suite's reading -/
structure Cla where
  c : Value
  i : Option Nat
  t : Addr → Value → Option Addr → TS
/-- the suite's ends, its name's slot emptied -/
def endsOf (D : Ends) : Option Nat → Ends
  | none => D
  | some i => ⟨fun σ H => D.nx (σ.set i none) H, D.rt, fun σ H => D.bk (σ.set i none) H, fun σ H => D.ct (σ.set i none) H⟩
def slotOf (σ : LSt) (a : Addr) : Option Nat → LSt
  | none => σ
  | some i => σ.set i (some (.ref a))
def wCla (K : PySem.W.Frag) (Wout : WX) (D : Ends) : List Cla → WX
  | [] => Wout
  | q :: r => fun cls d σ H => ∃ b, PySem.W.exmOne K cls q.c = some b ∧ (b = false → wCla K Wout D r cls d σ H) ∧ (b = true → ∀ a, H a = none → q.t a cls d (endsOf D q.i) (slotOf σ a q.i) H)
/-- the clauses of the text -/
inductive Clas (X : Cx) : List ExceptHandler → List Cla → Prop
  | nil : Clas X [] []
  | plain {x : Str} {c : Value} {t : Addr → Value → Option Addr → TS} {s0 : Stmt} {suite : List Stmt} {np hp : Pos} {hds : List ExceptHandler} {l : List Cla} (hc : Names X x c)
      (hs : ∀ (a : Addr) (oe : Obj) (cls : Value) (d : Option Addr) (pn : List (Addr × Obj)), Zc cls d oe → (∃ vs, oe.data = .fields vs) → PSs (X.suite a ((a, oe) :: pn)) (s0 :: suite) (t a cls d)) (r : Clas X hds l) :
      Clas X (.ExceptHandler (some (.Name x np)) none (s0 :: suite) hp :: hds) (⟨c, none, t⟩ :: l)
  | named {x n : Str} {c : Value} {i : Nat} {t : Addr → Value → Option Addr → TS} {s0 : Stmt} {suite : List Stmt} {np hp : Pos} {hds : List ExceptHandler} {l : List Cla} (hN : X.N.Nodup) (hi : X.N[i]? = some n) (hl : X.env.kindOf n = some .local) (hc : Names X x c)
      (hs : ∀ (a : Addr) (oe : Obj) (cls : Value) (d : Option Addr) (pn : List (Addr × Obj)), Zc cls d oe → (∃ vs, oe.data = .fields vs) → PSs (X.suite a ((a, oe) :: pn)) (s0 :: suite) (t a cls d)) (r : Clas X hds l) :
      Clas X (.ExceptHandler (some (.Name x np)) (some n) (s0 :: suite) hp :: hds) (⟨c, some i, t⟩ :: l)
section
variable {X : Cx} {pins : List (Addr × Obj)} {body : List Stmt} {h0 : ExceptHandler} {hds : List ExceptHandler} {l : List Cla} {pos : Pos} {tb : WX → TS} {Wout : WX}
/-- back from a suite -/
theorem sp_unsuite {D : Ends} {a : Addr} {q : Addr × Obj} {f : Flow} {s' : Shared} (ok : X.Ok) (h : SP (X.suite a (q :: (X.pn ++ pins))) [] D f s') : SP X pins D f s' := by
  cases f with
  | ret u =>
    obtain ⟨v, σ, H, I, r, z⟩ := h
    exact ⟨v, σ, H, I.unsuite ok, r, z⟩
  | next => exact h.elim fun σ h => h.elim fun H z => ⟨σ, H, z.1.unsuite ok, z.2⟩
  | brk => exact h.elim fun σ h => h.elim fun H z => ⟨σ, H, z.1.unsuite ok, z.2⟩
  | cont => exact h.elim fun σ h => h.elim fun H z => ⟨σ, H, z.1.unsuite ok, z.2⟩
/-- .. where a name is emptied -/
theorem sp_gone {D : Ends} {a : Addr} {q : Addr × Obj} {f : Flow} {s' : Shared} {i : Nat} {n : Str} {hp : Pos} {E : Value → Shared → Prop} (ok : X.Ok) (hN : X.N.Nodup) (hi : X.N[i]? = some n) (hl : X.env.kindOf n = some .local)
    (h : SP (X.suite a (q :: (X.pn ++ pins))) [] (endsOf D (some i)) f s') : wpAny (model X.prog X.w) X.A (do bindName X.env n .none; unbindBehindTheSuite X.env n hp) (fun _ s7 => SP X pins D f s7) E s' := by
  cases f with
  | ret u =>
    obtain ⟨v, σ, H, I, r, z⟩ := h
    exact L2.gone_ok (I.unsuite ok) hN hi hl fun s7 J => ⟨v, _, H, J, r, z⟩
  | next =>
    obtain ⟨σ, H, I, z⟩ := h
    exact L2.gone_ok (I.unsuite ok) hN hi hl fun s7 J => ⟨_, H, J, z⟩
  | brk =>
    obtain ⟨σ, H, I, z⟩ := h
    exact L2.gone_ok (I.unsuite ok) hN hi hl fun s7 J => ⟨_, H, J, z⟩
  | cont =>
    obtain ⟨σ, H, I, z⟩ := h
    exact L2.gone_ok (I.unsuite ok) hN hi hl fun s7 J => ⟨_, H, J, z⟩
/-- the clauses are gone through, the exception landed -/
theorem clas_go {D : Ends} {B : Heap} {a : Addr} {cls : Value} {d : Option Addr} {σ : LSt} {H : Hp} {sI s' : Shared} {h3 : Heap} {pn0 : List (Addr × Obj)} (ok : X.Ok) (hstk : X.stack = X.env :: X.outer) (hfr : X.env.frame = some X.env.locals) (tk : Takes X Wout)
    (I : Inv X pins σ H sI) (nb : ∀ b o, sI.heap.get? b = some o → b ∉ L2.frs X.stack → B.get? b = some o) (up : sI.heap.UpToSlots h3) (fl : HandSPX.FlyingZ B (X.env :: X.outer) a (Zc cls d) h3) (na : H a = none) (os : s'.os = sI.os) (ag : AllBare s'.gens) :
    ∀ {hds : List ExceptHandler} {l : List Cla}, Clas X hds l → wCla X.K Wout D l cls d σ H → wpAny (model X.prog X.w) X.A (handleBy (.ref a) X.env hds) (SP X pins D) X.xe { s' with heap := h3 } := by
  have offF : ∀ {h : Heap} {o : Obj} {vs : Array Value}, h.FunFrames B (X.env :: X.outer) → h.get? a = some o → o.data = .fields vs → a ∉ L2.frs (X.env :: X.outer) := by
    intro h o vs ff e dd hm
    obtain ⟨_, o', e', z⟩ := ff.mem hm
    cases e.symm.trans e'
    exact z _ dd
  -- a state in which it stands
  have suite : ∀ {h : Heap}, HandSPX.FlyingZ B (X.env :: X.outer) a (Zc cls d) h → sI.heap.UpToSlots h → ∃ oe, Zc cls d oe ∧ (∃ vs, oe.data = .fields vs) ∧ h.get? a = some oe ∧ Inv (X.suite a ((a, oe) :: (X.pn ++ pins))) [] σ H { s' with heap := h } := by
    intro h f u
    have J : Inv X pins σ H { s' with heap := h } := I.landed nb f.1 u os ag
    obtain ⟨oe, vs, he, hz, hd⟩ := f.there
    have nf := offF f.2.2.1 he hd
    refine ⟨oe, hz, ⟨vs, hd⟩, he, J.suite he hd na (fun z => ?_) fun hm => ?_⟩
    · exact nf (List.mem_filterMap.mpr ⟨X.env, .head _, by rw [hfr, z]⟩)
    · obtain ⟨e, he', q⟩ := List.mem_filterMap.mp hm
      exact nf (List.mem_filterMap.mpr ⟨e, .tail _ he', q⟩)
  obtain ⟨oe3, hz3, hd3, he3, S3⟩ := suite fl up
  have LT : PySem.W.Looks (model X.prog X.w) h3 (typeOf (.ref a)) cls := fun A Q E s k q => wpAny_typeOf_ref (k _ _ he3) (by rw [hz3.1]; exact q)
  have test : ∀ {x : Str} {c : Value} {np : Pos} {b : Bool} {Q : Bool → Shared → Prop} {E : Value → Shared → Prop}, Names X x c → PySem.W.exmOne X.K cls c = some b → Q b { s' with heap := h3 } → wpAny (model X.prog X.w) (X.A.mark (some (.ref a))) (eval (.Name x np) X.env) (fun v s1 => wpAny (model X.prog X.w) (X.A.mark (some (.ref a))) (excMatches (.ref a) v) Q E s1) E { s' with heap := h3 } := by
    intro x c np b Q E hc hb q
    have LM := PySem.W.exm_one (M := model X.prog X.w) S3.kIn LT hb
    obtain ⟨hg, hdb, hm | ⟨hm, hv, hn⟩⟩ := hc
    · exact L2.ld_glob S3 hg hm (LM.here q) hdb
    · exact L2.ld_blt S3 hg hm hv (LM.here q) hn hdb
  intro hds l hk
  induction hk with
  | nil =>
    intro w
    refine wpAny_handleBy_nil ?_
    obtain ⟨k1, k2, k3, oe, vs, T, oT, ts', he, hz, hd, h1, hr⟩ := id fl
    have land : wpAny (model X.prog X.w) X.A (setFlight (.ref a) X.env.frame) (fun _ s4 => wpAny (model X.prog X.w) X.A (throw (.ref a) : Sem Flow) (SP X pins D) X.xe s4) X.xe { s' with heap := h3 } := by
      rw [hfr]
      exact HandSPX.setFlight_upZ fl fun h4 hh u4 => wpAny_throw (tk _ _ ⟨a, B, sI, pins, σ, H, cls, d, rfl, I, nb, up.trans u4, .inr (.inr (by rw [hstk]; exact hh)), na, os, ag, w⟩)
    unfold PySem.passOn
    refine wpAny_bind (wpAny_field he hd h1 ?_)
    rw [if_neg (fun z => by simp at z)]
    first | exact wpAny_bind (wpAny_pure (wpAny_bind land)) | exact wpAny_bind land
  | plain hc hs r ih =>
    intro w
    obtain ⟨b, hb, hno, hyes⟩ := w
    refine wpAny_handleBy_cons (codeAny_handlers_test (test hc hb ?_)) (fun q => nomatch q)
    cases b with
    | false => exact ih (hno rfl)
    | true =>
      refine codeAny_handlers_suite (HandSPX.lands_againZ fl fun h4 f4 u4 => ?_)
      obtain ⟨oe4, hz4, hd4, he4, S4⟩ := suite f4 (up.trans u4)
      exact wpAny_mono ((hs a oe4 cls d (X.pn ++ pins) hz4 hd4).run [] _ _ H _ S4 (hyes rfl a na)) (fun f s6 q => sp_unsuite ok q) fun _ _ z => z.elim
  | @named x n c i t s0 suite' np hp hds2 l2 hN hi hl hc hs r ih =>
    intro w
    obtain ⟨b, hb, hno, hyes⟩ := w
    refine wpAny_handleBy_cons (codeAny_handlers_test (test hc hb ?_)) (fun q => nomatch q)
    cases b with
    | false => exact ih (hno rfl)
    | true =>
      refine codeAny_handlers_suite_as (HandSPX.lands_againZ fl fun h4 f4 u4 => ?_)
      obtain ⟨oe4, hz4, hd4, he4, S4⟩ := suite f4 (up.trans u4)
      refine L2.store_ok (X := X.suite a ((a, oe4) :: (X.pn ++ pins))) (v := .ref a) S4 hN hi (.inl hl) rfl (fun s5 S5 => ?_) (.inr hl)
      exact wpAny_mono ((hs a oe4 cls d (X.pn ++ pins) hz4 hd4).run [] s5 _ H _ S5 (hyes rfl a na)) (fun f s6 q => sp_gone ok hN hi hl q) fun _ _ z => z.elim
theorem ps_try_mx (hstk : X.stack = X.env :: X.outer) (hfr : X.env.frame = some X.env.locals) (tk : Takes X Wout)
    (hb : ∀ (W : WX) (pn : List (Addr × Obj)) (xe : Value → Shared → Prop), Takes (X.tr pn xe) W → PassesOwn (model X.prog X.w) X.A X.env xe → PSs (X.tr pn xe) body (tb W))
    (hh : Clas X (h0 :: hds) l) : PS X (.Try body (h0 :: hds) [] [] pos) (fun D σ H => tb (wCla X.K Wout D l) D σ H) := ⟨fun pins s σ H D I h => by
  have ok := I.ok
  refine wpAny_Try_except (wpAny_mono ((hb (wCla X.K Wout D l) (X.pn ++ pins) (fun e s1 => wpAny (model X.prog X.w) X.A (noteFrame e X.env) (fun _ s2 => wpAny (model X.prog X.w) X.A (setFlight e none) (fun _ s3 =>
    wpAny (model X.prog X.w) X.A (handleBy e X.env (h0 :: hds)) (SP X pins D) X.xe s3) X.xe s2) X.xe s1) (fun u s' q => ?_) PassesOwn.looking).run [] s σ H D (I.toTry _) h) (fun f s1 q => ?_) fun e s1 z => z)
  · obtain ⟨a, B, sI, pins', σ', H', cls, d, rfl, J', nb, up, sky, na, os, ag, w⟩ := q
    have sky : L2.Sky B (X.env :: X.outer) a (Zc cls d) X.env.locals s'.heap := hstk ▸ sky
    have fr : X.A.frames = some (X.env :: X.outer) := by rw [ok.frames, hstk]
    exact L2.Sky.land L2.Zc.steady fr hfr sky fun h3 fl u3 => clas_go (pn0 := []) ok hstk hfr tk (J'.ofTry ok) nb (up.trans u3) fl na os ag hh w
  · cases f with
    | next => exact q.elim fun σ q => q.elim fun H z => wpAny_execs_nil ⟨σ, H, z.1.ofTry ok, z.2⟩
    | brk => exact q.elim fun σ q => q.elim fun H z => ⟨σ, H, z.1.ofTry ok, z.2⟩
    | cont => exact q.elim fun σ q => q.elim fun H z => ⟨σ, H, z.1.ofTry ok, z.2⟩
    | ret u =>
      obtain ⟨v, σ', H', J, r, z⟩ := q
      exact ⟨v, σ', H', J.ofTry ok, r, z⟩⟩
end
end DL

/-! try on plain data -/
namespace DL
open PySem L2
/-- a slot that leans on the handled exception, or on the instance that is made -/
def exS : Sl → Bool
  | .ex _ _ _ => true
  | .nw _ => true
  | _ => false
section
variable {K : PySem.W.Frag} {mg : Str → Option Value} {ec ec' : EC} {C : Fc} {ρ : Fm} {σ : St} {tm : Tm} {H : Hp}
theorem SlR.reec {A : Addr → Prop} {s : Sl} {o : Option V} {av : Addr → Prop} (h : SlR K mg ec H av A s o) (k : exS s = true → ∀ a dd c', ec a dd c' → ec' a dd c') : SlR K mg ec' H av A s o := by
  cases s with
  | ex c f d =>
    obtain ⟨a, dd, v, fs, q, z⟩ := h
    exact ⟨a, dd, v, fs, k rfl _ _ _ q, z⟩
  | nw c =>
    obtain ⟨a, dd, q, z⟩ := h
    exact ⟨a, dd, k rfl _ _ _ q, z⟩
  | _ => exact h
theorem Hold.reec (h : Hold K mg ec H C ρ σ tm) (k : ∀ (j : Nat) s, ρ[j]? = some s → exS s = true → ∀ a dd c', ec a dd c' → ec' a dd c') : Hold K mg ec' H C ρ σ tm :=
  ⟨h.len, h.avt, h.ext, h.io, h.one, fun i s o h1 h2 => (h.slot i s o h1 h2).reec fun e => k i s h1 e, h.inj, h.tmp, h.sep⟩
/-- a slot that is no list gets another one that is none -/
theorem Hold.swap {i : Nat} {s s' : Sl} {o' : Option V} (h : Hold K mg ec H C ρ σ tm) (hi : ρ[i]? = some s) (n1 : ∀ k ds, s ≠ .ow k ds) (n2 : ∀ k ds, s' ≠ .ow k ds) (hr : SlR K mg ec' H C.av (Av C.av ρ σ tm) s' o')
    (k : ∀ (j : Nat) s, j ≠ i → ρ[j]? = some s → exS s = true → ∀ a dd c', ec a dd c' → ec' a dd c') : Hold K mg ec' H C (ρ.set i s') (σ.set i o') tm := by
  have il : i < ρ.length := (List.getElem?_eq_some_iff.mp hi).1
  have ne : ∀ {j k : Nat} {ds : List D}, (ρ.set i s')[j]? = some (Sl.ow k ds) → j ≠ i := fun {j k ds} q z => by
    subst z
    rw [List.getElem?_set_self il] at q
    exact n2 _ _ (Option.some.inj q)
  have ne0 : ∀ {j k : Nat} {ds : List D}, ρ[j]? = some (Sl.ow k ds) → j ≠ i := fun {j k ds} q z => by
    subst z
    rw [hi] at q
    exact n1 _ _ (Option.some.inj q)
  have back : ∀ {j k : Nat} {ds : List D}, (ρ.set i s')[j]? = some (Sl.ow k ds) → ρ[j]? = some (Sl.ow k ds) := fun {j k ds} q => by
    rw [List.getElem?_set_ne (Ne.symm (ne q))] at q
    exact q
  have forth : ∀ {j k : Nat} {ds : List D}, ρ[j]? = some (Sl.ow k ds) → (ρ.set i s')[j]? = some (Sl.ow k ds) := fun {j k ds} q => by
    rw [List.getElem?_set_ne (Ne.symm (ne0 q))]
    exact q
  have eS : ∀ {j : Nat}, j ≠ i → (σ.set i o')[j]? = σ[j]? := fun {j} z => List.getElem?_set_ne (Ne.symm z)
  have eO : Own (ρ.set i s') (σ.set i o') = Own ρ σ := by
    funext a
    apply propext
    constructor
    · rintro ⟨j, k, ds, q1, q2⟩
      exact ⟨j, k, ds, back q1, by rw [eS (ne q1)] at q2; exact q2⟩
    · rintro ⟨j, k, ds, q1, q2⟩
      exact ⟨j, k, ds, forth q1, by rw [eS (ne0 q1)]; exact q2⟩
  have eA : Av C.av (ρ.set i s') (σ.set i o') tm = Av C.av ρ σ tm := by
    funext a
    unfold Av
    rw [eO]
  refine ⟨by rw [List.length_set, List.length_set]; exact h.len, h.avt, h.ext, fun j p q => ?_, fun j k ds a q1 q2 => ?_, fun j s1 o1 q1 q2 => ?_, fun j j' k k' ds ds' a q1 q2 q3 q4 => ?_, fun r v hm => ?_, h.sep⟩
  · obtain ⟨ds, q1, q2⟩ := h.io j p q
    exact ⟨ds, forth q1, by rw [eS (ne0 q1)]; exact q2⟩
  · exact h.one j k ds a (back q1) (by rw [eS (ne q1)] at q2; exact q2)
  · rw [eA]
    by_cases z : j = i
    · subst z
      rw [List.getElem?_set_self il] at q1
      rw [List.getElem?_set_self (by rw [← h.len]; exact il)] at q2
      cases q1
      cases q2
      exact hr
    · rw [List.getElem?_set_ne (Ne.symm z)] at q1 q2
      exact (h.slot j s1 o1 q1 q2).reec fun e => k j s1 z q1 e
  · exact h.inj j j' k k' ds ds' a (back q1) (back q2) (by rw [eS (ne q1)] at q3; exact q3) (by rw [eS (ne q2)] at q4; exact q4)
  · rw [eA]
    have q := h.tmp r v hm
    cases r with
    | dt d => exact q
    | vw j =>
      obtain ⟨k, ds, q1, q2⟩ := q
      exact ⟨k, ds, forth q1, by rw [eS (ne0 q1)]; exact q2⟩
    | fr ds =>
      obtain ⟨a, vs, e1, g1, g2, g3, g4, g5⟩ := q
      exact ⟨a, vs, e1, g1, by rw [eO]; exact g2, g3, g4, g5⟩
end
/-! ### the clauses on plain data -/
structure Hd where
  tbl : List (Str × Bool)
  i : Option Nat
  S : Fm → SO
def inX (i : Option Nat) (c f : Str) (d : D) (ρ : Fm) : Option Fm := match i with
  | none => some ρ
  | some i => putS i (.ex c f d) ρ
def outX (i : Option Nat) (ρ : Fm) : Option Fm := match i with
  | none => if ρ.any exS then none else some ρ
  | some i => match ρ[i]? with
    | some (.ex _ _ _) => if (ρ.set i .un).any exS then none else some (ρ.set i .un)
    | _ => none
def leaveX (i : Option Nat) : SO → SO
  | .nx ρ => match outX i ρ with | some ρ => .nx ρ | none => .bad
  | .bk ρ => match outX i ρ with | some ρ => .bk ρ | none => .bad
  | .ct ρ => match outX i ρ with | some ρ => .ct ρ | none => .bad
  | .rt r ρ => match outX i ρ with | some ρ => .rt r ρ | none => .bad
  | _ => .bad
def hdl (c f : Str) (d : D) : List Hd → Fm → SO
  | [], ρ => .ex c f d ρ
  | h :: hs, ρ => match h.tbl.lookup c with
    | none => .bad
    | some false => hdl c f d hs ρ
    | some true => match inX h.i c f d ρ with
      | some ρ' => leaveX h.i (h.S ρ')
      | none => .bad
def sTry (S : Fm → SO) (hs : List Hd) : Fm → SO := fun ρ => match S ρ with
  | .ex c f d ρ1 => hdl c f d hs ρ1
  | o => o
inductive DClas (X : Cx) : List ExceptHandler → List Hd → List Cla → Prop
  | nil : DClas X [] [] []
  | plain {x : Str} {c : Value} {T : Fm → SO} {tbl : List (Str × Bool)} {s0 : Stmt} {suite : List Stmt} {np hp : Pos} {hds : List ExceptHandler} {l : List Hd} {q : List Cla} (hc : Names X x c)
      (ht : ∀ y b, tbl.lookup y = some b → ∀ cl, X.mg y = some (.ref cl) → PySem.W.exmOne X.K (.ref cl) c = some b)
      (hs : ∀ (a : Addr) (oe : Obj) (cls : Value) (d : Option Addr) (pn : List (Addr × Obj)), Zc cls d oe → (∃ vs, oe.data = .fields vs) → DSs (X.suite a ((a, oe) :: pn)) noW (ecOf X.mg a cls d) (s0 :: suite) T) (r : DClas X hds l q) :
      DClas X (.ExceptHandler (some (.Name x np)) none (s0 :: suite) hp :: hds) (⟨tbl, none, T⟩ :: l) (⟨c, none, fun a cls d => tDS X.K X.mg noW (ecOf X.mg a cls d) T⟩ :: q)
  | named {x n : Str} {c : Value} {i : Nat} {T : Fm → SO} {tbl : List (Str × Bool)} {s0 : Stmt} {suite : List Stmt} {np hp : Pos} {hds : List ExceptHandler} {l : List Hd} {q : List Cla} (hN : X.N.Nodup) (hi : X.N[i]? = some n) (hl : X.env.kindOf n = some .local) (hc : Names X x c)
      (ht : ∀ y b, tbl.lookup y = some b → ∀ cl, X.mg y = some (.ref cl) → PySem.W.exmOne X.K (.ref cl) c = some b)
      (hs : ∀ (a : Addr) (oe : Obj) (cls : Value) (d : Option Addr) (pn : List (Addr × Obj)), Zc cls d oe → (∃ vs, oe.data = .fields vs) → DSs (X.suite a ((a, oe) :: pn)) noW (ecOf X.mg a cls d) (s0 :: suite) T) (r : DClas X hds l q) :
      DClas X (.ExceptHandler (some (.Name x np)) (some n) (s0 :: suite) hp :: hds) (⟨tbl, some i, T⟩ :: l) (⟨c, some i, fun a cls d => tDS X.K X.mg noW (ecOf X.mg a cls d) T⟩ :: q)
theorem DClas.clas {X : Cx} {hds : List ExceptHandler} {l : List Hd} {q : List Cla} (h : DClas X hds l q) : Clas X hds q := by
  induction h with
  | nil => exact .nil
  | plain hc ht hs r ih => exact .plain hc hs ih
  | named hN hi hl hc ht hs r ih => exact .named hN hi hl hc hs ih
section
variable {K : PySem.W.Frag} {mg : Str → Option Value} {C : Fc} {ρ ρ' : Fm} {σ : St} {tm : Tm} {H : Hp} {ec : EC}
theorem noex (h : Hold K mg noEC H C ρ σ tm) {j : Nat} {s : Sl} (q : ρ[j]? = some s) (e : exS s = true) : False := by
  have hl : j < σ.length := by
    rw [← h.len]
    exact (List.getElem?_eq_some_iff.mp q).1
  have z := h.slot j _ _ q (List.getElem?_eq_getElem hl)
  cases s with
  | ex c f d =>
    obtain ⟨_, _, _, _, z, _⟩ := z
    exact z
  | nw c =>
    obtain ⟨_, _, z, _⟩ := z
    exact z
  | _ => cases e
theorem any_ex {ρ : Fm} (h : ρ.any exS = false) {j : Nat} {s : Sl} (q : ρ[j]? = some s) (e : exS s = true) : False := by
  rw [List.any_eq_false] at h
  exact h _ (List.mem_of_getElem? q) e
/-- behind the suite -/
theorem out_hold {i : Option Nat} (h : Hold K mg ec H C ρ σ tm) (e : outX i ρ = some ρ') : Hold K mg noEC H C ρ' (match i with | none => σ | some i => σ.set i none) tm ∧ Kin ρ ρ' := by
  cases i with
  | none =>
    unfold outX at e
    dsimp only at e
    split at e
    · cases e
    · rename_i z
      cases e
      exact ⟨h.reec fun j s q e => (any_ex (by simpa using z) q e).elim, Kin.refl⟩
  | some i =>
    unfold outX at e
    dsimp only at e
    split at e
    · rename_i c f d hi
      split at e
      · cases e
      · rename_i z
        cases e
        have il := (List.getElem?_eq_some_iff.mp hi).1
        refine ⟨h.swap hi (fun _ _ q => nomatch q) (fun _ _ q => nomatch q) trivial fun j s hj q e => ?_, Kin.of_same fun j k ds q => ?_⟩
        · exact (any_ex (by simpa using z) (j := j) (s := s) (by rw [List.getElem?_set_ne (Ne.symm hj)]; exact q) e).elim
        · have hj : j ≠ i := fun z => by
            subst z
            rw [hi] at q
            cases q
          rw [List.getElem?_set_ne (Ne.symm hj)]
          exact q
    · cases e
/-- into the suite -/
theorem in_hold {i : Option Nat} {c f : Str} {d : D} {a dd : Addr} {cl : Addr} {v : V} {fs : List (Str × V)} (h : Hold K mg noEC H C ρ σ tm) (lk : LkT ρ tm) (e : inX i c f d ρ = some ρ') (hc : mg c = some (.ref cl)) (hd : H dd = some (.xd fs)) (hf : fs.lookup f = some v) (r : Rp K mg H (Av C.av ρ σ tm) d v) :
    Hold K mg (ecOf mg a (.ref cl) (some dd)) H C ρ' (slotOf σ a i) tm ∧ Kin ρ ρ' := by
  cases i with
  | none =>
    cases e
    exact ⟨h.reec fun j s q e => (noex h q e).elim, Kin.refl⟩
  | some i =>
    have e : putS i (.ex c f d) ρ = some ρ' := e
    obtain ⟨rfl, il, hk⟩ := putS_inv e
    have e2 : putS i (.dt .non) ρ = some (ρ.set i (.dt .non)) := by
      unfold putS at e ⊢
      cases q : ρ[i]? with
      | none => rw [q] at e; cases e
      | some s =>
        rw [q] at e
        cases s with
        | ow k ds => cases k with
          | zero => rfl
          | succ k => cases e
        | ex => cases e
        | nw => cases e
        | un => rfl
        | dt => rfl
    have h1 : Hold K mg noEC H C (ρ.set i (.dt .non)) (σ.set i (some .non)) tm := (h.push_sv (d := .non) rfl).put lk rfl e2
    have k1 := put_kin e2
    have less : ∀ b, Av C.av (ρ.set i (.dt .non)) (σ.set i (some .non)) tm b → Av C.av ρ σ tm b := by
      rintro b (z | ⟨j, k, ds, q1, q2⟩ | z)
      · exact .inl z
      · have hj : j ≠ i := fun z => by
          subst z
          rw [List.getElem?_set_self il] at q1
          cases q1
        rw [List.getElem?_set_ne (Ne.symm hj)] at q1 q2
        exact .inr (.inl ⟨j, k, ds, q1, q2⟩)
      · exact .inr (.inr z)
    have h2 := h1.swap (i := i) (s' := .ex c f d) (o' := some (.ref a)) (ec' := ecOf mg a (.ref cl) (some dd)) (List.getElem?_set_self il) (fun _ _ q => nomatch q) (fun _ _ q => nomatch q)
      ⟨a, dd, v, fs, ⟨rfl, rfl, cl, hc, rfl⟩, rfl, hd, hf, Rp.av (fun b z => .inl (less b z)) d v r⟩ fun j s hj q e => (noex h1 q e).elim
    rw [List.set_set, List.set_set] at h2
    exact ⟨h2, put_kin e⟩
end
section
variable {X : Cx} {W : WX} {body : List Stmt} {h0 : ExceptHandler} {hds : List ExceptHandler} {l : List Hd} {q : List Cla} {pos : Pos} {S : Fm → SO}
theorem hdl_w {C : Fc} {ρ : Fm} {tm : Tm} {E : Ends} {c f : Str} {d : D} {ρ1 : Fm} (lk : LkT ρ tm) : ∀ {hds : List ExceptHandler} {l : List Hd} {q : List Cla}, DClas X hds l q → FinS X.K X.mg W noEC C ρ tm (hdl c f d l ρ1) E → ExW X.K X.mg (wCla X.K W E q) noEC C ρ tm c f d ρ1 := by
  intro hds l q h
  induction h with
  | nil => exact fun p => p
  | @plain x cv T tbl s0 suite np hp hds l q hc ht hs r ih =>
    intro p cl dd v fs σ H hm h1 h2 r h k
    have p : FinS X.K X.mg W noEC C ρ tm (match tbl.lookup c with | none => .bad | some false => hdl c f d l ρ1 | some true => match inX none c f d ρ1 with | some ρ' => leaveX none (T ρ') | none => .bad) E := p
    cases hb : tbl.lookup c with
    | none =>
      rw [hb] at p
      exact p.elim
    | some b =>
      rw [hb] at p
      refine ⟨b, ht c b hb cl hm, fun z => ?_, fun z a na => ?_⟩
      · subst z
        exact ih p cl dd v fs σ H hm h1 h2 r h k
      · subst z
        dsimp only [inX] at p
        obtain ⟨h3, k3⟩ := in_hold (i := none) (a := a) h (lk.kin k) rfl hm h1 h2 r
        refine ⟨C, ρ1, tm, h3, lk.kin k, ?_⟩
        cases e : T ρ1 with
        | ex => rw [e] at p; exact p.elim
        | bad => rw [e] at p; exact p.elim
        | nx ρ3 =>
          rw [e] at p
          unfold leaveX at p
          cases e2 : outX none ρ3 with
          | none => simp only [e2] at p; exact p.elim
          | some ρ4 =>
            simp only [e2] at p
            exact fun σ4 H4 h4 k4 => p _ _ (out_hold h4 e2).1 ((k.trans k4).trans (out_hold h4 e2).2)
        | bk ρ3 =>
          rw [e] at p
          unfold leaveX at p
          cases e2 : outX none ρ3 with
          | none => simp only [e2] at p; exact p.elim
          | some ρ4 =>
            simp only [e2] at p
            exact fun σ4 H4 h4 k4 => p _ _ (out_hold h4 e2).1 ((k.trans k4).trans (out_hold h4 e2).2)
        | ct ρ3 =>
          rw [e] at p
          unfold leaveX at p
          cases e2 : outX none ρ3 with
          | none => simp only [e2] at p; exact p.elim
          | some ρ4 =>
            simp only [e2] at p
            exact fun σ4 H4 h4 k4 => p _ _ (out_hold h4 e2).1 ((k.trans k4).trans (out_hold h4 e2).2)
        | rt r ρ3 =>
          rw [e] at p
          unfold leaveX at p
          cases e2 : outX none ρ3 with
          | none => simp only [e2] at p; exact p.elim
          | some ρ4 =>
            simp only [e2] at p
            exact fun v4 σ4 H4 h4 k4 => p v4 _ _ (out_hold h4 e2).1 ((k.trans k4).trans (out_hold h4 e2).2)
  | @named x n cv i T tbl s0 suite np hp hds l q hN hi hl hc ht hs r ih =>
    intro p cl dd v fs σ H hm h1 h2 r h k
    have p : FinS X.K X.mg W noEC C ρ tm (match tbl.lookup c with | none => .bad | some false => hdl c f d l ρ1 | some true => match inX (some i) c f d ρ1 with | some ρ' => leaveX (some i) (T ρ') | none => .bad) E := p
    cases hb : tbl.lookup c with
    | none =>
      rw [hb] at p
      exact p.elim
    | some b =>
      rw [hb] at p
      refine ⟨b, ht c b hb cl hm, fun z => ?_, fun z a na => ?_⟩
      · subst z
        exact ih p cl dd v fs σ H hm h1 h2 r h k
      · subst z
        dsimp only at p
        cases e0 : inX (some i) c f d ρ1 with
        | none =>
          rw [e0] at p
          exact p.elim
        | some ρ2 =>
        rw [e0] at p
        dsimp only at p
        obtain ⟨h3, k3⟩ := in_hold (i := some i) (a := a) h (lk.kin k) e0 hm h1 h2 r
        refine ⟨C, ρ2, tm, h3, (lk.kin k).kin k3, ?_⟩
        cases e : T ρ2 with
        | ex => rw [e] at p; exact p.elim
        | bad => rw [e] at p; exact p.elim
        | nx ρ3 =>
          rw [e] at p
          unfold leaveX at p
          cases e2 : outX (some i) ρ3 with
          | none => simp only [e2] at p; exact p.elim
          | some ρ4 =>
            simp only [e2] at p
            exact fun σ4 H4 h4 k4 => p _ _ (out_hold h4 e2).1 (((k.trans k3).trans k4).trans (out_hold h4 e2).2)
        | bk ρ3 =>
          rw [e] at p
          unfold leaveX at p
          cases e2 : outX (some i) ρ3 with
          | none => simp only [e2] at p; exact p.elim
          | some ρ4 =>
            simp only [e2] at p
            exact fun σ4 H4 h4 k4 => p _ _ (out_hold h4 e2).1 (((k.trans k3).trans k4).trans (out_hold h4 e2).2)
        | ct ρ3 =>
          rw [e] at p
          unfold leaveX at p
          cases e2 : outX (some i) ρ3 with
          | none => simp only [e2] at p; exact p.elim
          | some ρ4 =>
            simp only [e2] at p
            exact fun σ4 H4 h4 k4 => p _ _ (out_hold h4 e2).1 (((k.trans k3).trans k4).trans (out_hold h4 e2).2)
        | rt r ρ3 =>
          rw [e] at p
          unfold leaveX at p
          cases e2 : outX (some i) ρ3 with
          | none => simp only [e2] at p; exact p.elim
          | some ρ4 =>
            simp only [e2] at p
            exact fun v4 σ4 H4 h4 k4 => p v4 _ _ (out_hold h4 e2).1 (((k.trans k3).trans k4).trans (out_hold h4 e2).2)
theorem ds_try (hstk : X.stack = X.env :: X.outer) (hfr : X.env.frame = some X.env.locals) (tk : Takes X W)
    (hb : ∀ (W' : WX) (pn : List (Addr × Obj)) (xe : Value → Shared → Prop), Takes (X.tr pn xe) W' → PassesOwn (model X.prog X.w) X.A X.env xe → DSs (X.tr pn xe) W' noEC body S)
    (hh : DClas X (h0 :: hds) l q) : DS X W noEC (.Try body (h0 :: hds) [] [] pos) (sTry S l) :=
  (ps_try_mx (tb := fun W' => tDS X.K X.mg W' noEC S) hstk hfr tk hb hh.clas).imp fun E σ H ⟨C, ρ, tm, h, lk, p⟩ => by
    refine ⟨C, ρ, tm, h, lk, ?_⟩
    show FinS X.K X.mg (wCla X.K W E q) noEC C ρ tm (S ρ) E
    unfold sTry at p
    cases e : S ρ with
    | ex c f d ρ1 =>
      rw [e] at p
      exact hdl_w lk hh p
    | nx => rw [e] at p; exact p
    | rt => rw [e] at p; exact p
    | bk => rw [e] at p; exact p
    | ct => rw [e] at p; exact p
    | bad => rw [e] at p; exact p
end
end DL

namespace DL
open PySem L2 PyProof.Rows
/-- the j-th statement of a class's body -/
def clsS (s : Stmt) (j : Nat) : Stmt := match s with
  | .ClassDef _ _ _ b _ _ _ _ _ _ _ => b.getD j (.Pass ⟨0, 0, 0, 0⟩)
  | _ => .Pass ⟨0, 0, 0, 0⟩
theorem binds_raw {K : PySem.W.Frag} {x qual : Str} {params : Arguments} {body : List Stmt} {scope : Scope} {kwv : List (Str × V)} {f : Addr} {fd : FuncData} {ps : List Str} (F : FunD K x qual params body scope [] kwv f fd)
    (h : ∀ (kV doc pm : Value) (an : Option Addr) (cdv ct : Value) (us : List Value), us.length = ps.length → bindArgs (PySem.W.fnOf x qual params body scope .none kV doc pm an cdv ct) ⟨us, []⟩ = pure (ps.zip us)) : Binds K fd ps [] := by
  obtain ⟨oc, od, dV, kV, doc, pm, an, cdv, ct, osl, rfl, lk, hcd, hD, hK⟩ := F.ex
  rcases hD with ⟨_, rfl⟩ | ⟨e, _⟩
  · exact Binds.all fun us hl => h kV doc pm an cdv ct us hl
  · exact absurd rfl e
/-- the classes' answers to a clause -/
def Tb (K : PySem.W.Frag) (mg : Str → Option Value) (cv : Value) (tbl : List (Str × Bool)) : Prop := ∀ y b, tbl.lookup y = some b → ∀ cl, mg y = some (.ref cl) → PySem.W.exmOne K (.ref cl) cv = some b
theorem tb_nil {K : PySem.W.Frag} {mg : Str → Option Value} {cv : Value} : Tb K mg cv [] := fun y b h => nomatch h
theorem tb_cons {K : PySem.W.Frag} {mg : Str → Option Value} {cv : Value} {c : Str} {C : Addr} {b : Bool} {l : List (Str × Bool)} (hm : mg c = some (.ref C)) (hx : PySem.W.exmOne K (.ref C) cv = some b) (r : Tb K mg cv l) : Tb K mg cv ((c, b) :: l) := fun y b' h cl hy => by
  rw [List.lookup_cons] at h
  by_cases e : y = c
  · subst e
    rw [beq_self_eq_true] at h
    cases h
    cases hm.symm.trans hy
    exact hx
  · have : (y == c) = false := by simpa using e
    rw [this] at h
    exact r y b' h cl hy
end DL
theorem DL.u66s {k : Nat} {A B : PySem.Around} (hr : L2.Room k A) (e : B.units = A.units) : B.units + 66 < PySem.cLine := by
  rw [e]
  exact DL.u66 hr
theorem DL.g66s {k : Nat} {A B : PySem.Around} {env : PySem.Env} (hr : L2.Room k (A.deeper env)) (g : A.guards = some []) (e : B.guards = (A.deeper env).guards) : B.guards = some [] := e.trans (DL.guards_deeper g)

namespace DL
open PySem L2
/-! ### what holds of an outcome, step by step -/
def WP {α : Type} (o : α) (Q : α → Prop) : Prop := Q o
def kB {α β : Type} (G : α → Fm → Out β) (Q : Out β → Prop) : Out α → Prop := fun o => Q (o.bind G)
def kS {α : Type} (G : α → Fm → SO) (Q : SO → Prop) : Out α → Prop := fun o => Q (o.sbind G)
def kT (T : Fm → SO) (Q : SO → Prop) : SO → Prop := fun o => Q (o.bind T)
def zI {α : Type} (k : Bool) (x y : α) : α := if k then x else y
def zOp (g : D → D → Option D) (r s : RV) (ρ : Fm) : Out RV := match r.get ρ, s.get ρ with
  | some x, some y => match g x y with
    | some z => .ok (.dt z) ρ
    | none => .bad
  | _, _ => .bad
def zR (o : Option D) (ρ : Fm) : Out RV := match o with
  | some z => .ok (.dt z) ρ
  | none => .bad
def zRT (o : Option Bool) (ρ : Fm) : Out Bool := match o with
  | some z => .ok z ρ
  | none => .bad
def zF (o : Option (List D)) (ρ : Fm) : Out RV := match o with
  | some z => .ok (.fr z) ρ
  | none => .bad
def zN (o : Option Fm) : SO := match o with
  | some ρ => .nx ρ
  | none => .bad
def zM (o : Option Fm) : Out RV := match o with
  | some ρ => .ok (.dt .non) ρ
  | none => .bad
def o2 (g : D → D → Option D) : Option D → Option D → Option D
  | some x, some y => g x y
  | _, _ => none
def o1 {α β : Type} (g : α → Option β) : Option α → Option β
  | some x => g x
  | _ => none
def addD (x y : Option D) (ρ : Fm) : Out RV := match x, y with
  | some (.lst ds), some (.lst es) => if ds.length + es.length < 1000000 then .ok (.fr (ds ++ es)) ρ else .bad
  | some x, some y => match gAdd x y with
    | some z => .ok (.dt z) ρ
    | none => .bad
  | _, _ => .bad
def chD (g g' : D → D → Option D) (s : RV) (J : Fm → Out RV) (ρ : Fm) (o : Option D) : Out RV := match o with
  | some (.bl k) => zI k ((J ρ).bind fun t ρ => zR (o2 g' (s.get ρ) (t.get ρ)) ρ) (.ok (.dt (.bl false)) ρ)
  | _ => .bad
def slD (lo hi : Option Int) (o : Option D) (ρ : Fm) : Out RV := match o with
  | some (.lst ds) => .ok (.fr (cutD ds lo hi)) ρ
  | some (.fz ns) => .ok (.fr ((cutD ns lo hi).map D.int)) ρ
  | some (.tup ds) => if HT.sIx ds.length 0 lo = 0 ∧ HT.sIx ds.length ds.length hi = ds.length then .bad else .ok (.dt (.tup (cutD ds lo hi))) ρ
  | _ => .bad
def testD (r : RV) (ρ : Fm) : Out Bool := match r with
  | .dt (.bl k) => .ok k ρ
  | _ => .bad
def someI (r : RV) (ρ : Fm) : Out (Option Int) := match r with
  | .dt (.int i) => .ok (some i) ρ
  | _ => .bad
def muD (g : List D → List D → Option (List D)) (A : Fm → Out (List RV)) (o : RV) (ρ : Fm) : Out RV := match o with
  | .vw j => (A ρ).bind fun rs ρ => zM (o1 (fun args => updS j (fun ds => g ds args) ρ) (toDs rs))
  | _ => .bad
def andD (G : Fm → Out RV) (r : RV) (ρ : Fm) (o : Option Bool) : Out RV := match o with
  | some k => zI k (G ρ) (.ok r ρ)
  | none => .bad
def orD (G : Fm → Out RV) (r : RV) (ρ : Fm) (o : Option Bool) : Out RV := match o with
  | some k => zI k (.ok r ρ) (G ρ)
  | none => .bad
def csD (g : D → Option (List D)) (o : Option D) (ρ : Fm) : Out RV := match o with
  | some d => match seqD d, g d with
    | some _, some zs => .ok (.fr zs) ρ
    | _, _ => .bad
  | none => .bad
def srcZ (h : List D → List D) (r : RV) (o : Option (List D)) (ρ : Fm) : Out (List D × List Nat) := match o with
  | some ds => .ok (h ds, vwOf r) ρ
  | none => .bad
def tgD (p : PutF) (r : RV) (ρ : Fm) : SO := match r with
  | .dt d => zN (p d ρ)
  | _ => .bad
def subD (r o s : RV) (ρ : Fm) : SO := match toD r, o, s with
  | some d, .vw j, .dt (.int n) => match setIx j n d ρ with
    | some ρ' => .nx ρ'
    | none => .bad
  | _, _, _ => .bad
def augD (i : Nat) (g : D → D → Option D) (x : D) (o : Option D) (ρ : Fm) : SO := zN (o1 (fun z => putS i (.dt z) ρ) (o1 (g x) o))
def augS (i : Nat) (g : D → D → Option D) (F : Fm → Out RV) (s : Option Sl) (ρ : Fm) : SO := match s with
  | some (.dt x) => (F ρ).sbind fun r ρ => augD i g x (r.get ρ) ρ
  | _ => .bad
def forD (vws : List Nat) (ds : List D) (put : PutF) (S : Fm → SO) (ρ1 : Fm) : SO := zI (noIo vws ρ1) (unlk (reK vws 0 ρ1) (loopD put S ds (lockG vws 0 ρ1))) .bad
/-- how a call's outcome goes on -/
def callZ (ioi : Option Nat) (rs : List RV) (ρ : Fm) : FO → Out RV
  | .ok r b => zI (isVw r || !noLs b || (!(views ioi 0 rs).isEmpty && !rvNoL r)) .bad (.ok r (setIo (ioSlot ioi rs) b ρ))
  | .ex c f d b => zI (!noLs b || (!(views ioi 0 rs).isEmpty && !noL d)) .bad (.ex c f d (setIo (ioSlot ioi rs) b ρ))
  | .bad => .bad
def kC (ioi : Option Nat) (rs : List RV) (ρ : Fm) (Q : Out RV → Prop) : FO → Prop := fun o => Q (callZ ioi rs ρ o)
def kD (Q : Out RV → Prop) : Out RV → Prop := fun o => Q (dropS o)
def kU (g : Fm → Fm) (Q : SO → Prop) : SO → Prop := fun o => Q (unlk g o)
def retZ (ioi : Option Nat) : SO → FO
  | .nx ρ => .ok (.dt .non) (bagOf ioi ρ)
  | .rt r ρ => match retOf r ρ with
    | some r => .ok r (bagOf ioi ρ)
    | none => .bad
  | .ex c f d ρ => .ex c f d (bagOf ioi ρ)
  | _ => .bad
def kR (ioi : Option Nat) (Q : FO → Prop) : SO → Prop := fun o => Q (retZ ioi o)
def retY (o : Option RV) (b : List D) : FO := match o with
  | some r => .ok r b
  | none => .bad
section
variable {α β : Type} {F G J : Fm → Out RV} {A B : Fm → Out (List RV)} {P R : Fm → Out Bool} {S T : Fm → SO} {ρ : Fm} {Q : Out RV → Prop} {QA : Out (List RV) → Prop} {QB : Out Bool → Prop} {QS : SO → Prop} {QF : FO → Prop} {g g' : D → D → Option D}
theorem w_bind {o : Out α} {G : α → Fm → Out β} {Q : Out β → Prop} : WP (o.bind G) Q = WP o (kB G Q) := rfl
theorem w_sbind {o : Out α} {G : α → Fm → SO} : WP (o.sbind G) QS = WP o (kS G QS) := rfl
theorem w_okB {a : α} {G : α → Fm → Out β} {Q : Out β → Prop} : WP (.ok a ρ) (kB G Q) = WP (G a ρ) Q := rfl
theorem w_exB {c f : Str} {d : D} {G : α → Fm → Out β} {Q : Out β → Prop} : WP (.ex c f d ρ) (kB G Q) = WP (.ex c f d ρ) Q := rfl
theorem w_okS {a : α} {G : α → Fm → SO} : WP (.ok a ρ) (kS G QS) = WP (G a ρ) QS := rfl
theorem w_exS {c f : Str} {d : D} {G : α → Fm → SO} : WP (.ex c f d ρ) (kS G QS) = WP (.ex c f d ρ) QS := rfl
theorem w_nxT : WP (.nx ρ) (kT T QS) = WP (T ρ) QS := rfl
theorem w_rtT {r : RV} : WP (.rt r ρ) (kT T QS) = WP (.rt r ρ) QS := rfl
theorem w_bkT : WP (.bk ρ) (kT T QS) = WP (.bk ρ) QS := rfl
theorem w_ctT : WP (.ct ρ) (kT T QS) = WP (.ct ρ) QS := rfl
theorem w_exT {c f : Str} {d : D} : WP (.ex c f d ρ) (kT T QS) = WP (.ex c f d ρ) QS := rfl
theorem w_zI_t {x y : α} {Q : α → Prop} : WP (zI true x y) Q = WP x Q := rfl
theorem w_zI_f {x y : α} {Q : α → Prop} : WP (zI false x y) Q = WP y Q := rfl
theorem w_zR {z : D} : WP (zR (some z) ρ) Q = WP (.ok (.dt z) ρ) Q := rfl
theorem w_zRT {z : Bool} : WP (zRT (some z) ρ) QB = WP (.ok z ρ) QB := rfl
theorem w_zF {z : List D} : WP (zF (some z) ρ) Q = WP (.ok (.fr z) ρ) Q := rfl
theorem w_zN : WP (zN (some ρ)) QS = WP (.nx ρ) QS := rfl
theorem w_zM : WP (zM (some ρ)) Q = WP (.ok (.dt .non) ρ) Q := rfl
theorem w_fC {d : D} : WP (fC d ρ) Q = WP (.ok (.dt d) ρ) Q := rfl
theorem w_fOp : WP (fOp g F G ρ) Q = WP (F ρ) (kB (fun r ρ => (G ρ).bind fun s ρ => zR (o2 g (r.get ρ) (s.get ρ)) ρ) Q) := by
  show Q _ = Q _
  congr 1
  unfold fOp
  congr 1
  funext r ρ
  congr 1
  funext s ρ
  cases r.get ρ <;> cases s.get ρ <;> first | rfl | (rename_i x y; show (match g x y with | some z => _ | none => _) = zR (g x y) ρ; cases g x y <;> rfl)
theorem w_fAdd : WP (fAdd F G ρ) Q = WP (F ρ) (kB (fun r ρ => (G ρ).bind fun s ρ => addD (r.get ρ) (s.get ρ) ρ) Q) := rfl
theorem w_fChain : WP (fChain g g' F G J ρ) Q = WP (F ρ) (kB (fun r ρ => (G ρ).bind fun s ρ => chD g g' s J ρ (o2 g (r.get ρ) (s.get ρ))) Q) := by
  show Q _ = Q _
  congr 1
  unfold fChain
  congr 1
  funext r ρ
  congr 1
  funext s ρ
  cases r.get ρ with
  | none => rfl
  | some x =>
    cases s.get ρ with
    | none => rfl
    | some y =>
      show (match g x y with | some (.bl k) => _ | _ => _) = chD g g' s J ρ (g x y)
      cases g x y with
      | none => rfl
      | some z =>
        cases z <;> try rfl
        rename_i k
        show (if k then _ else _) = zI k _ _
        unfold zI
        congr 2
        funext t ρ
        cases s.get ρ <;> cases t.get ρ <;> first | rfl | (rename_i x y; show (match g' x y with | some z => _ | none => _) = zR (g' x y) ρ; cases g' x y <;> rfl)
theorem w_fTest : WP (fTest F ρ) QB = WP (F ρ) (kB testD QB) := rfl
theorem w_testD {k : Bool} : WP (testD (.dt (.bl k)) ρ) QB = WP (.ok k ρ) QB := rfl
theorem w_fTru : WP (fTru F ρ) QB = WP (F ρ) (kB (fun r ρ => zRT (o1 tru (r.get ρ)) ρ) QB) := by
  show QB _ = QB _
  congr 1
  unfold fTru
  congr 1
  funext r ρ
  cases r.get ρ <;> first | rfl | (rename_i x; show (match tru x with | some z => _ | none => _) = zRT (tru x) ρ; cases tru x <;> rfl)
theorem w_fUn {g : D → Option D} : WP (fUn g F ρ) Q = WP (F ρ) (kB (fun r ρ => zR (o1 g (r.get ρ)) ρ) Q) := by
  show Q _ = Q _
  congr 1
  unfold fUn
  congr 1
  funext r ρ
  cases r.get ρ <;> first | rfl | (rename_i x; show (match g x with | some z => _ | none => _) = zR (g x) ρ; cases g x <;> rfl)
theorem w_fNotT : WP (fNotT P ρ) QB = WP (P ρ) (kB (fun k ρ => .ok (!k) ρ) QB) := rfl
theorem w_fAndT : WP (fAndT P R ρ) QB = WP (P ρ) (kB (fun k ρ => zI k (R ρ) (.ok false ρ)) QB) := rfl
theorem w_fOrT : WP (fOrT P R ρ) QB = WP (P ρ) (kB (fun k ρ => zI k (.ok true ρ) (R ρ)) QB) := rfl
theorem w_fIf : WP (fIf P F G ρ) Q = WP (P ρ) (kB (fun k ρ => zI k (F ρ) (G ρ)) Q) := rfl
theorem w_fAnd : WP (fAnd F G ρ) Q = WP (F ρ) (kB (fun r ρ => andD G r ρ (o1 tru (r.get ρ))) Q) := by
  show Q _ = Q _
  congr 1
  unfold fAnd
  congr 1
  funext r ρ
  cases r.get ρ <;> first | rfl | (rename_i x; show (match tru x with | some z => _ | none => _) = andD G r ρ (tru x); cases tru x <;> rfl)
theorem w_fOr : WP (fOr F G ρ) Q = WP (F ρ) (kB (fun r ρ => orD G r ρ (o1 tru (r.get ρ))) Q) := by
  show Q _ = Q _
  congr 1
  unfold fOr
  congr 1
  funext r ρ
  cases r.get ρ <;> first | rfl | (rename_i x; show (match tru x with | some z => _ | none => _) = orD G r ρ (tru x); cases tru x <;> rfl)
theorem w_aNil : WP (aNil ρ) QA = WP (.ok [] ρ) QA := rfl
theorem w_aCons : WP (aCons F A ρ) QA = WP (F ρ) (kB (fun r ρ => (A ρ).bind fun rs ρ => .ok (r :: rs) ρ) QA) := rfl
theorem w_fTup : WP (fTup A ρ) Q = WP (A ρ) (kB (fun rs ρ => zR (o1 (fun ds => some (.tup ds)) (toDs rs)) ρ) Q) := by
  show Q _ = Q _
  congr 1
  unfold fTup
  congr 1
  funext r ρ
  cases toDs r <;> rfl
theorem w_fLst : WP (fLst A ρ) Q = WP (A ρ) (kB (fun rs ρ => zF (toDs rs) ρ) Q) := rfl
theorem w_fIx : WP (fIx F G ρ) Q = WP (F ρ) (kB (fun r ρ => (G ρ).bind fun s ρ => zR (o2 gIx (r.get ρ) (s.get ρ)) ρ) Q) := w_fOp (g := gIx)
theorem w_oNone {Q : Out (Option Int) → Prop} : WP (oNone ρ) Q = WP (.ok none ρ) Q := rfl
theorem w_oSome {Q : Out (Option Int) → Prop} : WP (oSome F ρ) Q = WP (F ρ) (kB someI Q) := rfl
theorem w_someI {i : Int} {Q : Out (Option Int) → Prop} : WP (someI (.dt (.int i)) ρ) Q = WP (.ok (some i) ρ) Q := rfl
theorem w_fSl {L U : Fm → Out (Option Int)} : WP (fSl F L U ρ) Q = WP (F ρ) (kB (fun r ρ => (L ρ).bind fun lo ρ => (U ρ).bind fun hi ρ => slD lo hi (r.get ρ) ρ) Q) := rfl
theorem w_fCB {g : List D → Option D} : WP (fCB g A ρ) Q = WP (A ρ) (kB (fun rs ρ => zR (o1 g (gets ρ rs)) ρ) Q) := by
  show Q _ = Q _
  congr 1
  unfold fCB
  congr 1
  funext r ρ
  cases gets ρ r <;> first | rfl | (rename_i x; show (match g x with | some z => _ | none => _) = zR (g x) ρ; cases g x <;> rfl)
theorem w_fCS {g : D → Option (List D)} : WP (fCS g F ρ) Q = WP (F ρ) (kB (fun r ρ => csD g (r.get ρ) ρ) Q) := rfl
theorem w_fTupOf : WP (fTupOf F ρ) Q = WP (F ρ) (kB (fun r ρ => zR (o1 (fun ds => some (.tup ds)) (o1 seqD (r.get ρ))) ρ) Q) := by
  show Q _ = Q _
  congr 1
  unfold fTupOf
  congr 1
  funext r ρ
  cases r.get ρ <;> first | rfl | (rename_i x; show (match seqD x with | some z => _ | none => _) = _; cases h : seqD x <;> simp [o1, zR, h])
theorem w_fMU {i : Nat} {g : List D → List D → Option (List D)} : WP (fMU i g A ρ) Q = WP (fV i ρ) (kB (muD g A) Q) := by
  show Q _ = Q _
  congr 1
  unfold fMU
  congr 1
  funext o ρ
  cases o <;> try rfl
  rename_i j
  show _ = (A ρ).bind _
  dsimp only
  congr 1
  funext rs ρ
  cases toDs rs <;> first | rfl | (rename_i x; show (match updS j (fun ds => g ds x) ρ with | some z => _ | none => _) = zM (updS j (fun ds => g ds x) ρ); cases updS j (fun ds => g ds x) ρ <;> rfl)
theorem w_muD {j : Nat} {g : List D → List D → Option (List D)} : WP (muD g A (.vw j) ρ) Q = WP (A ρ) (kB (fun rs ρ => zM (o1 (fun args => updS j (fun ds => g ds args) ρ) (toDs rs))) Q) := rfl
theorem w_fCall {ioi : Option Nat} {f : List D → FO} {is : List Nat} {dds : List D} : WP (fCall ioi f is dds A B ρ) Q = WP (A ρ) (kB (fun rs ρ => (B ρ).bind fun ss ρ => callX ioi (fun ds => f (pickL is (ds ++ dds))) [] (rs ++ ss) ρ) Q) := rfl
/-- the call: the arguments' data -/
theorem callF_eq {ioi : Option Nat} {f : List D → FO} {rs : List RV} {ds : List D} (h : argDs ρ ioi 0 rs = some ds) (hv : (views ioi 0 rs).any (fun i => ioSlot ioi rs == some i) = false) : callF ioi f [] rs ρ = callZ ioi rs ρ (f ds) := by
  unfold callF
  rw [h]
  simp only [hv, List.append_nil]
  cases f ds <;> rfl
theorem w_callN {f : List D → FO} {is : List Nat} {dds ds es : List D} {rs : List RV} (h : argDs ρ none 0 rs = some ds) (hp : pickL is (ds ++ dds) = es) (q : WP (f es) (kC none rs ρ Q)) : WP (callX none (fun ds => f (pickL is (ds ++ dds))) [] rs ρ) Q := by
  subst hp
  show Q (callF none (fun ds => f (pickL is (ds ++ dds))) [] rs ρ)
  rw [callF_eq h (by
    rw [List.any_eq_false]
    intro x _
    simp [ioSlot])]
  exact q
theorem w_callI {f : List D → FO} {is : List Nat} {j : Nat} {dds ds es : List D} {rs : List RV} {i : Nat} (hj : rs[j]? = some (.vw i)) (h : argDs ρ (some j) 0 rs = some ds) (hp : pickL is (ds ++ dds) = es) (hv : (views (some j) 0 rs).any (fun i => ioSlot (some j) rs == some i) = false) (q : WP (f es) (kC (some j) rs ρ Q)) : WP (callX (some j) (fun ds => f (pickL is (ds ++ dds))) [] rs ρ) Q := by
  subst hp
  unfold callX
  dsimp only
  rw [hj]
  show Q (callF (some j) (fun ds => f (pickL is (ds ++ dds))) [] rs ρ)
  rw [callF_eq h hv]
  exact q
theorem w_callF {f : List D → FO} {is : List Nat} {j : Nat} {dds ds es ls : List D} {rs : List RV} (hj : rs[j]? = some (.fr ls)) (h : argDs (ρ ++ [.ow 0 ls]) (some j) 0 (rs.set j (.vw ρ.length)) = some ds) (hp : pickL is (ds ++ dds) = es)
    (hv : (views (some j) 0 (rs.set j (.vw ρ.length))).any (fun i => ioSlot (some j) (rs.set j (.vw ρ.length)) == some i) = false) (q : WP (f es) (kC (some j) (rs.set j (.vw ρ.length)) (ρ ++ [.ow 0 ls]) (kD Q))) : WP (callX (some j) (fun ds => f (pickL is (ds ++ dds))) [] rs ρ) Q := by
  subst hp
  unfold callX
  dsimp only
  rw [hj]
  show Q (dropS (callF (some j) (fun ds => f (pickL is (ds ++ dds))) [] _ _))
  rw [callF_eq h hv]
  exact q
theorem w_okC {ioi : Option Nat} {rs : List RV} {r : RV} {b : List D} : WP (FO.ok r b) (kC ioi rs ρ Q) = WP (zI (isVw r || !noLs b || (!(views ioi 0 rs).isEmpty && !rvNoL r)) .bad (.ok r (setIo (ioSlot ioi rs) b ρ))) Q := rfl
theorem w_exC {ioi : Option Nat} {rs : List RV} {c f : Str} {d : D} {b : List D} : WP (FO.ex c f d b) (kC ioi rs ρ Q) = WP (zI (!noLs b || (!(views ioi 0 rs).isEmpty && !noL d)) .bad (.ex c f d (setIo (ioSlot ioi rs) b ρ))) Q := rfl
theorem w_okD {r : RV} : WP (Out.ok r ρ) (kD Q) = WP (.ok r ρ.dropLast) Q := rfl
theorem w_exD {c f : Str} {d : D} : WP (Out.ex c f d ρ) (kD Q) = WP (.ex c f d ρ.dropLast) Q := rfl
theorem w_run {ioi : Option Nat} {m : Nat} {ds : List D} : WP (runF ioi m S ds) QF = WP (S (entry ioi m ds)) (kR ioi QF) := by
  show QF (runF ioi m S ds) = QF (retZ ioi (S (entry ioi m ds)))
  unfold runF
  cases S (entry ioi m ds) <;> rfl
theorem w_nxR {ioi : Option Nat} : WP (.nx ρ) (kR ioi QF) = WP (.ok (.dt .non) (bagOf ioi ρ)) QF := rfl
theorem w_rtR {ioi : Option Nat} {r : RV} : WP (.rt r ρ) (kR ioi QF) = WP (retY (retOf r ρ) (bagOf ioi ρ)) QF := by
  show QF (match retOf r ρ with | some r => _ | none => _) = QF (match retOf r ρ with | some r => _ | none => _)
  cases retOf r ρ <;> rfl
theorem w_retY {r : RV} {b : List D} : WP (retY (some r) b) QF = WP (.ok r b) QF := rfl
theorem w_exR {ioi : Option Nat} {c f : Str} {d : D} : WP (.ex c f d ρ) (kR ioi QF) = WP (.ex c f d (bagOf ioi ρ)) QF := rfl
/-! ### statements -/
theorem w_sNil : WP (sNil ρ) QS = WP (.nx ρ) QS := rfl
theorem w_sSeq : WP (sSeq S T ρ) QS = WP (S ρ) (kT T QS) := rfl
theorem w_sExpr : WP (sExpr F ρ) QS = WP (F ρ) (kS (fun _ ρ => .nx ρ) QS) := rfl
theorem w_sRet : WP (sRet F ρ) QS = WP (F ρ) (kS (fun r ρ => .rt r ρ) QS) := rfl
theorem w_sIf : WP (sIf P S T ρ) QS = WP (P ρ) (kS (fun k ρ => zI k (S ρ) (T ρ)) QS) := rfl
theorem w_sSet {i : Nat} : WP (sSet i F ρ) QS = WP (F ρ) (kS (fun r ρ => zN (setS i r ρ)) QS) := rfl
theorem w_sPar {is : List Nat} : WP (sPar is A ρ) QS = WP (A ρ) (kS (fun rs ρ => zN (setAll is rs ρ)) QS) := rfl
theorem w_sTg {p : PutF} : WP (sTg p F ρ) QS = WP (F ρ) (kS (fun r ρ => tgD p r ρ) QS) := rfl
theorem w_tgD {p : PutF} {d : D} : WP (tgD p (.dt d) ρ) QS = WP (zN (p d ρ)) QS := rfl
theorem w_sSub {i : Nat} : WP (sSub F i G ρ) QS = WP (F ρ) (kS (fun r ρ => (fV i ρ).sbind fun o ρ => (G ρ).sbind fun s ρ => subD r o s ρ) QS) := rfl
theorem w_subD {d : D} {j : Nat} {n : Int} : WP (subD (.dt d) (.vw j) (.dt (.int n)) ρ) QS = WP (zN (setIx j n d ρ)) QS := rfl
theorem w_subF {d : List D} {j : Nat} {n : Int} : WP (subD (.fr d) (.vw j) (.dt (.int n)) ρ) QS = WP (zN (setIx j n (.lst d) ρ)) QS := rfl
theorem w_sAug {i : Nat} : WP (sAug i g F ρ) QS = WP (augS i g F ρ[i]? ρ) QS := by
  show QS _ = QS _
  congr 1
  unfold sAug augS
  cases ρ[i]? with
  | none => rfl
  | some s =>
    cases s <;> try rfl
    rename_i x
    dsimp only
    congr 1
    funext r ρ
    unfold augD
    cases r.get ρ with
    | none => rfl
    | some y =>
      show (match g x y with | some z => _ | none => _) = zN (o1 _ (g x y))
      cases g x y with
      | none => rfl
      | some z => rfl
theorem w_augS {i : Nat} {x : D} : WP (augS i g F (some (.dt x)) ρ) QS = WP (F ρ) (kS (fun r ρ => augD i g x (r.get ρ) ρ) QS) := rfl
theorem w_augD {i : Nat} {x y : D} : WP (augD i g x (some y) ρ) QS = WP (zN (o1 (fun z => putS i (.dt z) ρ) (g x y))) QS := rfl
theorem w_sFor {Fs : SrcF} {put : PutF} : WP (sFor Fs put S ρ) QS = WP (Fs ρ) (kS (fun p ρ1 => forD p.2 p.1 put S ρ1) QS) := rfl
theorem w_forD {vws : List Nat} {ds : List D} {put : PutF} (h : noIo vws ρ = true) (q : WP (loopD put S ds (lockG vws 0 ρ)) (kU (reK vws 0 ρ) QS)) : WP (forD vws ds put S ρ) QS := by
  unfold forD
  rw [h]
  exact q
theorem w_nxU {g : Fm → Fm} : WP (.nx ρ) (kU g QS) = WP (.nx (g ρ)) QS := rfl
theorem w_rtU {g : Fm → Fm} {r : RV} : WP (.rt r ρ) (kU g QS) = WP (.rt r (g ρ)) QS := rfl
theorem w_exU {g : Fm → Fm} {c f : Str} {d : D} : WP (.ex c f d ρ) (kU g QS) = WP (.ex c f d (g ρ)) QS := rfl
theorem w_sSrc {QP : Out (List D × List Nat) → Prop} : WP (sSrc F ρ) QP = WP (F ρ) (kB (fun r ρ => srcZ id r (o1 seqD (r.get ρ)) ρ) QP) := by
  show QP _ = QP _
  congr 1
  unfold sSrc
  congr 1
  funext r ρ
  cases r.get ρ <;> first | rfl | (rename_i x; show (match seqD x with | some z => _ | none => _) = _; cases h : seqD x <;> simp [o1, srcZ, h])
theorem w_eSrc {QP : Out (List D × List Nat) → Prop} : WP (eSrc F ρ) QP = WP (F ρ) (kB (fun r ρ => srcZ (enumD 0) r (o1 seqD (r.get ρ)) ρ) QP) := by
  show QP _ = QP _
  congr 1
  unfold eSrc
  congr 1
  funext r ρ
  cases r.get ρ <;> first | rfl | (rename_i x; show (match seqD x with | some z => _ | none => _) = _; cases h : seqD x <;> simp [o1, srcZ, h])
theorem w_srcZ {QP : Out (List D × List Nat) → Prop} {h : List D → List D} {r : RV} {ds : List D} : WP (srcZ h r (some ds) ρ) QP = WP (.ok (h ds, vwOf r) ρ) QP := rfl
def rngD (rs : List RV) (ρ : Fm) : Out (List D × List Nat) := match rs with
  | [.dt (.int j)] => if -(2 ^ 62) ≤ j ∧ j < 2 ^ 62 then .ok (rangeD 0 j.toNat, []) ρ else .bad
  | [.dt (.int i), .dt (.int j)] => if -(2 ^ 62) ≤ i ∧ i < 2 ^ 62 ∧ -(2 ^ 62) ≤ j ∧ j < 2 ^ 62 then .ok (rangeD i (j - i).toNat, []) ρ else .bad
  | _ => .bad
theorem w_rSrc {QP : Out (List D × List Nat) → Prop} : WP (rSrc A ρ) QP = WP (A ρ) (kB rngD QP) := rfl
theorem w_rng1 {QP : Out (List D × List Nat) → Prop} {j : Int} (h0 : -(2 ^ 62) ≤ j) (h1 : j < 2 ^ 62) (q : WP (.ok (rangeD 0 j.toNat, []) ρ) QP) : WP (rngD [.dt (.int j)] ρ) QP := by
  show QP (if _ then _ else _)
  rw [if_pos ⟨h0, h1⟩]
  exact q
theorem w_rng2 {QP : Out (List D × List Nat) → Prop} {i j : Int} (g0 : -(2 ^ 62) ≤ i) (g1 : i < 2 ^ 62) (h0 : -(2 ^ 62) ≤ j) (h1 : j < 2 ^ 62) (q : WP (.ok (rangeD i (j - i).toNat, []) ρ) QP) : WP (rngD [.dt (.int i), .dt (.int j)] ρ) QP := by
  show QP (if _ then _ else _)
  rw [if_pos ⟨g0, g1, h0, h1⟩]
  exact q
/-! ### tests -/
theorem w_dec {x y : α} {p : Prop} [Decidable p] {Q : α → Prop} (h1 : p → WP x Q) (h2 : ¬ p → WP y Q) : WP (zI (decide p) x y) Q := by
  by_cases h : p
  · rw [decide_eq_true h]
    exact h1 h
  · rw [decide_eq_false h]
    exact h2 h
theorem w_ndec {x y : α} {p : Prop} [Decidable p] {Q : α → Prop} (h1 : ¬ p → WP x Q) (h2 : p → WP y Q) : WP (zI (!decide p) x y) Q := by
  by_cases h : p
  · rw [decide_eq_true h]
    exact h2 h
  · rw [decide_eq_false h]
    exact h1 h
theorem w_dT {x y : α} {p : Prop} [Decidable p] {Q : α → Prop} (h : p) (h1 : WP x Q) : WP (zI (decide p) x y) Q := w_dec (fun _ => h1) fun z => absurd h z
theorem w_dF {x y : α} {p : Prop} [Decidable p] {Q : α → Prop} (h : ¬ p) (h1 : WP y Q) : WP (zI (decide p) x y) Q := w_dec (fun z => absurd z h) fun _ => h1
theorem w_bool {x y : α} {k : Bool} {Q : α → Prop} (h1 : k = true → WP x Q) (h2 : k = false → WP y Q) : WP (zI k x y) Q := by
  cases k
  · exact h2 rfl
  · exact h1 rfl
/-! ### loops -/
def kL (I : List D → Fm → Prop) (rest : List D) (Q : SO → Prop) : SO → Prop
  | .nx ρ => I rest ρ
  | .ct ρ => I rest ρ
  | .bk ρ => Q (.nx ρ)
  | o => Q o
def kP (S : Fm → SO) (Q : SO → Prop) : SO → Prop
  | .nx ρ1 => WP (S ρ1) Q
  | _ => False
theorem w_nxP : WP (.nx ρ) (kP S QS) = WP (S ρ) QS := rfl
theorem w_loop {put : PutF} (I : List D → Fm → Prop) (hs : ∀ d rest ρ, I (d :: rest) ρ → WP (zN (put d ρ)) (kP S (kL I rest QS))) (he : ∀ ρ, I [] ρ → WP (.nx ρ) QS) : ∀ (ds : List D) (ρ : Fm), I ds ρ → WP (loopD put S ds ρ) QS
  | [], ρ, h => he ρ h
  | d :: ds, ρ, h => by
    have q := hs d ds ρ h
    show QS (loopD put S (d :: ds) ρ)
    unfold loopD
    cases e : put d ρ with
    | none =>
      rw [e] at q
      exact False.elim q
    | some ρ1 =>
    rw [e] at q
    dsimp only
    have q : kL I ds QS (S ρ1) := q
    cases e2 : S ρ1 with
    | nx ρ2 => rw [e2] at q; exact w_loop I hs he ds ρ2 q
    | ct ρ2 => rw [e2] at q; exact w_loop I hs he ds ρ2 q
    | bk ρ2 => rw [e2] at q; exact q
    | rt r ρ2 => rw [e2] at q; exact q
    | ex c f x ρ2 => rw [e2] at q; exact q
    | bad => rw [e2] at q; exact q
theorem w_nxL {I : List D → Fm → Prop} {rest : List D} : WP (.nx ρ) (kL I rest QS) = I rest ρ := rfl
theorem w_ctL {I : List D → Fm → Prop} {rest : List D} : WP (.ct ρ) (kL I rest QS) = I rest ρ := rfl
theorem w_bkL {I : List D → Fm → Prop} {rest : List D} : WP (.bk ρ) (kL I rest QS) = WP (.nx ρ) QS := rfl
theorem w_rtL {I : List D → Fm → Prop} {rest : List D} {r : RV} : WP (.rt r ρ) (kL I rest QS) = WP (.rt r ρ) QS := rfl
theorem w_exL {I : List D → Fm → Prop} {rest : List D} {c f : Str} {d : D} : WP (.ex c f d ρ) (kL I rest QS) = WP (.ex c f d ρ) QS := rfl
end
end DL

namespace DL
open PySem PySem.Spec PyProof.Rows L2
/-! ### set(l) of a list of ints; sorted(s) of a set of ints, any number of them -/
section
variable {P : Program} {w : World} {A : Around} {E : Value → Shared → Prop} {s : Shared}
set_option maxHeartbeats 3200000 in
theorem call_set_lstI {l : Addr} {items : Array Value} (ns : List Int) {Q : Value → Shared → Prop} (hh : A.handled = none) (hl : s.heap.IsList l items) (hit : IntsAre items.toList ns) (hb : ns.length + 1 < scanBound)
    (h : ∀ (h' : Heap) (tk c : Nat), SetR w h' s.heap.objs.size (fun j => decide (j ∈ ns)) c → c ≤ ns.length → (∀ b o, s.heap.get? b = some o → h'.get? b = some o) → Q (.ref s.heap.objs.size) { s with heap := h', toks := tk }) :
    wpAny (model P w) A (call (.type "set") [.ref l]) Q E s := by
  have hisz : items.size = ns.length := by
    have q := IntsAre.length hit
    rw [Array.length_toList] at q
    exact q
  obtain ⟨c, tl, hmro⟩ := F.called_set.mro
  have hmade := F.called_set.made
  have hsub := F.called_set.sub
  refine wpAny_call (codeAny_of_tree ?_)
  show wpAny _ _ (callAny (.type "set") _) _ _ _
  refine wpAny_pure ⟨Code.quiet_builtin _ (by decide +kernel), codeAny_builtin F.entry_type_call ?_⟩
  rw [Around.under_plain (weight_type_call_type "set" [.ref l] []) rfl]
  have h1 := F.called_set.notType
  have h2 := F.called_set.canCreate
  have hct := F.typeCall_set_1 (.ref l)
  repeat (any_goals (first | assumption | wp_step))

  refine codeAny_mono (code_set_led1 (.ref l) (E := E) (Q₁ := fun obj s₁ => obj = .ref s.heap.objs.size ∧ s₁ = { s with heap := s.heap.push { cls := .type "set", dict := none, data := .set #[] 0 (.fresh 0 0 (!w.params.followText "set-order")) } }) ⟨rfl, rfl⟩) fun r s₁ hr => ?_
  cases r with
  | error e => exact hr
  | ok fl =>
    cases fl with
    | ret obj =>
      obtain ⟨rfl, rfl⟩ := hr
      have hS : (s.heap.push { cls := .type "set", dict := none, data := .set #[] 0 (.fresh 0 0 (!w.params.followText "set-order")) }).get? s.heap.objs.size = some { cls := .type "set", dict := none, data := .set #[] 0 (.fresh 0 0 (!w.params.followText "set-order")) } := Heap.get?_push_size _ rfl
      have hT : Shared.TypeIs { s with heap := s.heap.push { cls := .type "set", dict := none, data := .set #[] 0 (.fresh 0 0 (!w.params.followText "set-order")) } } (.ref s.heap.objs.size) "set" := ⟨_, hS, rfl⟩
      have hli := F.called_set.init.lookup
      have hbi := F.called_set.init.bind (.ref s.heap.objs.size)
      repeat (any_goals (first | assumption | wp_step))

      refine codeAny_mono (codeAny_call_builtin (R := wants (fun r s₂ => r = .none ∧ ∃ h' tk c, s₂ = { s with heap := h', toks := tk } ∧ SetR w h' s.heap.objs.size (fun j => decide (j ∈ ns)) c ∧ c ≤ ns.length ∧
          (∀ b o, s.heap.get? b = some o → h'.get? b = some o)) E) F.called_set.init.plain F.entry_set_init (check_set_init_1 hT ?_)) fun r₂ s₂ hr₂ => ?_
      · obtain ⟨ol, hol, hcl, nl, hdl⟩ := hl
        obtain ⟨ocls, odict, odata, oslots⟩ := ol
        simp only at hcl hdl
        subst hcl; subst hdl
        have hol' : (s.heap.push { cls := .type "set", dict := none, data := .set #[] 0 (.fresh 0 0 (!w.params.followText "set-order")) }).get? l = some { cls := .type "list", dict := odict, data := .seq items nl, slots := oslots } := Heap.get?_push_of_some _ hol
        have hsls := F.sub_list_set
        have hslf := F.sub_list_frozenset
        have hne : (Value.type "list" == Value.type "dict") = false := by decide
        have hl1 : (s.heap.push { cls := .type "set", dict := none, data := .set #[] 0 (.fresh 0 0 (!w.params.followText "set-order")) }).IsList l items := ⟨_, hol', rfl, nl, rfl⟩
        unfold Builtin.«set.__init__» noKeywords Builtin.Frozenset.updateFrom
        generalize hPI : pyIter = PI
        wp_walk
        subst hPI

        refine wpAny_pyIter_list hl1 ?_
        refine wpAny_bind (wpAny_runValue ?_)
        have hlS : l < s.heap.objs.size := Heap.lt_size hol
        have hh3 : A.in1.in1.in1.handled = none := by simp [hh]
        have hz1 : (s.heap.push { cls := .type "set", dict := none, data := .set #[] 0 (.fresh 0 0 (!w.params.followText "set-order")) }).objs.size = s.heap.objs.size + 1 := Heap.size_push ..
        have hneI : l ≠ (s.heap.push { cls := .type "set", dict := none, data := .set #[] 0 (.fresh 0 0 (!w.params.followText "set-order")) }).objs.size := by
          rw [Heap.size_push]; exact Nat.ne_of_lt (Nat.lt_succ_of_lt hlS)
        have hSf : s.heap.objs.size ∉ [(s.heap.push { cls := .type "set", dict := none, data := .set #[] 0 (.fresh 0 0 (!w.params.followText "set-order")) }).objs.size, l] := by
          rw [Heap.size_push]; simp only [List.mem_cons, List.mem_singleton, List.not_mem_nil, or_false, not_or]
          exact ⟨Nat.ne_of_lt (Nat.lt_succ_self _), Nat.ne_of_gt hlS⟩
        have hval : ∀ (i : Nat) (v : Value), items[i]? = some v → ∃ k t, ns[i]? = some k ∧ v = .int k t := fun i v hv => by
          have hi : i < ns.length := by rw [← hisz]; exact (Array.getElem?_eq_some_iff.mp hv).1
          obtain ⟨t, e⟩ := PyProof.Rows.IntsAre.int_at hit i v (by rw [Array.getElem?_toList]; exact hv)
          refine ⟨ns[i], t, List.getElem?_eq_getElem hi, ?_⟩
          rw [e, List.getD_eq_getElem?_getD, List.getElem?_eq_getElem hi] <;> rfl
        refine set_update_ints ((Walks.list hh3 _ l hneI items).toS) s.heap.objs.size
          hSf ns hisz hb hval (items.size - 0) 0 _ (by omega) (Nat.zero_le _)
          ⟨⟨_, Heap.get?_push_size _ rfl, rfl, rfl⟩, (hl1.push _)⟩ ?hS0 ?hR
        case hS0 =>
          have hget : ((s.heap.push { cls := .type "set", dict := none, data := .set #[] 0 (.fresh 0 0 (!w.params.followText "set-order")) }).push { cls := .type "list_iterator", data := .fields #[.ref l, .int 0 0] }).get? s.heap.objs.size
              = some { cls := .type "set", dict := none, data := .set #[] 0 (.fresh 0 0 (!w.params.followText "set-order")) } := Heap.get?_push_of_some _ hS
          exact ⟨0, Nat.le_refl 0, setR_new_at hget⟩
        case hR =>
          intro s' c' hm hc' hS'
          obtain ⟨h', g2, d', tk', os'⟩ := s'
          have eg : g2 = s.gens := hm.gens
          have ed : d' = s.drawn := hm.drawn
          have eo : os' = s.os := hm.os
          subst eg; subst ed; subst eo
          show wpAny _ _ _ _ _ _
          refine wpAny_pure ?_
          show wpAny _ _ (ret Value.none) _ _ _
          rw [hisz] at hc'
          refine wpAny_pure ⟨rfl, h', tk', c', rfl, hS', hc', fun b o e => ?_⟩
          have hb0 : b < s.heap.objs.size := Heap.lt_size e
          have hb1 : b ≠ s.heap.objs.size := Nat.ne_of_lt hb0
          have hb2 : b ≠ (s.heap.push { cls := .type "set", dict := none, data := .set #[] 0 (.fresh 0 0 (!w.params.followText "set-order")) }).objs.size := by
            rw [Heap.size_push]; exact Nat.ne_of_lt (Nat.lt_succ_of_lt hb0)
          exact hm.heap b o (by simp only [List.mem_cons, List.mem_singleton, List.not_mem_nil, or_false, not_or]; exact ⟨hb1, hb2⟩) (Heap.get?_push_of_some _ (Heap.get?_push_of_some _ e))

      · cases r₂ with
        | error e => exact hr₂
        | ok fl₂ =>
          cases fl₂ with
          | ret r =>
            obtain ⟨rfl, h', tk, c', rfl, hS', hc', hk'⟩ := hr₂
            repeat (any_goals (first | assumption | wp_step))
            exact h _ _ _ hS' hc' hk'
          | _ => exact hr₂.elim
    | _ => exact hr.elim

theorem sorted_setO {S : Int → Bool} {n : Nat} {Q : Value → Shared → Prop} (R : SetR w s.heap a S n) (hh : A.handled = none)
    (hQ : ∀ s' p (out : Array Value) (c : Nat) (ns : List Int), (∀ b o, s.heap.get? b = some o → s'.heap.get? b = some o) → s'.gens = s.gens → s'.os = s.os → s.heap.objs.size ≤ p →
      s'.heap.get? p = some (seqObj "list" out c) → IntsAre out.toList ns → ns.Pairwise (· < ·) → (∀ k, k ∈ ns ↔ S k = true) → ns.length = n → Q (.ref p) s') :
    wpAny (model P w) A (call (.builtin "sorted") [.ref a]) Q E s := by
  obtain ⟨o, es, ep, t, ho, hex, hd, g, nd, hm, hb, hf, hn, hr, hl⟩ := R
  refine Calls.call_function_entry kind_sorted plain_sorted entry_sorted (args_sorted1 _) ?_
  unfold Builtin.«sorted»
  refine wpAny_bind (m := checkCount "sorted" 1 1 _) (wpAny_pure ?_)
  refine wpAny_bind (collect_set (A := A.in1) hh ⟨o, ho, hex.1, hd⟩ hf hb hr hl fun s1 vs k1 hz g1 o1 pm => ?_)
  have hvl : vs.length = n := by rw [pm.length_eq, List.length_map, Array.length_toList]; exact hn
  have hzl : vs.length ≤ sizeLine := by rw [hvl, ← hn]; exact fits_of_scanBound hb
  have hI : IntsAre vs (vs.map Builtin.Re.reRawOf) := ints_of vs fun v hv => by
    obtain ⟨e, he, q⟩ := List.mem_map.mp (pm.mem_iff.mp hv)
    obtain ⟨k, tk, h1, _⟩ := g e he
    exact ⟨k, tk, by rw [← q]; exact h1⟩
  have pk : (vs.map Builtin.Re.reRawOf).Perm (es.toList.map keyOf) := by
    have q := pm.map Builtin.Re.reRawOf
    rw [List.map_map] at q
    exact q
  refine wpAny_bind (wpAny_newList ?_ hzl)
  have hoL : (s1.heap.push (seqObj "list" vs.toArray 0)).get? s1.heap.objs.size = some (seqObj "list" vs.toArray 0) := Heap.get?_push_size _ rfl
  refine wpAny_bind (wpAny_holding (wpAny_call_entry slot_list_sort ⟨_, hoL, rfl⟩ entry_list_sort (SrtO.list_sort_ord SrtO.swo_int hoL hzl (fun h2 => SrtO.ints_sortable hI h2) fun out hs hst => ⟨_, rfl, ?_⟩) (args_list_sort _)))
  obtain ⟨a1, a2, a3⟩ := SrtO.ints_out hI hs hst
  obtain ⟨c, hc⟩ := sortedHeap_at (vs := vs) (out := out.toArray) hoL
  have pn : (out.map SrtO.iv).Perm (es.toList.map keyOf) := a2.trans pk
  refine wpAny_pure ⟨_, rfl, hQ _ s1.heap.objs.size out.toArray c (out.map SrtO.iv) (fun b u e => ?_) g1 o1 hz hc a1 (lt_of_le_nodup _ a3 (pn.nodup_iff.mpr nd)) (fun k => by rw [pn.mem_iff, ← hm k]) ?_⟩
  · have q := k1 b u e
    have hlt := Heap.lt_size q
    show (sortedHeap (s1.heap.push (seqObj "list" vs.toArray 0)) s1.heap.objs.size vs out.toArray).get? b = some u
    rw [sortedHeap_old (Nat.ne_of_lt hlt) (by rw [size_push']; exact Nat.lt_succ_of_lt hlt)]
    exact Heap.get?_push_of_some _ q
  · rw [pn.length_eq, List.length_map, Array.length_toList]; exact hn
end
end DL

namespace DL
open PySem L2 PyProof.Rows
/-! ### sorted(set(l)), a list of ints -/
def rSrtSet (K : PySem.W.Frag) : List V → Hp → VK → Prop := fun vs H Q => ∃ (l : Addr) (ns : List Int), vs = [.ref l] ∧ SqL K H l (ns.map V.int) ∧ ns.length ≤ 4000 ∧
  ∀ (p : Addr) (out : List Int), out.Pairwise (· < ·) → (∀ k, k ∈ out ↔ k ∈ ns) → H p = none → Q (.ref p) (upd H p (.lst (out.map V.int)))
theorem pe_srtSet {X : Cx} {a : Expr} {ta : TA} {p p2 q pos : Pos} (hg : Gl X "sorted") (hm : X.mg "sorted" = none) (hg2 : Gl X "set") (hm2 : X.mg "set" = none) (ha : PA X [a] ta) (hc : X.calm = true := by rfl)
    (na : starEach [a] X.env = (false, eval a X.env) :: starEach [] X.env := by rfl) : PE X (.Call (.Name "sorted" p) [.Call (.Name "set" p2) [a] [] q] [] pos) (tCB (rSrtSet X.K) ta) := by
  refine ⟨fun pins s σ H Q I h => ?_⟩
  refine Call_ (ld_blt I hg hm (by rfl) ?_)
  refine PyProof.Rows.callWith_builtin1 (PyProof.Rows.args_cons ?_ rfl) rfl rfl
  refine Call_ (ld_blt I hg2 hm2 boot_set ?_)
  refine PyProof.Rows.callWith_type1 (thn (ha.run q pins s σ H _ I h) fun us s1 ⟨vs, H1, I1, r1, q1⟩ => ?_) na rfl
  obtain ⟨l, ns, rfl, hq, hl, q1⟩ := q1
  cases r1 with
  | cons r rr =>
    cases rr
    cases r
    obtain ⟨its, rv, pl, hz⟩ := I1.list hq
    have hi : IntsAre its.toArray.toList ns := ints_of_vals rv
    have hd := I1.ok.hd hc
    refine call_set_lstI ns hd pl.isList hi (by unfold scanBound; omega) fun h' tk c R1 hcn k => ?_
    refine PyProof.Rows.args_nil ?_
    refine sorted_setO (s := { s1 with heap := h', toks := tk }) R1 hd fun s2 p out cc ms k2 g2 o2 hp hget hints hpw hmem hlen => ?_
    have kall : ∀ b u, s1.heap.get? b = some u → s2.heap.get? b = some u := fun b u e => k2 b u (k b u e)
    have hlt : s1.heap.objs.size < h'.objs.size := R1.lt
    have hle : s1.heap.objs.size ≤ p := Nat.le_trans (Nat.le_of_lt hlt) hp
    have hlen2 : (ms.map V.int).length ≤ sizeLine := by
      have := I1.hok.fresh hle
      rw [List.length_map, hlen]
      have z : ns.length ≤ sizeLine := by rw [sizeLine_eq]; omega
      omega
    refine ⟨.ref p, upd H1 p (.lst (ms.map V.int)), I1.call' (ch := []) o2 (Un.laid kall hle (I1.hok.fresh hle)) (I1.hok.laid kall hle ⟨hlen2, out.toList, cc, vals_of_ints hints, hget⟩) (by rw [g2]; exact I1.bare) (fun _ z => nomatch z), rfl, q1 p ms hpw (fun j => ?_) (I1.hok.fresh hle)⟩
    rw [hmem j, decide_eq_true_eq]
end DL
namespace DL
open PySem L2 PyProof.Rows
def intsD : List D → Option (List Int)
  | [] => some []
  | .int i :: ds => (intsD ds).map (i :: ·)
  | _ => none
def insI (i : Int) : List Int → List Int
  | [] => [i]
  | j :: l => if i < j then i :: j :: l else if i = j then j :: l else j :: insI i l
def sset : List Int → List Int
  | [] => []
  | i :: l => insI i (sset l)
theorem insI_mem {i k : Int} : ∀ {l : List Int}, k ∈ insI i l ↔ k = i ∨ k ∈ l
  | [] => by simp [insI]
  | j :: l => by
    unfold insI
    split
    · simp
    · split
      · rename_i h1 h2
        subst h2
        simp
      · rw [List.mem_cons, insI_mem, List.mem_cons]
        constructor
        · rintro (h | h | h)
          · exact .inr (.inl h)
          · exact .inl h
          · exact .inr (.inr h)
        · rintro (h | h | h)
          · exact .inr (.inl h)
          · exact .inl h
          · exact .inr (.inr h)
theorem insI_asc {i : Int} : ∀ {l : List Int}, l.Pairwise (· < ·) → (insI i l).Pairwise (· < ·)
  | [], _ => by simp [insI]
  | j :: l, h => by
    have h' := List.pairwise_cons.mp h
    unfold insI
    split
    · rename_i h1
      refine List.pairwise_cons.mpr ⟨fun x hx => ?_, h⟩
      rcases List.mem_cons.mp hx with rfl | hx
      · exact h1
      · exact Int.lt_trans h1 (h'.1 x hx)
    · split
      · exact h
      · refine List.pairwise_cons.mpr ⟨fun x hx => ?_, insI_asc h'.2⟩
        rcases insI_mem.mp hx with rfl | hx
        · omega
        · exact h'.1 x hx
theorem sset_mem {k : Int} : ∀ {l : List Int}, k ∈ sset l ↔ k ∈ l
  | [] => Iff.rfl
  | i :: l => by
    show k ∈ insI i (sset l) ↔ _
    rw [insI_mem, sset_mem, List.mem_cons]
theorem sset_asc : ∀ {l : List Int}, (sset l).Pairwise (· < ·)
  | [] => List.Pairwise.nil
  | i :: l => insI_asc sset_asc
theorem lt_uniq : ∀ {l m : List Int}, l.Pairwise (· < ·) → m.Pairwise (· < ·) → (∀ k, k ∈ l ↔ k ∈ m) → l = m
  | [], [], _, _, _ => rfl
  | [], j :: m, _, _, h => absurd ((h j).mpr (.head _)) (by simp)
  | i :: l, [], _, _, h => absurd ((h i).mp (.head _)) (by simp)
  | i :: l, j :: m, h1, h2, h => by
    have a := List.pairwise_cons.mp h1
    have b := List.pairwise_cons.mp h2
    have e : i = j := by
      rcases List.mem_cons.mp ((h i).mp (.head _)) with e | e
      · exact e
      · rcases List.mem_cons.mp ((h j).mpr (.head _)) with e2 | e2
        · exact e2.symm
        · have := a.1 j e2
          have := b.1 i e
          omega
    subst e
    rw [lt_uniq a.2 b.2 fun k => ⟨fun hk => ?_, fun hk => ?_⟩]
    · rcases List.mem_cons.mp ((h k).mp (.tail _ hk)) with e | e
      · have := a.1 k hk
        omega
      · exact e
    · rcases List.mem_cons.mp ((h k).mpr (.tail _ hk)) with e | e
      · have := b.1 k hk
        omega
      · exact e
theorem intsD_map : ∀ {ds : List D} {ns : List Int}, intsD ds = some ns → ds = ns.map D.int
  | [], ns, h => by cases h; rfl
  | d :: ds, ns, h => by
    cases d with
    | int i =>
      have h : (intsD ds).map (i :: ·) = some ns := h
      cases q : intsD ds with
      | none => rw [q] at h; cases h
      | some ms =>
        rw [q] at h
        cases h
        rw [intsD_map q]
        rfl
    | _ => cases h
theorem map_intsD : ∀ {ns : List Int}, intsD (ns.map D.int) = some ns
  | [] => rfl
  | i :: ns => by
    show (intsD (ns.map D.int)).map _ = _
    rw [map_intsD]
    rfl
theorem rpl_intV {K : PySem.W.Frag} {mg : Str → Option Value} {H : Hp} {av : Addr → Prop} : ∀ {ns : List Int} {vs : List V}, RpL K mg H av (ns.map D.int) vs ↔ vs = ns.map V.int
  | [], vs => Iff.rfl
  | i :: ns, vs => by
    constructor
    · rintro ⟨v, r, rfl, h1, h2⟩
      rw [rpl_intV.mp h2, show v = _ from h1]
      rfl
    · rintro rfl
      exact ⟨_, _, rfl, rfl, rpl_intV.mpr rfl⟩
def gSrtSet : D → Option (List D)
  | .lst ds => match intsD ds with
    | some ns => if ns.length ≤ 4000 then some ((sset ns).map D.int) else none
    | none => none
  | _ => none
theorem srtSet_e {ns : List Int} (h : ns.length ≤ 4000) : gSrtSet (.lst (ns.map D.int)) = some ((sset ns).map D.int) := by
  show (match intsD (ns.map D.int) with | some ns => if ns.length ≤ 4000 then some ((sset ns).map D.int) else none | none => none) = _
  rw [map_intsD]
  exact if_pos h
theorem srtSet_inv {d : D} {zs : List D} (h : gSrtSet d = some zs) : ∃ ns : List Int, d = .lst (ns.map D.int) ∧ ns.length ≤ 4000 ∧ zs = (sset ns).map D.int := by
  cases d with
  | lst ds =>
    have h : (match intsD ds with | some ns => if ns.length ≤ 4000 then some ((sset ns).map D.int) else none | none => none) = some zs := h
    cases q : intsD ds with
    | none => rw [q] at h; cases h
    | some ns =>
      rw [q] at h
      dsimp only at h
      by_cases hl : ns.length ≤ 4000
      · rw [if_pos hl] at h
        cases h
        exact ⟨ns, by rw [intsD_map q], hl, rfl⟩
      · rw [if_neg hl] at h
        cases h
  | _ => cases h
theorem de_srtSet {X : Cx} {W : WX} {ec : EC} {e : Expr} {F : Fm → Out RV} {p p2 q pos : Pos} (ha : DE X W ec e F) (hm : X.mg "sorted" = none) (hm2 : X.mg "set" = none) (hg : Gl X "sorted" := by rfl) (hg2 : Gl X "set" := by rfl) (hc : X.calm = true := by rfl)
    (he : starEach [e] X.env = (false, eval e X.env) :: starEach [] X.env := by rfl) : DE X W ec (.Call (.Name "sorted" p) [.Call (.Name "set" p2) [e] [] q] [] pos) (fCS gSrtSet F) :=
  (pe_srtSet hg hm hg2 hm2 (da_cons ha da_nil he) hc he).imp fun σ H Q h => tCS_of (fun d ds zs a vs av H Q hq r e kk => by
    obtain ⟨ns, rfl, hl, rfl⟩ := srtSet_inv e
    rcases hq with ⟨e1, hq⟩ | ⟨e1, hq⟩
    · cases e1
      obtain rfl := rpl_intV.mp r
      refine ⟨a, ns, rfl, .of hq, hl, fun p out h1 h2 h3 => ?_⟩
      rw [lt_uniq h1 sset_asc fun k => (h2 k).trans sset_mem.symm]
      exact kk p _ h3 (rpl_intV.mpr rfl)
    · cases e1) h
end DL

namespace DL
open PySem L2
/-! ### instances with slots: a variable read, a property read -/
def gSlt (c : Str) (i : Nat) : D → Option D
  | .ob c' [] ds => if c' = c then ds[i]? else none
  | _ => none
section
variable {X : Cx} {W : WX} {ec : EC} {e : Expr} {F : Fm → Out RV} {c f : Str} {C p : Addr} {i : Nat} {pos : Pos}
theorem ob_dt {K : PySem.W.Frag} {mg : Str → Option Value} {ec : EC} {H : Hp} {Cc : Fc} {ρ : Fm} {σ : St} {tm : Tm} {r : RV} {v : V} {c : Str} {ns : List Str} {ds : List D} (h : Hold K mg ec H Cc ρ σ ((r, v) :: tm)) (g : r.get ρ = some (.ob c ns ds)) :
    r = .dt (.ob c ns ds) ∧ ∃ a C dx vs, v = .ref a ∧ mg c = some (.ref C) ∧ ObR H a C dx ns vs ∧ RpL K mg H (Av Cc.av ρ σ tm) ds vs := by
  have e : r = .dt (.ob c ns ds) := by
    cases r with
    | dt d => cases g; rfl
    | fr ds => cases g
    | vw i =>
      have g : (match ρ[i]? with | some (.ow _ ds) => some (D.lst ds) | _ => none) = some (.ob c ns ds) := g
      split at g <;> cases g
  subst e
  have q : Rp K mg H (Av Cc.av ρ σ ((.dt (.ob c ns ds), v) :: tm)) (.ob c ns ds) v := h.tmp _ _ (.head _)
  have q2 : Rp K mg H (Av Cc.av ρ σ tm) (.ob c ns ds) v := Rp.av (fun _ z => .inl z.tail) _ _ q
  exact ⟨rfl, q2⟩
theorem de_slt (hm : X.mg c = some (.ref C)) (cl : SCls X.K C) (k : Slt X.K C f i p) (ha : DE X W ec e F) (hb : attributeBase e f X.env (eval e X.env) = eval e X.env := by rfl) : DE X W ec (.Attribute e f pos) (fUn (gSlt c i) F) :=
  (pe_slot cl k ha hb).imp fun σ H Q ⟨Cc, ρ, tm, h, q⟩ => by
  refine tD_step (ts := []) h Kin.refl q fun r1 ρ1 v H1 h1 k1 p1 => ?_
  cases q1 : r1.get ρ1 with
  | none =>
    rw [q1] at p1
    exact p1.elim
  | some x =>
    rw [q1] at p1
    cases q2 : gSlt c i x with
    | none =>
      simp only [q2] at p1
      exact p1.elim
    | some z =>
      simp only [q2] at p1
      cases x with
      | ob c' ns ds =>
        cases ns with
        | cons => cases q2
        | nil =>
          by_cases hc : c' = c
          · subst hc
            have q2 : (if c' = c' then ds[i]? else none) = some z := q2
            rw [if_pos rfl] at q2
            obtain ⟨_, a, C', dx, vs, rfl, m, ⟨n1, n2, n3, n4⟩, r⟩ := ob_dt h1 q1
            rw [hm] at m
            cases m
            obtain ⟨w, hw, rw'⟩ := RpL.get r q2
            exact ⟨a, dx, vs.map some, w, rfl, ⟨n2, n3, .inl n4⟩, by rw [List.getElem?_map, hw]; rfl, p1 _ H1 (h1.pop.push_dt rw') k1⟩
          · rw [show gSlt c i (.ob c' [] ds) = none from if_neg hc] at q2
            cases q2
      | _ => cases q2
end
/-- the object as the heap has it -/
theorem ob_inst {X : Cx} {pins : List (Addr × Obj)} {σ : St} {H : Hp} {s : Shared} {a C dx : Addr} {ns : List Str} {vs : List V} (I : Inv X pins σ H s) (h : ObR H a C dx ns vs) : ∃ ox od, PySem.W.InstAt s.heap a ox C (some od) := by
  cases ns with
  | nil =>
    obtain ⟨n1, n2, n3, n4⟩ := h
    obtain ⟨us, od, _, _, J⟩ := slAt_get I (vs := vs.map some) ⟨n2, n3, .inl n4⟩
    exact ⟨_, od, J⟩
  | cons n ns =>
    obtain ⟨_, h⟩ := h
    obtain ⟨mA, O, _, _, _, _⟩ := ins_get I.hok h
    obtain ⟨od, J, _⟩ := O.look
    exact ⟨_, od, J⟩
section
variable {X : Cx} {W : WX} {ec : EC} {e : Expr} {F : Fm → Out RV} {c f : Str} {C p g : Addr} {i k : Nat} {pos : Pos} {fd : FuncData} {ps : List Str} {sp : Sp} {t : TE}
def tPropG (C : Addr) (sp : Sp) (t : TE) : TE := fun σ H Q => t σ H fun x H1 => ∃ a dx ns vs, x = .ref a ∧ ObR H1 a C dx ns vs ∧ sp [.ref a] H1 Q (fun _ _ _ => False)
theorem pe_propG (G : FnG X.prog X.w X.K X.mg X.base k g fd ps sp) (gd : X.A.guards = some []) (hr : Room (k + 1) X.A) (hb : KB X.K fd ps 1 [] [] [0]) (pg : PySem.W.plainGet X.K C Str.empty = true) (ic : PySem.W.isClsIn X.K C = true) (hp : PropOf X.K C f p g) (he : PE X e t)
    (hab : attributeBase e f X.env (eval e X.env) = eval e X.env := by rfl) : PE X (.Attribute e f pos) (tPropG C sp t) := by
  refine ⟨fun pins s σ H Q I h => ?_⟩
  refine attr_of hab (thn (he.run pins s σ H _ I h) fun u s1 ⟨x, H1, I1, rx, a, dx, ns, vs, ex, ho, q⟩ => ?_)
  subst ex
  obtain rfl : u = Value.ref a := rx
  obtain ⟨ox, od, J⟩ := ob_inst I1 ho
  obtain ⟨rest, hrec⟩ := hp.rec_
  have pg' : PySem.W.plainGet X.K C f = true := pg
  have I2 : Inv X pins σ H1 { s1 with toks := s1.toks + 1 } := I1.tok (s1.toks + 1)
  obtain ⟨its, ri, hto⟩ := hb.to
  cases ri
  have hbt := hto { s1 with toks := s1.toks + 1 } [Value.ref a] [] I2.kIn rfl rfl
  refine PySem.W.get_bind I1.kIn J (PySem.W.plainGet_of pg').1 (PySem.W.findObj_data ic hp.at_ hp.get hp.tak) (PySem.W.plainGet_of pg').2 (wpAny_call (PySem.W.prop_get (s := { s1 with toks := s1.toks + 1 }) I1.kIn hrec ?_))
  refine codeAny_mono (G.run X.A.in1 X.stack { s1 with toks := s1.toks + 1 } H1 ⟨[.ref a], []⟩ [.ref a] [.ref a] Q _ (by first | exact gd | simpa using gd) hr.in1 I2.env0.in1 hbt (.cons rfl .nil) q) fun r s' hq => ?_
  cases r with
  | error e =>
    obtain ⟨_, _, _, _, _, _, _, _, _, _, _, _, z⟩ := hq
    exact z.elim
  | ok fl =>
    cases fl with
    | ret u =>
      obtain ⟨v, H', I3, rv, q⟩ := I2.after hq
      exact wpAny_of_eq (PySem.W.handedOut_of (handed_of rv)) ⟨v, H', I3, rv, q⟩
    | next => exact hq.elim
    | brk => exact hq.elim
    | cont => exact hq.elim
def noX : Out RV → Out RV
  | .ok r ρ => .ok r ρ
  | _ => .bad
/-- e.f, a property whose getter never raises -/
def fProp (c : Str) (G : List D → FO) (F : Fm → Out RV) : Fm → Out RV := fun ρ => (F ρ).bind fun r ρ => match r.get ρ with
  | some (.ob c' ns ds) => if c' = c then noX (callX none G [] [r] ρ) else .bad
  | _ => .bad
theorem de_prop {Gf : List D → FO} (hm : X.mg c = some (.ref C)) (G : FnG X.prog X.w X.K X.mg X.base k g fd ps (spD X.K X.mg none 1 Gf)) (gd : X.A.guards = some []) (hr : Room (k + 1) X.A) (hb : KB X.K fd ps 1 [] [] [0]) (pg : PySem.W.plainGet X.K C Str.empty = true) (ic : PySem.W.isClsIn X.K C = true) (hp : PropOf X.K C f p g)
    (ha : DE X W ec e F) (hab : attributeBase e f X.env (eval e X.env) = eval e X.env := by rfl) : DE X W ec (.Attribute e f pos) (fProp c Gf F) :=
  (pe_propG G gd hr hb pg ic hp ha hab).imp fun σ H Q ⟨Cc, ρ, tm, h, q⟩ => by
  refine tD_step (ts := []) h Kin.refl q fun r1 ρ1 v H1 h1 k1 p1 => ?_
  cases q1 : r1.get ρ1 with
  | none =>
    rw [q1] at p1
    exact p1.elim
  | some x =>
    rw [q1] at p1
    cases x with
    | ob c' ns ds =>
      dsimp only at p1
      by_cases hc : c' = c
      · subst hc
        rw [if_pos rfl] at p1
        obtain ⟨er, a, C', dx, vs, rfl, m, ho, r⟩ := ob_dt h1 q1
        rw [hm] at m
        cases m
        refine ⟨a, dx, ns, vs, rfl, ho, ?_⟩
        have p2 : Fin X.K X.mg (fun _ _ _ _ => False) ec Cc ρ σ tm (callX none Gf [] [r1] ρ1) Q := by
          cases q2 : callX none Gf [] [r1] ρ1 with
          | ok r ρ2 =>
            rw [q2] at p1
            exact p1
          | ex => rw [q2] at p1; exact p1.elim
          | bad => rw [q2] at p1; exact p1.elim
        exact callX_sp (dds := []) (dvs := []) (rs := [r1]) (vs := [.ref a]) (ioi := none) rfl (fun _ z => nomatch z) h1 k1 (fun _ => rfl) p2
      · rw [if_neg hc] at p1
        exact p1.elim
    | _ => exact p1.elim
end
end DL

namespace DL
open PySem L2
/-! ### an instance is made: C(..) -/
section
variable (K : PySem.W.Frag) (mg : Str → Option Value)
/-- what __init__ promises: the object at a gets its variables, all else stays -/
def spI (c : Str) (n : Nat) (F : List D → FO) : Sp := fun vs H Q E => ∃ (a C dx : Addr) (rest : List V) (av : Addr → Prop) (ds : List D), vs = .ref a :: rest ∧ rest.length = n ∧ ds.length = n ∧ mg c = some (.ref C) ∧
  H a = some (.ins C dx []) ∧ H dx = some (.own a) ∧ dx ≠ a ∧ (∀ b, av b → H b ≠ none) ∧ RpL K mg H av ds rest ∧
  match F ds with
  | .ok r _ => ∀ ns fs H' ws, r = .dt (.ob c ns fs) → (∀ b o, b ≠ a → H b = some o → H' b = some o) → ObR H' a C dx ns ws → RpL K mg H' av fs ws → Q .non H'
  | .ex c1 f d _ => ∀ cl dd v fs H', mg c1 = some (.ref cl) → H' dd = some (.xd fs) → fs.lookup f = some v → Rp K mg H' av d v → (∀ b o, b ≠ a → H b = some o → H' b = some o) → E (.ref cl) (some dd) H'
  | .bad => False
end
section
variable {X : Cx} {W : WX} {ec : EC} {k n : Nat} {f C : Addr} {fd : FuncData} {ps ks : List Str} {sp : Sp} {x : Str} {p pos : Pos} {e : Expr} {es : List Expr} {kws : List Keyword} {t tk : TA} {dvs : List V} {is : List Nat}
theorem run_makeG {pins : List (Addr × Obj)} {σ : St} {H : Hp} {s : Shared} {Q : VK} {us ws : List Value} {vs zs : List V} (M : Mk X.K C f) (F : FnG X.prog X.w X.K X.mg X.base k f fd ps sp) (gd : X.A.guards = some []) (hr : Room (k + 1) X.A) (hb : KB X.K fd ps (n + 1) ks dvs is) (tx : Takes X W)
    (I : Inv X pins σ H s) (r : Vals vs us) (rz : Vals zs ws) (l1 : vs.length = n) (l2 : zs.length = ks.length)
    (h : ∀ x dx, H x = none → H dx = none → dx ≠ x → sp (pickL is (.ref x :: vs ++ zs ++ dvs)) (upd (upd H dx (.own x)) x (.ins C dx [])) (fun v H2 => v = .non ∧ Q (.ref x) H2) (fun cls d H' => W cls d σ H')) :
    wpAny (model X.prog X.w) X.A (call (.ref C) us (ks.zip ws)) (EP X pins σ Q) X.xe s := by
  have hq := h (s.heap.objs.size + 1) s.heap.objs.size (I.hok.fresh (Nat.le_succ _)) (I.hok.fresh (Nat.le_refl _)) (Nat.ne_of_lt (Nat.lt_succ_self _))
  have I2 := Inv.made (C := C) I
  have r1 : Vals (V.ref (s.heap.objs.size + 1) :: vs) (Value.ref (s.heap.objs.size + 1) :: us) := .cons rfl r
  obtain ⟨its, ri, hto⟩ := hb.to
  have rr : Vals (pickL is (V.ref (s.heap.objs.size + 1) :: vs ++ zs ++ dvs)) (pickL is (Value.ref (s.heap.objs.size + 1) :: us ++ ws ++ its)) := Vals.pick ((r1.append rz).append ri) is
  have e1 : (Value.ref (s.heap.objs.size + 1) :: us).length = n + 1 := r1.length.symm.trans (congrArg Nat.succ l1)
  have e2 : ws.length = ks.length := rz.length.symm.trans l2
  refine wpAny_call (make_map (f := f) I.kIn M.makes M.init (beq_iff_eq.mp M.fn) (codeAny_mono (F.run _ X.stack _ _ ⟨Value.ref (s.heap.objs.size + 1) :: us, ks.zip ws⟩ _ _ _ _ gd (hr.make C us (ks.zip ws))
    (I2.env0.make C us (ks.zip ws)) (hto _ (Value.ref (s.heap.objs.size + 1) :: us) ws I2.kIn e1 e2) rr hq) fun r s' hq' => ?_))
  cases r with
  | error e => exact passAt tx σ pins _ _ e s' I2 hq'
  | ok fl =>
    cases fl with
    | ret u =>
      obtain ⟨v, H', I3, rv, ev, q3⟩ := I2.after hq'
      subst ev
      exact ⟨rv, ⟨V.ref (s.heap.objs.size + 1), H', I3, rfl, q3⟩⟩
    | next => exact False.elim hq'
    | brk => exact False.elim hq'
    | cont => exact False.elim hq'
theorem pe_makeG {n2 : Nat} {F : List D → FO} {c : Str} (M : Mk X.K C f) (G : FnG X.prog X.w X.K X.mg X.base k f fd ps (spI X.K X.mg c n2 F)) (hc : X.mg c = some (.ref C)) (gd : X.A.guards = some []) (hr : Room (k + 1) X.A) (hg : Gl X x) (hm : X.mg x = some (.ref C)) (hb : KB X.K fd ps (n + 1) ks dvs (0 :: is.map (· + 1))) (tx : Takes X W)
    (ha : PA X (e :: es) t) (hkw : PK X kws tk) (hall : (backToKw pos (keywordEach kws X.env)).all (·.1.isSome) = true) (hks : (backToKw pos (keywordEach kws X.env)).filterMap (·.1) = ks)
    (hdb : (x == ("__debug__" : Str)) = false) (he : starEach (e :: es) X.env = (false, eval e X.env) :: starEach es X.env)
    (hpl : ((backTo pos (starEach (e :: es) X.env)).any (·.1) || (backToKw pos (keywordEach kws X.env)).any (·.1.isNone)) = false) :
    PE X (.Call (.Name x p) (e :: es) kws pos) (tCG n ks.length (spD X.K X.mg none n2 F) is dvs W t tk) := ⟨fun pins s σ H Q I h => by
  refine wpAny_Call_Name_kw (ld_glob I hg hm ?_ hdb)
  refine PySem.W.callWith_KW (h₀ := X.base) I.ok.mod.kin M.kp hall ?_ hpl he
  refine thn (ha.run pos pins s σ H _ I h) fun us s1 h1 => ?_
  obtain ⟨vs, H1, I1, r, q⟩ := h1
  refine thn (hkw.run pos pins s1 σ H1 _ I1 q) fun ws s2 h2 => ?_
  obtain ⟨zs, H2, I2, rz, l1, l2, q2⟩ := h2
  refine ⟨I2.kIn, ?_⟩
  rw [hks]
  refine run_makeG M G gd hr hb tx I2 r rz l1 l2 fun y dx n1 n3 ne => ?_
  have ep : pickL (0 :: is.map (· + 1)) (V.ref y :: vs ++ zs ++ dvs) = V.ref y :: pickL is (vs ++ zs ++ dvs) := by
    unfold pickL
    rw [List.filterMap_cons, List.filterMap_map]
    rfl
  rw [ep]
  obtain ⟨av, ds, io, b, h1, h2, h3, h4, h5, h6, h7, h8⟩ := q2
  have eio : io = none := by
    cases io with
    | none => rfl
    | some z => cases h4
  subst eio
  have old : ∀ c o, H2 c = some o → c ≠ y ∧ c ≠ dx := fun c o q => ⟨fun z => (by rw [z, n1] at q; cases q), fun z => (by rw [z, n3] at q; cases q)⟩
  have keep : ∀ c o, H2 c = some o → (upd (upd H2 dx (.own y)) y (.ins C dx [])) c = some o := fun c o q => by
    rw [upd_ne (old c o q).1, upd_ne (old c o q).2]
    exact q
  have ex : Ext (fun _ => False) H2 (upd (upd H2 dx (.own y)) y (.ins C dx [])) := fun c o q => .inr (keep c o q)
  have rl : RpL X.K X.mg H2 (AvP av none) ds (pickL is (vs ++ zs ++ dvs)) := by
    have gen : ∀ (ds : List D) (vs : List V), vs.length = ds.length → (∀ (j : Nat) d v, ds[j]? = some d → vs[j]? = some v → Rp X.K X.mg H2 (AvP av none) d v) → RpL X.K X.mg H2 (AvP av none) ds vs := by
      intro ds
      induction ds with
      | nil => intro vs hl _; exact List.eq_nil_of_length_eq_zero hl
      | cons d ds ih =>
        intro vs hl hh
        cases vs with
        | nil => cases hl
        | cons v vs => exact ⟨v, vs, rfl, hh 0 d v rfl rfl, ih vs (Nat.succ.inj hl) fun j d v a b => hh (j + 1) d v a b⟩
    exact gen ds _ (h1.trans h2.symm) fun j d v a b => h7 j d v (by rw [← h4]; exact fun z => nomatch z) a b
  refine ⟨y, C, dx, _, AvP av none, ds, rfl, h1, h2, hc, upd_same, by rw [upd_ne ne]; exact upd_same, ne, fun c hc => ?_, RpL.ext ex (fun _ z => z.elim) _ _ rl, ?_⟩
  · rcases hc with hc | ⟨i, z⟩
    · have := h3 c hc
      cases q : H2 c with
      | none => exact (this q).elim
      | some o => rw [keep c o q]; exact fun z => nomatch z
    · cases z
  · cases q : F ds with
    | bad => rw [q] at h8; exact h8.elim
    | ex c1 f1 d1 b1 =>
      rw [q] at h8
      intro cl dd v fs H' e1 e2 e3 e4 e5
      exact h8 cl dd v fs H' e1 e2 e3 e4 (fun c o q => .inr (e5 c o (old c o q).1 (keep c o q))) (fun i p z => nomatch z)
    | ok r b1 =>
      rw [q] at h8
      intro ns fs H' ws er e5 ho hr
      subst er
      exact ⟨rfl, h8 (.ref y) H' (fun c o q => .inr (e5 c o (old c o q).1 (keep c o q))) (fun i p z => nomatch z) ⟨y, C, dx, ws, rfl, hc, ho, hr⟩⟩⟩
theorem de_make {n1 n2 : Nat} {F : List D → FO} {c : Str} {dds : List D} {A B : Fm → Out (List RV)} (M : Mk X.K C f) (G : FnG X.prog X.w X.K X.mg X.base k f fd ps (spI X.K X.mg c n2 F)) (hc : X.mg c = some (.ref C)) (gd : X.A.guards = some []) (hr : Room (k + 1) X.A) (hm : X.mg x = some (.ref C)) (hb : KB X.K fd ps (n1 + 1) ks dvs (0 :: is.map (· + 1))) (tx : Takes X W)
    (hd : ∀ H A, RpL X.K X.mg H A dds dvs) (ha : DA X W ec (e :: es) A) (hkw : DK X W ec kws B) (l1 : LA A n1) (l2 : LA B ks.length) (o : IsOk none n2 is (n1 + ks.length + dds.length)) (hg : Gl X x := by rfl)
    (hall : (backToKw pos (keywordEach kws X.env)).all (·.1.isSome) = true := by rfl) (hks : (backToKw pos (keywordEach kws X.env)).filterMap (·.1) = ks := by rfl)
    (hdb : (x == ("__debug__" : Str)) = false := by decide) (he : starEach (e :: es) X.env = (false, eval e X.env) :: starEach es X.env := by rfl)
    (hpl : ((backTo pos (starEach (e :: es) X.env)).any (·.1) || (backToKw pos (keywordEach kws X.env)).any (·.1.isNone)) = false := by rfl) : DE X W ec (.Call (.Name x p) (e :: es) kws pos) (fCall none F is dds A B) :=
  (pe_makeG M G hc gd hr hg hm hb tx ha hkw hall hks hdb he hpl).imp fun σ H Q h => tCG_of (ioi := none) l1 l2 (fun _ z => by cases z) o hd h
end
end DL

namespace DL
open PySem L2
open PyProof.Rows (envOfC)
/-! ### __init__ of a class with slots: statements, then self.f = name, .. -/
section
variable {K : PySem.W.Frag} {mg : Str → Option Value} {H H' : Hp} {av av' : Addr → Prop} {a C dx : Addr}
theorem ob_put {b C' dx' : Addr} {ns : List Str} {vs : List V} (ha : H a = some (.ins C dx [])) (k : ∀ b, b ≠ a → H' b = H b) (h : ObR H b C' dx' ns vs) : ObR H' b C' dx' ns vs := by
  cases ns with
  | nil =>
    obtain ⟨h1, h2, h3, h4⟩ := h
    refine ⟨h1, ?_, h3, ?_⟩
    · rw [k dx' fun z => by rw [z, ha] at h2; cases h2]
      exact h2
    · rw [k b fun z => by rw [z, ha] at h4; unfold L2.SlO at h4; cases h4]
      exact h4
  | cons n ns =>
    obtain ⟨h1, h2⟩ := h
    refine ⟨h1, ?_⟩
    rw [k b fun z => by
      rw [z, ha] at h2
      cases vs with
      | nil => cases h1
      | cons v vs => injection h2 with h2; injection h2 with _ _ h2; cases h2]
    exact h2
theorem rd_put {b : Addr} {o : HO} (ha : H a = some (.ins C dx [])) (k : ∀ b, b ≠ a → H' b = H b) (ho : ∀ fs, o ≠ .ins C dx fs) (h : H b = some o) : H' b = some o := by
  rw [k b fun z => by
    rw [z, ha] at h
    cases h
    exact ho _ rfl]
  exact h
mutual
theorem Rp.put (ha : H a = some (.ins C dx [])) (k : ∀ b, b ≠ a → H' b = H b) : ∀ (d : D) (v : V), Rp K mg H av d v → Rp K mg H' av d v
  | .non, _, h => h
  | .bl _, _, h => h
  | .int _, _, h => h
  | .str _, _, h => h
  | .ty _, _, h => h
  | .cl _, _, h => h
  | .tup ds, v, h => by
    obtain ⟨b, vs, rfl, s, r⟩ := h
    refine ⟨b, vs, rfl, s.imp (fun s => ?_) id, RpL.put ha k ds vs r⟩
    rcases s with s | ⟨o, s⟩
    · exact .inl (rd_put ha k (fun _ z => nomatch z) s)
    · exact .inr ⟨o, rd_put ha k (fun _ z => nomatch z) s⟩
  | .lst ds, v, h => by
    obtain ⟨b, vs, rfl, n, s, r⟩ := h
    exact ⟨b, vs, rfl, n, rd_put ha k (fun _ z => nomatch z) s, RpL.put ha k ds vs r⟩
  | .fz ns, v, h => by
    obtain ⟨b, rfl, s⟩ := h
    exact ⟨b, rfl, s.imp (fun ⟨o, z⟩ => ⟨o, rd_put ha k (fun _ z => nomatch z) z⟩) id⟩
  | .ob c ns ds, v, h => by
    obtain ⟨b, C', dx', vs, rfl, m, s, r⟩ := h
    exact ⟨b, C', dx', vs, rfl, m, ob_put ha k s, RpL.put ha k ds vs r⟩
theorem RpL.put (ha : H a = some (.ins C dx [])) (k : ∀ b, b ≠ a → H' b = H b) : ∀ (ds : List D) (vs : List V), RpL K mg H av ds vs → RpL K mg H' av ds vs
  | [], _, h => h
  | d :: ds, vs, h => by
    obtain ⟨v, r, rfl, h1, h2⟩ := h
    exact ⟨v, r, rfl, Rp.put ha k d v h1, RpL.put ha k ds r h2⟩
end
/-- self.f = x, one behind the other: the k-th slot from slot j of the frame -/
def tSets (C : Addr) : Nat → List Nat → TS
  | _, [] => tNext
  | k, j :: js => tSeq (sSlot C k (tVar 0) (tVar j)) (tSets C (k + 1) js)
theorem sets_run {D0 : Ends} {σ : St} (h0 : σ[0]? = some (some (V.ref a))) : ∀ {js : List Nat} {ys : List V} {vs : List (Option V)} {H : Hp}, (js.map fun j => σ[j]?) = ys.map (fun y => some (some y)) → L2.SlAt H a C dx vs →
    (∀ H', (∀ b, b ≠ a → H' b = H b) → L2.SlAt H' a C dx (vs ++ ys.map some) → D0.nx σ H') → tSets C vs.length js D0 σ H
  | [], ys, vs, H, e, s, q => by
    cases ys with
    | cons => cases e
    | nil => exact q H (fun _ _ => rfl) (by rw [List.map_nil, List.append_nil]; exact s)
  | j :: js, ys, vs, H, e, s, q => by
    cases ys with
    | nil => cases e
    | cons y ys =>
      rw [List.map_cons, List.map_cons] at e
      obtain ⟨e1, e2⟩ := List.cons.inj e
      refine ⟨y, e1, V.ref a, h0, a, dx, vs, rfl, s, ?_⟩
      have ep : L2.putS vs.length y vs = vs ++ [some y] := by
        unfold L2.putS
        rw [show vs.length + 1 - vs.length = 1 by omega]
        show (vs ++ [none]).set vs.length (some y) = _
        rw [List.set_append_right _ _ (Nat.le_refl _), Nat.sub_self]
        rfl
      rw [ep]
      have el : vs.length + 1 = (vs ++ [some y]).length := by simp
      show tSets C (vs.length + 1) js D0 σ _
      rw [el]
      refine sets_run h0 e2 s.here fun H' k s' => q H' (fun b hb => ?_) ?_
      · rw [k b hb, upd_ne hb]
      · rw [List.map_cons]
        rw [List.append_assoc] at s'
        exact s'
end
section
variable {X : Cx} {W : WX} {ec : EC} {st : Stmt} {rest : List Stmt} {S T : Fm → SO} {u : TS}
theorem dt_cons (h1 : DS X W ec st S) (h2 : PSs X rest (tSeq (tDS X.K X.mg W ec T) u)) : PSs X (st :: rest) (tSeq (tDS X.K X.mg W ec (sSeq S T)) u) := (pss_cons h1 h2).imp fun E σ H ⟨C, ρ, tm, h, lk, p⟩ => by
  refine ⟨C, ρ, tm, h, lk, ?_⟩
  unfold sSeq at p
  cases q : S ρ with
  | nx ρ1 =>
    rw [q] at p
    exact fun σ1 H1 h1 k1 => finS_up h1 lk k1 p
  | rt r ρ1 => rw [q] at p; exact p
  | bk ρ1 => rw [q] at p; exact p
  | ct ρ1 => rw [q] at p; exact p
  | ex => rw [q] at p; exact p
  | bad => rw [q] at p; exact p
theorem dt_end (h : PSs X rest u) : PSs X rest (tSeq (tDS X.K X.mg W ec sNil) u) := h.imp fun E σ H ⟨C, ρ, tm, h, lk, p⟩ => p σ H h Kin.refl
end
end DL

namespace DL
open PySem L2
open PyProof.Rows (envOfC)
def entryI (c : Str) (m : Nat) (ds : List D) : Fm := .nw c :: entry none (m - 1) ds
/-- the values of slots that hold data without lists -/
def getF (ρ : Fm) : List Nat → Option (List D)
  | [] => some []
  | j :: js => match ρ[j]? with
    | some (.dt d) => if noL d then (getF ρ js).map (d :: ·) else none
    | _ => none
def iniO (c : Str) (js : List Nat) (ρ : Fm) : FO := match ρ[(0 : Nat)]? with
  | some (.nw c') => if c' = c then (match getF ρ js with | some fs => .ok (.dt (.ob c [] fs)) [] | none => .bad) else .bad
  | _ => .bad
/-- __init__'s function: the instance -/
def initF (c : Str) (m : Nat) (S : Fm → SO) (js : List Nat) : List D → FO := fun ds => match S (entryI c m ds) with
  | .nx ρ => iniO c js ρ
  | .ex c1 f d _ => .ex c1 f d []
  | _ => .bad
def ecI (a dx : Addr) (c : Str) : EC := fun a' dd c' => a' = a ∧ dd = dx ∧ c' = c
section
variable {K : PySem.W.Frag} {mg : Str → Option Value} {H : Hp} {av : Addr → Prop} {a C dx : Addr} {c : Str} {N : List Str} {ds : List D} {rest : List V}
theorem entryI_ow {i k m : Nat} {es : List D} : (entryI c m ds)[i]? ≠ some (Sl.ow k es) := fun h => by
  cases i with
  | zero => cases h
  | succ i =>
    have h : (entry none (m - 1) ds)[i]? = some (Sl.ow k es) := h
    rcases entry_get h with z | ⟨d, _, z⟩
    · cases z
    · rw [if_neg (by exact fun z => nomatch z)] at z
      cases z
theorem hold_entryI (hN : rest.length + 1 ≤ N.length) (hd : ds.length = rest.length) (hav : ∀ b, av b → H b ≠ none) (r : RpL K mg H av ds rest) :
    Hold K mg (ecI a dx c) H ⟨H, none, av⟩ (entryI c N.length ds) (L2.start N (V.ref a :: rest)) [] := by
  have less : ∀ b, Av av (entryI c N.length ds) (L2.start N (V.ref a :: rest)) [] b → av b := fun b z => by
    rcases z with z | ⟨i, k, es, z1, _⟩ | ⟨_, z⟩
    · exact z
    · exact (entryI_ow z1).elim
    · cases z
  refine ⟨?_, hav, Ext.refl, fun i p z => (nomatch z), fun i k es b h1 _ => (entryI_ow h1).elim, fun i s o h1 h2 => ?_, fun i j k k' es es' b h1 _ _ _ => (entryI_ow h1).elim, fun _ _ hm => (nomatch hm), List.Pairwise.nil⟩
  · unfold entryI entry L2.start
    simp only [List.length_cons, List.length_append, slots0_len, List.length_replicate, List.length_map]
    omega
  · cases i with
    | zero =>
      cases h1
      rcases start_get h2 with ⟨_, z⟩ | ⟨v, z1, rfl⟩
      · cases z
      · cases z1
        exact ⟨a, dx, ⟨rfl, rfl, rfl⟩, rfl⟩
    | succ i =>
      have h1 : (entry none (N.length - 1) ds)[i]? = some s := h1
      rcases entry_get h1 with rfl | ⟨d, q1, q2⟩
      · trivial
      · rw [if_neg (by exact fun z => nomatch z)] at q2
        subst q2
        obtain ⟨v, w1, w2⟩ := RpL.get r q1
        rcases start_get h2 with ⟨_, z⟩ | ⟨v', z1, rfl⟩
        · rw [List.getElem?_cons_succ, w1] at z
          cases z
        · rw [List.getElem?_cons_succ, w1] at z1
          cases z1
          exact ⟨v, rfl, Rp.av (fun b z => .inl (less b z)) d v w2⟩
theorem getF_rp {ec : EC} {Cc : Fc} {ρ : Fm} {σ : St} {tm : Tm} (h : Hold K mg ec H Cc ρ σ tm) : ∀ {js : List Nat} {fs : List D}, getF ρ js = some fs → ∃ ys : List V, (js.map fun j => σ[j]?) = ys.map (fun y => some (some y)) ∧ RpL K mg H av fs ys ∧ ys.length = js.length
  | [], fs, e => by
    cases e
    exact ⟨[], rfl, rfl, rfl⟩
  | j :: js, fs, e => by
    unfold getF at e
    cases q : ρ[j]? with
    | none => rw [q] at e; cases e
    | some s =>
      rw [q] at e
      cases s with
      | dt d =>
        dsimp only at e
        by_cases hn : noL d = true
        · rw [if_pos hn] at e
          cases q2 : getF ρ js with
          | none => rw [q2] at e; cases e
          | some gs =>
            rw [q2] at e
            cases e
            obtain ⟨ys, e1, e2, e3⟩ := getF_rp h q2
            have hl : j < σ.length := by
              rw [← h.len]
              exact (List.getElem?_eq_some_iff.mp q).1
            obtain ⟨v, ev, rv⟩ := h.slot j _ _ q (List.getElem?_eq_getElem hl)
            refine ⟨v :: ys, ?_, ⟨v, ys, rfl, Rp.noL d v hn rv, e2⟩, by rw [List.length_cons, List.length_cons, e3]⟩
            rw [List.map_cons, List.map_cons, e1, List.getElem?_eq_getElem hl, ev]
        · rw [if_neg hn] at e
          cases e
      | _ => cases e
end
theorem fnI {P : Program} {w : World} {K : PySem.W.Frag} {mg : Str → Option Value} {base : Heap} {x qual : Str} {params : Arguments} {body : List Stmt} {scope : Scope} {dvs : List V} {kws : List (Str × V)} {f C : Addr} {fd : FuncData} {N ps : List Str} {k n j m : Nat} {c : Str} {js : List Nat} {F0 : List D → FO}
    (F : FunD K x qual params body scope dvs kws f fd) (Sc : FnScope N ps scope) (S : Fm → SO) (hF : F0 = initF c m S js) (hn : ps.length = n + 1) (hm : N.length = m) (hk : k + 1 = j) (hc : mg c = some (.ref C)) (hj : js ≠ [])
    (hbody : ∀ (cdv : Value) (A : Around) (outer : List Env) (s : Shared) (H : Hp) (E : XK) (ec : EC), A.guards = some [] → Room k (A.deeper (envOfC qual scope s.heap.objs.size f cdv)) →
      PSs (cxOf (L2.CX P w) P w K mg base N qual scope f cdv A outer s H E) body (tSeq (tDS K mg (fun cls d _ H' => E cls d H') ec S) (tSets C 0 js))) : FnG P w K mg base j f fd ps (spI K mg c n F0) := by
  subst hF hm hk
  refine fnG_of F Sc (fun vs H Q E h => ?_) fun cdv A outer s H vs Q E g hr h => ?_
  · obtain ⟨a, C', dx, rest, av, ds, rfl, h1, _⟩ := h
    rw [List.length_cons, h1, hn]
  · obtain ⟨a, C', dx, rest, av, ds, rfl, h1, h2, h3, h4, h5, h6, h7, h8, h9⟩ := h
    rw [hc] at h3
    cases h3
    have hN : rest.length + 1 ≤ N.length := by
      have q := congrArg List.length Sc.pre
      rw [List.length_take] at q
      omega
    refine ⟨_, hbody cdv A outer s H E (ecI a dx c) g hr, Fc.mk H none av, entryI c N.length ds, [], hold_entryI hN (h2.trans h1.symm) h7 h8, fun i v hm => (nomatch hm), ?_⟩
    unfold initF at h9
    have keepE : ∀ {H1 : Hp}, Ext (IoA none) H H1 → ∀ b o, H b = some o → H1 b = some o := fun {H1} e b o q => by
      rcases e b o q with ⟨⟨_, z⟩, _⟩ | z
      · cases z
      · exact z
    cases q : S (entryI c N.length ds) with
    | bad => rw [q] at h9; exact h9.elim
    | bk => rw [q] at h9; exact h9.elim
    | ct => rw [q] at h9; exact h9.elim
    | rt => rw [q] at h9; exact h9.elim
    | ex c1 f1 d1 ρ =>
      rw [q] at h9
      exact fun cl dd v fs σ H' q1 q2 q3 q4 hh _ => h9 cl dd v fs H' q1 q2 q3 (Rp.av (fun b z => .inl (.inl z)) d1 v q4) fun b o _ e => keepE hh.ext b o e
    | nx ρ =>
      rw [q] at h9
      dsimp only at h9
      unfold iniO at h9
      intro σ H1 hh _
      cases q0 : ρ[(0 : Nat)]? with
      | none => rw [q0] at h9; exact h9.elim
      | some s0 =>
        rw [q0] at h9
        cases s0 with
        | nw c' =>
          dsimp only at h9
          by_cases ec' : c' = c
          · subst ec'
            rw [if_pos rfl] at h9
            cases q1 : getF ρ js with
            | none => rw [q1] at h9; exact h9.elim
            | some fs =>
              rw [q1] at h9
              dsimp only at h9
              have hl : 0 < σ.length := by
                rw [← hh.len]
                exact (List.getElem?_eq_some_iff.mp q0).1
              obtain ⟨a', dd, ⟨rfl, rfl, _⟩, eo⟩ := hh.slot 0 _ _ q0 (List.getElem?_eq_getElem hl)
              have s0 : σ[0]? = some (some (V.ref a')) := by rw [List.getElem?_eq_getElem hl, eo]
              obtain ⟨ys, e1, e2, e3⟩ := getF_rp (av := av) hh q1
              have ha := keepE hh.ext _ _ h4
              have hd := keepE hh.ext _ _ h5
              refine sets_run (vs := []) s0 e1 ⟨hd, h6, .inr ⟨rfl, ha⟩⟩ fun H' kk sl => ?_
              have ny : ys ≠ [] := fun z => by
                rw [z] at e3
                exact hj (List.eq_nil_of_length_eq_zero e3.symm)
              refine h9 [] fs H' ys rfl (fun b o hb e => ?_) ?_ (RpL.put ha kk fs ys e2)
              · rw [kk b hb]
                exact keepE hh.ext b o e
              · obtain ⟨t1, t2, t3⟩ := sl
                refine ⟨ny, t1, t2, ?_⟩
                rcases t3 with t3 | ⟨t3, _⟩
                · exact t3
                · cases ys with
                  | nil => exact (ny rfl).elim
                  | cons => cases t3
          · rw [if_neg ec'] at h9
            exact h9.elim
        | _ => exact h9.elim
end DL

namespace DL
open PySem L2
/-! ### isinstance(x, C), C an own class -/
structure OiC (K : PySem.W.Frag) (D : Addr) : Prop where
  ic : PySem.W.isClsIn K D = true
  pg : PySem.W.plainGet K D Str.empty = true
  ca : PySem.W.findIn K (.ref D) "__class__" = some (some (.builtin "object.__class__"))
  cn : PySem.W.specialIn K (.builtin "object.__class__") "__get__" = some (some (.builtin "getset_descriptor.__get__"))
  ct : PySem.W.takesIn K (.builtin "object.__class__") = some true
  cm : PySem.W.mroIn K D (.type "object") = some true
def rIsO (K : PySem.W.Frag) (C : Addr) : List V → Hp → VK → Prop := fun xs H Q => ∃ (x : V) (b : Bool), xs = [x, .ref C] ∧
  ((∃ a D dx ns vs, x = .ref a ∧ ObR H a D dx ns vs ∧ OiC K D ∧ PySem.W.kitOne K (.ref D) (.ref C) = some b) ∨ ∃ t, TyX K H x (.type t) ∧ PySem.W.kitOne K (.type t) (.ref C) = some b) ∧ Q (.bl b) H
theorem call_isO {X : Cx} (C : Addr) : CallR X (.builtin "isinstance") (rIsO X.K C) := by
  intro pins s σ H xs us Q I r h
  obtain ⟨x, b, rfl, h, q⟩ := h
  obtain ⟨u1, u2, rfl, r1, r2⟩ := vals2 r
  cases (show u2 = Value.ref C from r2)
  rcases h with ⟨a, D, dx, ns, vs, rfl, ho, O, hk⟩ | ⟨t, ty, hk⟩
  · cases (show u1 = Value.ref a from r1)
    obtain ⟨ox, od, J⟩ := ob_inst I ho
    exact PySem.W.kia_one (OwX.kitx_slt O.ic (show PySem.W.plainGet X.K D "__class__" = true from O.pg) O.ca O.cn O.ct O.cm) I.kIn J hk (fun z => nomatch z) fun tk => ⟨.bl b, H, I.tok _, rfl, q⟩
  · obtain ⟨P, Z, p, hx⟩ := kit_of I r1 ty
    exact PySem.W.kia_one Z I.kIn p hk hx fun tk => ⟨.bl b, H, I.tok tk, rfl, q⟩
def tyTs : List String := ["NoneType", "bool", "int", "str", "tuple", "list"]
theorem tyOf_in {d : D} {t : String} (h : tyOf d = some t) : t ∈ tyTs := by
  cases d <;> first | (cases h; done) | (cases h; decide)
def isO (tbl : List (Str × Bool)) : D → Option D
  | .ob c _ _ => (tbl.lookup c).map D.bl
  | d => (tyOf d).map fun _ => D.bl false
def gIsO (c : Str) (tbl : List (Str × Bool)) : List D → Option D
  | [d, .cl c2] => if c2 = c then isO tbl d else none
  | _ => none
theorem isO_inv {tbl : List (Str × Bool)} {d z : D} (h : isO tbl d = some z) : (∃ c ns ds b, d = .ob c ns ds ∧ tbl.lookup c = some b ∧ z = .bl b) ∨ ∃ t, tyOf d = some t ∧ z = .bl false := by
  cases d with
  | ob c ns ds =>
    have h : (tbl.lookup c).map D.bl = some z := h
    cases q : tbl.lookup c with
    | none => rw [q] at h; cases h
    | some b =>
      rw [q] at h
      cases h
      exact .inl ⟨c, ns, ds, b, rfl, q, rfl⟩
  | ty => cases h
  | cl => cases h
  | _ => exact .inr ⟨_, rfl, by cases h; rfl⟩
theorem gIsO_inv {c : Str} {tbl : List (Str × Bool)} {ds : List D} {z : D} (h : gIsO c tbl ds = some z) : ∃ d, ds = [d, .cl c] ∧ isO tbl d = some z := by
  unfold gIsO at h
  split at h
  · rename_i d c2
    by_cases e : c2 = c
    · subst e
      rw [if_pos rfl] at h
      exact ⟨d, rfl, h⟩
    · rw [if_neg e] at h
      cases h
  · cases h
theorem cb_isO {X : Cx} {c : Str} {C : Addr} {tbl : List (Str × Bool)} (hm : X.mg c = some (.ref C)) (hT : ∀ t ∈ tyTs, PySem.W.kitOne X.K (.type t) (.ref C) = some false)
    (hO : ∀ c' b, tbl.lookup c' = some b → ∃ D, X.mg c' = some (.ref D) ∧ OiC X.K D ∧ PySem.W.kitOne X.K (.ref D) (.ref C) = some b) : CB X (.builtin "isinstance") (gIsO c tbl) where
  run := ⟨_, call_isO C, fun ds z xs H Q r q k => by
    obtain ⟨d, rfl, h⟩ := gIsO_inv q
    obtain ⟨v, u, rfl, r1, r2⟩ := rp2 r
    obtain ⟨C', rfl, m⟩ := r2
    rw [hm] at m
    cases m
    rcases isO_inv h with ⟨c', ns, es, b, rfl, hl, rfl⟩ | ⟨t, ht, rfl⟩
    · obtain ⟨a, D', dx, vs, rfl, m2, ho, _⟩ := r1
      obtain ⟨D2, m3, O, hk⟩ := hO _ _ hl
      rw [m2] at m3
      cases m3
      exact ⟨_, b, rfl, .inl ⟨a, D', dx, ns, vs, rfl, ho, O, hk⟩, k _ rfl⟩
    · exact ⟨v, false, rfl, .inr ⟨t, tyOf_ok r1 ht, hT t (tyOf_in ht)⟩, k _ rfl⟩⟩
  sc := fun ds z q => by
    obtain ⟨d, rfl, h⟩ := gIsO_inv q
    rcases isO_inv h with ⟨c', ns, es, b, rfl, hl, rfl⟩ | ⟨t, ht, rfl⟩
    · exact ⟨_, rfl⟩
    · exact ⟨_, rfl⟩
/-- the name of an own class -/
theorem de_cl {X : Cx} {W : WX} {ec : EC} {x : Str} {p : Pos} {C : Addr} (hm : X.mg x = some (.ref C)) (hg : Gl X x := by rfl) (hd : (x == ("__debug__" : Str)) = false := by decide) : DE X W ec (.Name x p) (fC (.cl x)) :=
  (pe_glob (v := V.ref C) hg hm rfl hd).imp fun σ H Q ⟨C', ρ, tm, h, q⟩ => q _ H (h.push_dt ⟨C, rfl, hm⟩) Kin.refl
end DL

namespace DL
open PySem L2
/-! ### x == y, x of an own class with its own __eq__ (and the other comparisons by own defs) -/
/-- y's class is not one below C -/
def NfR (K : PySem.W.Frag) (C : Addr) (y : V) (H : Hp) : Prop := (∃ b D dy ns vs, y = .ref b ∧ ObR H b D dy ns vs ∧ PySem.W.notFirst K C (.ref D) = true) ∨ ∃ t, TyX K H y (.type t) ∧ PySem.W.notFirst K C (.type t) = true
def tOwn (K : PySem.W.Frag) (C : Addr) (sp : Sp) (W : WX) (ta tb : TE) : TE := fun σ H Q => ta σ H fun x H1 => tb σ H1 fun y H2 => ∃ a dx ns vs, x = .ref a ∧ ObR H2 a C dx ns vs ∧ NfR K C y H2 ∧ sp [x, y] H2 Q (fun cls d H' => W cls d σ H')
section
variable {X : Cx} {W : WX} {ec : EC} {a b : Expr} {F1 F2 : Fm → Out RV} {c : Str} {C g : Addr} {k : Nat} {pos : Pos} {fd : FuncData} {ps : List Str} {sp : Sp} {ta tb : TE} {op : CmpOp}
theorem own_cmp {pins : List (Addr × Obj)} {σ : St} {H2 : Hp} {s2 : Shared} {Q : VK} {x y : V} {v u : Value} (hop : ∀ a b, compareOp op a b = richCompare op a b) (hs : PySem.W.findIn X.K (.ref C) (cmpInfo op).2.1 = some (some (.ref g))) (hf : PySem.W.isFn X.K (.ref g) = true)
    (G : FnG X.prog X.w X.K X.mg X.base k g fd ps sp) (gd : X.A.guards = some []) (hr : Room k X.A) (hb : KB X.K fd ps 2 [] [] [0, 1]) (tx : Takes X W) (I2 : Inv X pins σ H2 s2) (rx : RelV x v) (ry : RelV y u)
    (q : ∃ a dx ns vs, x = .ref a ∧ ObR H2 a C dx ns vs ∧ NfR X.K C y H2 ∧ sp [x, y] H2 Q (fun cls d H' => W cls d σ H')) : wpAny (model X.prog X.w) X.A (compareOp op v u) (EP X pins σ Q) X.xe s2 := by
  obtain ⟨o, dx, ns, vs, ex, ho, hn, q⟩ := q
  subst ex
  cases (show v = Value.ref o from rx)
  obtain ⟨ox, od, J⟩ := ob_inst I2 ho
  obtain ⟨m, hF⟩ := I2.fr
  rw [hop]
  obtain ⟨tb', lk, hn'⟩ : ∃ tb', (∀ M, PySem.W.Looks M s2.heap (typeOf u) tb') ∧ PySem.W.notFirst X.K C tb' = true := by
    rcases hn with ⟨b', D, dy, ns', vs', rfl, ho', hn⟩ | ⟨t, ty, hn⟩
    · cases (show u = Value.ref b' from ry)
      obtain ⟨ox', od', J'⟩ := ob_inst I2 ho'
      exact ⟨_, fun M => J'.type, hn⟩
    · obtain ⟨P, Z, p, hx⟩ := kit_of I2 ry ty
      exact ⟨_, fun M => Z.ty M _ I2.kIn p, hn⟩
  refine PySem.W.cmp_K (op := op) (tb := tb') hr.units0 hF I2.ok.mod.kin J (lk _) hn' hs hf ?_
  have z := run_G (us := [.ref o, u]) (ws := []) (vs := [.ref o, y]) (zs := []) G gd hr hb tx I2 (.cons rfl (.cons ry .nil)) .nil rfl rfl q
  refine wpAny_mono z (fun w s' z => ?_) fun _ _ x => x
  obtain ⟨z', H', I', rz, qz⟩ := z
  exact SlX.cmpback rz ⟨z', H', I', rz, qz⟩
theorem pe_own (hop : ∀ a b, compareOp op a b = richCompare op a b) (hs : PySem.W.findIn X.K (.ref C) (cmpInfo op).2.1 = some (some (.ref g))) (hf : PySem.W.isFn X.K (.ref g) = true)
    (G : FnG X.prog X.w X.K X.mg X.base k g fd ps sp) (gd : X.A.guards = some []) (hr : Room k X.A) (hb : KB X.K fd ps 2 [] [] [0, 1]) (tx : Takes X W) (ha : PE X a ta) (hb2 : PE X b tb) (hm : behindInMarks op b = false) : PE X (.Compare a [op] [b] pos) (tOwn X.K C sp W ta tb) := by
  refine ⟨fun pins s σ H Q I h => ?_⟩
  exact wpAny_Compare1 (binT ha hb2 I h fun v u s2 x y H2 I2 rx ry q => own_cmp hop hs hf G gd hr hb tx I2 rx ry q) hm
theorem pt_own (hop : ∀ a b, compareOp op a b = richCompare op a b) (hs : PySem.W.findIn X.K (.ref C) (cmpInfo op).2.1 = some (some (.ref g))) (hf : PySem.W.isFn X.K (.ref g) = true)
    (G : FnG X.prog X.w X.K X.mg X.base k g fd ps sp) (gd : X.A.guards = some []) (hr : Room k X.A) (hb : KB X.K fd ps 2 [] [] [0, 1]) (tx : Takes X W) (ha : PE X a ta) (hb2 : PE X b tb) (hm : behindInMarks op b = false) : PT X (.Compare a [op] [b] pos) (tTest (tOwn X.K C sp W ta tb)) := by
  refine ⟨fun pins s σ H Q I h => ?_⟩
  refine wpAny_isTrue_Compare1 (thn (ha.run pins s σ H _ I h) fun v s1 ⟨x, H1, I1, r1, q1⟩ => thn (hb2.run pins s1 σ H1 _ I1 q1) fun u s2 ⟨y, H2, I2, r2, q2⟩ => thn (own_cmp hop hs hf G gd hr hb tx I2 r1 r2 q2) fun c s3 ⟨z, H3, I3, r3, k, e, q3⟩ => ?_) hm
  subst e
  cases r3
  exact wpAny_truthy_bool ⟨H3, I3, q3⟩
def nfD (tbl : List Str) : D → Bool
  | .ob c _ _ => tbl.contains c
  | d => (tyOf d).isSome
def fOwn (c : Str) (tbl : List Str) (G : List D → FO) (F1 F2 : Fm → Out RV) : Fm → Out RV := fun ρ => (F1 ρ).bind fun r1 ρ => (F2 ρ).bind fun r2 ρ => match r1.get ρ, r2.get ρ with
  | some (.ob c' _ _), some d => if c' = c ∧ nfD tbl d = true then callX none G [] [r1, r2] ρ else .bad
  | _, _ => .bad
theorem tOwn_of {tbl : List Str} {Gf : List D → FO} (hm : X.mg c = some (.ref C))
    (hT : ∀ t ∈ tyTs, PySem.W.notFirst X.K C (.type t) = true) (hO : ∀ c' ∈ tbl, ∃ D, X.mg c' = some (.ref D) ∧ PySem.W.notFirst X.K C (.ref D) = true)
    {σ : St} {H : Hp} {Q : VK} (h : tD X.K X.mg W ec (fOwn c tbl Gf F1 F2) σ H Q) : tOwn X.K C (spD X.K X.mg none 2 Gf) W (tD X.K X.mg W ec F1) (tD X.K X.mg W ec F2) σ H Q := by
  obtain ⟨Cc, ρ, tm, h, p⟩ := h
  refine tD_step (ts := []) h Kin.refl p fun r1 ρ1 v H1 h1 k1 p1 => ?_
  refine tD_step (ts := [(r1, v)]) h1 k1 p1 fun r2 ρ2 u H2 h2 k2 p2 => ?_
  cases q1 : r1.get ρ2 with
  | none =>
    rw [q1] at p2
    exact p2.elim
  | some x =>
    cases q2 : r2.get ρ2 with
    | none =>
      rw [q1, q2] at p2
      cases x <;> exact p2.elim
    | some y =>
      rw [q1, q2] at p2
      cases x with
      | ob c' ns ds =>
        dsimp only at p2
        by_cases hc : c' = c ∧ nfD tbl y = true
        · rw [if_pos hc] at p2
          obtain ⟨rfl, hn⟩ := hc
          have ry := h2.get (.head _) q2
          obtain ⟨o, C', dx, vs, rfl, m, ho, _⟩ := h2.get (.tail _ (.head _)) q1
          rw [hm] at m
          cases m
          refine ⟨o, dx, ns, vs, rfl, ho, ?_, ?_⟩
          · cases y with
            | ob c2 ns2 ds2 =>
              obtain ⟨b', D, dy, vs2, rfl, m2, ho2, _⟩ := ry
              obtain ⟨D', m3, hn3⟩ := hO c2 (by simpa [nfD] using hn)
              rw [m2] at m3
              cases m3
              exact .inl ⟨b', D, dy, ns2, vs2, rfl, ho2, hn3⟩
            | ty => cases hn
            | cl => cases hn
            | _ => exact .inr ⟨_, tyOf_ok ry rfl, hT _ (by decide)⟩
          · exact callX_sp (dds := []) (dvs := []) (rs := [r1, r2]) (vs := [.ref o, u]) (ioi := none) rfl (fun _ z => by cases z) h2 k2 (fun _ => rfl) p2
        · rw [if_neg hc] at p2
          exact p2.elim
      | _ => exact p2.elim
theorem de_own {tbl : List Str} {Gf : List D → FO} (hop : ∀ a b, compareOp op a b = richCompare op a b) (hm : X.mg c = some (.ref C)) (hs : PySem.W.findIn X.K (.ref C) (cmpInfo op).2.1 = some (some (.ref g))) (hf : PySem.W.isFn X.K (.ref g) = true)
    (G : FnG X.prog X.w X.K X.mg X.base k g fd ps (spD X.K X.mg none 2 Gf)) (gd : X.A.guards = some []) (hr : Room k X.A) (hb : KB X.K fd ps 2 [] [] [0, 1]) (tx : Takes X W)
    (hT : ∀ t ∈ tyTs, PySem.W.notFirst X.K C (.type t) = true) (hO : ∀ c' ∈ tbl, ∃ D, X.mg c' = some (.ref D) ∧ PySem.W.notFirst X.K C (.ref D) = true)
    (ha : DE X W ec a F1) (hb2 : DE X W ec b F2) (hmk : behindInMarks op b = false := by first | exact nobehind _ (by decide) (by decide) | rfl) : DE X W ec (.Compare a [op] [b] pos) (fOwn c tbl Gf F1 F2) :=
  (pe_own hop hs hf G gd hr hb tx ha hb2 hmk).imp fun σ H Q h => tOwn_of hm hT hO h
theorem dt_own {tbl : List Str} {Gf : List D → FO} (hop : ∀ a b, compareOp op a b = richCompare op a b) (hm : X.mg c = some (.ref C)) (hs : PySem.W.findIn X.K (.ref C) (cmpInfo op).2.1 = some (some (.ref g))) (hf : PySem.W.isFn X.K (.ref g) = true)
    (G : FnG X.prog X.w X.K X.mg X.base k g fd ps (spD X.K X.mg none 2 Gf)) (gd : X.A.guards = some []) (hr : Room k X.A) (hb : KB X.K fd ps 2 [] [] [0, 1]) (tx : Takes X W)
    (hT : ∀ t ∈ tyTs, PySem.W.notFirst X.K C (.type t) = true) (hO : ∀ c' ∈ tbl, ∃ D, X.mg c' = some (.ref D) ∧ PySem.W.notFirst X.K C (.ref D) = true)
    (ha : DE X W ec a F1) (hb2 : DE X W ec b F2) (hmk : behindInMarks op b = false := by first | exact nobehind _ (by decide) (by decide) | rfl) : DT X W ec (.Compare a [op] [b] pos) (fTest (fOwn c tbl Gf F1 F2)) :=
  (pt_own hop hs hf G gd hr hb tx ha hb2 hmk).imp fun σ H Q h => tT_of (fun σ H Q h => tOwn_of hm hT hO h) h
end
end DL

namespace DL
open PySem L2
/-! ### str(x), bool(x) of an own class with its own __str__, __bool__ -/
section
variable {X : Cx} {W : WX} {ec : EC} {e : Expr} {F : Fm → Out RV} {c : Str} {C g : Addr} {k : Nat} {p pos : Pos} {fd : FuncData} {ps : List Str} {sp : Sp} {t : TA}
def tStrO (C : Addr) (sp : Sp) (W : WX) (t : TA) : TE := fun σ H Q => t σ H fun vs H1 => ∃ a dx ns ws, vs = [.ref a] ∧ ObR H1 a C dx ns ws ∧ sp [.ref a] H1 (fun z H' => ∃ y, z = .str y ∧ Q z H') (fun cls d H' => W cls d σ H')
/-- the def runs below the running body -/
theorem run_below {A : Around} {pins : List (Addr × Obj)} {σ : St} {H : Hp} {s : Shared} {Q : VK} {us : List Value} {vs : List V} (G : FnG X.prog X.w X.K X.mg X.base k g fd ps sp) (gd : A.guards = some []) (hr : Room k A) (e0 : Env0 X.prog X.w X.K X.mg X.base A X.stack s H)
    {n : Nat} (hb : KB X.K fd ps n [] [] (List.range n)) (tx : Takes X W) (I : Inv X pins σ H s) (r : Vals vs us) (hn : vs.length = n) (h : sp vs H Q (fun cls d H' => W cls d σ H')) :
    wpAny (model X.prog X.w) A (call (.ref g) us) (EP X pins σ Q) X.xe s := by
  obtain ⟨its, ri, hto⟩ := hb.to
  cases ri
  have hbt := hto s us [] I.kIn (r.length.symm.trans hn) rfl
  have e2 : pickL (List.range n) (us ++ [] ++ []) = us := by
    rw [List.append_nil, List.append_nil, ← (r.length.symm.trans hn)]
    apply List.ext_getElem?
    intro j
    rw [pick_get (fun i hi => List.mem_range.mp hi)]
    by_cases hj : j < us.length
    · rw [List.getElem?_range hj]
      rfl
    · rw [List.getElem?_eq_none (by rw [List.length_range]; exact Nat.le_of_not_lt hj), List.getElem?_eq_none (Nat.le_of_not_lt hj)]
      rfl
  rw [e2] at hbt
  refine wpAny_call (codeAny_mono (G.run A X.stack s H ⟨us, []⟩ us vs Q _ gd hr e0 hbt r h) fun r s' hq => ?_)
  cases r with
  | error e => exact passAt tx σ pins H s e s' I hq
  | ok fl =>
    cases fl with
    | ret u => exact I.after hq
    | next => exact hq.elim
    | brk => exact hq.elim
    | cont => exact hq.elim
theorem pe_strO (hs : PySem.W.findIn X.K (.ref C) "__str__" = some (some (.ref g))) (hf : PySem.W.isFn X.K (.ref g) = true) (G : FnG X.prog X.w X.K X.mg X.base k g fd ps sp) (gd : X.A.guards = some []) (hr : Room (k + 2) X.A) (hb : KB X.K fd ps 1 [] [] [0]) (tx : Takes X W)
    (hm : X.mg "str" = none) (ha : PA X [e] t) (hg : Gl X "str" := by rfl) (he : starEach [e] X.env = (false, eval e X.env) :: starEach [] X.env := by rfl) (hpl : (backTo pos (starEach [] X.env)).any (·.1) = false := by rfl) :
    PE X (.Call (.Name "str" p) [e] [] pos) (tStrO C sp W t) := by
  refine ⟨fun pins s σ H Q I h => ?_⟩
  refine wpAny_Call_Name_kw (ld_blt I hg hm (by rfl) ?_ (by decide) (by decide))
  refine PyProof.Rows.callWith_type1 (thn (ha.run pos pins s σ H _ I h) fun us s1 ⟨vs, H1, I1, r1, q1⟩ => ?_) he hpl
  obtain ⟨a, dx, ns, ws, rfl, ho, q⟩ := q1
  obtain ⟨u, rfl, ru⟩ := vals1 r1
  cases (show u = Value.ref a from ru)
  obtain ⟨ox, od, J⟩ := ob_inst I1 ho
  have hr2 : Room k X.A.in1.in1 := (show Room (k + 1) X.A.in1 from Room.in1 hr).in1
  refine PySem.W.kso_call hr2.units0 I1.kIn J hs hf (wpAny_mono (run_below (n := 1) (us := [.ref a]) (vs := [.ref a]) G gd hr2 I1.env0.in1.in1 hb tx I1 (.cons rfl .nil) rfl q) (fun v s' z => ?_) fun _ _ x => x)
  obtain ⟨z, H', I', rz, y, ez, qz⟩ := z
  subst ez
  obtain ⟨tk, e⟩ := (show ∃ t, v = Value.str y t from rz)
  cases e
  exact ⟨.str y, H', I', ⟨tk, rfl⟩, qz⟩
def strX : Out RV → Out RV
  | .ok (.dt (.str s)) ρ => .ok (.dt (.str s)) ρ
  | .ex c f d ρ => .ex c f d ρ
  | _ => .bad
def blX : Out RV → Out RV
  | .ok (.dt (.bl s)) ρ => .ok (.dt (.bl s)) ρ
  | .ex c f d ρ => .ex c f d ρ
  | _ => .bad
/-- a call of an own def at an instance, the answer seen to -/
def fOwn1 (c : Str) (z : Out RV → Out RV) (G : List D → FO) (F : Fm → Out RV) : Fm → Out RV := fun ρ => (F ρ).bind fun r ρ => match r.get ρ with
  | some (.ob c' _ _) => if c' = c then z (callX none G [] [r] ρ) else .bad
  | _ => .bad
theorem own1_sp {Gf : List D → FO} {z : Out RV → Out RV} {Ok : V → Prop} (hz : ∀ o r ρ, o = .ok r ρ → z o ≠ .bad → z o = o ∧ ∀ H v A, (∀ d, r = .dt d → Rp X.K X.mg H A d v) → Ok v) (hx : ∀ c f d ρ, z (.ex c f d ρ) = .ex c f d ρ) (hb : z .bad = .bad)
    (hm : X.mg c = some (.ref C)) {σ : St} {H : Hp} {Q : VK} (hd : ∀ o r ρ, o = Out.ok r ρ → z o ≠ .bad → ∃ d, r = .dt d) (h : tD X.K X.mg W ec (fOwn1 c z Gf F) σ H Q) :
    tD X.K X.mg W ec F σ H fun x H1 => ∃ a dx ns ws, x = .ref a ∧ ObR H1 a C dx ns ws ∧ spD X.K X.mg none 1 Gf [.ref a] H1 (fun v H' => Ok v ∧ Q v H') (fun cls d H' => W cls d σ H') := by
  obtain ⟨Cc, ρ, tm, h, q⟩ := h
  refine tD_step (ts := []) h Kin.refl q fun r1 ρ1 v H1 h1 k1 p1 => ?_
  cases q1 : r1.get ρ1 with
  | none => rw [q1] at p1; exact p1.elim
  | some x =>
    rw [q1] at p1
    cases x with
    | ob c' ns ds =>
      dsimp only at p1
      by_cases hc : c' = c
      · subst hc
        rw [if_pos rfl] at p1
        obtain ⟨er, a, C', dx, vs, rfl, m, ho, r⟩ := ob_dt h1 q1
        rw [hm] at m
        cases m
        refine ⟨a, dx, ns, vs, rfl, ho, ?_⟩
        have p2 : Fin X.K X.mg W ec Cc ρ σ tm (callX none Gf [] [r1] ρ1) (fun v H' => Ok v ∧ Q v H') := by
          cases q2 : callX none Gf [] [r1] ρ1 with
          | ok r ρ2 =>
            rw [q2] at p1
            have nb : z (.ok r ρ2) ≠ .bad := fun e => by rw [e] at p1; exact p1.elim
            obtain ⟨e1, e2⟩ := hz _ r ρ2 rfl nb
            obtain ⟨d, ed⟩ := hd _ r ρ2 rfl nb
            rw [e1] at p1
            subst ed
            exact fun v H' hh kk => ⟨e2 H' v (Av Cc.av ρ2 σ ((RV.dt d, v) :: tm)) fun d' e => by
              cases e
              exact hh.tmp _ _ (.head _), p1 v H' hh kk⟩
          | ex c1 f1 d1 ρ2 => rw [q2, hx] at p1; exact p1
          | bad => rw [q2, hb] at p1; exact p1.elim
        exact callX_sp (dds := []) (dvs := []) (rs := [r1]) (vs := [.ref a]) (ioi := none) rfl (fun _ z => by cases z) h1 k1 (fun _ => rfl) p2
      · rw [if_neg hc] at p1
        exact p1.elim
    | _ => exact p1.elim
theorem de_strO {Gf : List D → FO} (hmc : X.mg c = some (.ref C)) (hs : PySem.W.findIn X.K (.ref C) "__str__" = some (some (.ref g))) (hf : PySem.W.isFn X.K (.ref g) = true) (G : FnG X.prog X.w X.K X.mg X.base k g fd ps (spD X.K X.mg none 1 Gf)) (gd : X.A.guards = some []) (hr : Room (k + 2) X.A)
    (hb : KB X.K fd ps 1 [] [] [0]) (tx : Takes X W) (hm : X.mg "str" = none) (ha : DE X W ec e F) (hg : Gl X "str" := by rfl) (he : starEach [e] X.env = (false, eval e X.env) :: starEach [] X.env := by rfl) (hpl : (backTo pos (starEach [] X.env)).any (·.1) = false := by rfl) :
    DE X W ec (.Call (.Name "str" p) [e] [] pos) (fOwn1 c strX Gf F) := by
  refine (pe_strO (t := fun σ H R => tD X.K X.mg W ec F σ H fun x H1 => R [x] H1) hs hf G gd hr hb tx hm ?_ hg he hpl).imp fun σ H Q h => ?_
  · exact (da_cons ha da_nil he).imp fun σ H R h => by
      obtain ⟨Cc, ρ, tm, h, p⟩ := h
      refine ⟨Cc, ρ, tm, h, ?_⟩
      unfold aCons
      cases q : F ρ with
      | ok r ρ1 =>
        rw [q] at p
        intro vs H1 hl hh kk
        match vs, hl with
        | [v], _ => exact p v H1 hh kk
      | ex => rw [q] at p; exact p
      | bad => rw [q] at p; exact p
  · have z := own1_sp (Ok := fun v => ∃ y, v = .str y) (fun o r ρ eo nb => by
      subst eo
      cases r with
      | dt d => cases d with
        | str s => exact ⟨rfl, fun H v A k => ⟨s, k _ rfl⟩⟩
        | _ => exact (nb rfl).elim
      | _ => exact (nb rfl).elim) (fun _ _ _ _ => rfl) rfl hmc (fun o r ρ eo nb => by
      subst eo
      cases r with
      | dt d => exact ⟨d, rfl⟩
      | _ => exact (nb rfl).elim) h
    obtain ⟨Cc, ρ, tm, h, p⟩ := z
    refine ⟨Cc, ρ, tm, h, ?_⟩
    cases q : F ρ with
    | ok r ρ1 =>
      rw [q] at p
      intro v H1 hh kk
      obtain ⟨a, dx, ns, ws, rfl, ho, sp⟩ := p v H1 hh kk
      refine ⟨a, dx, ns, ws, rfl, ho, ?_⟩
      obtain ⟨av, ds, io, b, h1, h2, h3, h4, h5, h6, h7, h8⟩ := sp
      refine ⟨av, ds, io, b, h1, h2, h3, h4, h5, h6, h7, ?_⟩
      cases q2 : Gf ds with
      | ok r b' =>
        rw [q2] at h8
        exact fun v H' a1 a2 a3 => by
          obtain ⟨⟨y, ey⟩, qq⟩ := h8 v H' a1 a2 a3
          exact ⟨y, ey, qq⟩
      | ex => rw [q2] at h8; exact h8
      | bad => rw [q2] at h8; exact h8
    | ex => rw [q] at p; exact p
    | bad => rw [q] at p; exact p
end
end DL

namespace DL
open PySem L2
section
variable {prog : Program} {w : World} {A : Around} {E : Value → Shared → Prop} {s : Shared}
theorem bool_new_any (x : Value) : MeetsIn prog w (Builtin.«bool.__new__» ⟨[.type "bool", x], []⟩) (fun A R s => wpAny (model prog w) A.in1 (truthy x) (fun b s' => R (.ok (.ret (.bool b))) s') (fun e s' => R (.error e) s') s) :=
  .of_wp fun A R s h => by
    have f1 := PySem.F.conv_sub_bool
    unfold Builtin.«bool.__new__»
    dsimp only
    refine wpAny_bind (wpAny_of_eq (a := true) rfl ?_)
    simp only [Bool.not_true, Bool.false_eq_true, if_false]
    refine wpAny_bind (wpAny_of_eq f1 ?_)
    simp only [Bool.not_true, Bool.false_eq_true, if_false]
    refine wpAny_bind (wpAny_of_eq (a := [x]) rfl ?_)
    dsimp only
    refine wpAny_bind (wpAny_mono h (fun b s' hb => ?_) fun _ _ e => e)
    exact wpAny_pure ⟨_, rfl, hb⟩
theorem call_bool_any {x : Value} {Q : Value → Shared → Prop} (h : wpAny (model prog w) A.in1.in1 (truthy x) (fun b s' => Q (.bool b) s') E s) : wpAny (model prog w) A (call (.type "bool") [x]) Q E s :=
  callType_newIn PySem.F.called_bool PySem.F.newNe_bool (PySem.F.typeCall_bool_1 x) (PySem.F.newCall_bool_1 x) (fun obj => PySem.F.args_object_init_2 obj x) PySem.F.entry_bool_new (bool_new_any x)
    (wpAny_mono h (fun b s' hb => ⟨rfl, hb⟩) fun _ _ e => e)
end
/-! ### bool(x) of an own class with its own __bool__ -/
section
variable {X : Cx} {W : WX} {ec : EC} {e : Expr} {F : Fm → Out RV} {c : Str} {C g : Addr} {k : Nat} {p pos : Pos} {fd : FuncData} {ps : List Str} {sp : Sp} {t : TA}
def tBlO (C : Addr) (sp : Sp) (W : WX) (t : TA) : TE := fun σ H Q => t σ H fun vs H1 => ∃ a dx ns ws, vs = [.ref a] ∧ ObR H1 a C dx ns ws ∧ sp [.ref a] H1 (fun z H' => ∃ y, z = .bl y ∧ Q z H') (fun cls d H' => W cls d σ H')
theorem pe_boolO (hs : PySem.W.findIn X.K (.ref C) "__bool__" = some (some (.ref g))) (hf : PySem.W.isFn X.K (.ref g) = true) (G : FnG X.prog X.w X.K X.mg X.base k g fd ps sp) (gd : X.A.guards = some []) (hr : Room (k + 2) X.A) (hb : KB X.K fd ps 1 [] [] [0]) (tx : Takes X W)
    (hm : X.mg "bool" = none) (ha : PA X [e] t) (hg : Gl X "bool" := by rfl) (he : starEach [e] X.env = (false, eval e X.env) :: starEach [] X.env := by rfl) (hpl : (backTo pos (starEach [] X.env)).any (·.1) = false := by rfl) :
    PE X (.Call (.Name "bool" p) [e] [] pos) (tBlO C sp W t) := by
  refine ⟨fun pins s σ H Q I h => ?_⟩
  refine wpAny_Call_Name_kw (ld_blt I hg hm (by rfl) ?_ (by decide) (by decide))
  refine PyProof.Rows.callWith_type1 (thn (ha.run pos pins s σ H _ I h) fun us s1 ⟨vs, H1, I1, r1, q1⟩ => ?_) he hpl
  obtain ⟨a, dx, ns, ws, rfl, ho, q⟩ := q1
  obtain ⟨u, rfl, ru⟩ := vals1 r1
  cases (show u = Value.ref a from ru)
  obtain ⟨ox, od, J⟩ := ob_inst I1 ho
  have hr2 : Room k X.A.in1.in1 := (show Room (k + 1) X.A.in1 from Room.in1 hr).in1
  obtain ⟨m, hF⟩ := I1.fr
  refine call_bool_any (PySem.W.truthy_K hF I1.ok.mod.kin J hs hf (wpAny_mono (run_below (n := 1) (us := [.ref a]) (vs := [.ref a]) G gd hr2 I1.env0.in1.in1 hb tx I1 (.cons rfl .nil) rfl q) (fun v s' z => ?_) fun _ _ x => x))
  obtain ⟨z, H', I', rz, y, ez, qz⟩ := z
  subst ez
  cases (show v = Value.bool y from rz)
  exact ⟨.bl y, H', I', rfl, qz⟩
theorem de_boolO {Gf : List D → FO} (hmc : X.mg c = some (.ref C)) (hs : PySem.W.findIn X.K (.ref C) "__bool__" = some (some (.ref g))) (hf : PySem.W.isFn X.K (.ref g) = true) (G : FnG X.prog X.w X.K X.mg X.base k g fd ps (spD X.K X.mg none 1 Gf)) (gd : X.A.guards = some []) (hr : Room (k + 2) X.A)
    (hb : KB X.K fd ps 1 [] [] [0]) (tx : Takes X W) (hm : X.mg "bool" = none) (ha : DE X W ec e F) (hg : Gl X "bool" := by rfl) (he : starEach [e] X.env = (false, eval e X.env) :: starEach [] X.env := by rfl) (hpl : (backTo pos (starEach [] X.env)).any (·.1) = false := by rfl) :
    DE X W ec (.Call (.Name "bool" p) [e] [] pos) (fOwn1 c blX Gf F) := by
  refine (pe_boolO (t := fun σ H R => tD X.K X.mg W ec F σ H fun x H1 => R [x] H1) hs hf G gd hr hb tx hm ?_ hg he hpl).imp fun σ H Q h => ?_
  · exact (da_cons ha da_nil he).imp fun σ H R h => by
      obtain ⟨Cc, ρ, tm, h, p⟩ := h
      refine ⟨Cc, ρ, tm, h, ?_⟩
      unfold aCons
      cases q : F ρ with
      | ok r ρ1 =>
        rw [q] at p
        intro vs H1 hl hh kk
        match vs, hl with
        | [v], _ => exact p v H1 hh kk
      | ex => rw [q] at p; exact p
      | bad => rw [q] at p; exact p
  · have z := own1_sp (Ok := fun v => ∃ y, v = .bl y) (fun o r ρ eo nb => by
      subst eo
      cases r with
      | dt d => cases d with
        | bl s => exact ⟨rfl, fun H v A k => ⟨s, k _ rfl⟩⟩
        | _ => exact (nb rfl).elim
      | _ => exact (nb rfl).elim) (fun _ _ _ _ => rfl) rfl hmc (fun o r ρ eo nb => by
      subst eo
      cases r with
      | dt d => exact ⟨d, rfl⟩
      | _ => exact (nb rfl).elim) h
    obtain ⟨Cc, ρ, tm, h, p⟩ := z
    refine ⟨Cc, ρ, tm, h, ?_⟩
    cases q : F ρ with
    | ok r ρ1 =>
      rw [q] at p
      intro v H1 hh kk
      obtain ⟨a, dx, ns, ws, rfl, ho, sp⟩ := p v H1 hh kk
      refine ⟨a, dx, ns, ws, rfl, ho, ?_⟩
      obtain ⟨av, ds, io, b, h1, h2, h3, h4, h5, h6, h7, h8⟩ := sp
      refine ⟨av, ds, io, b, h1, h2, h3, h4, h5, h6, h7, ?_⟩
      cases q2 : Gf ds with
      | ok r b' =>
        rw [q2] at h8
        exact fun v H' a1 a2 a3 => by
          obtain ⟨⟨y, ey⟩, qq⟩ := h8 v H' a1 a2 a3
          exact ⟨y, ey, qq⟩
      | ex => rw [q2] at h8; exact h8
      | bad => rw [q2] at h8; exact h8
    | ex => rw [q] at p; exact p
    | bad => rw [q] at p; exact p
end
end DL

namespace DL
open PySem L2
/-! ### C.m(..), m a staticmethod of the own class C -/
structure SmO (K : PySem.W.Frag) (C : Addr) (m : Str) (g : Addr) : Prop where
  rd : PySem.W.readsIn K C (.type "type") = true
  ga : PySem.W.specialIn K (.ref C) "__getattribute__" = some (some (.builtin "type.__getattribute__"))
  ty : PySem.W.typeIn K (.ref C) = some (.type "type")
  at_ : ∃ p, PySem.W.findCls K (.ref C) (.type "type") m = some (.get (.builtin "staticmethod.__get__") (.ref p) .none (.ref C)) ∧ ∃ rest, PySem.W.recIn K p "staticmethod" = some (.ref g :: rest)
  kp : PySem.W.keepIn K (.ref g) = true
section
variable {X : Cx} {W : WX} {ec : EC} {k n : Nat} {g C : Addr} {fd : FuncData} {ps ks : List Str} {sp : Sp} {x m : Str} {p1 apos pos : Pos} {e : Expr} {es : List Expr} {kws : List Keyword} {t tk : TA} {dvs : List V} {is : List Nat}
theorem getm_sm {pins : List (Addr × Obj)} {σ : St} {H : Hp} {s : Shared} {E : Value → Shared → Prop} {pl : Sem Bool} {Q : Value × List Value → Shared → Prop} (S : SmO X.K C m g) (I : Inv X pins σ H s) (h : ∀ s', Inv X pins σ H s' → Q (.ref g, []) s') :
    wpAny (model X.prog X.w) X.A (getMethod (.ref C) m pl) Q E s := by
  obtain ⟨p, h1, rest, h2⟩ := S.at_
  obtain ⟨mm, hF⟩ := I.fr
  exact PySem.W.method_cls I.kIn S.ga (PySem.W.cls_sm hF I.ok.mod.kin S.ty S.rd h1 h2 rfl (h _ (I.tok _)))
theorem pe_smeth {pl : Sem Bool} (S : SmO X.K C m g) (G : FnG X.prog X.w X.K X.mg X.base k g fd ps sp) (gd : X.A.guards = some []) (hr : Room k X.A) (hb : KB X.K fd ps n ks dvs is) (tx : Takes X W) (hm : X.mg x = some (.ref C)) (hg : Gl X x)
    (ha : PA X (e :: es) t) (hkw : PK X kws tk) (hall : (backToKw pos (keywordEach kws X.env)).all (·.1.isSome) = true) (hks : (backToKw pos (keywordEach kws X.env)).filterMap (·.1) = ks)
    (hdb : (x == ("__debug__" : Str)) = false) (he : starEach (e :: es) X.env = (false, eval e X.env) :: starEach es X.env)
    (hpl : ((backTo pos (starEach (e :: es) X.env)).any (·.1) || (backToKw pos (keywordEach kws X.env)).any (·.1.isNone)) = false)
    (ht : eval (.Call (.Attribute (.Name x p1) m apos) (e :: es) kws pos) X.env = (do
      let ov ← eval (.Name x p1) X.env
      standAt apos.atName
      let (f, first) ← holding [ov] (getMethod ov m pl)
      callWith pos f first (backTo pos (starEach (e :: es) X.env)) (backToKw pos (keywordEach kws X.env)))) :
    PE X (.Call (.Attribute (.Name x p1) m apos) (e :: es) kws pos) (tCG n ks.length sp is dvs W t tk) := ⟨fun pins s σ H Q I h => by
  refine PySem.W.methodCall_KW (pl := pl) (ld_glob I hg hm ?_ hdb) ht
  refine getm_sm S (I.tok _) fun s0 I0 => ?_
  refine PySem.W.callWith_KW (h₀ := X.base) I0.ok.mod.kin S.kp hall ?_ hpl he
  refine thn (ha.run pos pins _ σ H _ I0 h) fun us s1 h1 => ?_
  obtain ⟨vs, H1, I1, r, q⟩ := h1
  refine thn (hkw.run pos pins s1 σ H1 _ I1 q) fun ws s2 h2 => ?_
  obtain ⟨zs, H2, I2, rz, l1, l2, q2⟩ := h2
  refine ⟨I2.kIn, ?_⟩
  rw [hks]
  exact run_G G gd hr hb tx I2 r rz l1 l2 q2⟩
theorem pe_smeth0 {pl : Sem Bool} (S : SmO X.K C m g) (G : FnG X.prog X.w X.K X.mg X.base k g fd ps sp) (gd : X.A.guards = some []) (hr : Room k X.A) (hb : KB X.K fd ps 0 ks dvs is) (tx : Takes X W) (hm : X.mg x = some (.ref C)) (hg : Gl X x)
    (hkw : PK X kws tk) (hall : (backToKw pos (keywordEach kws X.env)).all (·.1.isSome) = true) (hks : (backToKw pos (keywordEach kws X.env)).filterMap (·.1) = ks)
    (hdb : (x == ("__debug__" : Str)) = false) (hpl : ((backTo pos (starEach [] X.env)).any (·.1) || (backToKw pos (keywordEach kws X.env)).any (·.1.isNone)) = false)
    (ht : eval (.Call (.Attribute (.Name x p1) m apos) [] kws pos) X.env = (do
      let ov ← eval (.Name x p1) X.env
      standAt apos.atName
      let (f, first) ← holding [ov] (getMethod ov m pl)
      callWith pos f first (backTo pos (starEach [] X.env)) (backToKw pos (keywordEach kws X.env)))) :
    PE X (.Call (.Attribute (.Name x p1) m apos) [] kws pos) (tCG 0 ks.length sp is dvs W tNil tk) := ⟨fun pins s σ H Q I h => by
  refine PySem.W.methodCall_KW (pl := pl) (ld_glob I hg hm ?_ hdb) ht
  refine getm_sm S (I.tok _) fun s0 I0 => ?_
  refine PySem.W.callWith_KW0 (h₀ := X.base) I0.ok.mod.kin S.kp hall ?_ hpl
  refine thn (hkw.run pos pins _ σ H _ I0 h) fun ws s2 h2 => ?_
  obtain ⟨zs, H2, I2, rz, l1, l2, q2⟩ := h2
  refine ⟨I2.kIn, ?_⟩
  rw [hks]
  exact run_G (us := []) (vs := []) G gd hr hb tx I2 .nil rz rfl l2 q2⟩
theorem de_smeth {pl : Sem Bool} {n1 n2 : Nat} {F : List D → FO} {ioi : Option Nat} {dds : List D} {A B : Fm → Out (List RV)} (S : SmO X.K C m g) (G : FnG X.prog X.w X.K X.mg X.base k g fd ps (spD X.K X.mg ioi n2 F)) (gd : X.A.guards = some []) (hr : Room k X.A) (hb : KB X.K fd ps n1 ks dvs is) (tx : Takes X W) (hm : X.mg x = some (.ref C))
    (hd : ∀ H A, RpL X.K X.mg H A dds dvs) (ha : DA X W ec (e :: es) A) (hkw : DK X W ec kws B) (l1 : LA A n1) (l2 : LA B ks.length) (hj : ∀ j, ioi = some j → j < n1 + ks.length) (o : IsOk ioi n2 is (n1 + ks.length + dds.length)) (hg : Gl X x := by rfl)
    (hall : (backToKw pos (keywordEach kws X.env)).all (·.1.isSome) = true := by rfl) (hks : (backToKw pos (keywordEach kws X.env)).filterMap (·.1) = ks := by rfl)
    (hdb : (x == ("__debug__" : Str)) = false := by decide) (he : starEach (e :: es) X.env = (false, eval e X.env) :: starEach es X.env := by rfl)
    (hpl : ((backTo pos (starEach (e :: es) X.env)).any (·.1) || (backToKw pos (keywordEach kws X.env)).any (·.1.isNone)) = false := by rfl)
    (ht : eval (.Call (.Attribute (.Name x p1) m apos) (e :: es) kws pos) X.env = (do
      let ov ← eval (.Name x p1) X.env
      standAt apos.atName
      let (f, first) ← holding [ov] (getMethod ov m pl)
      callWith pos f first (backTo pos (starEach (e :: es) X.env)) (backToKw pos (keywordEach kws X.env))) := by rfl) : DE X W ec (.Call (.Attribute (.Name x p1) m apos) (e :: es) kws pos) (fCall ioi F is dds A B) :=
  (pe_smeth S G gd hr hb tx hm hg ha hkw hall hks hdb he hpl ht).imp fun σ H Q h => tCG_of l1 l2 hj o hd h
theorem de_smeth0 {pl : Sem Bool} {n2 : Nat} {F : List D → FO} {ioi : Option Nat} {dds : List D} {B : Fm → Out (List RV)} (S : SmO X.K C m g) (G : FnG X.prog X.w X.K X.mg X.base k g fd ps (spD X.K X.mg ioi n2 F)) (gd : X.A.guards = some []) (hr : Room k X.A) (hb : KB X.K fd ps 0 ks dvs is) (tx : Takes X W) (hm : X.mg x = some (.ref C))
    (hd : ∀ H A, RpL X.K X.mg H A dds dvs) (hkw : DK X W ec kws B) (l2 : LA B ks.length) (hj : ∀ j, ioi = some j → j < 0 + ks.length) (o : IsOk ioi n2 is (0 + ks.length + dds.length)) (hg : Gl X x := by rfl)
    (hall : (backToKw pos (keywordEach kws X.env)).all (·.1.isSome) = true := by rfl) (hks : (backToKw pos (keywordEach kws X.env)).filterMap (·.1) = ks := by rfl)
    (hdb : (x == ("__debug__" : Str)) = false := by decide)
    (hpl : ((backTo pos (starEach [] X.env)).any (·.1) || (backToKw pos (keywordEach kws X.env)).any (·.1.isNone)) = false := by rfl)
    (ht : eval (.Call (.Attribute (.Name x p1) m apos) [] kws pos) X.env = (do
      let ov ← eval (.Name x p1) X.env
      standAt apos.atName
      let (f, first) ← holding [ov] (getMethod ov m pl)
      callWith pos f first (backTo pos (starEach [] X.env)) (backToKw pos (keywordEach kws X.env))) := by rfl) : DE X W ec (.Call (.Attribute (.Name x p1) m apos) [] kws pos) (fCall ioi F is dds aNil B) :=
  (pe_smeth0 S G gd hr hb tx hm hg hkw hall hks hdb hpl ht).imp fun σ H Q h => by
    have q := tCG_of (A := aNil) la_nil l2 hj o hd h
    obtain ⟨C, ρ, tm, h1, p1⟩ := q
    exact p1 [] H rfl h1 Kin.refl
end
end DL

namespace DL
open PySem
/-! ### x != y, x of an own class with __eq__ and no __ne__ of its own -/
section
open PySem.W PySem.Calls PyProof.Rows PyProof.V PySem.Spec
variable {prog : Program} {w : World} {A : Around} {E : Value → Shared → Prop} {s : Shared} {K : Frag} {x C f L : Addr} {h₀ : Heap} {m : Str → Option Value} {ox : Obj} {od : Option Obj} {b tb : Value}
theorem ne_bind (self : Value) : bindSpecial (.builtin "object.__ne__") self = pure (.builtin "object.__ne__", [self]) := (PySem.F.cmp_object.ne).bind self
theorem ifBound_B {M : Model} {args : List Value} {Q : Option Value → Shared → Prop} (X : K.In s.heap) (I : InstAt s.heap x ox C od) (hs : findIn K (.ref C) "__ne__" = some (some (.builtin "object.__ne__")))
    (h : wpAny M A (call (.builtin "object.__ne__") (.ref x :: args)) (fun v => Q (some v)) E s) : wpAny M A (callSpecialIfBound? (.ref x) "__ne__" args) Q E s := by
  simp only [callSpecialIfBound?, bindSpecialIfBound?]
  refine wpAny_holding (wpAny_bind (wpAny_bind (wpAny_bind (I.type.here ((looks_findIn X hs).here ?_)))))
  refine wpAny_bind (wpAny_askSetting (wpAny_ite ?_))
  have fin : wpAny M A (call (.builtin "object.__ne__") ([.ref x] ++ args) >>= fun v => pure (some v)) Q E s := wpAny_bind (wpAny_mono h (fun v s' h' => wpAny_pure h') fun _ _ h' => h')
  split
  · exact wpAny_bind (wpAny_of_eq (ne_bind _) (wpAny_pure (by exact fin)))
  · exact wpAny_tryCatch (wpAny_bind (wpAny_of_eq (ne_bind _) (wpAny_pure (by exact fin))))
theorem ne_K {Q : Value → Shared → Prop} (hu : A.units + 1 < cLine) (F : Fr h₀ L s.heap m) (X₀ : K.In h₀) (I : InstAt s.heap x ox C od) (hb : Looks (model prog w) s.heap (typeOf b) tb) (hn : notFirst K C tb = true)
    (hs : findIn K (.ref C) "__ne__" = some (some (.builtin "object.__ne__"))) (he : findIn K (.ref C) "__eq__" = some (some (.ref f))) (hf : isFn K (.ref f) = true) (hm : mroIn K C (.type "object") = some true)
    (h : wpAny (model prog w) A.in1 (call (.ref f) [.ref x, b]) (fun v s' => ∃ k, v = .bool k ∧ Q (.bool (!k)) s') E s) : wpAny (model prog w) A (richCompare .NotEq (.ref x) b) Q E s := by
  have X := X₀.keeps F.keep
  have one : wpAny (model prog w) A (tryCompare (.ref x) "__ne__" b) (fun r s' => ∃ v, r = some v ∧ Q v s') E s := by
    unfold tryCompare
    refine wpAny_bind (ifBound_B X I hs (wpAny_call (codeAny_call_builtin PySem.F.cmp_object.ne.plain PySem.F.cmpEntry_ne (check_slot PySem.F.cmpKind_ne PySem.F.cmpSplit_ne ?_ (PySem.F.cmpArgs_ne _ _) ?_))))
    · exact I.type.andThen (looks_mroIn X hm)
    · unfold Builtin.«object.__ne__»
      refine wpAny_bind (wpAny_of_eq (a := (Value.ref x, [b])) rfl ?_)
      dsimp only
      refine wpAny_bind (wpAny_cRoomFor (Nat.lt_of_le_of_lt (show A.in1.units ≤ A.units + 1 by first | exact Nat.le_refl _ | (show A.units + 1 ≤ _; exact Nat.le_refl _) | omega) hu) ?_)
      refine wpAny_bind (ifBound_K X I he hf (wpAny_mono h (fun v s' hv => ?_) fun _ _ e => e))
      obtain ⟨k, rfl, hq⟩ := hv
      dsimp only
      refine wpAny_bind (wpAny_truthy_bool ?_)
      exact wpAny_pure (show wpAny _ _ (pure (some (Value.bool !k))) _ _ _ from wpAny_pure ⟨_, rfl, hq⟩)
  unfold richCompare
  simp only [oneThing_ref]
  refine wpAny_holding (wpAny_bind (wpAny_cRoomFor (Nat.lt_of_succ_lt hu) ?_))
  refine wpAny_bind (I.type.here (wpAny_bind (hb.here ?_)))
  split
  · rename_i q
    have e : subIn K tb (.ref C) = some false := by
      rcases Bool.or_eq_true_iff.mp hn with e | e
      · rw [beq_iff_eq.mp e] at q; simp at q
      · exact beq_iff_eq.mp e
    refine wpAny_bind ((looks_subIn X e).here ?_)
    simp only [Bool.false_eq_true, if_false]
    refine wpAny_bind (wpAny_mono one (fun r s' z => ?_) fun _ _ e => e)
    obtain ⟨v, rfl, hq⟩ := z
    exact wpAny_pure hq
  · refine wpAny_bind (wpAny_pure ?_)
    simp only [Bool.false_eq_true, if_false]
    refine wpAny_bind (wpAny_mono one (fun r s' z => ?_) fun _ _ e => e)
    obtain ⟨v, rfl, hq⟩ := z
    exact wpAny_pure hq
end
end DL
namespace DL
open PySem L2
section
variable {X : Cx} {W : WX} {ec : EC} {a b : Expr} {F1 F2 : Fm → Out RV} {c : Str} {C g : Addr} {k : Nat} {pos : Pos} {fd : FuncData} {ps : List Str} {sp : Sp} {ta tb : TE}
def tOwnNe (K : PySem.W.Frag) (C : Addr) (sp : Sp) (W : WX) (ta tb : TE) : TE := fun σ H Q => ta σ H fun x H1 => tb σ H1 fun y H2 => ∃ a dx ns vs, x = .ref a ∧ ObR H2 a C dx ns vs ∧ NfR K C y H2 ∧ sp [x, y] H2 (fun z H' => ∃ k, z = .bl k ∧ Q (.bl (!k)) H') (fun cls d H' => W cls d σ H')
/-- what the class says of == and != -/
structure NeC (K : PySem.W.Frag) (C g : Addr) : Prop where
  ne : PySem.W.findIn K (.ref C) "__ne__" = some (some (.builtin "object.__ne__"))
  eq : PySem.W.findIn K (.ref C) "__eq__" = some (some (.ref g))
  fn : PySem.W.isFn K (.ref g) = true
  ob : PySem.W.mroIn K C (.type "object") = some true
theorem ne_cmp {pins : List (Addr × Obj)} {σ : St} {H2 : Hp} {s2 : Shared} {Q : VK} {x y : V} {v u : Value} (N : NeC X.K C g) (G : FnG X.prog X.w X.K X.mg X.base k g fd ps sp) (gd : X.A.guards = some []) (hr : Room (k + 1) X.A) (hb : KB X.K fd ps 2 [] [] [0, 1]) (tx : Takes X W) (I2 : Inv X pins σ H2 s2) (rx : RelV x v) (ry : RelV y u)
    (q : ∃ a dx ns vs, x = .ref a ∧ ObR H2 a C dx ns vs ∧ NfR X.K C y H2 ∧ sp [x, y] H2 (fun z H' => ∃ k, z = .bl k ∧ Q (.bl (!k)) H') (fun cls d H' => W cls d σ H')) : wpAny (model X.prog X.w) X.A (compareOp .NotEq v u) (EP X pins σ Q) X.xe s2 := by
  obtain ⟨o, dx, ns, vs, ex, ho, hn, q⟩ := q
  subst ex
  cases (show v = Value.ref o from rx)
  obtain ⟨ox, od, J⟩ := ob_inst I2 ho
  obtain ⟨m, hF⟩ := I2.fr
  obtain ⟨tb', lk, hn'⟩ : ∃ tb', (∀ M, PySem.W.Looks M s2.heap (typeOf u) tb') ∧ PySem.W.notFirst X.K C tb' = true := by
    rcases hn with ⟨b', D, dy, ns', vs', rfl, ho', hn⟩ | ⟨t, ty, hn⟩
    · cases (show u = Value.ref b' from ry)
      obtain ⟨ox', od', J'⟩ := ob_inst I2 ho'
      exact ⟨_, fun M => J'.type, hn⟩
    · obtain ⟨P, Z, p, hx⟩ := kit_of I2 ry ty
      exact ⟨_, fun M => Z.ty M _ I2.kIn p, hn⟩
  have hr1 : Room k X.A.in1 := Room.in1 hr
  refine PySem.W.cmp_ofNotEq (ne_K hr1.units0 hF I2.ok.mod.kin J (lk _) hn' N.ne N.eq N.fn N.ob ?_)
  have z := run_below (A := X.A.in1) (n := 2) (us := [.ref o, u]) (vs := [.ref o, y]) G gd hr1 I2.env0.in1 hb tx I2 (.cons rfl (.cons ry .nil)) rfl q
  refine wpAny_mono z (fun w s' z => ?_) fun _ _ x => x
  obtain ⟨z', H', I', rz, kk, ez, qz⟩ := z
  subst ez
  cases (show w = Value.bool kk from rz)
  exact ⟨kk, rfl, .bl (!kk), H', I', rfl, qz⟩
theorem pe_ownNe (N : NeC X.K C g) (G : FnG X.prog X.w X.K X.mg X.base k g fd ps sp) (gd : X.A.guards = some []) (hr : Room (k + 1) X.A) (hb : KB X.K fd ps 2 [] [] [0, 1]) (tx : Takes X W) (ha : PE X a ta) (hb2 : PE X b tb) (hm : behindInMarks .NotEq b = false) :
    PE X (.Compare a [.NotEq] [b] pos) (tOwnNe X.K C sp W ta tb) := by
  refine ⟨fun pins s σ H Q I h => ?_⟩
  exact wpAny_Compare1 (binT ha hb2 I h fun v u s2 x y H2 I2 rx ry q => ne_cmp N G gd hr hb tx I2 rx ry q) hm
theorem pt_ownNe (N : NeC X.K C g) (G : FnG X.prog X.w X.K X.mg X.base k g fd ps sp) (gd : X.A.guards = some []) (hr : Room (k + 1) X.A) (hb : KB X.K fd ps 2 [] [] [0, 1]) (tx : Takes X W) (ha : PE X a ta) (hb2 : PE X b tb) (hm : behindInMarks .NotEq b = false) :
    PT X (.Compare a [.NotEq] [b] pos) (tTest (tOwnNe X.K C sp W ta tb)) := by
  refine ⟨fun pins s σ H Q I h => ?_⟩
  refine wpAny_isTrue_Compare1 (thn (ha.run pins s σ H _ I h) fun v s1 ⟨x, H1, I1, r1, q1⟩ => thn (hb2.run pins s1 σ H1 _ I1 q1) fun u s2 ⟨y, H2, I2, r2, q2⟩ => thn (ne_cmp (Q := fun z H' => ∃ k, z = .bl k ∧ Q k H') N G gd hr hb tx I2 r1 r2 q2) fun c s3 ⟨z, H3, I3, r3, k, e, q3⟩ => ?_) hm
  subst e
  cases r3
  exact wpAny_truthy_bool ⟨H3, I3, q3⟩
def notX : Out RV → Out RV
  | .ok (.dt (.bl s)) ρ => .ok (.dt (.bl (!s))) ρ
  | .ex c f d ρ => .ex c f d ρ
  | _ => .bad
def fOwnNe (c : Str) (tbl : List Str) (G : List D → FO) (F1 F2 : Fm → Out RV) : Fm → Out RV := fun ρ => (F1 ρ).bind fun r1 ρ => (F2 ρ).bind fun r2 ρ => match r1.get ρ, r2.get ρ with
  | some (.ob c' _ _), some d => if c' = c ∧ nfD tbl d = true then notX (callX none G [] [r1, r2] ρ) else .bad
  | _, _ => .bad
theorem tOwnNe_of {tbl : List Str} {Gf : List D → FO} (hm : X.mg c = some (.ref C))
    (hT : ∀ t ∈ tyTs, PySem.W.notFirst X.K C (.type t) = true) (hO : ∀ c' ∈ tbl, ∃ D, X.mg c' = some (.ref D) ∧ PySem.W.notFirst X.K C (.ref D) = true)
    {σ : St} {H : Hp} {Q : VK} (h : tD X.K X.mg W ec (fOwnNe c tbl Gf F1 F2) σ H Q) : tOwnNe X.K C (spD X.K X.mg none 2 Gf) W (tD X.K X.mg W ec F1) (tD X.K X.mg W ec F2) σ H Q := by
  obtain ⟨Cc, ρ, tm, h, p⟩ := h
  refine tD_step (ts := []) h Kin.refl p fun r1 ρ1 v H1 h1 k1 p1 => ?_
  refine tD_step (ts := [(r1, v)]) h1 k1 p1 fun r2 ρ2 u H2 h2 k2 p2 => ?_
  cases q1 : r1.get ρ2 with
  | none =>
    rw [q1] at p2
    exact p2.elim
  | some x =>
    cases q2 : r2.get ρ2 with
    | none =>
      rw [q1, q2] at p2
      cases x <;> exact p2.elim
    | some y =>
      rw [q1, q2] at p2
      cases x with
      | ob c' ns ds =>
        dsimp only at p2
        by_cases hc : c' = c ∧ nfD tbl y = true
        · rw [if_pos hc] at p2
          obtain ⟨rfl, hn⟩ := hc
          have ry := h2.get (.head _) q2
          obtain ⟨o, C', dx, vs, rfl, m, ho, _⟩ := h2.get (.tail _ (.head _)) q1
          rw [hm] at m
          cases m
          refine ⟨o, dx, ns, vs, rfl, ho, ?_, ?_⟩
          · cases y with
            | ob c2 ns2 ds2 =>
              obtain ⟨b', D, dy, vs2, rfl, m2, ho2, _⟩ := ry
              obtain ⟨D', m3, hn3⟩ := hO c2 (by simpa [nfD] using hn)
              rw [m2] at m3
              cases m3
              exact .inl ⟨b', D, dy, ns2, vs2, rfl, ho2, hn3⟩
            | ty => cases hn
            | cl => cases hn
            | _ => exact .inr ⟨_, tyOf_ok ry rfl, hT _ (by decide)⟩
          · have p3 : Fin X.K X.mg W ec Cc ρ σ tm (callX none Gf [] [r1, r2] ρ2) (fun z H' => ∃ k, z = .bl k ∧ Q (.bl (!k)) H') := by
              cases q3 : callX none Gf [] [r1, r2] ρ2 with
              | ok r ρ3 =>
                rw [q3] at p2
                cases r with
                | dt d =>
                  cases d with
                  | bl kk =>
                    intro z H' hh kn
                    have ez : z = .bl kk := hh.tmp _ _ (.head _)
                    exact ⟨kk, ez, p2 (.bl (!kk)) H' (hh.pop.push_sv rfl) kn⟩
                  | _ => exact p2.elim
                | _ => exact p2.elim
              | ex => rw [q3] at p2; exact p2
              | bad => rw [q3] at p2; exact p2.elim
            exact callX_sp (dds := []) (dvs := []) (rs := [r1, r2]) (vs := [.ref o, u]) (ioi := none) rfl (fun _ z => by cases z) h2 k2 (fun _ => rfl) p3
        · rw [if_neg hc] at p2
          exact p2.elim
      | _ => exact p2.elim
theorem de_ownNe {tbl : List Str} {Gf : List D → FO} (hm : X.mg c = some (.ref C)) (N : NeC X.K C g)
    (G : FnG X.prog X.w X.K X.mg X.base k g fd ps (spD X.K X.mg none 2 Gf)) (gd : X.A.guards = some []) (hr : Room (k + 1) X.A) (hb : KB X.K fd ps 2 [] [] [0, 1]) (tx : Takes X W)
    (hT : ∀ t ∈ tyTs, PySem.W.notFirst X.K C (.type t) = true) (hO : ∀ c' ∈ tbl, ∃ D, X.mg c' = some (.ref D) ∧ PySem.W.notFirst X.K C (.ref D) = true)
    (ha : DE X W ec a F1) (hb2 : DE X W ec b F2) (hmk : behindInMarks .NotEq b = false := by first | exact nobehind _ (by decide) (by decide) | rfl) : DE X W ec (.Compare a [.NotEq] [b] pos) (fOwnNe c tbl Gf F1 F2) :=
  (pe_ownNe N G gd hr hb tx ha hb2 hmk).imp fun σ H Q h => tOwnNe_of hm hT hO h
theorem dt_ownNe {tbl : List Str} {Gf : List D → FO} (hm : X.mg c = some (.ref C)) (N : NeC X.K C g)
    (G : FnG X.prog X.w X.K X.mg X.base k g fd ps (spD X.K X.mg none 2 Gf)) (gd : X.A.guards = some []) (hr : Room (k + 1) X.A) (hb : KB X.K fd ps 2 [] [] [0, 1]) (tx : Takes X W)
    (hT : ∀ t ∈ tyTs, PySem.W.notFirst X.K C (.type t) = true) (hO : ∀ c' ∈ tbl, ∃ D, X.mg c' = some (.ref D) ∧ PySem.W.notFirst X.K C (.ref D) = true)
    (ha : DE X W ec a F1) (hb2 : DE X W ec b F2) (hmk : behindInMarks .NotEq b = false := by first | exact nobehind _ (by decide) (by decide) | rfl) : DT X W ec (.Compare a [.NotEq] [b] pos) (fTest (fOwnNe c tbl Gf F1 F2)) :=
  (pt_ownNe N G gd hr hb tx ha hb2 hmk).imp fun σ H Q h => tT_of (fun σ H Q h => tOwnNe_of hm hT hO h) h
end
end DL

namespace DL
open PySem L2
/-! ### x op n, x of an own class with its own def for op, n an int -/
/-- what stands written of it -/
structure BiC (K : PySem.W.Frag) (C g : Addr) (op : Operator) : Prop where
  first : PySem.W.selfFirst K C = true
  def_ : PySem.W.findIn K (.ref C) (dunder op.info.2) = some (some (.ref g))
  fn : PySem.W.isFn K (.ref g) = true
  refl : ∃ rc, PySem.W.findIn K (.ref C) (dunderR op.info.2) = some rc ∧ (rc = none ∨ ∃ g : Addr, rc = some (.ref g))
  int1 : ∃ fo, PySem.W.findIn K (.type "int") (dunder op.info.2) = some fo
  int2 : ∃ ro, PySem.W.findIn K (.type "int") (dunderR op.info.2) = some ro
  sub : PySem.W.subIn K (.type "int") (.ref C) = some false
section
variable {X : Cx} {W : WX} {ec : EC} {a b : Expr} {F1 F2 : Fm → Out RV} {c : Str} {C g : Addr} {k : Nat} {pos : Pos} {fd : FuncData} {ps : List Str} {sp : Sp} {ta tb : TE} {op : Operator}
def tBinO (C : Addr) (sp : Sp) (W : WX) (ta tb : TE) : TE := fun σ H Q => ta σ H fun x H1 => tb σ H1 fun y H2 => ∃ a dx ns vs i, x = .ref a ∧ ObR H2 a C dx ns vs ∧ y = .int i ∧ sp [x, y] H2 Q (fun cls d H' => W cls d σ H')
theorem pe_binO (N : BiC X.K C g op) (G : FnG X.prog X.w X.K X.mg X.base k g fd ps sp) (gd : X.A.guards = some []) (hr : Room k X.A) (hb : KB X.K fd ps 2 [] [] [0, 1]) (tx : Takes X W) (ha : PE X a ta) (hb2 : PE X b tb) : PE X (.BinOp a op b pos) (tBinO C sp W ta tb) := by
  refine ⟨fun pins s σ H Q I h => ?_⟩
  refine wpAny_BinOp (binT ha hb2 I h fun v u s2 x y H2 I2 rx ry q => ?_)
  obtain ⟨o, dx, ns, vs, i, ex, ho, ey, q⟩ := q
  subst ex ey
  cases (show v = Value.ref o from rx)
  obtain ⟨t, e⟩ := (show ∃ t, u = Value.int i t from ry)
  cases e
  obtain ⟨ox, od, J⟩ := ob_inst I2 ho
  obtain ⟨m, hF⟩ := I2.fr
  obtain ⟨rc, hr1, hr2⟩ := N.refl
  obtain ⟨fo, h1⟩ := N.int1
  obtain ⟨ro, h2⟩ := N.int2
  refine PySem.W.ksp_binT (T := "int") hF I2.ok.mod.kin J rfl N.first N.def_ N.fn hr1 hr2 h1 h2 N.sub ?_
  have z := run_G (us := [.ref o, .int i t]) (ws := []) (vs := [.ref o, .int i]) (zs := []) G gd hr hb tx I2 (.cons rfl (.cons ⟨t, rfl⟩ .nil)) .nil rfl rfl q
  refine wpAny_mono z (fun w s' z => ?_) fun _ _ x => x
  obtain ⟨z', H', I', rz, qz⟩ := z
  exact SlX.cmpback rz ⟨z', H', I', rz, qz⟩
def fBinO (c : Str) (G : List D → FO) (F1 F2 : Fm → Out RV) : Fm → Out RV := fun ρ => (F1 ρ).bind fun r1 ρ => (F2 ρ).bind fun r2 ρ => match r1.get ρ, r2.get ρ with
  | some (.ob c' _ _), some (.int _) => if c' = c then callX none G [] [r1, r2] ρ else .bad
  | _, _ => .bad
theorem de_binO {Gf : List D → FO} (hm : X.mg c = some (.ref C)) (N : BiC X.K C g op) (G : FnG X.prog X.w X.K X.mg X.base k g fd ps (spD X.K X.mg none 2 Gf)) (gd : X.A.guards = some []) (hr : Room k X.A) (hb : KB X.K fd ps 2 [] [] [0, 1]) (tx : Takes X W)
    (ha : DE X W ec a F1) (hb2 : DE X W ec b F2) : DE X W ec (.BinOp a op b pos) (fBinO c Gf F1 F2) :=
  (pe_binO N G gd hr hb tx ha hb2).imp fun σ H Q ⟨Cc, ρ, tm, h, p⟩ => by
  refine tD_step (ts := []) h Kin.refl p fun r1 ρ1 v H1 h1 k1 p1 => ?_
  refine tD_step (ts := [(r1, v)]) h1 k1 p1 fun r2 ρ2 u H2 h2 k2 p2 => ?_
  cases q1 : r1.get ρ2 with
  | none =>
    rw [q1] at p2
    exact p2.elim
  | some x =>
    cases q2 : r2.get ρ2 with
    | none =>
      rw [q1, q2] at p2
      cases x <;> exact p2.elim
    | some y =>
      rw [q1, q2] at p2
      cases x with
      | ob c' ns ds =>
        cases y with
        | int i =>
          dsimp only at p2
          by_cases hc : c' = c
          · rw [if_pos hc] at p2
            subst hc
            have ry := h2.get (.head _) q2
            obtain ⟨o, C', dx, vs, rfl, m, ho, _⟩ := h2.get (.tail _ (.head _)) q1
            rw [hm] at m
            cases m
            have eu : u = V.int i := ry
            subst eu
            exact ⟨o, dx, ns, vs, i, rfl, ho, rfl, callX_sp (dds := []) (dvs := []) (rs := [r1, r2]) (vs := [.ref o, .int i]) (ioi := none) rfl (fun _ z => by cases z) h2 k2 (fun _ => rfl) p2⟩
          · rw [if_neg hc] at p2
            exact p2.elim
        | _ => exact p2.elim
      | _ => exact p2.elim
end
end DL

namespace DL
open PySem L2
/-! ### instances with a dict: a variable read -/
def gFld (c f : Str) : D → Option D
  | .ob c' (n :: ns) ds => if c' = c then ((n :: ns).zip ds).lookup f else none
  | _ => none
theorem zip_look {K : PySem.W.Frag} {mg : Str → Option Value} {H : Hp} {av : Addr → Prop} {f : Str} {d : D} : ∀ {ns : List Str} {ds : List D} {vs : List V}, RpL K mg H av ds vs → (ns.zip ds).lookup f = some d → ∃ v, (ns.zip vs).lookup f = some v ∧ Rp K mg H av d v
  | [], _, _, _, e => by cases e
  | _ :: _, [], _, _, e => by cases e
  | n :: ns, d0 :: ds, vs, h, e => by
    obtain ⟨v, r, rfl, h1, h2⟩ := h
    rw [List.zip_cons_cons, List.lookup_cons] at e
    rw [List.zip_cons_cons, List.lookup_cons]
    cases q : f == n with
    | true =>
      rw [q] at e
      cases e
      exact ⟨v, rfl, h1⟩
    | false =>
      rw [q] at e
      exact zip_look h2 e
section
variable {X : Cx} {W : WX} {ec : EC} {e : Expr} {F : Fm → Out RV} {c f : Str} {C : Addr} {pos : Pos}
theorem de_fldD (hm : X.mg c = some (.ref C)) (cl : Cls X.K C) (na : NoAttr X.K C f) (ha : DE X W ec e F) (hb : attributeBase e f X.env (eval e X.env) = eval e X.env := by rfl) : DE X W ec (.Attribute e f pos) (fUn (gFld c f) F) :=
  (pe_fld ha hb).imp fun σ H Q ⟨Cc, ρ, tm, h, q⟩ => by
  refine tD_step (ts := []) h Kin.refl q fun r1 ρ1 v H1 h1 k1 p1 => ?_
  cases q1 : r1.get ρ1 with
  | none =>
    rw [q1] at p1
    exact p1.elim
  | some x =>
    rw [q1] at p1
    cases q2 : gFld c f x with
    | none =>
      simp only [q2] at p1
      exact p1.elim
    | some z =>
      simp only [q2] at p1
      cases x with
      | ob c' ns ds =>
        cases ns with
        | nil => cases q2
        | cons n ns =>
          by_cases hc : c' = c
          · subst hc
            have q2 : (if c' = c' then ((n :: ns).zip ds).lookup f else none) = some z := q2
            rw [if_pos rfl] at q2
            obtain ⟨_, a, C', dx, vs, rfl, m, ⟨n1, n2⟩, r⟩ := ob_dt h1 q1
            rw [hm] at m
            cases m
            obtain ⟨w, hw, rw'⟩ := zip_look r q2
            exact ⟨a, C, dx, _, w, rfl, n2, cl, na, hw, p1 _ H1 (h1.pop.push_dt rw') k1⟩
          · rw [show gFld c f (.ob c' (n :: ns) ds) = none from if_neg hc] at q2
            cases q2
      | _ => cases q2
end
end DL

namespace DL
open PySem L2
open PyProof.Rows (envOfC)
/-! ### __init__ of a class with a dict: statements, then self.f = name, .. -/
def tSetsD (K : PySem.W.Frag) : List Str → List Nat → TS
  | f :: fs, j :: js => tSeq (sFld K (tVar 0) (tVar j) f) (tSetsD K fs js)
  | _, _ => tNext
theorem putF_new {f : Str} {y : V} : ∀ {fs : List (Str × V)}, (∀ p ∈ fs, p.1 ≠ f) → putF f y fs = fs ++ [(f, y)]
  | [], _ => rfl
  | (g, x) :: r, h => by
    show (if g = f then (g, y) :: r else (g, x) :: putF f y r) = _
    rw [if_neg (h _ (.head _)), putF_new fun p hp => h p (.tail _ hp)]
    rfl
theorem sets_runD {K : PySem.W.Frag} {a C dx : Addr} {D0 : Ends} {σ : St} (h0 : σ[0]? = some (some (V.ref a))) (cl : Cls K C) : ∀ {fns : List Str} {js : List Nat} {ys : List V} {pre : List (Str × V)} {H : Hp}, (js.map fun j => σ[j]?) = ys.map (fun y => some (some y)) →
    (∀ f ∈ fns, NoAttr K C f) → ys.length = fns.length → fns.Nodup → (∀ f ∈ fns, ∀ p ∈ pre, p.1 ≠ f) → pre.length + fns.length < 1000 → H a = some (.ins C dx pre) →
    (∀ H', (∀ b, b ≠ a → H' b = H b) → H' a = some (.ins C dx (pre ++ fns.zip ys)) → D0.nx σ H') → tSetsD K fns js D0 σ H
  | [], js, ys, pre, H, e, na, hl, nd, np, hs, ha, q => by
    have q2 := q H (fun _ _ => rfl) (by rw [List.zip_nil_left, List.append_nil]; exact ha)
    cases js <;> exact q2
  | f :: fns, [], ys, pre, H, e, na, hl, nd, np, hs, ha, q => by
    cases ys with
    | nil => cases hl
    | cons => cases e
  | f :: fns, j :: js, ys, pre, H, e, na, hl, nd, np, hs, ha, q => by
    cases ys with
    | nil => cases hl
    | cons y ys =>
      rw [List.map_cons, List.map_cons] at e
      obtain ⟨e1, e2⟩ := List.cons.inj e
      obtain ⟨nd1, nd2⟩ := List.nodup_cons.mp nd
      simp only [List.length_cons] at hs hl
      refine ⟨y, e1, V.ref a, h0, a, C, dx, pre, rfl, ha, cl, na f (.head _), by omega, ?_⟩
      rw [putF_new (np f (.head _))]
      refine sets_runD h0 cl e2 (fun g hg => na g (.tail _ hg)) (by omega) nd2 (fun g hg p hp => ?_) (by simp; omega) upd_same fun H' k s' => q H' (fun b hb => ?_) ?_
      · rcases List.mem_append.mp hp with hp | hp
        · exact np g (.tail _ hg) p hp
        · rw [List.mem_singleton.mp hp]
          intro z
          have z' : f = g := z
          subst z'
          exact nd1 hg
      · rw [k b hb, upd_ne hb]
      · rw [List.zip_cons_cons]
        rw [List.append_assoc] at s'
        exact s'
def iniOD (c : Str) (fns : List Str) (js : List Nat) (ρ : Fm) : FO := match ρ[(0 : Nat)]? with
  | some (.nw c') => if c' = c then (match getF ρ js with | some fs => .ok (.dt (.ob c fns fs)) [] | none => .bad) else .bad
  | _ => .bad
def initFD (c : Str) (m : Nat) (S : Fm → SO) (fns : List Str) (js : List Nat) : List D → FO := fun ds => match S (entryI c m ds) with
  | .nx ρ => iniOD c fns js ρ
  | .ex c1 f d _ => .ex c1 f d []
  | _ => .bad
theorem fnID {P : Program} {w : World} {K : PySem.W.Frag} {mg : Str → Option Value} {base : Heap} {x qual : Str} {params : Arguments} {body : List Stmt} {scope : Scope} {dvs : List V} {kws : List (Str × V)} {f C : Addr} {fd : FuncData} {N ps : List Str} {k n j m : Nat} {c : Str} {js : List Nat} {F0 : List D → FO} {n0 : Str} {fns : List Str}
    (F : FunD K x qual params body scope dvs kws f fd) (Sc : FnScope N ps scope) (S : Fm → SO) (hF : F0 = initFD c m S (n0 :: fns) js) (hn : ps.length = n + 1) (hm : N.length = m) (hk : k + 1 = j) (hc : mg c = some (.ref C)) (hj : js.length = (n0 :: fns).length) (hnd : (n0 :: fns).Nodup) (hfl : (n0 :: fns).length < 1000) (cl : Cls K C) (na : ∀ f ∈ n0 :: fns, NoAttr K C f)
    (hbody : ∀ (cdv : Value) (A : Around) (outer : List Env) (s : Shared) (H : Hp) (E : XK) (ec : EC), A.guards = some [] → Room k (A.deeper (envOfC qual scope s.heap.objs.size f cdv)) →
      PSs (cxOf (L2.CX P w) P w K mg base N qual scope f cdv A outer s H E) body (tSeq (tDS K mg (fun cls d _ H' => E cls d H') ec S) (tSetsD K (n0 :: fns) js))) : FnG P w K mg base j f fd ps (spI K mg c n F0) := by
  subst hF hm hk
  refine fnG_of F Sc (fun vs H Q E h => ?_) fun cdv A outer s H vs Q E g hr h => ?_
  · obtain ⟨a, C', dx, rest, av, ds, rfl, h1, _⟩ := h
    rw [List.length_cons, h1, hn]
  · obtain ⟨a, C', dx, rest, av, ds, rfl, h1, h2, h3, h4, h5, h6, h7, h8, h9⟩ := h
    rw [hc] at h3
    cases h3
    have hN : rest.length + 1 ≤ N.length := by
      have q := congrArg List.length Sc.pre
      rw [List.length_take] at q
      omega
    refine ⟨_, hbody cdv A outer s H E (ecI a dx c) g hr, Fc.mk H none av, entryI c N.length ds, [], hold_entryI hN (h2.trans h1.symm) h7 h8, fun i v hm => (nomatch hm), ?_⟩
    unfold initFD at h9
    have keepE : ∀ {H1 : Hp}, Ext (IoA none) H H1 → ∀ b o, H b = some o → H1 b = some o := fun {H1} e b o q => by
      rcases e b o q with ⟨⟨_, z⟩, _⟩ | z
      · cases z
      · exact z
    cases q : S (entryI c N.length ds) with
    | bad => rw [q] at h9; exact h9.elim
    | bk => rw [q] at h9; exact h9.elim
    | ct => rw [q] at h9; exact h9.elim
    | rt => rw [q] at h9; exact h9.elim
    | ex c1 f1 d1 ρ =>
      rw [q] at h9
      exact fun cl dd v fs σ H' q1 q2 q3 q4 hh _ => h9 cl dd v fs H' q1 q2 q3 (Rp.av (fun b z => .inl (.inl z)) d1 v q4) fun b o _ e => keepE hh.ext b o e
    | nx ρ =>
      rw [q] at h9
      dsimp only at h9
      unfold iniOD at h9
      intro σ H1 hh _
      cases q0 : ρ[(0 : Nat)]? with
      | none => rw [q0] at h9; exact h9.elim
      | some s0 =>
        rw [q0] at h9
        cases s0 with
        | nw c' =>
          dsimp only at h9
          by_cases ec' : c' = c
          · subst ec'
            rw [if_pos rfl] at h9
            cases q1 : getF ρ js with
            | none => rw [q1] at h9; exact h9.elim
            | some fs =>
              rw [q1] at h9
              dsimp only at h9
              have hl : 0 < σ.length := by
                rw [← hh.len]
                exact (List.getElem?_eq_some_iff.mp q0).1
              obtain ⟨a', dd, ⟨rfl, rfl, _⟩, eo⟩ := hh.slot 0 _ _ q0 (List.getElem?_eq_getElem hl)
              have s0 : σ[0]? = some (some (V.ref a')) := by rw [List.getElem?_eq_getElem hl, eo]
              obtain ⟨ys, e1, e2, e3⟩ := getF_rp (av := av) hh q1
              have ha := keepE hh.ext _ _ h4
              have hd := keepE hh.ext _ _ h5
              refine sets_runD (pre := []) s0 cl e1 na (by rw [e3]; exact hj) hnd (fun f _ p hp => (nomatch hp)) (by simpa using hfl) ha fun H' kk sl => ?_
              exact h9 (n0 :: fns) fs H' ys rfl (fun b o hb e => by
                rw [kk b hb]
                exact keepE hh.ext b o e) ⟨by rw [e3, hj]; rfl, sl⟩ (RpL.put ha kk fs ys e2)
          · rw [if_neg ec'] at h9
            exact h9.elim
        | _ => exact h9.elim
end DL

namespace DL
open PySem L2
open PyProof.Rows (envOfC)
/-! ### __init__ of a class with a dict: statements, then self.f = e -/
def iniOE (c n0 : Str) : Out RV → FO
  | .ok r ρ => match r, ρ[(0 : Nat)]? with
    | .dt d, some (.nw c') => if c' = c ∧ noL d = true then .ok (.dt (.ob c [n0] [d])) [] else .bad
    | _, _ => .bad
  | .ex c1 f d _ => .ex c1 f d []
  | .bad => .bad
def initFE (c : Str) (m : Nat) (S : Fm → SO) (Fe : Fm → Out RV) (n0 : Str) : List D → FO := fun ds => match S (entryI c m ds) with
  | .nx ρ => iniOE c n0 (Fe ρ)
  | .ex c1 f d _ => .ex c1 f d []
  | _ => .bad
theorem fnIE {P : Program} {w : World} {K : PySem.W.Frag} {mg : Str → Option Value} {base : Heap} {x qual : Str} {params : Arguments} {body : List Stmt} {scope : Scope} {dvs : List V} {kws : List (Str × V)} {f C : Addr} {fd : FuncData} {N ps : List Str} {k n j m : Nat} {c : Str} {F0 : List D → FO} {n0 : Str}
    (F : FunD K x qual params body scope dvs kws f fd) (Sc : FnScope N ps scope) (S : Fm → SO) (Fe : Fm → Out RV) (hF : F0 = initFE c m S Fe n0) (hn : ps.length = n + 1) (hm : N.length = m) (hk : k + 1 = j) (hc : mg c = some (.ref C)) (cl : Cls K C) (na : NoAttr K C n0)
    (hbody : ∀ (cdv : Value) (A : Around) (outer : List Env) (s : Shared) (H : Hp) (E : XK) (ec : EC), A.guards = some [] → Room k (A.deeper (envOfC qual scope s.heap.objs.size f cdv)) →
      PSs (cxOf (L2.CX P w) P w K mg base N qual scope f cdv A outer s H E) body (tSeq (tDS K mg (fun cls d _ H' => E cls d H') ec S) (sFld K (tVar 0) (tD K mg (fun cls d _ H' => E cls d H') ec Fe) n0))) : FnG P w K mg base j f fd ps (spI K mg c n F0) := by
  subst hF hm hk
  refine fnG_of F Sc (fun vs H Q E h => ?_) fun cdv A outer s H vs Q E g hr h => ?_
  · obtain ⟨a, C', dx, rest, av, ds, rfl, h1, _⟩ := h
    rw [List.length_cons, h1, hn]
  · obtain ⟨a, C', dx, rest, av, ds, rfl, h1, h2, h3, h4, h5, h6, h7, h8, h9⟩ := h
    rw [hc] at h3
    cases h3
    have hN : rest.length + 1 ≤ N.length := by
      have q := congrArg List.length Sc.pre
      rw [List.length_take] at q
      omega
    refine ⟨_, hbody cdv A outer s H E (ecI a dx c) g hr, Fc.mk H none av, entryI c N.length ds, [], hold_entryI hN (h2.trans h1.symm) h7 h8, fun i v hm => (nomatch hm), ?_⟩
    unfold initFE at h9
    have keepE : ∀ {H1 : Hp}, Ext (IoA none) H H1 → ∀ b o, H b = some o → H1 b = some o := fun {H1} e b o q => by
      rcases e b o q with ⟨⟨_, z⟩, _⟩ | z
      · cases z
      · exact z
    cases q : S (entryI c N.length ds) with
    | bad => rw [q] at h9; exact h9.elim
    | bk => rw [q] at h9; exact h9.elim
    | ct => rw [q] at h9; exact h9.elim
    | rt => rw [q] at h9; exact h9.elim
    | ex c1 f1 d1 ρ =>
      rw [q] at h9
      exact fun cl dd v fs σ H' q1 q2 q3 q4 hh _ => h9 cl dd v fs H' q1 q2 q3 (Rp.av (fun b z => .inl (.inl z)) d1 v q4) fun b o _ e => keepE hh.ext b o e
    | nx ρ =>
      rw [q] at h9
      dsimp only at h9
      unfold iniOE at h9
      intro σ H1 hh _
      refine ⟨Fc.mk H none av, ρ, [], hh, ?_⟩
      cases qe : Fe ρ with
      | bad => rw [qe] at h9; exact h9.elim
      | ex c1 f1 d1 ρ1 =>
        rw [qe] at h9
        exact fun cl dd v fs σ H' q1 q2 q3 q4 hh _ => h9 cl dd v fs H' q1 q2 q3 (Rp.av (fun b z => .inl (.inl z)) d1 v q4) fun b o _ e => keepE hh.ext b o e
      | ok r ρ2 =>
        rw [qe] at h9
        dsimp only at h9
        intro y H2 hh2 _
        cases q0 : ρ2[(0 : Nat)]? with
        | none => rw [q0] at h9; cases r <;> exact h9.elim
        | some s0 =>
          rw [q0] at h9
          cases r with
          | dt d0 =>
            cases s0 with
            | nw c' =>
              dsimp only at h9
              by_cases ec' : c' = c ∧ noL d0 = true
              · rw [if_pos ec'] at h9
                obtain ⟨rfl, hn0⟩ := ec'
                have hl : 0 < σ.length := by
                  rw [← hh2.len]
                  exact (List.getElem?_eq_some_iff.mp q0).1
                obtain ⟨a', dd, ⟨rfl, rfl, _⟩, eo⟩ := hh2.slot 0 _ _ q0 (List.getElem?_eq_getElem hl)
                have s0 : σ[0]? = some (some (V.ref a')) := by rw [List.getElem?_eq_getElem hl, eo]
                have ha := keepE hh2.ext _ _ h4
                have ry : Rp K mg H2 av d0 y := Rp.noL d0 y hn0 (hh2.tmp _ _ (.head _))
                refine ⟨V.ref a', s0, a', C, dd, [], rfl, ha, cl, na, by decide, ?_⟩
                refine h9 [n0] [d0] _ [y] rfl (fun b o hb e => by
                  rw [upd_ne hb]
                  exact keepE hh2.ext b o e) ⟨rfl, upd_same⟩ (RpL.put ha (fun b hb => upd_ne hb) [d0] [y] ⟨y, [], rfl, ry, rfl⟩)
              · rw [if_neg ec'] at h9
                exact h9.elim
            | _ => exact h9.elim
          | _ => cases s0 <;> exact h9.elim
end DL

namespace DL
open PySem L2
/-! ### x.m(e, ..), x an instance with a dict -/
def tMethG (C : Addr) (m : Str) (sp : Sp) (n : Nat) (is : List Nat) (dvs : List V) (W : WX) (ta : TE) (t : TA) : TE := fun σ H Q => ta σ H fun x H1 => ∃ a dx fs, x = .ref a ∧ H1 a = some (.ins C dx fs) ∧ fs.lookup m = none ∧
  t σ H1 fun ws H2 => ws.length = n ∧ sp (pickL is (.ref a :: ws ++ [] ++ dvs)) H2 Q (fun cls d H' => W cls d σ H')
section
variable {X : Cx} {W : WX} {ec : EC} {k n : Nat} {g C : Addr} {fd : FuncData} {ps : List Str} {sp : Sp} {c m : Str} {apos pos : Pos} {o e : Expr} {es : List Expr} {ta : TE} {t : TA} {dvs : List V} {is : List Nat}
theorem pe_methG {pl : Sem Bool} (cl : Cls X.K C) (km : Meth X.K C m g) (G : FnG X.prog X.w X.K X.mg X.base k g fd ps sp) (gd : X.A.guards = some []) (hr : Room k X.A) (hb : KB X.K fd ps (n + 1) [] dvs is) (tx : Takes X W) (ho : PE X o ta) (ha : PA X (e :: es) t)
    (hst : starEach (e :: es) X.env = (false, eval e X.env) :: starEach es X.env) (hpl : (backTo pos (starEach es X.env)).any (·.1) = false)
    (ht : eval (.Call (.Attribute o m apos) (e :: es) [] pos) X.env = (do
      let ov ← eval o X.env
      standAt apos.atName
      let (f, first) ← holding [ov] (getMethod ov m pl)
      callWith pos f first (backTo pos (starEach (e :: es) X.env)) (backToKw pos (keywordEach [] X.env)))) :
    PE X (.Call (.Attribute o m apos) (e :: es) [] pos) (tMethG C m sp n is dvs W ta t) := by
  refine ⟨fun pins s σ H Q I h => ?_⟩
  refine PySem.W.methodCall_KW (pl := pl) (thn (ho.run pins s σ H _ I h) fun u s1 ⟨x, H1, I1, rx, a, dx, fs, ex, hi, hl, q⟩ => ?_) ht
  subst ex
  obtain rfl : u = Value.ref a := rx
  refine getmeth_ok I1 hi cl km hl ?_
  refine PySem.W.callWith_K (first := [.ref a]) (h₀ := X.base) I.ok.mod.kin km.kp (thn (ha.run pos pins s1 σ H1 _ I1 q) fun us s2 ⟨ws, H2, I2, r, l1, q2⟩ => ⟨I2.kIn, ?_⟩) hst hpl
  exact run_G (us := .ref a :: us) (ws := []) (vs := .ref a :: ws) (zs := []) G gd hr hb tx I2 (.cons rfl r) .nil (congrArg (· + 1) l1) rfl q2
def fMeth (c m : Str) (G : List D → FO) (is : List Nat) (dds : List D) (F : Fm → Out RV) (A : Fm → Out (List RV)) : Fm → Out RV := fun ρ => (F ρ).bind fun r ρ => match r.get ρ with
  | some (.ob c' (n :: ns) _) => if c' = c ∧ (n :: ns).contains m = false then (A ρ).bind fun rs ρ => callX none (fun ds => G (pickL is (ds ++ dds))) [] (r :: rs) ρ else .bad
  | _ => .bad
theorem zip_none {f : Str} : ∀ {ns : List Str} {vs : List V}, ns.contains f = false → (ns.zip vs).lookup f = none
  | [], _, _ => by rw [List.zip_nil_left]; rfl
  | _ :: _, [], _ => by rw [List.zip_nil_right]; rfl
  | n :: ns, v :: vs, h => by
    rw [List.contains_cons] at h
    obtain ⟨h1, h2⟩ := Bool.or_eq_false_iff.mp h
    rw [List.zip_cons_cons, List.lookup_cons, h1]
    exact zip_none h2
theorem de_meth {pl : Sem Bool} {n2 : Nat} {Gf : List D → FO} {dds : List D} {F : Fm → Out RV} {A : Fm → Out (List RV)} (hm : X.mg c = some (.ref C)) (cl : Cls X.K C) (km : Meth X.K C m g) (G : FnG X.prog X.w X.K X.mg X.base k g fd ps (spD X.K X.mg none n2 Gf)) (gd : X.A.guards = some []) (hr : Room k X.A)
    (hb : KB X.K fd ps (n + 1) [] dvs is) (tx : Takes X W) (hd : ∀ H A, RpL X.K X.mg H A dds dvs) (ho : DE X W ec o F) (ha : DA X W ec (e :: es) A) (l1 : LA A n) (oo : IsOk none n2 is (n + 1 + dds.length))
    (hst : starEach (e :: es) X.env = (false, eval e X.env) :: starEach es X.env := by rfl) (hpl : (backTo pos (starEach es X.env)).any (·.1) = false := by rfl)
    (ht : eval (.Call (.Attribute o m apos) (e :: es) [] pos) X.env = (do
      let ov ← eval o X.env
      standAt apos.atName
      let (f, first) ← holding [ov] (getMethod ov m pl)
      callWith pos f first (backTo pos (starEach (e :: es) X.env)) (backToKw pos (keywordEach [] X.env))) := by rfl) : DE X W ec (.Call (.Attribute o m apos) (e :: es) [] pos) (fMeth c m Gf is dds F A) :=
  (pe_methG cl km G gd hr hb tx ho ha hst hpl ht).imp fun σ H Q ⟨Cc, ρ, tm, h, p⟩ => by
  refine tD_step (ts := []) h Kin.refl p fun r1 ρ1 v H1 h1 k1 p1 => ?_
  cases q1 : r1.get ρ1 with
  | none => rw [q1] at p1; exact p1.elim
  | some x =>
    rw [q1] at p1
    cases x with
    | ob c' ns ds =>
      cases ns with
      | nil => exact p1.elim
      | cons n0 ns =>
        dsimp only at p1
        by_cases hc : c' = c ∧ (n0 :: ns).contains m = false
        · rw [if_pos hc] at p1
          obtain ⟨rfl, hn⟩ := hc
          obtain ⟨er, a, C', dx, vs, rfl, mm, ⟨n1, n2'⟩, r⟩ := ob_dt h1 q1
          rw [hm] at mm
          cases mm
          refine ⟨a, dx, _, rfl, n2', zip_none hn, ?_⟩
          refine ⟨Cc, ρ1, (r1, V.ref a) :: tm, h1, ?_⟩
          cases q : A ρ1 with
          | ex => rw [q] at p1; exact ExW.up (ts := [(r1, V.ref a)]) p1 k1
          | bad => rw [q] at p1; exact p1.elim
          | ok rs ρ2 =>
            rw [q] at p1
            intro ws H2 hl h2 k2
            have e1 : rs.length = n := l1.len _ _ _ q
            refine ⟨hl.trans e1, ?_⟩
            have sp := callX_sp (dds := []) (dvs := []) (ioi := none) (rs := r1 :: rs) (vs := V.ref a :: ws) (F := fun ds => Gf (pickL is (ds ++ dds))) (by rw [List.length_cons, List.length_cons, hl]) (fun j e => by cases e) h2 (k1.trans k2) (fun _ => rfl) p1
            rw [List.append_nil] at sp
            have sp2 := spD_pick (m := (r1 :: rs).length + ([] : List D).length) (dds := dds) (dvs := dvs) (is := is) (by simpa [e1] using oo) hd (fun j e => by cases e) sp
            rw [List.append_nil]
            exact sp2
        · rw [if_neg hc] at p1
          exact p1.elim
    | _ => exact p1.elim
end
end DL

namespace DL
open PySem L2
/-! ### len(x) of an own class with its own __len__ -/
def lenX : Out RV → Out RV
  | .ok (.dt (.int s)) ρ => if 0 ≤ s ∧ s < 9223372036854775808 then .ok (.dt (.int s)) ρ else .bad
  | .ex c f d ρ => .ex c f d ρ
  | _ => .bad
section
variable {X : Cx} {W : WX} {ec : EC} {e : Expr} {F : Fm → Out RV} {c : Str} {C g : Addr} {k : Nat} {p pos : Pos} {fd : FuncData} {ps : List Str} {sp : Sp} {t : TA}
def tLenO (C : Addr) (sp : Sp) (W : WX) (t : TA) : TE := fun σ H Q => t σ H fun vs H1 => ∃ a dx ns ws, vs = [.ref a] ∧ ObR H1 a C dx ns ws ∧ sp [.ref a] H1 (fun z H' => ∃ y, z = .int y ∧ (0 ≤ y ∧ y < 9223372036854775808) ∧ Q z H') (fun cls d H' => W cls d σ H')
theorem pe_lenO (hs : PySem.W.findIn X.K (.ref C) "__len__" = some (some (.ref g))) (hf : PySem.W.isFn X.K (.ref g) = true) (G : FnG X.prog X.w X.K X.mg X.base k g fd ps sp) (gd : X.A.guards = some []) (hr : Room (k + 1) X.A) (hb : KB X.K fd ps 1 [] [] [0]) (tx : Takes X W)
    (hm : X.mg "len" = none) (ha : PA X [e] t) (hg : Gl X "len" := by rfl) (he : starEach [e] X.env = (false, eval e X.env) :: starEach [] X.env := by rfl) (hpl : (backTo pos (starEach [] X.env)).any (·.1) = false := by rfl) :
    PE X (.Call (.Name "len" p) [e] [] pos) (tLenO C sp W t) := by
  refine ⟨fun pins s σ H Q I h => ?_⟩
  refine wpAny_Call_Name_kw (ld_blt I hg hm (by rfl) ?_ (by decide) (by decide))
  refine PyProof.Rows.callWith_builtin1 (thn (ha.run pos pins s σ H _ I h) fun us s1 ⟨vs, H1, I1, r1, q1⟩ => ?_) he hpl
  obtain ⟨a, dx, ns, ws, rfl, ho, q⟩ := q1
  obtain ⟨u, rfl, ru⟩ := vals1 r1
  cases (show u = Value.ref a from ru)
  obtain ⟨ox, od, J⟩ := ob_inst I1 ho
  have hr2 : Room k X.A.in1 := Room.in1 hr
  obtain ⟨m, hF⟩ := I1.fr
  refine PySem.W.len_K hF I1.ok.mod.kin J hs hf (wpAny_mono (run_below (n := 1) (us := [.ref a]) (vs := [.ref a]) G gd hr2 I1.env0.in1 hb tx I1 (.cons rfl .nil) rfl q) (fun v s' z => ?_) fun _ _ x => x)
  obtain ⟨z, H', I', rz, y, ez, hy, qz⟩ := z
  subst ez
  obtain ⟨tk, e⟩ := (show ∃ t, v = Value.int y t from rz)
  cases e
  exact ⟨⟨hy.1, by have := hy.2; omega⟩, .int y, H', I'.tok _, ⟨_, rfl⟩, qz⟩
theorem de_lenO {Gf : List D → FO} (hmc : X.mg c = some (.ref C)) (hs : PySem.W.findIn X.K (.ref C) "__len__" = some (some (.ref g))) (hf : PySem.W.isFn X.K (.ref g) = true) (G : FnG X.prog X.w X.K X.mg X.base k g fd ps (spD X.K X.mg none 1 Gf)) (gd : X.A.guards = some []) (hr : Room (k + 1) X.A)
    (hb : KB X.K fd ps 1 [] [] [0]) (tx : Takes X W) (hm : X.mg "len" = none) (ha : DE X W ec e F) (hg : Gl X "len" := by rfl) (he : starEach [e] X.env = (false, eval e X.env) :: starEach [] X.env := by rfl) (hpl : (backTo pos (starEach [] X.env)).any (·.1) = false := by rfl) :
    DE X W ec (.Call (.Name "len" p) [e] [] pos) (fOwn1 c lenX Gf F) := by
  refine (pe_lenO (t := fun σ H R => tD X.K X.mg W ec F σ H fun x H1 => R [x] H1) hs hf G gd hr hb tx hm ?_ hg he hpl).imp fun σ H Q h => ?_
  · exact (da_cons ha da_nil he).imp fun σ H R h => by
      obtain ⟨Cc, ρ, tm, h, p⟩ := h
      refine ⟨Cc, ρ, tm, h, ?_⟩
      unfold aCons
      cases q : F ρ with
      | ok r ρ1 =>
        rw [q] at p
        intro vs H1 hl hh kk
        match vs, hl with
        | [v], _ => exact p v H1 hh kk
      | ex => rw [q] at p; exact p
      | bad => rw [q] at p; exact p
  · have z := own1_sp (Ok := fun v => ∃ y, v = .int y ∧ (0 ≤ y ∧ y < 9223372036854775808)) (fun o r ρ eo nb => by
      subst eo
      cases r with
      | dt d => cases d with
        | int s =>
          by_cases hs : 0 ≤ s ∧ s < 9223372036854775808
          · exact ⟨if_pos hs, fun H v A k => ⟨s, k _ rfl, hs⟩⟩
          · exact (nb (if_neg hs)).elim
        | _ => exact (nb rfl).elim
      | _ => exact (nb rfl).elim) (fun _ _ _ _ => rfl) rfl hmc (fun o r ρ eo nb => by
      subst eo
      cases r with
      | dt d => exact ⟨d, rfl⟩
      | _ => exact (nb rfl).elim) h
    obtain ⟨Cc, ρ, tm, h, p⟩ := z
    refine ⟨Cc, ρ, tm, h, ?_⟩
    cases q : F ρ with
    | ok r ρ1 =>
      rw [q] at p
      intro v H1 hh kk
      obtain ⟨a, dx, ns, ws, rfl, ho, sp⟩ := p v H1 hh kk
      refine ⟨a, dx, ns, ws, rfl, ho, ?_⟩
      obtain ⟨av, ds, io, b, h1, h2, h3, h4, h5, h6, h7, h8⟩ := sp
      refine ⟨av, ds, io, b, h1, h2, h3, h4, h5, h6, h7, ?_⟩
      cases q2 : Gf ds with
      | ok r b' =>
        rw [q2] at h8
        exact fun v H' a1 a2 a3 => by
          obtain ⟨⟨y, ey, hy⟩, qq⟩ := h8 v H' a1 a2 a3
          exact ⟨y, ey, hy, qq⟩
      | ex => rw [q2] at h8; exact h8
      | bad => rw [q2] at h8; exact h8
    | ex => rw [q] at p; exact p
    | bad => rw [q] at p; exact p
end
end DL

namespace DL
open PySem L2
/-! ### y in x, x of an own class with its own __contains__ -/
section
variable {X : Cx} {W : WX} {ec : EC} {a b : Expr} {F1 F2 : Fm → Out RV} {c : Str} {C g : Addr} {k : Nat} {pos : Pos} {fd : FuncData} {ps : List Str} {sp : Sp} {ta tb : TE}
def tInO (C : Addr) (sp : Sp) (W : WX) (ta tb : TE) : TE := fun σ H Q => ta σ H fun y H1 => tb σ H1 fun x H2 => ∃ a dx ns vs, x = .ref a ∧ ObR H2 a C dx ns vs ∧ sp [x, y] H2 (fun z H' => ∃ k, z = .bl k ∧ Q (.bl k) H') (fun cls d H' => W cls d σ H')
theorem pe_inO (hs : PySem.W.findIn X.K (.ref C) "__contains__" = some (some (.ref g))) (hf : PySem.W.isFn X.K (.ref g) = true) (G : FnG X.prog X.w X.K X.mg X.base k g fd ps sp) (gd : X.A.guards = some []) (hr : Room k X.A) (hb : KB X.K fd ps 2 [] [] [0, 1]) (tx : Takes X W) (ha : PE X a ta) (hb2 : PE X b tb) (hm : behindInMarks .In b = false) :
    PE X (.Compare a [.In] [b] pos) (tInO C sp W ta tb) := by
  refine ⟨fun pins s σ H Q I h => ?_⟩
  refine wpAny_Compare1 (binT ha hb2 I h fun v u s2 y x H2 I2 ry rx q => ?_) hm
  obtain ⟨o, dx, ns, vs, ex, ho, q⟩ := q
  subst ex
  cases (show u = Value.ref o from rx)
  obtain ⟨ox, od, J⟩ := ob_inst I2 ho
  obtain ⟨m, hF⟩ := I2.fr
  refine PySem.W.in_K hF I2.ok.mod.kin J hs hf ?_
  have z := run_G (us := [.ref o, v]) (ws := []) (vs := [.ref o, y]) (zs := []) G gd hr hb tx I2 (.cons rfl (.cons ry .nil)) .nil rfl rfl q
  refine wpAny_mono z (fun w s' z => ?_) fun _ _ x => x
  obtain ⟨z', H', I', rz, kk, ez, qz⟩ := z
  subst ez
  cases (show w = Value.bool kk from rz)
  exact wpAny_truthy_bool ⟨.bl kk, H', I', rfl, qz⟩
def fInO (c : Str) (G : List D → FO) (F1 F2 : Fm → Out RV) : Fm → Out RV := fun ρ => (F1 ρ).bind fun r1 ρ => (F2 ρ).bind fun r2 ρ => match r2.get ρ with
  | some (.ob c' _ _) => if c' = c then blX (callX none (fun ds => G (pickL [1, 0] ds)) [] [r1, r2] ρ) else .bad
  | _ => .bad
theorem de_inO {Gf : List D → FO} (hm : X.mg c = some (.ref C)) (hs : PySem.W.findIn X.K (.ref C) "__contains__" = some (some (.ref g))) (hf : PySem.W.isFn X.K (.ref g) = true)
    (G : FnG X.prog X.w X.K X.mg X.base k g fd ps (spD X.K X.mg none 2 Gf)) (gd : X.A.guards = some []) (hr : Room k X.A) (hb : KB X.K fd ps 2 [] [] [0, 1]) (tx : Takes X W)
    (ha : DE X W ec a F1) (hb2 : DE X W ec b F2) (hmk : behindInMarks .In b = false := by first | exact nomark _ | rfl) : DE X W ec (.Compare a [.In] [b] pos) (fInO c Gf F1 F2) :=
  (pe_inO hs hf G gd hr hb tx ha hb2 hmk).imp fun σ H Q ⟨Cc, ρ, tm, h, p⟩ => by
  refine tD_step (ts := []) h Kin.refl p fun r1 ρ1 v H1 h1 k1 p1 => ?_
  refine tD_step (ts := [(r1, v)]) h1 k1 p1 fun r2 ρ2 u H2 h2 k2 p2 => ?_
  cases q2 : r2.get ρ2 with
  | none => rw [q2] at p2; exact p2.elim
  | some x =>
    rw [q2] at p2
    cases x with
    | ob c' ns ds =>
      dsimp only at p2
      by_cases hc : c' = c
      · rw [if_pos hc] at p2
        subst hc
        obtain ⟨o, C', dx, vs, rfl, m, ho, _⟩ := h2.get (.head _) q2
        rw [hm] at m
        cases m
        refine ⟨o, dx, ns, vs, rfl, ho, ?_⟩
        have p3 : Fin X.K X.mg W ec Cc ρ σ tm (callX none (fun ds => Gf (pickL [1, 0] ds)) [] [r1, r2] ρ2) (fun z H' => ∃ k, z = .bl k ∧ Q (.bl k) H') := by
          cases q3 : callX none (fun ds => Gf (pickL [1, 0] ds)) [] [r1, r2] ρ2 with
          | ok r ρ3 =>
            rw [q3] at p2
            cases r with
            | dt d =>
              cases d with
              | bl kk =>
                intro z H' hh kn
                have ez : z = .bl kk := hh.tmp _ _ (.head _)
                subst ez
                exact ⟨kk, rfl, p2 _ H' hh kn⟩
              | _ => exact p2.elim
            | _ => exact p2.elim
          | ex => rw [q3] at p2; exact p2
          | bad => rw [q3] at p2; exact p2.elim
        have sp := callX_sp (dds := []) (dvs := []) (rs := [r1, r2]) (vs := [v, .ref o]) (ioi := none) rfl (fun _ z => by cases z) h2 k2 (fun _ => rfl) p3
        have e0 : (fun ds => Gf (pickL [1, 0] (ds ++ ([] : List D)))) = fun ds => Gf (pickL [1, 0] ds) := funext fun ds => by rw [List.append_nil]
        have sp2 := spD_pick (ioi := none) (n := 2) (m := 2) (dds := []) (dvs := []) (is := [1, 0]) (vs := [v, .ref o]) (F := Gf) ⟨rfl, by decide, fun j z => by cases z⟩ (fun _ _ => rfl) (fun j z => by cases z) (by rw [e0]; exact sp)
        exact sp2
      · rw [if_neg hc] at p2
        exact p2.elim
    | _ => exact p2.elim
end
end DL

namespace DL
open PySem L2
/-! ### str(x) of an int or a text, bool(x), f'..', C(k=..) with keywords alone -/
def gStr : List D → Option D
  | [.int i] => if i.natAbs.log2 < 1920 then some (.str (toString i)) else none
  | [.str x] => some (.str x)
  | _ => none
def gBool : List D → Option D
  | [.int i] => some (.bl (i != 0))
  | [.bl b] => some (.bl b)
  | _ => none
section
variable {X : Cx}
theorem call_strD : CallR X (.type "str") (fun xs H Q => (∃ i, xs = [.int i] ∧ i.natAbs.log2 < 1920 ∧ Q (.str (toString i)) H) ∨ ∃ a, xs = [.str a] ∧ Q (.str a) H) := fun pins s σ H xs us Q I r h => by
  rcases h with h | h
  · exact call_str_int pins s σ H xs us Q I r h
  · exact SkE.call_str_str pins s σ H xs us Q I r h
theorem cb_str : CB X (.type "str") gStr where
  run := ⟨_, call_strD, fun ds z xs H Q r q k => by
    unfold gStr at q
    split at q
    · obtain ⟨v, rfl, r1⟩ := rp1 r
      split at q
      · rename_i hz
        cases q
        rw [show v = _ from r1]
        exact .inl ⟨_, rfl, hz, k _ rfl⟩
      · cases q
    · obtain ⟨v, rfl, r1⟩ := rp1 r
      cases q
      rw [show v = _ from r1]
      exact .inr ⟨_, rfl, k _ rfl⟩
    · cases q⟩
  sc := fun ds z q => by
    unfold gStr at q
    split at q
    · split at q
      · cases q
        exact ⟨_, rfl⟩
      · cases q
    · cases q
      exact ⟨_, rfl⟩
    · cases q
theorem cb_bool : CB X (.type "bool") gBool where
  run := ⟨_, call_bool1, fun ds z xs H Q r q k => by
    unfold gBool at q
    split at q
    · obtain ⟨v, rfl, r1⟩ := rp1 r
      cases q
      rw [show v = _ from r1]
      exact .inl ⟨_, rfl, k _ rfl⟩
    · obtain ⟨v, rfl, r1⟩ := rp1 r
      cases q
      rw [show v = _ from r1]
      exact .inr ⟨_, rfl, k _ rfl⟩
    · cases q⟩
  sc := fun ds z q => by
    unfold gBool at q
    split at q
    · cases q
      exact ⟨_, rfl⟩
    · cases q
      exact ⟨_, rfl⟩
    · cases q
end
/-! f-strings -/
def fmtD : Option D → Option D
  | some (.str y) => if y.length ≤ sizeLine then some (.str y) else none
  | some (.int i) => if i.natAbs.log2 < 1920 then some (.str (toString i)) else none
  | _ => none
def fFmt (F : Fm → Out RV) : Fm → Out RV := fun ρ => (F ρ).bind fun r ρ => match fmtD (r.get ρ) with
  | some z => .ok (.dt z) ρ
  | none => .bad
def jsD (acc : Str) : Option D → Option Str
  | some (.str y) => if (acc ++ y).length ≤ sizeLine then some (acc ++ y) else none
  | _ => none
def fJs : List (Fm → Out RV) → Str → Fm → Out RV
  | [], acc, ρ => .ok (.dt (.str acc)) ρ
  | F :: Fs, acc, ρ => (F ρ).bind fun r ρ => match jsD acc (r.get ρ) with
    | some x => fJs Fs x ρ
    | none => .bad
section
variable {X : Cx} {W : WX} {ec : EC} {e : Expr} {F : Fm → Out RV} {pos : Pos}
theorem de_fmt (he : DE X W ec e F) : DE X W ec (.FormattedValue e (-1) none pos) (fFmt F) :=
  (pe_fmt he).imp fun σ H Q ⟨Cc, ρ, tm, h, q⟩ => by
  refine tD_step (ts := []) h Kin.refl q fun r1 ρ1 v H1 h1 k1 p1 => ?_
  cases q1 : r1.get ρ1 with
  | none => rw [q1] at p1; exact p1.elim
  | some x =>
    rw [q1] at p1
    have rx := h1.get (.head _) q1
    cases x with
    | str y =>
      by_cases hz : y.length ≤ sizeLine
      · simp only [fmtD, if_pos hz] at p1
        exact .inl ⟨y, rx, hz, p1 (.str y) H1 (h1.pop.push_sv rfl) k1⟩
      · simp only [fmtD, if_neg hz] at p1
        exact p1.elim
    | int i =>
      by_cases hz : i.natAbs.log2 < 1920
      · simp only [fmtD, if_pos hz] at p1
        exact .inr ⟨i, rx, hz, p1 (.str (toString i)) H1 (h1.pop.push_sv rfl) k1⟩
      · simp only [fmtD, if_neg hz] at p1
        exact p1.elim
    | _ => exact p1.elim
inductive DJ (X : Cx) (W : WX) (ec : EC) : List Expr → List (Fm → Out RV) → Prop where
  | nil : DJ X W ec [] []
  | cons {e : Expr} {F : Fm → Out RV} {es : List Expr} {Fs : List (Fm → Out RV)} (h : DE X W ec e F) (r : DJ X W ec es Fs) : DJ X W ec (e :: es) (F :: Fs)
theorem DJ.pj {es : List Expr} {Fs : List (Fm → Out RV)} (h : DJ X W ec es Fs) : PJ X es (Fs.map (tD X.K X.mg W ec)) := by
  induction h with
  | nil => exact .nil
  | cons h _ ih => exact .cons h ih
theorem tJs_of {K : PySem.W.Frag} {mg : Str → Option Value} {Q : VK} {Cc : Fc} {ρ0 : Fm} {tm : Tm} {σ : St} : ∀ {Fs : List (Fm → Out RV)} {acc : Str} {ρ : Fm} {H : Hp}, Hold K mg ec H Cc ρ σ tm → Kin ρ0 ρ → Fin K mg W ec Cc ρ0 σ tm (fJs Fs acc ρ) Q → tJs (Fs.map (tD K mg W ec)) acc σ H (fun out H1 => Q (.str out) H1)
  | [], acc, ρ, H, h, k, p => p (.str acc) H (h.push_sv rfl) k
  | F :: Fs, acc, ρ, H, h, k, p => tD_step (ts := []) h k p fun r1 ρ1 v H1 h1 k1 p1 => by
    cases q1 : r1.get ρ1 with
    | none => rw [q1] at p1; exact p1.elim
    | some x =>
      rw [q1] at p1
      have rx := h1.get (.head _) q1
      cases x with
      | str y =>
        by_cases hz : (acc ++ y).length ≤ sizeLine
        · simp only [jsD, if_pos hz] at p1
          exact ⟨y, rx, hz, tJs_of h1.pop k1 p1⟩
        · simp only [jsD, if_neg hz] at p1
          exact p1.elim
      | _ => exact p1.elim
theorem de_js {v1 v2 : Expr} {rest : List Expr} {Fs : List (Fm → Out RV)} (h : DJ X W ec (v1 :: v2 :: rest) Fs) : DE X W ec (.JoinedStr (v1 :: v2 :: rest) pos) (fJs Fs Str.empty) :=
  (pe_joined h.pj).imp fun σ H Q ⟨Cc, ρ, tm, h, q⟩ => tJs_of h Kin.refl q
end
section
variable {X : Cx} {W : WX} {ec : EC} {k n : Nat} {f C : Addr} {fd : FuncData} {ps ks : List Str} {sp : Sp} {x : Str} {p pos : Pos} {e : Expr} {es : List Expr} {kws : List Keyword} {t tk : TA} {dvs : List V} {is : List Nat}
theorem pe_makeG0 {n2 : Nat} {F : List D → FO} {c : Str} (M : Mk X.K C f) (G : FnG X.prog X.w X.K X.mg X.base k f fd ps (spI X.K X.mg c n2 F)) (hc : X.mg c = some (.ref C)) (gd : X.A.guards = some []) (hr : Room (k + 1) X.A) (hg : Gl X x) (hm : X.mg x = some (.ref C)) (hb : KB X.K fd ps (0 + 1) ks dvs (0 :: is.map (· + 1))) (tx : Takes X W)
    (hkw : PK X kws tk) (hall : (backToKw pos (keywordEach kws X.env)).all (·.1.isSome) = true) (hks : (backToKw pos (keywordEach kws X.env)).filterMap (·.1) = ks)
    (hdb : (x == ("__debug__" : Str)) = false) (hpl : ((backTo pos (starEach [] X.env)).any (·.1) || (backToKw pos (keywordEach kws X.env)).any (·.1.isNone)) = false) :
    PE X (.Call (.Name x p) [] kws pos) (tCG 0 ks.length (spD X.K X.mg none n2 F) is dvs W tNil tk) := ⟨fun pins s σ H Q I h => by
  refine wpAny_Call_Name_kw (ld_glob I hg hm ?_ hdb)
  refine PySem.W.callWith_KW0 (h₀ := X.base) I.ok.mod.kin M.kp hall ?_ hpl
  refine thn (hkw.run pos pins s σ H _ I h) fun ws s2 h2 => ?_
  obtain ⟨zs, H2, I2, rz, l1, l2, q2⟩ := h2
  refine ⟨I2.kIn, ?_⟩
  rw [hks]
  refine run_makeG (vs := []) (us := []) M G gd hr hb tx I2 .nil rz l1 l2 fun y dx n1 n3 ne => ?_
  have ep : pickL (0 :: is.map (· + 1)) (V.ref y :: [] ++ zs ++ dvs) = V.ref y :: pickL is ([] ++ zs ++ dvs) := by
    unfold pickL
    rw [List.filterMap_cons, List.filterMap_map]
    rfl
  rw [ep]
  obtain ⟨av, ds, io, b, h1, h2, h3, h4, h5, h6, h7, h8⟩ := q2
  have eio : io = none := by
    cases io with
    | none => rfl
    | some z => cases h4
  subst eio
  have old : ∀ c o, H2 c = some o → c ≠ y ∧ c ≠ dx := fun c o q => ⟨fun z => (by rw [z, n1] at q; cases q), fun z => (by rw [z, n3] at q; cases q)⟩
  have keep : ∀ c o, H2 c = some o → (upd (upd H2 dx (.own y)) y (.ins C dx [])) c = some o := fun c o q => by
    rw [upd_ne (old c o q).1, upd_ne (old c o q).2]
    exact q
  have ex : Ext (fun _ => False) H2 (upd (upd H2 dx (.own y)) y (.ins C dx [])) := fun c o q => .inr (keep c o q)
  have rl : RpL X.K X.mg H2 (AvP av none) ds (pickL is ([] ++ zs ++ dvs)) := by
    have gen : ∀ (ds : List D) (vs : List V), vs.length = ds.length → (∀ (j : Nat) d v, ds[j]? = some d → vs[j]? = some v → Rp X.K X.mg H2 (AvP av none) d v) → RpL X.K X.mg H2 (AvP av none) ds vs := by
      intro ds
      induction ds with
      | nil => intro vs hl _; exact List.eq_nil_of_length_eq_zero hl
      | cons d ds ih =>
        intro vs hl hh
        cases vs with
        | nil => cases hl
        | cons v vs => exact ⟨v, vs, rfl, hh 0 d v rfl rfl, ih vs (Nat.succ.inj hl) fun j d v a b => hh (j + 1) d v a b⟩
    exact gen ds _ (h1.trans h2.symm) fun j d v a b => h7 j d v (by rw [← h4]; exact fun z => nomatch z) a b
  refine ⟨y, C, dx, _, AvP av none, ds, rfl, h1, h2, hc, upd_same, by rw [upd_ne ne]; exact upd_same, ne, fun c hc => ?_, RpL.ext ex (fun _ z => z.elim) _ _ rl, ?_⟩
  · rcases hc with hc | ⟨i, z⟩
    · have := h3 c hc
      cases q : H2 c with
      | none => exact (this q).elim
      | some o => rw [keep c o q]; exact fun z => nomatch z
    · cases z
  · cases q : F ds with
    | bad => rw [q] at h8; exact h8.elim
    | ex c1 f1 d1 b1 =>
      rw [q] at h8
      intro cl dd v fs H' e1 e2 e3 e4 e5
      exact h8 cl dd v fs H' e1 e2 e3 e4 (fun c o q => .inr (e5 c o (old c o q).1 (keep c o q))) (fun i p z => nomatch z)
    | ok r b1 =>
      rw [q] at h8
      intro ns fs H' ws er e5 ho hr
      subst er
      exact ⟨rfl, h8 (.ref y) H' (fun c o q => .inr (e5 c o (old c o q).1 (keep c o q))) (fun i p z => nomatch z) ⟨y, C, dx, ws, rfl, hc, ho, hr⟩⟩⟩
theorem de_make0 {n2 : Nat} {F : List D → FO} {c : Str} {dds : List D} {B : Fm → Out (List RV)} (M : Mk X.K C f) (G : FnG X.prog X.w X.K X.mg X.base k f fd ps (spI X.K X.mg c n2 F)) (hc : X.mg c = some (.ref C)) (gd : X.A.guards = some []) (hr : Room (k + 1) X.A) (hm : X.mg x = some (.ref C)) (hb : KB X.K fd ps (0 + 1) ks dvs (0 :: is.map (· + 1))) (tx : Takes X W)
    (hd : ∀ H A, RpL X.K X.mg H A dds dvs) (hkw : DK X W ec kws B) (l2 : LA B ks.length) (o : IsOk none n2 is (0 + ks.length + dds.length)) (hg : Gl X x := by rfl)
    (hall : (backToKw pos (keywordEach kws X.env)).all (·.1.isSome) = true := by rfl) (hks : (backToKw pos (keywordEach kws X.env)).filterMap (·.1) = ks := by rfl)
    (hdb : (x == ("__debug__" : Str)) = false := by decide)
    (hpl : ((backTo pos (starEach [] X.env)).any (·.1) || (backToKw pos (keywordEach kws X.env)).any (·.1.isNone)) = false := by rfl) : DE X W ec (.Call (.Name x p) [] kws pos) (fCall none F is dds aNil B) :=
  (pe_makeG0 M G hc gd hr hg hm hb tx hkw hall hks hdb hpl).imp fun σ H Q h => by
    have q := tCG_of (A := aNil) (ioi := none) la_nil l2 (fun _ z => by cases z) o hd h
    obtain ⟨C, ρ, tm, h1, p1⟩ := q
    exact p1 [] H rfl h1 Kin.refl
end
end DL

namespace DL
open PySem L2
theorem tyTs_all {P : String → Prop} (h1 : P "NoneType") (h2 : P "bool") (h3 : P "int") (h4 : P "str") (h5 : P "tuple") (h6 : P "list") : ∀ t ∈ tyTs, P t := by
  intro t ht
  unfold tyTs at ht
  simp only [List.mem_cons, List.not_mem_nil, or_false] at ht
  rcases ht with rfl | rfl | rfl | rfl | rfl | rfl
  · exact h1
  · exact h2
  · exact h3
  · exact h4
  · exact h5
  · exact h6
section
variable {K : PySem.W.Frag} {mg : Str → Option Value} {C D : Addr} {d : Str} {b : Bool} {l : List (Str × Bool)} {m : List Str}
theorem oO_nil : ∀ c' b, List.lookup c' ([] : List (Str × Bool)) = some b → ∃ D, mg c' = some (.ref D) ∧ OiC K D ∧ PySem.W.kitOne K (.ref D) (.ref C) = some b := fun _ _ h => nomatch h
theorem oO_cons (hm : mg d = some (.ref D)) (O : OiC K D) (hk : PySem.W.kitOne K (.ref D) (.ref C) = some b) (r : ∀ c' b, List.lookup c' l = some b → ∃ D, mg c' = some (.ref D) ∧ OiC K D ∧ PySem.W.kitOne K (.ref D) (.ref C) = some b) :
    ∀ c' b', List.lookup c' ((d, b) :: l) = some b' → ∃ D, mg c' = some (.ref D) ∧ OiC K D ∧ PySem.W.kitOne K (.ref D) (.ref C) = some b' := fun y b' h => by
  rw [List.lookup_cons] at h
  by_cases e : y = d
  · subst e
    rw [beq_self_eq_true] at h
    cases h
    exact ⟨D, hm, O, hk⟩
  · have : (y == d) = false := by simpa using e
    rw [this] at h
    exact r y b' h
theorem nO_nil : ∀ c' ∈ ([] : List Str), ∃ D, mg c' = some (.ref D) ∧ PySem.W.notFirst K C (.ref D) = true := fun _ h => nomatch h
theorem nO_cons (hm : mg d = some (.ref D)) (hk : PySem.W.notFirst K C (.ref D) = true) (r : ∀ c' ∈ m, ∃ D, mg c' = some (.ref D) ∧ PySem.W.notFirst K C (.ref D) = true) :
    ∀ c' ∈ d :: m, ∃ D, mg c' = some (.ref D) ∧ PySem.W.notFirst K C (.ref D) = true := fun y h => by
  rcases List.mem_cons.mp h with rfl | h
  · exact ⟨D, hm, hk⟩
  · exact r y h
end
end DL

namespace DL
open PySem L2
/-! ### n + x, x of an own class with its own __radd__, n an int -/
section
variable {X : Cx} {pins : List (Addr × Obj)} {σ : St} {H : Hp} {s : Shared} {a C dx : Addr} {ns : List Str} {vs : List V}
theorem ob_data (I : Inv X pins σ H s) (h : ObR H a C dx ns vs) : ∃ ox od, PySem.W.InstAt s.heap a ox C od ∧ ∀ i t, ox.data ≠ .prim (.int i t) := by
  cases ns with
  | nil =>
    obtain ⟨n1, n2, n3, n4⟩ := h
    obtain ⟨us, od, _, _, J⟩ := slAt_get I (vs := vs.map some) ⟨n2, n3, .inl n4⟩
    exact ⟨_, _, J, fun _ _ e => by cases e⟩
  | cons n ns =>
    obtain ⟨_, h⟩ := h
    obtain ⟨mA, O, _, _, _, _⟩ := ins_get I.hok h
    obtain ⟨od, J, _⟩ := O.look
    refine ⟨_, _, J, fun _ _ e => ?_⟩
    have q := J.at_
    rw [O.obj] at q
    cases q
    cases e
end
end DL
namespace DL
section
open PySem PySem.W PySem.Calls PyProof.Rows PyProof.V PySem.Spec
variable {prog : Program} {w : World} {A : Around} {E : Value → Shared → Prop} {s : Shared} {K : Frag} {x C f g L : Addr} {h₀ : Heap} {m : Str → Option Value} {ox : Obj} {od : Option Obj}
theorem int_add_ref {i : Int} {t : Tok} {Q : Value → Shared → Prop} (hg : s.heap.get? x = some ox) (hd : ∀ i t, ox.data ≠ .prim (.int i t)) (h : Q .notImplemented s) : wpAny (model prog w) A (call (.builtin "int.__add__") [.int i t, .ref x]) Q E s := by
  refine call_givesAt (m := .val .notImplemented) (P := fun s => s.heap.get? x = some ox) PySem.F.slot_int_add (typeIs_int _ _ _) PySem.F.entry_int_add (PySem.F.args_int_add_2 _ _) (fun prog w A R s hg h => ?_) hg h
  unfold Builtin.«int.__add__» Builtin.Int.intBinary
  refine wpAny_bind (wpAny_of_eq (a := (Value.int i t, [.ref x])) rfl ?_)
  dsimp only
  refine wpAny_bind (wpAny_of_eq (a := i) rfl ?_)
  refine wpAny_bind ?_
  show wpAny _ _ (do match (← load x).data with | .prim (.int i _) => pure (some i) | _ => pure none) _ _ _
  refine wpAny_bind (wpAny_load hg ?_)
  split
  · rename_i j u e
    exact (hd j u e).elim
  · exact wpAny_pure (wpAny_bind (wpAny_rule (wpAny_pure h)))
theorem add_R {i : Int} {t : Tok} {Q : Value → Shared → Prop} (F : Fr h₀ L s.heap m) (X₀ : K.In h₀) (I : InstAt s.heap x ox C od) (hd : ∀ i t, ox.data ≠ .prim (.int i t)) (hc : selfFirst K C = true)
    (ha : findIn K (.ref C) (PySem.dunder "add") = some (some (.ref g))) (hs : findIn K (.ref C) (dunderR "add") = some (some (.ref f))) (hf : isFn K (.ref f) = true) (hsub : subIn K (.ref C) (.type "int") = some false)
    (h : wpAny (model prog w) A (call (.ref f) [.ref x, .int i t]) (PySem.W.CmpBack Q) E s) : wpAny (model prog w) A (binaryOp .Add (.int i t) (.ref x)) Q E s := by
  have X := X₀.keeps F.keep
  obtain ⟨cd, rest, hcd, hm⟩ := ksp_first hc
  have two := ksp_try X I hs hf h
  have hg := I.at_
  have one : wpAny (model prog w) A (tryMethod (.int i t) (PySem.dunder "add") (.ref x)) (fun r s' => r = none ∧ s' = s) E s := by
    unfold tryMethod
    refine wpAny_bind (m := callSpecial? (.int i t) (PySem.dunder "add") [.ref x]) ?_
    refine wpAny_callSpecial?_slot (name := PySem.dunder "add") (T := "int") (id := "int.__add__") (typeIs_int _ _ _) PySem.F.slot_int_add ?_
    refine int_add_ref hg hd ?_
    exact wpAny_pure ⟨rfl, rfl⟩
  obtain ⟨hh, gg, d, tt, os⟩ := s
  have L1 : Looks (model prog w) hh (typeOf (.ref x)) (.ref C) := I.type
  have L2 : Looks (model prog w) hh (typeOf (.int i t)) (.type "int") := Looks.of_pure rfl
  have L3 : Looks (model prog w) hh (fillsNumberSlot (.ref C) "add") true := fills_K X hcd hm ha
  have L4 : Looks (model prog w) hh (fillsNumberSlot (.type "int") "add") true := Looks.of_pure PySem.F.fills_int_add
  have L5 : Looks (model prog w) hh (isSubtype (.ref C) (.type "int")) false := looks_subIn X hsub
  have L7 : Looks (model prog w) hh (numberSlotInPython (.type "int") "add") false := Looks.of_pure rfl
  have hne : (Value.type "int" == Value.ref C) = false := Bool.eq_false_iff.mpr fun q => by cases beq_iff_eq.mp q
  show wpAny _ _ (holding [.int i t, .ref x] _) _ _ _
  refine wpAny_holding (wpAny_bind ?_)
  unfold binaryOp1
  refine wpAny_bind (L2.at (wpAny_bind (L1.at (wpAny_bind (L4.at ?_)))))
  simp only [hne, Bool.false_eq_true, if_false]
  ksp_lk
  refine wpAny_mono one (fun r s' hr' => ?_) fun _ _ e => e
  obtain ⟨rfl, rfl⟩ := hr'
  ksp_lk
  refine wpAny_mono two (fun r s' hr' => ?_) fun _ _ e => e
  obtain ⟨v, rfl, hq⟩ := hr'
  ksp_lk
  exact hq
end
end DL
namespace DL
open PySem L2
structure RaC (K : PySem.W.Frag) (C g0 g : Addr) : Prop where
  first : PySem.W.selfFirst K C = true
  add : PySem.W.findIn K (.ref C) (dunder "add") = some (some (.ref g0))
  radd : PySem.W.findIn K (.ref C) (dunderR "add") = some (some (.ref g))
  fn : PySem.W.isFn K (.ref g) = true
  sub : PySem.W.subIn K (.ref C) (.type "int") = some false
section
variable {X : Cx} {W : WX} {ec : EC} {a b : Expr} {F1 F2 : Fm → Out RV} {c : Str} {C g0 g : Addr} {k : Nat} {pos : Pos} {fd : FuncData} {ps : List Str} {sp : Sp} {ta tb : TE}
def tRaO (C : Addr) (sp : Sp) (W : WX) (ta tb : TE) : TE := fun σ H Q => ta σ H fun x H1 => tb σ H1 fun y H2 => ∃ a dx ns vs i, y = .ref a ∧ ObR H2 a C dx ns vs ∧ x = .int i ∧ sp [y, x] H2 Q (fun cls d H' => W cls d σ H')
theorem pe_raO (N : RaC X.K C g0 g) (G : FnG X.prog X.w X.K X.mg X.base k g fd ps sp) (gd : X.A.guards = some []) (hr : Room k X.A) (hb : KB X.K fd ps 2 [] [] [0, 1]) (tx : Takes X W) (ha : PE X a ta) (hb2 : PE X b tb) : PE X (.BinOp a .Add b pos) (tRaO C sp W ta tb) := by
  refine ⟨fun pins s σ H Q I h => ?_⟩
  refine wpAny_BinOp (binT ha hb2 I h fun v u s2 x y H2 I2 rx ry q => ?_)
  obtain ⟨o, dx, ns, vs, i, ey, ho, ex, q⟩ := q
  subst ex ey
  cases (show u = Value.ref o from ry)
  obtain ⟨t, e⟩ := (show ∃ t, v = Value.int i t from rx)
  cases e
  obtain ⟨ox, od, J, hd⟩ := ob_data I2 ho
  obtain ⟨m, hF⟩ := I2.fr
  refine add_R hF I2.ok.mod.kin J hd N.first N.add N.radd N.fn N.sub ?_
  have z := run_G (us := [.ref o, .int i t]) (ws := []) (vs := [.ref o, .int i]) (zs := []) G gd hr hb tx I2 (.cons rfl (.cons ⟨t, rfl⟩ .nil)) .nil rfl rfl q
  refine wpAny_mono z (fun w s' z => ?_) fun _ _ x => x
  obtain ⟨z', H', I', rz, qz⟩ := z
  exact SlX.cmpback rz ⟨z', H', I', rz, qz⟩
def fRaO (c : Str) (G : List D → FO) (F1 F2 : Fm → Out RV) : Fm → Out RV := fun ρ => (F1 ρ).bind fun r1 ρ => (F2 ρ).bind fun r2 ρ => match r2.get ρ, r1.get ρ with
  | some (.ob c' ns ds), some (.int i) => if c' = c ∧ noL (.ob c' ns ds) = true then callX none G [] [r2, .dt (.int i)] ρ else .bad
  | _, _ => .bad
theorem de_raO {Gf : List D → FO} (hm : X.mg c = some (.ref C)) (N : RaC X.K C g0 g) (G : FnG X.prog X.w X.K X.mg X.base k g fd ps (spD X.K X.mg none 2 Gf)) (gd : X.A.guards = some []) (hr : Room k X.A) (hb : KB X.K fd ps 2 [] [] [0, 1]) (tx : Takes X W)
    (ha : DE X W ec a F1) (hb2 : DE X W ec b F2) : DE X W ec (.BinOp a .Add b pos) (fRaO c Gf F1 F2) :=
  (pe_raO N G gd hr hb tx ha hb2).imp fun σ H Q ⟨Cc, ρ, tm, h, p⟩ => by
  refine tD_step (ts := []) h Kin.refl p fun r1 ρ1 v H1 h1 k1 p1 => ?_
  refine tD_step (ts := [(r1, v)]) h1 k1 p1 fun r2 ρ2 u H2 h2 k2 p2 => ?_
  cases q2 : r2.get ρ2 with
  | none =>
    rw [q2] at p2
    exact p2.elim
  | some x =>
    cases q1 : r1.get ρ2 with
    | none =>
      rw [q1, q2] at p2
      cases x <;> exact p2.elim
    | some y =>
      rw [q1, q2] at p2
      cases x with
      | ob c' ns ds =>
        cases y with
        | int i =>
          dsimp only at p2
          by_cases hc : c' = c ∧ noL (.ob c' ns ds) = true
          · rw [if_pos hc] at p2
            obtain ⟨rfl, hn⟩ := hc
            have rx := h2.get (.head _) q2
            have ry := h2.get (.tail _ (.head _)) q1
            obtain ⟨er, _⟩ := ob_dt h2 q2
            subst er
            have ev : v = V.int i := ry
            subst ev
            have h3 := (h2.pop.pop.push_dt (Rp.noL _ _ hn rx)).push_sv (d := .int i) rfl
            obtain ⟨o, C', dx, vs, rfl, m, ho, _⟩ := rx
            rw [hm] at m
            cases m
            exact ⟨o, dx, ns, vs, i, rfl, ho, rfl, callX_sp (dds := []) (dvs := []) (rs := [.dt (.ob c' ns ds), .dt (.int i)]) (vs := [.ref o, .int i]) (ioi := none) rfl (fun _ z => by cases z) h3 k2 (fun _ => rfl) p2⟩
          · rw [if_neg hc] at p2
            exact p2.elim
        | _ => exact p2.elim
      | _ => exact p2.elim
end
end DL

namespace DL
open PySem L2
/-! ### a, b = a list -/
def pTl (ps : List PutF) : PutF := fun d ρ => match d with
  | .lst ds => pAll ps ds ρ
  | _ => none
theorem tp_lst {K : PySem.W.Frag} {mg : Str → Option Value} {ec : EC} {n : Nat} {g : TGs} {ps : List PutF} {is : List Nat} (o : GsP K mg ec g ps is) (hn : ps.length = n := by rfl) : TgP K mg ec (gLst K n g) (pTl ps) is := ⟨fun {C ρ ρ' σ tm H d v Q} h lk hp q => by
  cases d <;> first | (cases hp; done) | skip
  rename_i ds
  obtain ⟨a, vs, e, _, hq, r⟩ := (show Rp K mg H (Av C.av ρ σ ((.dt (.lst ds), v) :: tm)) (.lst ds) v from h.tmp _ _ (.head _))
  have hl : ps.length = ds.length := pAll_len hp
  refine ⟨a, vs, e, .inl (.inl hq), by rw [r.len, ← hl, hn], ?_⟩
  have r' : RpL K mg H (Av C.av ρ σ tm) ds vs := RpL.av (fun _ z => .inl z.tail) ds vs r
  obtain ⟨tl, _, e2, h2⟩ := hold_items h.pop r'
  rw [e2] at h2
  exact gsP_run o h2 r.len lk hp q⟩
def sTgD (p : PutF) (F : Fm → Out RV) : Fm → SO := fun ρ => (F ρ).sbind fun r ρ => match toD r with
  | some d => match p d ρ with
    | some ρ' => .nx ρ'
    | none => .bad
  | none => .bad
theorem ds_tgD {X : Cx} {W : WX} {ec : EC} {a : Expr} {F : Fm → Out RV} {pos : Pos} {tg : Expr} {g : TG} {pu : PutF} {is : List Nat} (ha : DE X W ec a F) (hg : PG X tg g) (ht : TgP X.K X.mg ec g pu is) (hs : swapsWithSole [tg] a pos.line X.env = pure false := by rfl) (hw : swappedStores [tg] a X.env = pure none := by rfl)
    (h1 : (assignEach [tg] X.env).map (·.2) = [assign tg X.env] := by rfl) : DS X W ec (.Assign [tg] a pos) (sTgD pu F) := (ps_asg ha hg hs hw h1).imp fun E σ H ⟨C, ρ, tm, h, lk, p⟩ =>
  tD_stepS (ts := []) h Kin.refl p fun r ρ1 v H1 h1 k1 p1 => by
    cases q0 : toD r with
    | none => rw [q0] at p1; exact p1.elim
    | some d =>
      rw [q0] at p1
      dsimp only at p1
      cases q : pu d ρ1 with
      | none => rw [q] at p1; exact p1.elim
      | some ρ' =>
        rw [q] at p1
        obtain ⟨h2, r2⟩ := h1.settle q0
        exact ht.run (h2.push_dt r2) (LkT.lkI (lk.kin k1)) q fun σ' H' h3 k2 _ => p1 σ' H' h3 (k1.trans k2)
end DL

namespace DL
section
open PySem PySem.W PySem.Calls PyProof.Rows PyProof.V PySem.Spec
/-! ### zip whose tuple was handed out and is held -/
abbrev IsZ2 (h : Heap) (z TI TO T : Addr) (fl : Bool) : Prop :=
  h.get? z = some { cls := .type "zip", dict := none, data := .fields #[rawInt T, .bool fl, .bool false, .ref TI, .ref TO], slots := #[] }
variable {prog : Program} {w : World} {A : Around} {E : Value → Shared → Prop} {s : Shared}
theorem free2 {z TI TO T : Addr} {fl : Bool} {oT : Obj} {Q : Bool → Shared → Prop} (hz : IsZ2 s.heap z TI TO T fl) (hT : s.heap.get? T = some oT)
    (hQ : ∀ h', IsZ2 h' z TI TO T true → Heap.SameBut z s.heap h' → Q false { s with heap := h' }) : wpAny (model prog w) A (Builtin.SmallTypes.ownedTupleIsFree (.ref z)) Q E s := by
  unfold Builtin.SmallTypes.ownedTupleIsFree
  refine wpAny_bind (wpAny_field hz rfl (x := rawInt T) rfl ?_)
  show wpAny _ _ (loadIfAlive ((T : Int).toNat) >>= _) _ _ _
  rw [Int.toNat_natCast]
  refine wpAny_bind (kdx_alive hT ?_)
  simp only [Option.isNone_some, Bool.false_eq_true, if_false]
  refine wpAny_bind (wpAny_field hz rfl (x := .bool fl) rfl ?_)
  cases fl with
  | true =>
    exact wpAny_bind (wpAny_pure (wpAny_pure (hQ s.heap hz ⟨rfl, fun _ _ => rfl⟩)))
  | false =>
    refine wpAny_bind (wpAny_setField_rec hz (by simp) fun h₁ hz₁ hs₁ => ?_)
    exact wpAny_pure (hQ h₁ hz₁ hs₁)
/-- the cells lie apart -/
theorem zip_next_item2 {z TI TO i1 i2 l1 l2 T : Addr} {fl : Bool} {oT : Obj} {k1 k2 : Nat} {xs ys : Array Value} {x y : Value} {Q : Value → Shared → Prop} (D : ZipApart z TI TO i1 i2 l1 l2)
    (hz : IsZ2 s.heap z TI TO T fl) (hT : s.heap.get? T = some oT) (hTI : IsPair s.heap TI (.ref i1) (.ref i2))
    (h1 : s.heap.IsListIter i1 l1 k1) (h2 : s.heap.IsListIter i2 l2 k2) (hl1 : s.heap.IsList l1 xs) (hl2 : s.heap.IsList l2 ys) (hx : xs[k1]? = some x) (hy : ys[k2]? = some y)
    (hQ : ∀ h', IsZ2 h' z TI TO T true → h'.IsListIter i1 l1 (k1 + 1) → h'.IsListIter i2 l2 (k2 + 1) → IsPair h' s.heap.objs.size x y → h'.objs.size = s.heap.objs.size + 1 →
      (∀ c o, c ≠ z → c ≠ i1 → c ≠ i2 → s.heap.get? c = some o → h'.get? c = some o) → Q (.ref s.heap.objs.size) { s with heap := h' }) :
    wpAny (model prog w) A (Builtin.«zip.__next__» ⟨[.ref z], []⟩) (fun fin s' => ∃ v, fin = .done (.ret v) ∧ Q v s') E s := by
  show wpAny _ _ (field (.ref z) 2 >>= _) _ _ _
  refine wpAny_bind (wpAny_field hz rfl (x := .bool false) rfl ?_)
  show wpAny _ _ (field (.ref z) 3 >>= _) _ _ _
  refine wpAny_bind (wpAny_field hz rfl (x := .ref TI) rfl ?_)
  refine wpAny_bind (wpAny_seqItems hTI rfl ?_)
  show wpAny _ _ (Builtin.SmallTypes.ownedTupleIsFree (.ref z) >>= _) _ _ _
  refine wpAny_bind (free2 hz hT fun h₁ hz₁ hs₁ => ?_)
  simp only [Bool.false_eq_true, if_false]
  refine wpAny_bind ?_
  simp only [List.forIn_toArray, List.forIn_cons, List.forIn_nil]
  refine wpAny_bind (wpAny_bind (wpAny_holding ?_))
  show wpAny _ _ (Builtin.SmallTypes.nextOf (.ref i1) >>= _) _ _ _
  refine wpAny_bind (wpAny_nextOf_list_item (h1.extBut hs₁.extBut D.i1z) (hl1.extBut hs₁.extBut D.l1z) hx fun h₂ h1₂ hs₂ => wpAny_pure (wpAny_pure ?_))
  dsimp only
  refine wpAny_bind (wpAny_bind (wpAny_holding ?_))
  show wpAny _ _ (Builtin.SmallTypes.nextOf (.ref i2) >>= _) _ _ _
  refine wpAny_bind (wpAny_nextOf_list_item ((h2.extBut hs₁.extBut D.i2z).extBut hs₂.extBut D.i12.symm)
    ((hl2.extBut hs₁.extBut D.l2z).extBut hs₂.extBut D.l2i1) hy fun h₃ h2₃ hs₃ => wpAny_pure (wpAny_pure ?_))
  dsimp only
  refine wpAny_pure ?_
  dsimp only
  refine wpAny_bind (wpAny_newTuple (hsz := by show 2 ≤ sizeLine; decide) ?_)
  have hsz : h₃.objs.size = s.heap.objs.size := by rw [hs₃.1, hs₂.1, hs₁.1]
  have hz₃ : IsZ2 h₃ z TI TO T true := hs₃.extBut _ _ D.i2z.symm (hs₂.extBut _ _ D.i1z.symm hz₁)
  have hk₃ : ∀ c o, c ≠ z → c ≠ i1 → c ≠ i2 → s.heap.get? c = some o → h₃.get? c = some o := fun c o c1 c3 c4 e =>
    hs₃.extBut _ _ c4 (hs₂.extBut _ _ c3 (hs₁.extBut _ _ c1 e))
  have h1₃ : h₃.IsListIter i1 l1 (k1 + 1) := h1₂.extBut hs₃.extBut D.i12
  refine wpAny_pure ⟨_, rfl, ?_⟩
  show Q (.ref h₃.objs.size) _
  rw [hsz]
  have up : ∀ c o, h₃.get? c = some o → (h₃.push { cls := .type "tuple", data := .seq #[x, y] }).get? c = some o := fun c o e => Heap.get?_push_of_some _ e
  refine hQ _ (up _ _ hz₃) (h1₃.at fun o e => up _ _ e) (h2₃.at fun o e => up _ _ e) ?_ ?_ fun c o c1 c3 c4 e => up _ _ (hk₃ c o c1 c3 c4 e)
  · rw [← hsz]
    exact Heap.get?_push_size _ rfl
  · rw [Heap.size_push, hsz]
theorem zip_next_end2 {z TI TO i1 i2 l1 l2 T : Addr} {fl : Bool} {oT : Obj} {k1 k2 : Nat} {xs ys : Array Value} {Q : PySem.Fin → Shared → Prop} (hh : A.handled = none) (D : ZipApart z TI TO i1 i2 l1 l2)
    (hz : IsZ2 s.heap z TI TO T fl) (hT : s.heap.get? T = some oT) (hTI : IsPair s.heap TI (.ref i1) (.ref i2))
    (h1 : s.heap.IsListIter i1 l1 k1) (h2 : s.heap.IsListIter i2 l2 k2) (hl1 : s.heap.IsList l1 xs) (hl2 : s.heap.IsList l2 ys) (hend : xs[k1]? = none ∨ ys[k2]? = none)
    (hE : ∀ h' e, (∀ c o, c ≠ z → c ≠ i1 → c ≠ i2 → s.heap.get? c = some o → h'.get? c = some o) → (∃ o, h'.get? e = some o ∧ o.cls = .type "StopIteration") → E (.ref e) { s with heap := h' }) :
    wpAny (model prog w) A (Builtin.«zip.__next__» ⟨[.ref z], []⟩) Q E s := by
  show wpAny _ _ (field (.ref z) 2 >>= _) _ _ _
  refine wpAny_bind (wpAny_field hz rfl (x := .bool false) rfl ?_)
  show wpAny _ _ (field (.ref z) 3 >>= _) _ _ _
  refine wpAny_bind (wpAny_field hz rfl (x := .ref TI) rfl ?_)
  refine wpAny_bind (wpAny_seqItems hTI rfl ?_)
  show wpAny _ _ (Builtin.SmallTypes.ownedTupleIsFree (.ref z) >>= _) _ _ _
  refine wpAny_bind (free2 hz hT fun h₁ hz₁ hs₁ => ?_)
  simp only [Bool.false_eq_true, if_false]
  refine wpAny_bind ?_
  simp only [List.forIn_toArray, List.forIn_cons, List.forIn_nil]
  refine wpAny_bind (wpAny_bind (wpAny_holding ?_))
  show wpAny _ _ (Builtin.SmallTypes.nextOf (.ref i1) >>= _) _ _ _
  cases hx : xs[k1]? with
  | none =>
    refine wpAny_bind (wpAny_nextOf_list_end hh (h1.extBut hs₁.extBut D.i1z) (hl1.extBut hs₁.extBut D.l1z) hx fun h₂ e hs₂ he => ?_)
    exact hE h₂ e (fun c o c1 c3 _ x => hs₂ _ _ c3 (hs₁.extBut _ _ c1 x)) he
  | some x =>
    have hy : ys[k2]? = none := by rcases hend with h | h; rw [hx] at h; cases h; exact h
    refine wpAny_bind (wpAny_nextOf_list_item (h1.extBut hs₁.extBut D.i1z) (hl1.extBut hs₁.extBut D.l1z) hx fun h₂ h1₂ hs₂ => wpAny_pure (wpAny_pure ?_))
    dsimp only
    refine wpAny_bind (wpAny_bind (wpAny_holding ?_))
    show wpAny _ _ (Builtin.SmallTypes.nextOf (.ref i2) >>= _) _ _ _
    refine wpAny_bind (wpAny_nextOf_list_end hh ((h2.extBut hs₁.extBut D.i2z).extBut hs₂.extBut D.i12.symm)
      ((hl2.extBut hs₁.extBut D.l2z).extBut hs₂.extBut D.l2i1) hy fun h₄ e hs₄ he => ?_)
    exact hE h₄ e (fun c o c1 c3 c4 x => hs₄ _ _ c4 (hs₂.extBut _ _ c3 (hs₁.extBut _ _ c1 x))) he
theorem pyNext_zip_item2 {z TI TO i1 i2 l1 l2 T : Addr} {fl : Bool} {oT : Obj} {k1 k2 : Nat} {xs ys : Array Value} {x y : Value} {Q : Option Value → Shared → Prop} (D : ZipApart z TI TO i1 i2 l1 l2)
    (hz : IsZ2 s.heap z TI TO T fl) (hT : s.heap.get? T = some oT) (hTI : IsPair s.heap TI (.ref i1) (.ref i2))
    (h1 : s.heap.IsListIter i1 l1 k1) (h2 : s.heap.IsListIter i2 l2 k2) (hl1 : s.heap.IsList l1 xs) (hl2 : s.heap.IsList l2 ys) (hx : xs[k1]? = some x) (hy : ys[k2]? = some y)
    (hQ : ∀ h', IsZ2 h' z TI TO T true → h'.IsListIter i1 l1 (k1 + 1) → h'.IsListIter i2 l2 (k2 + 1) → IsPair h' s.heap.objs.size x y → h'.objs.size = s.heap.objs.size + 1 →
      (∀ c o, c ≠ z → c ≠ i1 → c ≠ i2 → s.heap.get? c = some o → h'.get? c = some o) → Q (some (.ref s.heap.objs.size)) { s with heap := h' }) :
    wpAny (model prog w) A (pyNext (.ref z)) Q E s := by
  have hTy : s.TypeIs (.ref z) "zip" := ⟨_, hz, rfl⟩
  unfold pyNext
  exact wpAny_bind (wpAny_attempt (wpAny_callSpecial?_slot (name := Str.ofString "__next__") hTy PySem.F.slot_zip_next
    (wpAny_call_entry PySem.F.slot_zip_next hTy PySem.F.entry_zip_next
      (zip_next_item2 D hz hT hTI h1 h2 hl1 hl2 hx hy fun h' a1 a2 a3 a4 a5 a6 => wpAny_pure (hQ h' a1 a2 a3 a4 a5 a6)) (PySem.F.args_zip_next_1 _))))
theorem pyNext_zip_end2 {z TI TO i1 i2 l1 l2 T : Addr} {fl : Bool} {oT : Obj} {k1 k2 : Nat} {xs ys : Array Value} {Q : Option Value → Shared → Prop} (hh : A.handled = none) (D : ZipApart z TI TO i1 i2 l1 l2)
    (hz : IsZ2 s.heap z TI TO T fl) (hT : s.heap.get? T = some oT) (hTI : IsPair s.heap TI (.ref i1) (.ref i2))
    (h1 : s.heap.IsListIter i1 l1 k1) (h2 : s.heap.IsListIter i2 l2 k2) (hl1 : s.heap.IsList l1 xs) (hl2 : s.heap.IsList l2 ys) (hend : xs[k1]? = none ∨ ys[k2]? = none)
    (hQ : ∀ h', (∀ c o, c ≠ z → c ≠ i1 → c ≠ i2 → s.heap.get? c = some o → h'.get? c = some o) → Q none { s with heap := h' }) : wpAny (model prog w) A (pyNext (.ref z)) Q E s := by
  have hTy : s.TypeIs (.ref z) "zip" := ⟨_, hz, rfl⟩
  unfold pyNext
  refine wpAny_bind (wpAny_attempt (wpAny_callSpecial?_slot (name := Str.ofString "__next__") hTy PySem.F.slot_zip_next
    (wpAny_call_entry PySem.F.slot_zip_next hTy PySem.F.entry_zip_next (zip_next_end2 hh D hz hT hTI h1 h2 hl1 hl2 hend fun h' e hk he => ?_) (PySem.F.args_zip_next_1 _))))
  obtain ⟨o, ho, hc⟩ := he
  refine wpAny_bind (wpAny_isInstance (T := "StopIteration") (b := true) ⟨o, ho, hc⟩ isSubtype_stop ?_)
  exact wpAny_pure (hQ _ hk)
end
end DL

namespace DL
section
open PySem PySem.W PySem.Calls PyProof.Rows PyProof.V PySem.Spec
/-! ### list(it), the items told with the heap -/
variable {prog : Program} {w : World} {A : Around} {R : Result → Shared → Prop} {I S : Addr} {n : Nat} {wr : List Addr} {St : Nat → Heap → Prop} {PH : Nat → Value → Heap → Prop} {res : Value}
/-- what is walked, its items told with the heap -/
structure WalkH (prog : Program) (w : World) (A : Around) (I S : Addr) (n : Nat) (wr : List Addr) (St : Nat → Heap → Prop) (PH : Nat → Value → Heap → Prop) : Prop where
  item : ∀ i (s : Shared) (Q : Option Value → Shared → Prop) (E : Value → Shared → Prop), i < n → St i s.heap → (∃ o, s.heap.get? S = some o) →
    (∀ v h', PH i v h' → St (i + 1) h' → (∀ b o, b ∉ wr → s.heap.get? b = some o → h'.get? b = some o) → Q (some v) { s with heap := h' }) → wpAny (model prog w) A (pyNext (.ref I)) Q E s
  done : ∀ (s : Shared) (Q : Option Value → Shared → Prop) (E : Value → Shared → Prop), St n s.heap → (∀ h', (∀ b o, b ∉ wr → s.heap.get? b = some o → h'.get? b = some o) → Q none { s with heap := h' }) → wpAny (model prog w) A (pyNext (.ref I)) Q E s
  frame : ∀ i h h', St i h → h'.objs.size = h.objs.size → (∀ b o, b ≠ S → h.get? b = some o → h'.get? b = some o) → St i h'
  stay : ∀ i v h h', PH i v h → (∀ b o, b ∉ S :: wr → h.get? b = some o → h'.get? b = some o) → PH i v h'
theorem ext_loopH (W : WalkH prog w A.in1 I S n wr St PH) (hSw : S ∉ wr) (hn : n ≤ sizeLine) :
    ∀ (k i : Nat) (s : Shared) (acc : Array Value) (c : Nat), n - i = k → i ≤ n → St i s.heap → s.heap.get? S = some { cls := .type "list", dict := none, data := .seq acc c, slots := #[] } → acc.size = i → (∀ (j : Nat) v, acc[j]? = some v → PH j v s.heap) →
    (∀ h' acc' c', (∀ b o, b ∉ S :: wr → s.heap.get? b = some o → h'.get? b = some o) → h'.get? S = some { cls := .type "list", dict := none, data := .seq acc' c', slots := #[] } → acc'.size = n → (∀ (j : Nat) v, acc'[j]? = some v → PH j v h') → R (.ok (.ret res)) { s with heap := h' }) →
    codeAny (model prog w) A (.builtin "list.extend.loop" ⟨[.ref S, .ref I, res], []⟩) R s := by
  have hsub : ∀ {b}, b ∉ S :: wr → b ∉ wr := fun hb h => hb (List.mem_cons_of_mem _ h)
  intro k
  induction k with
  | zero =>
    intro i s acc c hk hi hst hS ha hacc hR
    have hin : i = n := by omega
    subst hin
    refine codeAny_builtin F.entry_extend_loop ?_
    rw [Around.under_plainId F.plain_extend_loop _]
    show wpAny _ A.in1 (pyNext (.ref I) >>= _) _ _ s
    refine wpAny_bind (W.done s _ _ hst fun h' hm => ?_)
    exact wpAny_pure (hR h' acc c (fun b o hb e => hm b o (hsub hb) e) (hm S _ hSw hS) ha fun j v hj => W.stay j v _ _ (hacc j v hj) fun b o hb e => hm b o (hsub hb) e)
  | succ k ih =>
    intro i s acc c hk hi hst hS ha hacc hR
    have hlt : i < n := by omega
    refine codeAny_builtin F.entry_extend_loop ?_
    rw [Around.under_plainId F.plain_extend_loop _]
    show wpAny _ A.in1 (pyNext (.ref I) >>= _) _ _ s
    refine wpAny_bind (W.item i s _ _ hlt hst ⟨_, hS⟩ fun v h' hP hst' hm => ?_)
    have hS' := hm S _ hSw hS
    show wpAny _ A.in1 (updateSeq S (·.push v) >>= _) _ _ _
    refine wpAny_bind ?_
    have oth : ∀ b o, b ≠ S → h'.get? b = some o → (h'.update S (Obj.mapSeq (·.push v))).get? b = some o := fun b o hb e => (Heap.get?_update_other _ _ (fun h : S = b => hb h.symm)).trans e
    have upS : ∀ b o, b ∉ S :: wr → h'.get? b = some o → (h'.update S (Obj.mapSeq (·.push v))).get? b = some o := fun b o hb e => oth b o (fun h => hb (h ▸ List.mem_cons_self)) e
    refine wpAny_updateSeq (s := { s with heap := h' }) hS' rfl (wpAny_pure ⟨plainId_quiet F.plain_extend_loop _, ih (i + 1) _ (acc.push v) _ (by omega) hlt (W.frame _ _ _ hst' (Heap.size_update ..) oth) (Heap.get?_update_self _ hS' rfl) (by rw [Array.size_push, ha])
      (fun j u hj => ?_) fun h'' acc' c' hm'' hS'' ha' hacc' => hR h'' acc' c' (fun b o hb e => hm'' b o hb (upS b o hb (hm b o (hsub hb) e))) hS'' ha' hacc'⟩)
      (by first | (rw [ha]; omega) | (show (acc.push v).size ≤ sizeLine + 1; rw [Array.size_push, ha]; omega)) (by show (acc.push v).size ≤ sizeLine + 1; rw [Array.size_push, ha]; omega)
    refine W.stay j u _ _ ?_ upS
    rw [Array.getElem?_push] at hj
    split at hj
    · rename_i hjs
      cases hj
      rw [hjs, ha]
      exact hP
    · exact W.stay j u _ _ (hacc j u hj) fun b o hb e => hm b o (hsub hb) e
theorem ext_H {T : String} (W : WalkH prog w A.in1 I S n wr St PH) (hSw : S ∉ wr) (hn : n ≤ sizeLine) {s : Shared} (hT : ∀ h, St 0 h → ∃ o, h.get? I = some o ∧ o.cls = .type T) (hl : typeLookup (.type T) "__len__" = pure none) (hn0 : typeLookup (.type T) "__length_hint__" = pure none)
    (h2 : (Value.type T == Value.type "list") = false) (h3 : (Value.type T == Value.type "tuple") = false) (self : ∀ (s : Shared) (Q : Value → Shared → Prop) (E : Value → Shared → Prop), St 0 s.heap → Q (.ref I) s → wpAny (model prog w) A.in1 (pyIter (.ref I)) Q E s)
    (hSI : S ≠ I) (hst : St 0 s.heap) {c₀ : Nat} (hS : s.heap.get? S = some { cls := .type "list", data := .seq #[] c₀ })
    (hR : ∀ h' acc' c', (∀ b o, b ∉ S :: wr → s.heap.get? b = some o → h'.get? b = some o) → h'.get? S = some { cls := .type "list", dict := none, data := .seq acc' c', slots := #[] } → acc'.size = n → (∀ (j : Nat) v, acc'[j]? = some v → PH j v h') → R (.ok (.ret res)) { s with heap := h' }) :
    wpAny (model prog w) A.in1 (Builtin.List.listExtendWith (.ref S) (.ref I) res)
      (fun fin s' => match fin with | .done f => R (.ok f) s' | .again c' => c'.quiet = true ∧ codeAny (model prog w) A c' R s') (fun e s' => R (.error e) s') s := by
  have tI : ∀ s1 : Shared, St 0 s1.heap → s1.TypeIs (.ref I) T := fun s1 h => hT _ h
  unfold Builtin.List.listExtendWith
  refine wpAny_bind (wpAny_typeOf (tI _ hst) ?_)
  have h1 : Builtin.List.listSameRef (.ref S) (.ref I) = false := by simp [Builtin.List.listSameRef, hSI]
  simp only [h1, h2, h3, Bool.or_false, Bool.false_eq_true, if_false]
  refine wpAny_bind (self _ _ _ hst ?_)
  refine wpAny_bind (wpAny_holding ?_)
  unfold Builtin.List.listLengthHint
  refine wpAny_bind (wpAny_specialOf (tI _ hst) hl ?_)
  show wpAny _ A.in1 (specialOf (Value.ref I) (Str.ofString "__length_hint__") >>= _) _ _ _
  refine wpAny_bind (wpAny_specialOf (tI _ hst) hn0 ?_)
  refine wpAny_pure ?_
  show wpAny _ A.in1 (rule "list.extend.makes-room" >>= fun _ => Builtin.List.listTouch (.ref S) >>= fun _ =>
    again (.builtin "list.extend.loop" ⟨[.ref S, .ref I, res], []⟩)) _ _ _
  refine wpAny_bind (wpAny_rule ?_)
  refine wpAny_bind ?_
  show wpAny _ A.in1 (updateSeq S (·.push .none) >>= fun _ => updateSeq S (·.pop)) _ _ _
  refine wpAny_bind (wpAny_updateSeq hS rfl ?_)
  have hS₂ := Heap.get?_update_self (Obj.mapSeq (·.push Value.none)) hS rfl
  refine wpAny_updateSeq (hz := by seq_fits) hS₂ rfl ?_
  have hS₃ := Heap.get?_update_self (Obj.mapSeq (·.pop)) hS₂ rfl
  have oth : ∀ b o, b ≠ S → s.heap.get? b = some o → ((s.heap.update S (Obj.mapSeq (·.push Value.none))).update S (Obj.mapSeq (·.pop))).get? b = some o :=
    fun b o hb e => (Heap.get?_update_other _ _ (Ne.symm hb)).trans ((Heap.get?_update_other _ _ (Ne.symm hb)).trans e)
  refine wpAny_pure ⟨plainId_quiet F.plain_extend_loop _, ext_loopH W hSw hn n 0 _ _ _ rfl (Nat.zero_le _) (W.frame _ _ _ hst (by rw [Heap.size_update, Heap.size_update]) oth) hS₃ rfl (fun j v hj => by simp [Obj.mapSeq] at hj) fun h' acc' c' hm hS' ha' hacc' => ?_⟩
  exact hR h' acc' c' (fun b o hb e => hm b o hb (oth b o (fun h => hb (h ▸ List.mem_cons_self)) e)) hS' ha' hacc'
end
section
open PySem PySem.W PySem.Calls PyProof.Rows PyProof.V PySem.Spec
variable {prog : Program} {w : World} {A : Around} {E : Value → Shared → Prop} {s : Shared} {I : Addr} {n : Nat} {wr : List Addr} {St : Nat → Heap → Prop} {PH : Nat → Value → Heap → Prop}
/-- list(it) -/
theorem call_listH {T : String} {Q : Value → Shared → Prop} (W : WalkH prog w A.in1.in1 I s.heap.objs.size n wr St PH) (hSw : s.heap.objs.size ∉ wr) (hn : n ≤ sizeLine) (hT : ∀ h, St 0 h → ∃ o, h.get? I = some o ∧ o.cls = .type T) (hl : typeLookup (.type T) "__len__" = pure none) (hn0 : typeLookup (.type T) "__length_hint__" = pure none)
    (h2 : (Value.type T == Value.type "list") = false) (h3 : (Value.type T == Value.type "tuple") = false) (self : ∀ (s : Shared) (Q : Value → Shared → Prop) (E : Value → Shared → Prop), St 0 s.heap → Q (.ref I) s → wpAny (model prog w) A.in1.in1 (pyIter (.ref I)) Q E s)
    (hI : I < s.heap.objs.size) (hst : St 0 (s.heap.push { cls := .type "list", data := .seq #[] }))
    (hQ : ∀ h' acc' c', (∀ b o, b ∉ wr → s.heap.get? b = some o → h'.get? b = some o) → h'.get? s.heap.objs.size = some { cls := .type "list", dict := none, data := .seq acc' c', slots := #[] } → acc'.size = n → (∀ (j : Nat) v, acc'[j]? = some v → PH j v h') → Q (.ref s.heap.objs.size) { s with heap := h' }) :
    wpAny (model prog w) A (call (.type "list") [.ref I]) Q E s := by
  refine callType_codes (Q₁ := fun obj s₁ => obj = .ref s.heap.objs.size ∧ s₁ = { s with heap := s.heap.push { cls := .type "list", data := .seq #[] } }) F.called_list (F.typeCall_list_1 _) F.entry_list_init
    (code_list_new _ ⟨rfl, rfl⟩) fun obj s₁ h₁ => ?_
  obtain ⟨rfl, rfl⟩ := h₁
  have hS : (s.heap.push { cls := .type "list", data := .seq #[] }).get? s.heap.objs.size = some { cls := .type "list", data := .seq #[] } := Heap.get?_push_size _ rfl
  refine ⟨⟨_, hS, rfl⟩, F.args_list_init_2 _ _, ?_⟩
  show wpAny _ A.in1.in1 (do let old ← Builtin.List.listItems (.ref s.heap.objs.size); Builtin.List.listUpdate (.ref s.heap.objs.size) (fun _ => #[]); letGo old.toList.reverse; Builtin.List.listExtendWith (.ref s.heap.objs.size) (.ref I) .none) _ _ { s with heap := s.heap.push { cls := .type "list", data := .seq #[] } }
  refine wpAny_bind ?_
  unfold Builtin.List.listItems
  refine wpAny_bind (wpAny_seqItems hS rfl (wpAny_pure ?_))
  show wpAny _ A.in1.in1 (updateSeq s.heap.objs.size (fun _ => #[]) >>= fun _ => letGo (#[] : Array Value).toList.reverse >>= fun _ => Builtin.List.listExtendWith (.ref s.heap.objs.size) (.ref I) .none) _ _ _
  refine wpAny_bind (wpAny_updateSeq hS rfl ?_)
  have hS₂ := Heap.get?_update_self (Obj.mapSeq (fun _ => (#[] : Array Value))) hS rfl
  have oth : ∀ b o, b ≠ s.heap.objs.size → (s.heap.push { cls := .type "list", data := .seq #[] }).get? b = some o → ((s.heap.push { cls := .type "list", data := .seq #[] }).update s.heap.objs.size (Obj.mapSeq (fun _ => (#[] : Array Value)))).get? b = some o :=
    fun b o hb e => (Heap.get?_update_other _ _ (Ne.symm hb)).trans e
  refine wpAny_bind (wpAny_letGo ?_)
  refine ext_H (A := A.in1) W hSw hn hT hl hn0 h2 h3 self (Nat.ne_of_gt hI) (W.frame _ _ _ hst (Heap.size_update ..) oth) hS₂ fun h' acc' c' hm hS' ha' hacc' => ?_
  refine ⟨rfl, hQ h' acc' c' (fun b o hb e => ?_) hS' ha' hacc'⟩
  have hlt := Heap.lt_size e
  have hbS : b ≠ s.heap.objs.size := Nat.ne_of_lt hlt
  exact hm b o (fun h => by
    rcases List.mem_cons.mp h with z | z
    · exact hbS z
    · exact hb z) (oth b o hbS (Heap.get?_push_of_some _ e))
end
end DL

namespace DL
section
open PySem PySem.W PySem.Calls PyProof.Rows PyProof.V PySem.Spec
/-! ### list(zip(a, b)), a and b lists -/
variable {prog : Program} {w : World} {A : Around} {E : Value → Shared → Prop} {s : Shared} {z TI TO i1 i2 l1 l2 S : Nat} {xs ys : Array Value}
def ZSt (z TI TO i1 i2 l1 l2 S : Nat) (xs ys : Array Value) (i : Nat) (h : Heap) : Prop :=
  ((i = 0 ∧ IsZip h z TI TO .none ∧ ∃ a b, IsPair h TO a b) ∨ (∃ (T : Nat) (fl : Bool) (oT : Obj), IsZ2 h z TI TO T fl ∧ h.get? T = some oT ∧ S < T)) ∧ IsPair h TI (.ref i1) (.ref i2) ∧ h.IsListIter i1 l1 i ∧ h.IsListIter i2 l2 i ∧ h.IsList l1 xs ∧ h.IsList l2 ys ∧ h.objs.size = S + 1 + i
def ZPH (S : Nat) (xs ys : Array Value) (i : Nat) (v : Value) (h : Heap) : Prop := v = .ref (S + 1 + i) ∧ ∃ x y, xs[i]? = some x ∧ ys[i]? = some y ∧ IsPair h (S + 1 + i) x y
theorem isList_at {h h' : Heap} {l : Addr} {xs : Array Value} (hl : h.IsList l xs) (k : ∀ o, h.get? l = some o → h'.get? l = some o) : h'.IsList l xs := by
  obtain ⟨o, ho, r⟩ := hl
  exact ⟨o, k o ho, r⟩
theorem zipWalkH (D : ZipApart z TI TO i1 i2 l1 l2) (hh : A.handled = none) (b1 : z < S) (b2 : TI < S) (b3 : TO < S) (b4 : i1 < S) (b5 : i2 < S) (b6 : l1 < S) (b7 : l2 < S) :
    WalkH prog w A z S (min xs.size ys.size) [z, TO, i1, i2] (ZSt z TI TO i1 i2 l1 l2 S xs ys) (ZPH S xs ys) where
  item := fun i s Q E hi hst hS hQ => by
    obtain ⟨hz, hTI, h1, h2, hl1, hl2, hsz⟩ := hst
    obtain ⟨x, hx⟩ : ∃ x, xs[i]? = some x := ⟨_, Array.getElem?_eq_getElem (show i < xs.size by omega)⟩
    obtain ⟨y, hy⟩ : ∃ y, ys[i]? = some y := ⟨_, Array.getElem?_eq_getElem (show i < ys.size by omega)⟩
    rcases hz with ⟨_, hz, a, b, hTO⟩ | ⟨T, fl, oT, hz, hT, hTS⟩
    · refine wpAny_pyNext_zip_item D hz hTI hTO h1 h2 hl1 hl2 hx hy fun h' a1 a2 a3 a4 a5 a6 a7 => ?_
      rw [hsz] at a1 a5 a6 ⊢
      refine hQ _ h' ⟨rfl, x, y, hx, hy, a5⟩ ⟨.inr ⟨S + 1 + i, false, _, a1, a5, by omega⟩, a7 _ _ D.TIz D.TITO D.TIi1 D.TIi2 hTI, a3, a4, ?_, ?_, by omega⟩ fun b o hb e => ?_
      · exact isList_at hl1 fun o e => a7 _ _ D.l1z D.l1TO D.l1i1 D.l1i2 e
      · exact isList_at hl2 fun o e => a7 _ _ D.l2z D.l2TO D.l2i1 D.l2i2 e
      · simp only [List.mem_cons, List.not_mem_nil, or_false, not_or] at hb
        exact a7 _ _ hb.1 hb.2.1 hb.2.2.1 hb.2.2.2 e
    · refine pyNext_zip_item2 D hz hT hTI h1 h2 hl1 hl2 hx hy fun h' a1 a3 a4 a5 a6 a7 => ?_
      rw [hsz] at a5 a6 ⊢
      have nT : T ≠ z ∧ T ≠ i1 ∧ T ≠ i2 := ⟨Nat.ne_of_gt (Nat.lt_trans b1 hTS), Nat.ne_of_gt (Nat.lt_trans b4 hTS), Nat.ne_of_gt (Nat.lt_trans b5 hTS)⟩
      refine hQ _ h' ⟨rfl, x, y, hx, hy, a5⟩ ⟨.inr ⟨T, true, oT, a1, a7 _ _ nT.1 nT.2.1 nT.2.2 hT, hTS⟩, a7 _ _ D.TIz D.TIi1 D.TIi2 hTI, a3, a4, ?_, ?_, by omega⟩ fun b o hb e => ?_
      · exact isList_at hl1 fun o e => a7 _ _ D.l1z D.l1i1 D.l1i2 e
      · exact isList_at hl2 fun o e => a7 _ _ D.l2z D.l2i1 D.l2i2 e
      · simp only [List.mem_cons, List.not_mem_nil, or_false, not_or] at hb
        exact a7 _ _ hb.1 hb.2.2.1 hb.2.2.2 e
  done := fun s Q E hst hQ => by
    obtain ⟨hz, hTI, h1, h2, hl1, hl2, hsz⟩ := hst
    have hend : xs[min xs.size ys.size]? = none ∨ ys[min xs.size ys.size]? = none := by
      rcases Nat.le_total xs.size ys.size with q | q
      · exact .inl (Array.getElem?_eq_none (by omega))
      · exact .inr (Array.getElem?_eq_none (by omega))
    rcases hz with ⟨_, hz, a, b, hTO⟩ | ⟨T, fl, oT, hz, hT, hTS⟩
    · refine wpAny_pyNext_zip_end hh D hz hTI hTO h1 h2 hl1 hl2 hend fun h' k => hQ h' fun b o hb e => ?_
      simp only [List.mem_cons, List.not_mem_nil, or_false, not_or] at hb
      exact k _ _ hb.1 hb.2.1 hb.2.2.1 hb.2.2.2 e
    · refine pyNext_zip_end2 hh D hz hT hTI h1 h2 hl1 hl2 hend fun h' k => hQ h' fun b o hb e => ?_
      simp only [List.mem_cons, List.not_mem_nil, or_false, not_or] at hb
      exact k _ _ hb.1 hb.2.2.1 hb.2.2.2 e
  frame := fun i h h' hst hsz k => by
    obtain ⟨hz, hTI, h1, h2, hl1, hl2, hs⟩ := hst
    refine ⟨?_, k _ _ (Nat.ne_of_lt b2) hTI, h1.at fun o e => k _ _ (Nat.ne_of_lt b4) e, h2.at fun o e => k _ _ (Nat.ne_of_lt b5) e, isList_at hl1 fun o e => k _ _ (Nat.ne_of_lt b6) e, isList_at hl2 fun o e => k _ _ (Nat.ne_of_lt b7) e, hsz.trans hs⟩
    rcases hz with ⟨e0, hz, a, b, hTO⟩ | ⟨T, fl, oT, hz, hT, hTS⟩
    · exact .inl ⟨e0, k _ _ (Nat.ne_of_lt b1) hz, a, b, k _ _ (Nat.ne_of_lt b3) hTO⟩
    · exact .inr ⟨T, fl, oT, k _ _ (Nat.ne_of_lt b1) hz, k _ _ (Nat.ne_of_gt hTS) hT, hTS⟩
  stay := fun i v h h' hp k => by
    obtain ⟨rfl, x, y, hx, hy, ht⟩ := hp
    refine ⟨rfl, x, y, hx, hy, k _ _ ?_ ht⟩
    simp only [List.mem_cons, List.not_mem_nil, or_false, not_or]
    have g : S < S + 1 + i := by omega
    exact ⟨Nat.ne_of_gt g, Nat.ne_of_gt (Nat.lt_trans b1 g), Nat.ne_of_gt (Nat.lt_trans b3 g), Nat.ne_of_gt (Nat.lt_trans b4 g), Nat.ne_of_gt (Nat.lt_trans b5 g)⟩
theorem iter_z2 {T : Nat} {fl : Bool} {Q : Value → Shared → Prop} (hz : IsZ2 s.heap z TI TO T fl) (h : Q (.ref z) s) : wpAny (model prog w) A (pyIter (.ref z)) Q E s := by
  have hT : s.TypeIs (.ref z) "zip" := ⟨_, hz, rfl⟩
  refine wpAny_pyIter_slot hT PySem.F.slot_zip_iter (wpAny_call_entry PySem.F.slot_zip_iter hT PySem.F.entry_zip_iter ?_ (PySem.F.args_zip_iter_1 _))
  show wpAny _ _ (ret (.ref z)) _ _ s
  exact wpAny_pure ⟨_, rfl, "zip", _, hT, PySem.F.slot_zip_next.lookup, h⟩
/-- list(z), z a zip over two lists -/
theorem call_list_zip {Q : Value → Shared → Prop} (D : ZipApart z TI TO i1 i2 l1 l2) (hh : A.handled = none) (hn : min xs.size ys.size ≤ sizeLine) {a b : Value} (hz : IsZip s.heap z TI TO .none) (hTI : IsPair s.heap TI (.ref i1) (.ref i2)) (hTO : IsPair s.heap TO a b)
    (h1 : s.heap.IsListIter i1 l1 0) (h2 : s.heap.IsListIter i2 l2 0) (hl1 : s.heap.IsList l1 xs) (hl2 : s.heap.IsList l2 ys)
    (hQ : ∀ h' acc' c', (∀ b o, b ∉ [z, TO, i1, i2] → s.heap.get? b = some o → h'.get? b = some o) → h'.get? s.heap.objs.size = some { cls := .type "list", dict := none, data := .seq acc' c', slots := #[] } → acc'.size = min xs.size ys.size →
      (∀ (j : Nat) v, acc'[j]? = some v → ZPH s.heap.objs.size xs ys j v h') → Q (.ref s.heap.objs.size) { s with heap := h' }) :
    wpAny (model prog w) A (call (.type "list") [.ref z]) Q E s := by
  obtain ⟨o1, e1, _⟩ := id h1
  obtain ⟨o2, e2, _⟩ := id h2
  obtain ⟨o3, e3, _⟩ := id hl1
  obtain ⟨o4, e4, _⟩ := id hl2
  have c1 := Heap.lt_size hz
  have c2 := Heap.lt_size hTI
  have c3 := Heap.lt_size hTO
  have c4 := Heap.lt_size e1
  have c5 := Heap.lt_size e2
  have c6 := Heap.lt_size e3
  have c7 := Heap.lt_size e4
  refine call_listH (T := "zip") (zipWalkH (S := s.heap.objs.size) (A := A.in1.in1) (xs := xs) (ys := ys) D hh c1 c2 c3 c4 c5 c6 c7) ?_ hn ?_ ?_ ?_ (by decide) (by decide) ?_ c1 ?_ hQ
  · simp only [List.mem_cons, List.not_mem_nil, or_false, not_or]
    exact ⟨Nat.ne_of_gt c1, Nat.ne_of_gt c3, Nat.ne_of_gt c4, Nat.ne_of_gt c5⟩
  · rintro h ⟨hz, _⟩
    rcases hz with ⟨_, hz, _⟩ | ⟨T, fl, oT, hz, _⟩
    · exact ⟨_, hz, rfl⟩
    · exact ⟨_, hz, rfl⟩
  · rw [typeLookup_type, builtinLookup_eq_fast]; kernel_rfl
  · rw [typeLookup_type, builtinLookup_eq_fast]; kernel_rfl
  · rintro s1 Q1 E1 ⟨hz, _⟩ q
    rcases hz with ⟨_, hz, _⟩ | ⟨T, fl, oT, hz, _⟩
    · exact wpAny_pyIter_zip hz q
    · exact iter_z2 hz q
  · have up : ∀ c o, s.heap.get? c = some o → (s.heap.push { cls := .type "list", data := .seq #[] }).get? c = some o := fun c o e => Heap.get?_push_of_some _ e
    exact ⟨.inl ⟨rfl, up _ _ hz, a, b, up _ _ hTO⟩, up _ _ hTI, h1.at fun o e => up _ _ e, h2.at fun o e => up _ _ e, isList_at hl1 fun o e => up _ _ e, isList_at hl2 fun o e => up _ _ e, Heap.size_push ..⟩
end
end DL

namespace DL
open PySem L2
section
variable {P : Program} {w : World} {fs ex : List Addr} {H Hc : Hp} {h h' : Heap} {a : Addr} {o : HO}
theorem un_grow (u : Un fs ex H Hc h h') (hp : h.get? a = none) (hn : Hc a = none) : Un fs ex H (upd Hc a o) h h' where
  keep := u.keep
  slot := u.slot
  free := fun b ob q n hx => by
    rw [upd_ne (fun z => by rw [z, hp] at q; cases q)]
    exact u.free b ob q n hx
  there := u.there
  tups := fun b xs q => by
    have q2 := u.tups b xs q
    rw [upd_ne (ne_of_none q2 hn)]
    exact q2
  frzs := fun b ob y q => by
    have q2 := u.frzs b ob y q
    rw [upd_ne (ne_of_none q2 hn)]
    exact q2
  tbls := fun b ps q => by
    obtain ⟨more, q2⟩ := u.tbls b ps q
    exact ⟨more, by rw [upd_ne (ne_of_none q2 hn)]; exact q2⟩
theorem hok_grow (x : HOk P w Hc h') (hn : Hc a = none) (new : ObjOk P w (upd Hc a o) h' a o) : HOk P w (upd Hc a o) h' := fun b u e => by
  by_cases hb : b = a
  · subst hb
    rw [upd_same] at e
    cases e
    exact new
  · rw [upd_ne hb] at e
    exact (x b u e).stay (fun c v _ q => q) (fun c q => by rw [upd_ne (ne_of_none q hn)]; exact q) fun c xs q => by rw [upd_ne (ne_of_none q hn)]; exact q
theorem adopt_tups : ∀ (ps : List (Addr × V × V)) (Hc : Hp), Un fs ex H Hc h h' → HOk P w Hc h' → (∀ p ∈ ps, h.get? p.1 = none ∧ Hc p.1 = none ∧ ∃ u v, IsPair h' p.1 u v ∧ RelV p.2.1 u ∧ RelV p.2.2 v) → (ps.map (·.1)).Nodup →
    ∃ H', Un fs ex H H' h h' ∧ HOk P w H' h' ∧ (∀ b o, Hc b = some o → H' b = some o) ∧ (∀ p ∈ ps, H' p.1 = some (.tup [p.2.1, p.2.2])) ∧ ∀ b, b ∉ ps.map (·.1) → H' b = Hc b
  | [], Hc, u, x, _, _ => ⟨Hc, u, x, fun _ _ e => e, fun p hp => absurd hp List.not_mem_nil, fun _ _ => rfl⟩
  | p :: ps, Hc, u, x, hp, nd => by
    obtain ⟨T, a, b⟩ := p
    obtain ⟨h1, h2, ua, ub, ht, ra, rb⟩ := hp _ (.head _)
    have nd' := List.nodup_cons.mp nd
    have new : ObjOk P w (upd Hc T (.tup [a, b])) h' T (.tup [a, b]) := ⟨by show 2 ≤ sizeLine; decide, [ua, ub], .cons ra (.cons rb .nil), ⟨_, ht, rfl, _, rfl⟩⟩
    obtain ⟨H', u', x', k1, k2, k3⟩ := adopt_tups ps _ (un_grow (o := .tup [a, b]) u h1 h2) (hok_grow x h2 new) (fun q hq => by
      obtain ⟨g1, g2, g3⟩ := hp q (.tail _ hq)
      refine ⟨g1, ?_, g3⟩
      rw [upd_ne fun z => nd'.1 (by show T ∈ _; rw [← show q.1 = T from z]; exact List.mem_map_of_mem (f := fun x : Addr × V × V => x.1) hq)]
      exact g2) nd'.2
    refine ⟨H', u', x', fun c o e => k1 c o (by rw [upd_ne (ne_of_none e h2)]; exact e), fun q hq => ?_, fun c hc => ?_⟩
    · rcases List.mem_cons.mp hq with rfl | hq
      · exact k1 _ _ upd_same
      · exact k2 q hq
    · rw [k3 c fun z => hc (List.mem_cons_of_mem _ z), upd_ne fun z => hc (by rw [z]; exact List.mem_cons_self)]
theorem vals_refs : ∀ (us : List Value), (∀ u ∈ us, ∃ T, u = .ref T) → ∃ ws : List V, Vals ws us ∧ ∀ (i : Nat) T, us[i]? = some (.ref T) → ws[i]? = some (.ref T)
  | [], _ => ⟨[], .nil, fun i T e => by simp at e⟩
  | u :: us, h => by
    obtain ⟨T, rfl⟩ := h _ (.head _)
    obtain ⟨ws, r, q⟩ := vals_refs us fun u hu => h u (.tail _ hu)
    refine ⟨.ref T :: ws, .cons rfl r, fun i S e => ?_⟩
    cases i with
    | zero =>
      cases e
      rfl
    | succ i => exact q i S e
end
section
open PyProof.Rows
variable {X : Cx} {W : WX} {ec : EC} {e1 e2 : Expr} {p p2 pos pos2 : Pos} {ta : TA}
def ZipV (H1 H3 : Hp) (xs ys ws : List V) : Prop := (∀ b o, H1 b = some o → H3 b = some o) ∧ ws.length = min xs.length ys.length ∧ ∀ (i : Nat) x y, xs[i]? = some x → ys[i]? = some y → ∃ T, ws[i]? = some (.ref T) ∧ H3 T = some (.tup [x, y])
def tLzip (ta : TA) : TE := fun σ H Q => ta σ H fun vs H1 => ∃ a b xs ys, vs = [.ref a, .ref b] ∧ H1 a = some (.lst xs) ∧ H1 b = some (.lst ys) ∧ ∀ l H3 ws, ZipV H1 H3 xs ys ws → H3 l = none → Q (.ref l) (upd H3 l (.lst ws))
theorem pe_lzip (hc : X.calm = true) (hg : Gl X "list") (hm : X.mg "list" = none) (hg2 : Gl X "zip") (hm2 : X.mg "zip" = none) (ha : PA X [e1, e2] ta)
    (hs : starEach [e1, e2] X.env = (false, eval e1 X.env) :: starEach [e2] X.env := by rfl) (hpl : (backTo pos2 (starEach [e2] X.env)).any (·.1) = false := by rfl)
    (hs2 : starEach [.Call (.Name "zip" p2) [e1, e2] [] pos2] X.env = (false, eval (.Call (.Name "zip" p2) [e1, e2] [] pos2) X.env) :: starEach [] X.env := by rfl) :
    PE X (.Call (.Name "list" p) [.Call (.Name "zip" p2) [e1, e2] [] pos2] [] pos) (tLzip ta) := by
  refine ⟨fun pins s σ H Q I h => ?_⟩
  refine Call_ (ld_blt I hg hm PyProof.Rows.boot_list (PyProof.Rows.callWith_type1 (args_cons (Call_ (ld_blt I hg2 hm2 PyProof.Rows.boot_zip (PyProof.Rows.callWith_type1 (thn (ha.run pos2 pins s σ H _ I h) fun us s1 ⟨vs, H1, I1, r1, q1⟩ => ?_) hs hpl))) hs2) hs2 rfl))
  obtain ⟨a, b, xs, ys, rfl, ha, hb, q⟩ := q1
  obtain ⟨u1, u2, rfl, r1, r2⟩ := vals2 r1
  cases (show u1 = Value.ref a from r1)
  cases (show u2 = Value.ref b from r2)
  obtain ⟨its, rv, p1, z1⟩ := I1.list (.inl (.inl ha))
  obtain ⟨its2, rv2, p2', z2⟩ := I1.list (.inl (.inl hb))
  refine call_zip_2 p1.isList p2'.isList fun h1 hz hTI hTO i1 i2 hsz hk => args_nil ?_
  have la : a < s1.heap.objs.size := p1.lt
  have lb : b < s1.heap.objs.size := p2'.lt
  have D := PySem.W.ktu_apart s1.heap.objs.size a b la lb
  refine call_list_zip (s := { s1 with heap := h1 }) D (I1.ok.hd hc) ?_ hz hTI hTO i1 i2 (isList_at p1.isList fun o e => hk _ _ e) (isList_at p2'.isList fun o e => hk _ _ e) fun h2 acc c hk2 hS hl hacc => ?_
  · rw [List.size_toArray, ← rv.length]
    exact Nat.le_trans (Nat.min_le_left _ _) z1
  have hl' : acc.size = min xs.length ys.length := by rw [hl, List.size_toArray, List.size_toArray, ← rv.length, ← rv2.length]
  have hsz' : h1.objs.size = s1.heap.objs.size + 5 := hsz
  have kk : ∀ b o, s1.heap.get? b = some o → h2.get? b = some o := fun b o e => hk2 b o (by
    have := Heap.lt_size e
    simp only [List.mem_cons, List.not_mem_nil, or_false, not_or]
    exact ⟨Nat.ne_of_lt (Nat.lt_of_lt_of_le this (Nat.le_add_right _ _)), Nat.ne_of_lt (Nat.lt_of_lt_of_le this (Nat.le_add_right _ _)), Nat.ne_of_lt this, Nat.ne_of_lt (Nat.lt_of_lt_of_le this (Nat.le_add_right _ _))⟩) (hk b o e)
  let S := h1.objs.size
  have new : ∀ c, s1.heap.objs.size ≤ c → s1.heap.get? c = none ∧ H1 c = none := fun c hc => ⟨by
    cases z : s1.heap.get? c with
    | none => rfl
    | some o => exact absurd (Heap.lt_size z) (Nat.not_lt.mpr hc), I1.hok.fresh hc⟩
  obtain ⟨ws, rw', hws⟩ := vals_refs acc.toList fun u hu => by
    obtain ⟨i, hi⟩ := List.mem_iff_getElem?.mp hu
    rw [Array.getElem?_toList] at hi
    exact ⟨_, (hacc i u hi).1⟩
  let ps : List (Addr × V × V) := ((List.range (min xs.length ys.length)).map fun i => (S + 1 + i, xs.getD i .non, ys.getD i .non))
  obtain ⟨H3, u3, x3, k1, k2, k3⟩ := adopt_tups ps H1 (Un.kept kk) (I1.hok.kept kk) (fun p hp => by
    obtain ⟨i, hi, rfl⟩ := List.mem_map.mp hp
    have hi : i < min xs.length ys.length := List.mem_range.mp hi
    have hix : i < xs.length := Nat.lt_of_lt_of_le hi (Nat.min_le_left _ _)
    have hiy : i < ys.length := Nat.lt_of_lt_of_le hi (Nat.min_le_right _ _)
    have hia : i < acc.size := by rw [hl']; exact hi
    obtain ⟨n1, n2⟩ := new (S + 1 + i) (by show _ ≤ h1.objs.size + 1 + i; omega)
    refine ⟨n1, n2, ?_⟩
    obtain ⟨v, hv⟩ : ∃ v, acc[i]? = some v := ⟨_, Array.getElem?_eq_getElem hia⟩
    obtain ⟨_, u, u', hu, hu', ht⟩ := hacc i v hv
    have hx : xs[i]? = some (xs.getD i .non) := by rw [List.getD_eq_getElem?_getD, List.getElem?_eq_getElem hix]; rfl
    have hy : ys[i]? = some (ys.getD i .non) := by rw [List.getD_eq_getElem?_getD, List.getElem?_eq_getElem hiy]; rfl
    obtain ⟨w1, g1, g2⟩ := rv.get hx
    obtain ⟨w2, g3, g4⟩ := rv2.get hy
    have e1 : w1 = u := by
      have hu : its.toArray[i]? = some u := hu
      rw [List.getElem?_toArray, g1] at hu
      exact Option.some.inj hu
    have e2 : w2 = u' := by
      have hu' : its2.toArray[i]? = some u' := hu'
      rw [List.getElem?_toArray, g3] at hu'
      exact Option.some.inj hu'
    subst e1 e2
    exact ⟨_, _, ht, g2, g4⟩) (by
    show (((List.range (min xs.length ys.length)).map fun i => (S + 1 + i, xs.getD i .non, ys.getD i .non)).map (·.1)).Nodup
    rw [List.map_map]
    refine List.pairwise_map.mpr ((List.nodup_range).imp fun {i j} ne e => ne ?_)
    have e : S + 1 + i = S + 1 + j := e
    omega)
  have hSn : H3 S = none := by
    rw [k3 S fun z => ?_]
    · exact (new S (by show _ ≤ h1.objs.size; omega)).2
    · obtain ⟨p, hp, e⟩ := List.mem_map.mp z
      obtain ⟨i, _, rfl⟩ := List.mem_map.mp hp
      have e : S + 1 + i = S := e
      omega
  have hok : ObjOk X.prog X.w (upd H3 S (.lst ws)) h2 S (.lst ws) := by
    refine ⟨?_, acc.toList, c, rw', ?_⟩
    · rw [rw'.length, Array.length_toList, hl']
      exact Nat.le_trans (Nat.min_le_left _ _) z1
    · rw [Array.toArray_toList]
      exact hS
  have I4 : Inv X pins σ (upd H3 S (.lst ws)) { s1 with heap := h2 } := I1.un (t' := s1.toks) (un_grow u3 (new S (by show _ ≤ h1.objs.size; omega)).1 hSn) (hok_grow x3 hSn hok)
  refine ⟨.ref S, upd H3 S (.lst ws), I4, rfl, q S H3 ws ⟨k1, by rw [rw'.length, Array.length_toList, hl'], fun i x y hx hy => ?_⟩ hSn⟩
  have hi : i < min xs.length ys.length := by
    have := (List.getElem?_eq_some_iff.mp hx).1
    have := (List.getElem?_eq_some_iff.mp hy).1
    omega
  refine ⟨S + 1 + i, hws i _ ?_, ?_⟩
  · rw [Array.getElem?_toList]
    obtain ⟨v, hv⟩ : ∃ v, acc[i]? = some v := ⟨_, Array.getElem?_eq_getElem (show i < acc.size by rw [hl']; exact hi)⟩
    rw [hv, (hacc i v hv).1]
  · have := k2 (S + 1 + i, xs.getD i .non, ys.getD i .non) (List.mem_map.mpr ⟨i, List.mem_range.mpr hi, rfl⟩)
    rw [show xs.getD i .non = x by rw [List.getD_eq_getElem?_getD, hx]; rfl, show ys.getD i .non = y by rw [List.getD_eq_getElem?_getD, hy]; rfl] at this
    exact this
end
end DL

namespace DL
open PySem L2
def gZip (ds es : List D) : List D := List.zipWith (fun a b => D.tup [a, b]) ds es
def zipD : List D → Option (List D)
  | [.lst ds, .lst es] => if noLs ds = true ∧ noLs es = true then some (gZip ds es) else none
  | _ => none
def fLzip (A : Fm → Out (List RV)) : Fm → Out RV := fun ρ => (A ρ).bind fun rs ρ => match gets ρ rs with
  | some ds => match zipD ds with
    | some zs => .ok (.fr zs) ρ
    | none => .bad
  | none => .bad
theorem zipD_inv {ds zs : List D} (h : zipD ds = some zs) : ∃ as bs, ds = [.lst as, .lst bs] ∧ noLs as = true ∧ noLs bs = true ∧ zs = gZip as bs := by
  unfold zipD at h
  split at h
  · rename_i as bs
    split at h
    · rename_i hn
      cases h
      exact ⟨as, bs, rfl, hn.1, hn.2, rfl⟩
    · cases h
  · cases h
theorem rpl_pt {K : PySem.W.Frag} {mg : Str → Option Value} {H : Hp} {av : Addr → Prop} : ∀ (ds : List D) (vs : List V), vs.length = ds.length → (∀ (j : Nat) d v, ds[j]? = some d → vs[j]? = some v → Rp K mg H av d v) → RpL K mg H av ds vs
  | [], vs, hl, _ => List.eq_nil_of_length_eq_zero hl
  | d :: ds, [], hl, _ => by cases hl
  | d :: ds, v :: vs, hl, h => ⟨v, vs, rfl, h 0 d v rfl rfl, rpl_pt ds vs (Nat.succ.inj hl) fun j d v a b => h (j + 1) d v a b⟩
theorem noLs_get : ∀ {ds : List D} {j : Nat} {d : D}, noLs ds = true → ds[j]? = some d → noL d = true
  | d :: ds, 0, e, h, q => by
    cases q
    have h : (noL d && noLs ds) = true := h
    rw [Bool.and_eq_true] at h
    exact h.1
  | d :: ds, j + 1, e, h, q => by
    have h : (noL d && noLs ds) = true := h
    rw [Bool.and_eq_true] at h
    exact noLs_get h.2 q
theorem rp_ext {K : PySem.W.Frag} {mg : Str → Option Value} {H H' : Hp} {av : Addr → Prop} {d : D} {v : V} (e : ∀ b o, H b = some o → H' b = some o) (r : Rp K mg H av d v) : Rp K mg H' av d v := by
  obtain ⟨v', r', hv, h1, _⟩ := RpL.ext (P := fun _ => False) (fun b o q => .inr (e b o q)) (fun _ z => z.elim) [d] [v] ⟨v, [], rfl, r, rfl⟩
  cases hv
  exact h1
section
variable {X : Cx} {W : WX} {ec : EC} {e1 e2 : Expr} {p p2 pos pos2 : Pos} {A : Fm → Out (List RV)}
theorem de_lzip (ha : DA X W ec [e1, e2] A) (hm : X.mg "list" = none) (hm2 : X.mg "zip" = none) (hc : X.calm = true := by rfl) (hg : Gl X "list" := by rfl) (hg2 : Gl X "zip" := by rfl)
    (hs : starEach [e1, e2] X.env = (false, eval e1 X.env) :: starEach [e2] X.env := by rfl) (hpl : (backTo pos2 (starEach [e2] X.env)).any (·.1) = false := by rfl)
    (hs2 : starEach [.Call (.Name "zip" p2) [e1, e2] [] pos2] X.env = (false, eval (.Call (.Name "zip" p2) [e1, e2] [] pos2) X.env) :: starEach [] X.env := by rfl) :
    DE X W ec (.Call (.Name "list" p) [.Call (.Name "zip" p2) [e1, e2] [] pos2] [] pos) (fLzip A) :=
  (pe_lzip hc hg hm hg2 hm2 ha hs hpl hs2).imp fun σ H Q ⟨C, ρ, tm, h, q⟩ => by
  refine tDA_step (ts := []) h Kin.refl q fun rs ρ1 vs H1 hl h1 k1 p1 => ?_
  cases q1 : gets ρ1 rs with
  | none => rw [q1] at p1; exact p1.elim
  | some ds =>
    rw [q1] at p1
    dsimp only at p1
    cases q2 : zipD ds with
    | none => rw [q2] at p1; exact p1.elim
    | some zs =>
      rw [q2] at p1
      obtain ⟨as, bs, rfl, n1, n2, rfl⟩ := zipD_inv q2
      obtain ⟨v, u, rfl, g1, g2⟩ := rp2 (h1.gets hl q1)
      obtain ⟨a, xs, rfl, _, ha, ra⟩ := g1
      obtain ⟨b, ys, rfl, _, hb, rb⟩ := g2
      refine ⟨a, b, xs, ys, rfl, ha, hb, fun l H3 ws hz hln => ?_⟩
      obtain ⟨k3, hlen, hpt⟩ := hz
      have g3 : Hold X.K X.mg ec H3 C ρ1 σ tm := h1.unstk.grow fun b o q => .inr (k3 b o q)
      refine p1 _ _ (g3.push_fr hln (rpl_pt _ _ ?_ fun j d v hd hv => ?_)) k1
      · rw [hlen]
        show _ = (List.zipWith _ as bs).length
        rw [List.length_zipWith, ra.len, rb.len]
      · have hd : (List.zipWith (fun a b => D.tup [a, b]) as bs)[j]? = some d := hd
        rw [List.getElem?_zipWith] at hd
        cases q3 : as[j]? with
        | none => rw [q3] at hd; cases hd
        | some x =>
          cases q4 : bs[j]? with
          | none => rw [q3, q4] at hd; cases hd
          | some y =>
            rw [q3, q4] at hd
            cases hd
            obtain ⟨x', hx, rx⟩ := RpL.get ra q3
            obtain ⟨y', hy, ry⟩ := RpL.get rb q4
            obtain ⟨T, hT, hTt⟩ := hpt j x' y' hx hy
            rw [hT] at hv
            cases hv
            exact ⟨T, [x', y'], rfl, .inl (.inl hTt), ⟨x', [y'], rfl, Rp.noL _ _ (noLs_get n1 q3) (rp_ext k3 rx), ⟨y', [], rfl, Rp.noL _ _ (noLs_get n2 q4) (rp_ext k3 ry), rfl⟩⟩⟩
end
end DL

namespace DL
section
open PySem PySem.W PySem.Calls PyProof.Rows PyProof.V PySem.Spec
/-! ### list(reversed(x)), x a list -/
variable {prog : Program} {w : World} {A : Around} {E : Value → Shared → Prop} {R : Result → Shared → Prop} {s : Shared} {it l : Addr} {items : Array Value}
theorem ext_rev {S : Addr} {c₀ : Nat} {res : Value} (hh : A.handled = none) (hit : s.heap.IsRevIter it l ((items.size : Int) - 1)) (hl : s.heap.IsList l items) (hne : l ≠ it) (hn : items.size ≤ sizeLine) (hSi : S ≠ it) (hSl : S ≠ l)
    (hS : s.heap.get? S = some { cls := .type "list", data := .seq #[] c₀ })
    (hR : ∀ s' acc' c', Moved (S :: [it]) (fun a b => b = a) s s' → s'.heap.get? S = some { cls := .type "list", dict := none, data := .seq acc' c', slots := #[] } → ItemsOf (fun i v => items[items.size - 1 - i]? = some v) acc' items.size → R (.ok (.ret res)) s') :
    wpAny (model prog w) A.in1 (Builtin.List.listExtendWith (.ref S) (.ref it) res)
      (fun fin s' => match fin with | .done f => R (.ok f) s' | .again c' => c'.quiet = true ∧ codeAny (model prog w) A c' R s') (fun e s' => R (.error e) s') s := by
  have W := (Walks.listRev (prog := prog) (w := w) (A := A.in1) hh it l hne items).toS
  have hSf : S ∉ [it, l] := by simp only [List.mem_cons, List.not_mem_nil, or_false, not_or]; exact ⟨hSi, hSl⟩
  have hT : s.TypeIs (.ref it) "list_reverseiterator" := Heap.IsRevIter.typeIs hit
  have h1 : Builtin.List.listSameRef (.ref S) (.ref it) = false := by simp [Builtin.List.listSameRef, hSi]
  unfold Builtin.List.listExtendWith
  refine wpAny_bind (wpAny_typeOf hT ?_)
  rw [if_neg (by rw [h1]; decide)]
  refine wpAny_bind (wpAny_pyIter_revIter hit ?_)
  refine wpAny_bind (wpAny_holding ?_)
  unfold Builtin.List.listLengthHint
  refine wpAny_bind (wpAny_specialOf hT RT.nolen_lri ?_)
  show wpAny _ A.in1 (specialOf (Value.ref it) (Str.ofString "__length_hint__") >>= _) _ _ _
  refine wpAny_bind (wpAny_specialOf hT RT.hint_lri ?_)
  generalize hid : ("list_reverseiterator.__length_hint__" : String) = id0
  wp_delta
  rw [show splitId id0 = some ("list_reverseiterator", "__length_hint__") from by subst hid; decide +kernel]
  subst hid
  refine wpAny_bind (wpAny_isInstance (b := true) hT (by rw [isSubtype_type]; kernel_rfl) ?_)
  refine wpAny_pure ?_
  rw [if_neg (by decide)]
  have e0 : ((items.size : Nat) : Int) - 1 - ((0 : Nat) : Int) = (items.size : Int) - 1 := by omega
  exact wpAny_pure ⟨plainId_quiet F.plain_extend_loop _, codeAny_extend_loopS W hn _ hSf _ items.size 0 _ _ _ rfl (Nat.zero_le _) ⟨Nat.zero_le _, by rw [e0]; exact hit, hl⟩ hS (ItemsOf.nil _) fun s' acc' c' hm hS' hacc => hR s' acc' c' hm hS' hacc⟩
theorem call_list_rev {Q : Value → Shared → Prop} (hh : A.handled = none) (hit : s.heap.IsRevIter it l ((items.size : Int) - 1)) (hl : s.heap.IsList l items) (hne : l ≠ it) (hn : items.size ≤ sizeLine)
    (hQ : ∀ (h' : Heap) (tk : Nat) (acc : Array Value) (c : Nat), (∀ b o, b ≠ it → s.heap.get? b = some o → h'.get? b = some o) → h'.get? s.heap.objs.size = some { cls := .type "list", dict := none, data := .seq acc c, slots := #[] } → ItemsOf (fun i v => items[items.size - 1 - i]? = some v) acc items.size →
      Q (.ref s.heap.objs.size) { s with heap := h', toks := tk }) :
    wpAny (model prog w) A (call (.type "list") [.ref it]) Q E s := by
  obtain ⟨oi, hoi, _⟩ := id hit
  obtain ⟨ol, hol, _⟩ := id hl
  have hSi : s.heap.objs.size ≠ it := Nat.ne_of_gt (Heap.lt_size hoi)
  have hSl : s.heap.objs.size ≠ l := Nat.ne_of_gt (Heap.lt_size hol)
  refine callType_codes (Q₁ := fun obj s₁ => obj = .ref s.heap.objs.size ∧ s₁ = { s with heap := s.heap.push { cls := .type "list", data := .seq #[] } }) F.called_list (F.typeCall_list_1 _) F.entry_list_init
    (code_list_new _ ⟨rfl, rfl⟩) fun obj s₁ h₁ => ?_
  obtain ⟨rfl, rfl⟩ := h₁
  have hS : (s.heap.push { cls := .type "list", data := .seq #[] }).get? s.heap.objs.size = some { cls := .type "list", data := .seq #[] } := Heap.get?_push_size _ rfl
  refine ⟨⟨_, hS, rfl⟩, F.args_list_init_2 _ _, ?_⟩
  show wpAny _ A.in1.in1 (do let old ← Builtin.List.listItems (.ref s.heap.objs.size); Builtin.List.listUpdate (.ref s.heap.objs.size) (fun _ => #[]); letGo old.toList.reverse; Builtin.List.listExtendWith (.ref s.heap.objs.size) (.ref it) .none) _ _ { s with heap := s.heap.push { cls := .type "list", data := .seq #[] } }
  refine wpAny_bind ?_
  unfold Builtin.List.listItems
  refine wpAny_bind (wpAny_seqItems hS rfl (wpAny_pure ?_))
  show wpAny _ A.in1.in1 (updateSeq s.heap.objs.size (fun _ => #[]) >>= fun _ => letGo (#[] : Array Value).toList.reverse >>= fun _ => Builtin.List.listExtendWith (.ref s.heap.objs.size) (.ref it) .none) _ _ _
  refine wpAny_bind (wpAny_updateSeq hS rfl ?_)
  have hS₂ := Heap.get?_update_self (Obj.mapSeq (fun _ => (#[] : Array Value))) hS rfl
  have oth : ∀ b o, b ≠ s.heap.objs.size → (s.heap.push { cls := .type "list", data := .seq #[] }).get? b = some o → ((s.heap.push { cls := .type "list", data := .seq #[] }).update s.heap.objs.size (Obj.mapSeq (fun _ => (#[] : Array Value)))).get? b = some o :=
    fun b o hb e => (Heap.get?_update_other _ _ (Ne.symm hb)).trans e
  have up : ∀ b o, b ≠ s.heap.objs.size → s.heap.get? b = some o → ((s.heap.push { cls := .type "list", data := .seq #[] }).update s.heap.objs.size (Obj.mapSeq (fun _ => (#[] : Array Value)))).get? b = some o := fun b o hb e => oth b o hb (Heap.get?_push_of_some _ e)
  refine wpAny_bind (wpAny_letGo ?_)
  refine ext_rev (A := A.in1) hh (hit.at fun o e => up _ _ hSi.symm e) (isList_at hl fun o e => up _ _ hSl.symm e) hne hn hSi hSl hS₂ fun s' acc' c' hm hS' hacc => ?_
  refine ⟨rfl, ?_⟩
  rw [Moved.eq_with hm]
  refine hQ s'.heap s'.toks acc' c' (fun b o hb e => ?_) hS' hacc
  have hbS : b ≠ s.heap.objs.size := Nat.ne_of_lt (Heap.lt_size e)
  exact hm.heap b o (fun z => by
    rcases List.mem_cons.mp z with z | z
    · exact hbS z
    · exact hb (List.mem_singleton.mp z)) (up b o hbS e)
end
end DL
namespace DL
open PySem L2
section
open PyProof.Rows
variable {X : Cx} {W : WX} {ec : EC} {e : Expr} {p p2 pos pos2 : Pos} {te : TE} {F : Fm → Out RV}
def rRevL : List V → Hp → VK → Prop := fun vs H Q => ∃ (a : Addr) (xs : List V), vs = [.ref a] ∧ H a = some (.lst xs) ∧ ∀ q, H q = none → Q (.ref q) (upd H q (.lst xs.reverse))
theorem pe_lstRev (hc : X.calm = true) (hg : Gl X "list") (hm : X.mg "list" = none) (hg2 : Gl X "reversed") (hm2 : X.mg "reversed" = none) {ta : TA} (ha : PA X [e] ta)
    (hs : starEach [e] X.env = (false, eval e X.env) :: starEach [] X.env := by rfl) (hpl : (backTo pos2 (starEach [] X.env)).any (·.1) = false := by rfl)
    (hs2 : starEach [.Call (.Name "reversed" p2) [e] [] pos2] X.env = (false, eval (.Call (.Name "reversed" p2) [e] [] pos2) X.env) :: starEach [] X.env := by rfl) :
    PE X (.Call (.Name "list" p) [.Call (.Name "reversed" p2) [e] [] pos2] [] pos) (tCB rRevL ta) := by
  refine ⟨fun pins s σ H Q I h => ?_⟩
  refine Call_ (ld_blt I hg hm boot_list (PyProof.Rows.callWith_type1 (args_cons (Call_ (ld_blt I hg2 hm2 PyProof.Rows.boot_reversed (PyProof.Rows.callWith_type1 (thn (ha.run pos2 pins s σ H _ I h) fun us s1 ⟨vs, H1, I1, r1, q1⟩ => ?_) hs hpl))) hs2) hs2 rfl))
  obtain ⟨a, xs, rfl, hq, q⟩ := q1
  obtain ⟨u, rfl, ru⟩ := vals1 r1
  cases (show u = Value.ref a from ru)
  obtain ⟨its, rv, p', hz⟩ := I1.list (.inl (.inl hq))
  refine call_reversed_list p'.isList (args_nil ?_)
  have k0 : ∀ b o, s1.heap.get? b = some o → (s1.heap.push (revObj a ((its.toArray.size : Int) - 1))).get? b = some o := fun b o e => Heap.get?_push_of_some _ e
  have I2 : Inv X pins σ H1 { s1 with heap := s1.heap.push (revObj a ((its.toArray.size : Int) - 1)) } := I1.kept (t' := s1.toks) k0
  have hl := p'.isList
  obtain ⟨ol, hol, _⟩ := id hl
  have hne : a ≠ s1.heap.objs.size := Nat.ne_of_lt (Heap.lt_size hol)
  have hn : its.toArray.size ≤ sizeLine := by rw [List.size_toArray, ← rv.length]; exact hz
  refine call_list_rev (s := { s1 with heap := s1.heap.push (revObj a ((its.toArray.size : Int) - 1)) }) (I1.ok.hd hc) ⟨_, Heap.get?_push_size _ rfl, rfl, rfl⟩ (hl.push _) hne hn fun h' tk acc c hk hS hi => ?_
  have hsz : (s1.heap.push (revObj a ((its.toArray.size : Int) - 1))).objs.size = s1.heap.objs.size + 1 := Heap.size_push ..
  have kk : ∀ b o, s1.heap.get? b = some o → h'.get? b = some o := fun b o e => hk b o (Nat.ne_of_lt (Heap.lt_size e)) (k0 b o e)
  have hle : s1.heap.objs.size ≤ (s1.heap.push (revObj a ((its.toArray.size : Int) - 1))).objs.size := by rw [hsz]; exact Nat.le_succ _
  have I3 : Inv X pins σ (upd H1 (s1.heap.push (revObj a ((its.toArray.size : Int) - 1))).objs.size (.lst xs.reverse)) { s1 with heap := h', toks := tk } :=
    I1.laid (t' := tk) kk hle ⟨by rw [List.length_reverse]; exact hz, acc.toList, c, RT.vals_rev rv hi, by rw [Array.toArray_toList]; exact hS⟩
  exact ⟨.ref _, _, I3, rfl, q _ (I1.hok.fresh hle)⟩
def gRevL : D → Option (List D)
  | .lst ds => some ds.reverse
  | _ => none
theorem rpl_rev2 {K : PySem.W.Frag} {mg : Str → Option Value} {H : Hp} {av : Addr → Prop} {ds : List D} {vs : List V} (r : RpL K mg H av ds vs) : RpL K mg H av ds.reverse vs.reverse := by
  refine rpl_pt _ _ (by rw [List.length_reverse, List.length_reverse, r.len]) fun j d v hd hv => ?_
  have hl := r.len
  have hj : j < ds.length := by
    have := (List.getElem?_eq_some_iff.mp hd).1
    rwa [List.length_reverse] at this
  rw [List.getElem?_reverse hj] at hd
  rw [List.getElem?_reverse (by omega)] at hv
  obtain ⟨v', h1, h2⟩ := RpL.get r hd
  rw [show vs.length - 1 - j = ds.length - 1 - j by omega, h1] at hv
  cases hv
  exact h2
theorem de_lrev (ha : DE X W ec e F) (hm : X.mg "list" = none) (hm2 : X.mg "reversed" = none) (hc : X.calm = true := by rfl) (hg : Gl X "list" := by rfl) (hg2 : Gl X "reversed" := by rfl)
    (hs : starEach [e] X.env = (false, eval e X.env) :: starEach [] X.env := by rfl) (hpl : (backTo pos2 (starEach [] X.env)).any (·.1) = false := by rfl)
    (hs2 : starEach [.Call (.Name "reversed" p2) [e] [] pos2] X.env = (false, eval (.Call (.Name "reversed" p2) [e] [] pos2) X.env) :: starEach [] X.env := by rfl) :
    DE X W ec (.Call (.Name "list" p) [.Call (.Name "reversed" p2) [e] [] pos2] [] pos) (fCS gRevL F) :=
  (pe_lstRev hc hg hm hg2 hm2 (da_cons ha da_nil hs) hs hpl hs2).imp fun σ H Q h => tCS_of (fun d ds zs a vs av H Q hq r e k => by
    rcases hq with ⟨rfl, hq⟩ | ⟨rfl, _⟩
    · cases e
      exact ⟨a, vs, rfl, hq, fun q hn => k q _ hn (rpl_rev2 r)⟩
    · cases e) h
end
end DL

namespace DL
open PySem L2
def vD (i : Nat) (s : Option Sl) (ρ : Fm) : Out RV := match s with
  | some (.dt d) => .ok (.dt d) ρ
  | some (.ow _ _) => .ok (.vw i) ρ
  | _ => .bad
def fcD (f : List D → FO) (is : List Nat) (dds : List D) (o : Option (List D)) : FO := match o with
  | some ds => f (pickL is (ds ++ dds))
  | none => .bad
def ciZ (j : Nat) (f : List D → FO) (is : List Nat) (dds : List D) (rs : List RV) (ρ : Fm) (o : Option RV) : Out RV := match o with
  | some (.fr es) => dropS (callF (some j) (fun ds => f (pickL is (ds ++ dds))) [] (rs.set j (.vw ρ.length)) (ρ ++ [.ow 0 es]))
  | _ => callF (some j) (fun ds => f (pickL is (ds ++ dds))) [] rs ρ
def pk {α : Type} (o : Option α) (l : List α) : List α := match o with
  | some x => x :: l
  | none => l
theorem pickL_nil {α : Type} {xs : List α} : pickL [] xs = [] := rfl
theorem pickL_cons {α : Type} {xs : List α} {i : Nat} {is : List Nat} : pickL (i :: is) xs = pk xs[i]? (pickL is xs) := by
  unfold pickL
  rw [List.filterMap_cons]
  cases xs[i]? <;> rfl
theorem pk_some {α : Type} {x : α} {l : List α} : pk (some x) l = x :: l := rfl
theorem callF_w {ioi : Option Nat} {f : List D → FO} {is : List Nat} {dds : List D} {rs : List RV} {ρ : Fm} {Q : Out RV → Prop} : WP (callF ioi (fun ds => f (pickL is (ds ++ dds))) [] rs ρ) Q = WP (zI ((views ioi 0 rs).any fun i => ioSlot ioi rs == some i) .bad (fcD f is dds (argDs ρ ioi 0 rs))) (kC ioi rs ρ Q) := by
  show Q _ = Q (callZ ioi rs ρ _)
  congr 1
  unfold callF zI
  cases argDs ρ ioi 0 rs with
  | none => cases ((views ioi 0 rs).any fun i => ioSlot ioi rs == some i) <;> rfl
  | some ds =>
    simp only [List.append_nil]
    split
    · rfl
    · unfold fcD
      dsimp only
      cases f (pickL is (ds ++ dds)) <;> first | rfl | done
def cx (ioi : Option Nat) (f : List D → FO) (is : List Nat) (dds : List D) (rs : List RV) (ρ : Fm) : Out RV := callX ioi (fun ds => f (pickL is (ds ++ dds))) [] rs ρ
def putO (i : Nat) (s : Sl) (ρ : Fm) : Option Sl → Option Fm
  | some (.ow (_ + 1) _) => none
  | some (.ex _ _ _) => none
  | some (.nw _) => none
  | none => none
  | some _ => some (ρ.set i s)
def setW (i j : Nat) (ρ : Fm) : Option Sl → Option Fm
  | some (.ow 0 ds) => putO i (.dt (.lst ds)) (ρ.set j (.dt (.lst ds))) (ρ.set j (.dt (.lst ds)))[i]?
  | _ => none
def bagG : Option Sl → List D
  | some (.ow _ b) => b
  | _ => []
def setG (i : Nat) (b : List D) (ρ : Fm) : Option Sl → Fm
  | some (.ow k _) => ρ.set i (.ow k b)
  | _ => ρ
def consO (o : Option D) (l : Option (List D)) : Option (List D) := match o, l with
  | some d, some ds => some (d :: ds)
  | _, _ => none
def ioG : Option Sl → Option D
  | some (.ow k b) => if k ≤ 1 then some (.lst b) else none
  | _ => none
def ioA (ρ : Fm) : RV → Option D
  | .vw i => ioG ρ[i]?
  | _ => none
def updO (i : Nat) (g : List D → List D → Option (List D)) (args : List D) (ρ : Fm) : Option Sl → Option Fm
  | some (.ow k ds) => if k ≤ 1 then (g ds args).map fun es => ρ.set i (.ow k es) else none
  | _ => none
def mapF (i k : Nat) (ρ : Fm) : Option (List D) → Option Fm
  | some es => some (ρ.set i (.ow k es))
  | none => none
def setX (i : Nat) (n : Int) (d : D) (ρ : Fm) : Option Sl → Option Fm
  | some (.ow k ds) => if k ≤ 1 then (ixN ds.length n).map fun j => ρ.set i (.ow k (ds.set j d)) else none
  | _ => none
def updZ (j : Nat) (g : List D → List D → Option (List D)) (ρ : Fm) : Option (List D) → Option Fm
  | some args => updO j g args ρ ρ[j]?
  | none => none
def muE (g : List D → List D → Option (List D)) (A : Fm → Out (List RV)) (o : RV) (ρ : Fm) : Out RV := match o with
  | .vw j => (A ρ).bind fun rs ρ => zM (updZ j g ρ (toDs rs))
  | _ => .bad
def seqO (x : Option Fm) (ps : List PutF) (ds : List D) : Option Fm := match x with
  | some ρ => pAll ps ds ρ
  | none => none
def parO (x : Option Fm) (is : List Nat) (rs : List RV) : Option Fm := match x with
  | some ρ => setAll is rs ρ
  | none => none
section
variable {α β : Type} {F G J : Fm → Out RV} {A B : Fm → Out (List RV)} {S T : Fm → SO} {ρ : Fm} {Q : Out RV → Prop} {QS : SO → Prop}
theorem w_fCall' {ioi : Option Nat} {f : List D → FO} {is : List Nat} {dds : List D} : WP (fCall ioi f is dds A B ρ) Q = WP (A ρ) (kB (fun rs ρ => (B ρ).bind fun ss ρ => cx ioi f is dds (rs ++ ss) ρ) Q) := rfl
theorem w_fMU' {i : Nat} {g : List D → List D → Option (List D)} : WP (fMU i g A ρ) Q = WP (fV i ρ) (kB (muE g A) Q) := by
  rw [w_fMU]
  show Q _ = Q _
  congr 1
  congr 1
  funext o ρ
  cases o with
  | dt => rfl
  | fr => rfl
  | vw j =>
    show (A ρ).bind _ = (A ρ).bind _
    congr 1
    funext rs ρ
    cases toDs rs with
    | none => rfl
    | some args =>
      show zM (updS j (fun ds => g ds args) ρ) = zM (updO j g args ρ ρ[j]?)
      congr 1
theorem w_muE {j : Nat} {g : List D → List D → Option (List D)} : WP (muE g A (.vw j) ρ) Q = WP (A ρ) (kB (fun rs ρ => zM (updZ j g ρ (toDs rs))) Q) := rfl
theorem updZ_s {j : Nat} {g : List D → List D → Option (List D)} {args : List D} : updZ j g ρ (some args) = updO j g args ρ ρ[j]? := rfl
theorem updO_0 {i : Nat} {g : List D → List D → Option (List D)} {args ds : List D} : updO i g args ρ (some (.ow 0 ds)) = mapF i 0 ρ (g ds args) := by
  show (g ds args).map _ = _
  cases g ds args <;> rfl
theorem updO_1 {i : Nat} {g : List D → List D → Option (List D)} {args ds : List D} : updO i g args ρ (some (.ow 1 ds)) = mapF i 1 ρ (g ds args) := by
  show (g ds args).map _ = _
  cases g ds args <;> rfl
theorem mapF_s {i k : Nat} {es : List D} : mapF i k ρ (some es) = some (ρ.set i (.ow k es)) := rfl
theorem g_app {ds : List D} {d : D} (h : ds.length < 1000000) : gAppend ds [d] = some (ds ++ [d]) := if_pos h
theorem g_ins {ds : List D} {d : D} {i : Int} (h : ds.length < 1000000) (h0 : 0 ≤ i) (h1 : i < 1000000) : gInsert ds [.int i, d] = some (ds.take i.toNat ++ [d] ++ ds.drop i.toNat) := if_pos ⟨h, h0, h1⟩
theorem s_dt {i : Nat} {d : D} : setS i (.dt d) ρ = putO i (.dt d) ρ ρ[i]? := rfl
theorem s_fr {i : Nat} {ds : List D} : setS i (.fr ds) ρ = putO i (.ow 0 ds) ρ ρ[i]? := rfl
theorem s_vw {i j : Nat} : setS i (.vw j) ρ = setW i j ρ ρ[j]? := by
  unfold setS cool setW
  dsimp only
  cases ρ[j]? with
  | none => rfl
  | some s =>
    cases s with
    | ow k ds => cases k <;> rfl
    | _ => rfl
theorem sw_0 {i j : Nat} {ds : List D} : setW i j ρ (some (.ow 0 ds)) = putO i (.dt (.lst ds)) (ρ.set j (.dt (.lst ds))) (ρ.set j (.dt (.lst ds)))[i]? := rfl
theorem p_un {i : Nat} {s : Sl} : putO i s ρ (some .un) = some (ρ.set i s) := rfl
theorem p_dt {i : Nat} {s : Sl} {d : D} : putO i s ρ (some (.dt d)) = some (ρ.set i s) := rfl
theorem p_ow {i : Nat} {s : Sl} {d : List D} : putO i s ρ (some (.ow 0 d)) = some (ρ.set i s) := rfl
/-- a slot that may be stored -/
def Sf (s : Sl) : Prop := s = .un ∨ (∃ d, s = .dt d) ∨ ∃ ds, s = .ow 0 ds
theorem Sf.un : Sf .un := .inl rfl
theorem Sf.dt {d : D} : Sf (.dt d) := .inr (.inl ⟨d, rfl⟩)
theorem Sf.ow {d : List D} : Sf (.ow 0 d) := .inr (.inr ⟨d, rfl⟩)
theorem p_sf {i : Nat} {s x : Sl} (h : Sf x) : putO i s ρ (some x) = some (ρ.set i s) := by
  rcases h with rfl | ⟨_, rfl⟩ | ⟨_, rfl⟩ <;> rfl
theorem pNm_e {i : Nat} {d : D} : pNm i d ρ = putO i (.dt d) ρ ρ[i]? := rfl
theorem putS_e {i : Nat} {s : Sl} : putS i s ρ = putO i s ρ ρ[i]? := rfl
theorem pTp_e {ps : List PutF} {ds : List D} : pTp ps (.tup ds) ρ = pAll ps ds ρ := rfl
theorem pAll_n : pAll [] [] ρ = some ρ := rfl
theorem pAll_c {p : PutF} {ps : List PutF} {d : D} {ds : List D} : pAll (p :: ps) (d :: ds) ρ = seqO (p d ρ) ps ds := by
  show (p d ρ).bind _ = _
  cases p d ρ <;> rfl
theorem seqO_s {ps : List PutF} {ds : List D} : seqO (some ρ) ps ds = pAll ps ds ρ := rfl
theorem par_n : setAll [] [] ρ = some ρ := rfl
theorem par_d {i : Nat} {is : List Nat} {d : D} {rs : List RV} : setAll (i :: is) (.dt d :: rs) ρ = parO (putO i (.dt d) ρ ρ[i]?) is rs := by
  show (putS i (.dt d) ρ).bind _ = parO (putS i (.dt d) ρ) is rs
  cases putS i (.dt d) ρ <;> rfl
theorem par_f {i : Nat} {is : List Nat} {d : List D} {rs : List RV} : setAll (i :: is) (.fr d :: rs) ρ = parO (putO i (.ow 0 d) ρ ρ[i]?) is rs := by
  show (putS i (.ow 0 d) ρ).bind _ = parO (putS i (.ow 0 d) ρ) is rs
  cases putS i (.ow 0 d) ρ <;> rfl
theorem parO_s {is : List Nat} {rs : List RV} : parO (some ρ) is rs = setAll is rs ρ := rfl
theorem bag_n : bagOf none ρ = [] := rfl
theorem bag_s {i : Nat} : bagOf (some i) ρ = bagG ρ[i]? := by
  show (match ρ[i]? with | some (.ow _ b) => b | _ => []) = bagG ρ[i]?
  cases ρ[i]? with
  | none => rfl
  | some s => cases s <;> rfl
theorem bagG_o {k : Nat} {b : List D} : bagG (some (.ow k b)) = b := rfl
theorem ret_d {d : D} : retOf (.dt d) ρ = some (.dt d) := rfl
theorem ret_f {d : List D} : retOf (.fr d) ρ = some (.fr d) := rfl
theorem ret_v {i : Nat} : retOf (.vw i) ρ = retV ρ[i]? := rfl
theorem retV_0 {d : List D} : retV (some (.ow 0 d)) = some (.fr d) := rfl
theorem setIo_n {b : List D} : setIo none b ρ = ρ := rfl
theorem setIo_s {i : Nat} {b : List D} : setIo (some i) b ρ = setG i b ρ ρ[i]? := by
  show (match ρ[i]? with | some (.ow k _) => ρ.set i (.ow k b) | _ => ρ) = setG i b ρ ρ[i]?
  cases ρ[i]? with
  | none => rfl
  | some s => cases s <;> rfl
theorem setG_o {i k : Nat} {b c : List D} : setG i b ρ (some (.ow k c)) = ρ.set i (.ow k b) := rfl
theorem a_nil {ioi : Option Nat} {j : Nat} : argDs ρ ioi j [] = some [] := rfl
theorem a_none {j : Nat} {r : RV} {rs : List RV} : argDs ρ none j (r :: rs) = consO (r.get ρ) (argDs ρ none (j + 1) rs) := rfl
theorem a_some {j k : Nat} {r : RV} {rs : List RV} : argDs ρ (some k) j (r :: rs) = consO (if k = j then ioA ρ r else r.get ρ) (argDs ρ (some k) (j + 1) rs) := by
  show (match argD ρ (some k == some j) r, argDs ρ (some k) (j + 1) rs with | some d, some ds => some (d :: ds) | _, _ => none) = _
  have e : argD ρ (some k == some j) r = if k = j then ioA ρ r else r.get ρ := by
    unfold argD
    by_cases h : k = j
    · subst h
      simp only [beq_self_eq_true, if_true]
      cases r <;> rfl
    · have : (some k == some j) = false := by simpa using h
      rw [this, if_neg h]
      rfl
  rw [e]
  rfl
theorem consO_s {d : D} {ds : List D} : consO (some d) (some ds) = some (d :: ds) := rfl
theorem ioA_v {i : Nat} : ioA ρ (.vw i) = ioG ρ[i]? := rfl
theorem ioG_0 {b : List D} : ioG (some (.ow 0 b)) = some (.lst b) := rfl
theorem ioG_1 {b : List D} : ioG (some (.ow 1 b)) = some (.lst b) := rfl
theorem setX_e {i : Nat} {n : Int} {d : D} : setIx i n d ρ = setX i n d ρ ρ[i]? := rfl
theorem setX_0 {i j : Nat} {n : Int} {d : D} {ds : List D} (h : ixN ds.length n = some j) : setX i n d ρ (some (.ow 0 ds)) = some (ρ.set i (.ow 0 (ds.set j d))) := by
  show (ixN ds.length n).map _ = _
  rw [h]
  rfl
theorem setX_1 {i j : Nat} {n : Int} {d : D} {ds : List D} (h : ixN ds.length n = some j) : setX i n d ρ (some (.ow 1 ds)) = some (ρ.set i (.ow 1 (ds.set j d))) := by
  show (ixN ds.length n).map _ = _
  rw [h]
  rfl
theorem w_fV {i : Nat} : WP (fV i ρ) Q = WP (vD i ρ[i]? ρ) Q := by
  show Q _ = Q _
  congr 1
theorem w_vDt {i : Nat} {d : D} : WP (vD i (some (.dt d)) ρ) Q = WP (.ok (.dt d) ρ) Q := rfl
theorem w_vDo {i k : Nat} {ds : List D} : WP (vD i (some (.ow k ds)) ρ) Q = WP (.ok (.vw i) ρ) Q := rfl
theorem w_cN {f : List D → FO} {is : List Nat} {dds : List D} {rs : List RV} : WP (cx none f is dds rs ρ) Q = WP (fcD f is dds (argDs ρ none 0 rs)) (kC none rs ρ Q) := by
  show WP (callF none (fun ds => f (pickL is (ds ++ dds))) [] rs ρ) Q = _
  rw [callF_w]
  have e : ((views none 0 rs).any fun i => ioSlot none rs == some i) = false := by
    rw [List.any_eq_false]
    intro x _
    simp [ioSlot]
  rw [e]
  rfl
theorem w_cI {f : List D → FO} {is : List Nat} {j : Nat} {dds : List D} {rs : List RV} : WP (cx (some j) f is dds rs ρ) Q = WP (ciZ j f is dds rs ρ rs[j]?) Q := by
  unfold cx callX ciZ
  rfl
theorem w_ciV {f : List D → FO} {is : List Nat} {i j : Nat} {dds : List D} {rs : List RV} : WP (ciZ j f is dds rs ρ (some (.vw i))) Q = WP (zI ((views (some j) 0 rs).any fun i => ioSlot (some j) rs == some i) .bad (fcD f is dds (argDs ρ (some j) 0 rs))) (kC (some j) rs ρ Q) := callF_w
theorem w_ciF {f : List D → FO} {is : List Nat} {j : Nat} {dds es : List D} {rs : List RV} : WP (ciZ j f is dds rs ρ (some (.fr es))) Q = WP (zI ((views (some j) 0 (rs.set j (.vw ρ.length))).any fun i => ioSlot (some j) (rs.set j (.vw ρ.length)) == some i) .bad (fcD f is dds (argDs (ρ ++ [.ow 0 es]) (some j) 0 (rs.set j (.vw ρ.length))))) (kC (some j) (rs.set j (.vw ρ.length)) (ρ ++ [.ow 0 es]) (kD Q)) := by
  show WP (callF (some j) (fun ds => f (pickL is (ds ++ dds))) [] (rs.set j (.vw ρ.length)) (ρ ++ [.ow 0 es])) (kD Q) = _
  exact callF_w
theorem w_fc {f : List D → FO} {is : List Nat} {dds ds : List D} {QF : FO → Prop} : WP (fcD f is dds (some ds)) QF = WP (f (pickL is (ds ++ dds))) QF := rfl
theorem lockN : ∀ {j : Nat} {ρ : Fm}, lockG [] j ρ = ρ
  | _, [] => rfl
  | j, s :: ρ => by
    rw [lockG, lockN]
    rfl
theorem reN : ∀ {j : Nat} {ρ0 ρ : Fm}, reK [] j ρ0 ρ = ρ
  | _, [], ρ => by cases ρ <;> rfl
  | _, _ :: _, [] => rfl
  | j, s0 :: ρ0, s :: ρ => by
    rw [reK, reN]
    rfl
theorem w_for0 {ds : List D} {put : PutF} : WP (forD [] ds put S ρ) QS = WP (loopD put S ds ρ) QS := by
  show QS (unlk (reK [] 0 ρ) (loopD put S ds (lockG [] 0 ρ))) = QS (loopD put S ds ρ)
  rw [lockN]
  congr 1
  cases loopD put S ds ρ <;> simp [unlk, reN]
theorem w_for1 {j : Nat} {ds : List D} {put : PutF} (h : noIo [j] ρ = true) : WP (forD [j] ds put S ρ) QS = WP (loopD put S ds (lockG [j] 0 ρ)) (kU (reK [j] 0 ρ) QS) := by
  unfold forD
  rw [h]
  rfl
/-! ### data -/
theorem g_add {i j : Int} : gAdd (.int i) (.int j) = some (.int (i + j)) := rfl
theorem g_sub {i j : Int} : DL.gSub (.int i) (.int j) = some (.int (i - j)) := rfl
theorem g_mul {i j : Int} (h1 : i.natAbs < big) (h2 : j.natAbs < big) : gMul (.int i) (.int j) = some (.int (i * j)) := if_pos ⟨h1, h2⟩
theorem g_div {i j : Int} (h1 : 0 < j) (h2 : j.natAbs < big) : gDiv (.int i) (.int j) = some (.int (i / j)) := if_pos ⟨h1, h2⟩
theorem g_mod {i j : Int} (h1 : 0 < j) : gMod (.int i) (.int j) = some (.int (i % j)) := if_pos h1
theorem g_lt {i j : Int} : gLt (.int i) (.int j) = some (.bl (decide (i < j))) := rfl
theorem g_le {i j : Int} : gLe (.int i) (.int j) = some (.bl (decide (i ≤ j))) := rfl
theorem g_gt {i j : Int} : gGt (.int i) (.int j) = some (.bl (decide (j < i))) := rfl
theorem g_ge {i j : Int} : gGe (.int i) (.int j) = some (.bl (decide (j ≤ i))) := rfl
theorem deq_ii {i j : Int} : deq (.int i) (.int j) = decide (i = j) := by
  show (i == j) = decide (i = j)
  by_cases h : i = j
  · subst h
    simp
  · simp [h]
theorem cq_i {i : Int} : cq (.int i) = true := by simp [cq, pl, dep]
theorem g_eq {i j : Int} : gEq (.int i) (.int j) = some (.bl (decide (i = j))) := by
  unfold gEq
  rw [cq_i, cq_i, deq_ii]
  rfl
theorem g_ne {i j : Int} : gNe (.int i) (.int j) = some (.bl (!decide (i = j))) := by
  unfold gNe
  rw [cq_i, cq_i, deq_ii]
  rfl
theorem p_30 : gPow (.int 10) (.int 30) = some (.int 1000000000000000000000000000000) := rfl
theorem p_31 : gPow (.int 10) (.int 31) = some (.int 10000000000000000000000000000000) := rfl
theorem p_18 : gPow (.int 10) (.int 18) = some (.int 1000000000000000000) := rfl
theorem p_20 : gPow (.int 10) (.int 20) = some (.int 100000000000000000000) := rfl
theorem p_12 : gPow (.int 10) (.int 12) = some (.int 1000000000000) := rfl
theorem p_47 : gPow (.int 10) (.int 47) = some (.int 100000000000000000000000000000000000000000000000) := rfl
theorem p_6 : gPow (.int 10) (.int 6) = some (.int 1000000) := rfl
theorem p_32 : gPow (.int 10) (.int 32) = some (.int 100000000000000000000000000000000) := rfl
theorem p_9 : gPow (.int 10) (.int 9) = some (.int 1000000000) := rfl
theorem g_neg {i : Int} : gNeg (.int i) = some (.int (-i)) := rfl
theorem g_max {i j : Int} : gMax [.int i, .int j] = some (.int (max i j)) := by
  show some (D.int (if j > i then j else i)) = _
  congr 2
  split <;> omega
theorem g_min {i j : Int} : gMin [.int i, .int j] = some (.int (min i j)) := by
  show some (D.int (if j < i then j else i)) = _
  congr 2
  split <;> omega
theorem g_abs {i : Int} : gAbs [.int i] = some (.int (i.natAbs : Int)) := by
  show some (D.int (if i < 0 then -i else i)) = _
  congr 2
  split <;> omega
theorem ixT0 {x : D} {l : List D} : gIx (.tup (x :: l)) (.int 0) = some x := by
  show atI (x :: l) 0 = some x
  unfold atI ixN
  rw [if_pos (by decide), if_pos (by simp <;> omega)]
  rfl
theorem ixT1 {x y : D} {l : List D} : gIx (.tup (x :: y :: l)) (.int 1) = some y := by
  show atI (x :: y :: l) 1 = some y
  unfold atI ixN
  rw [if_pos (by decide), if_pos (by simp <;> omega)]
  rfl
theorem ixT2 {x y z : D} {l : List D} : gIx (.tup (x :: y :: z :: l)) (.int 2) = some z := by
  show atI (x :: y :: z :: l) 2 = some z
  unfold atI ixN
  rw [if_pos (by decide), if_pos (by simp <;> omega)]
  rfl
theorem get_dt {d : D} : RV.get ρ (.dt d) = some d := rfl
theorem get_fr {ds : List D} : RV.get ρ (.fr ds) = some (.lst ds) := rfl
def vwG (o : Option Sl) : Option D := match o with
  | some (.ow _ ds) => some (.lst ds)
  | _ => none
theorem get_vw {i : Nat} : RV.get ρ (.vw i) = vwG ρ[i]? := by
  show (match ρ[i]? with | some (.ow _ ds) => some (D.lst ds) | _ => none) = vwG ρ[i]?
  unfold vwG
  cases ρ[i]? with
  | none => rfl
  | some s => cases s <;> rfl
theorem vwG_ow {k : Nat} {ds : List D} : vwG (some (.ow k ds)) = some (.lst ds) := rfl
end
theorem o2_s {α : Type} {g : D → D → Option D} {x y : D} : o2 g (some x) (some y) = g x y := rfl
theorem o1_s {α β : Type} {g : α → Option β} {x : α} : o1 g (some x) = g x := rfl
theorem gets_n {ρ : Fm} : gets ρ [] = some [] := rfl
theorem gets_c {ρ : Fm} {r : RV} {rs : List RV} : gets ρ (r :: rs) = consO (r.get ρ) (gets ρ rs) := rfl
theorem toDs_n : toDs [] = some [] := rfl
theorem toDs_c {r : RV} {rs : List RV} : toDs (r :: rs) = consO (toD r) (toDs rs) := rfl
theorem toD_d {d : D} : toD (.dt d) = some d := rfl
theorem toD_f {d : List D} : toD (.fr d) = some (.lst d) := rfl
theorem add_ii {i j : Int} {ρ : Fm} : addD (some (.int i)) (some (.int j)) ρ = .ok (.dt (.int (i + j))) ρ := rfl
theorem add_ll {i j : List D} {ρ : Fm} (h : i.length + j.length < 1000000) : addD (some (.lst i)) (some (.lst j)) ρ = .ok (.fr (i ++ j)) ρ := if_pos h
theorem add_ss {x y : Str} {ρ : Fm} (h : x.length + y.length ≤ 16777216) : addD (some (.str x)) (some (.str y)) ρ = .ok (.dt (.str (x ++ y))) ρ := by
  show (match gAdd (.str x) (.str y) with | some z => Out.ok (RV.dt z) ρ | none => .bad) = _
  have e : gAdd (.str x) (.str y) = some (.str (x ++ y)) := if_pos h
  rw [e]
theorem ch_b {g g' : D → D → Option D} {s : RV} {J : Fm → Out RV} {ρ : Fm} {k : Bool} : chD g g' s J ρ (some (.bl k)) = zI k ((J ρ).bind fun t ρ => zR (o2 g' (s.get ρ) (t.get ρ)) ρ) (.ok (.dt (.bl false)) ρ) := rfl
theorem sl_l {lo hi : Option Int} {ds : List D} {ρ : Fm} : slD lo hi (some (.lst ds)) ρ = .ok (.fr (cutD ds lo hi)) ρ := rfl
theorem and_s {G : Fm → Out RV} {r : RV} {ρ : Fm} {k : Bool} : andD G r ρ (some k) = zI k (G ρ) (.ok r ρ) := rfl
theorem or_s {G : Fm → Out RV} {r : RV} {ρ : Fm} {k : Bool} : orD G r ρ (some k) = zI k (.ok r ρ) (G ρ) := rfl
theorem cs_l {g : D → Option (List D)} {ds zs : List D} {ρ : Fm} (h : g (.lst ds) = some zs) : csD g (some (.lst ds)) ρ = .ok (.fr zs) ρ := by
  show (match some ds, g (.lst ds) with | some _, some zs => Out.ok (RV.fr zs) ρ | _, _ => .bad) = _
  rw [h]
theorem cs_t {g : D → Option (List D)} {ds zs : List D} {ρ : Fm} (h : g (.tup ds) = some zs) : csD g (some (.tup ds)) ρ = .ok (.fr zs) ρ := by
  show (match some ds, g (.tup ds) with | some _, some zs => Out.ok (RV.fr zs) ρ | _, _ => .bad) = _
  rw [h]
theorem cs_ll {ds : List D} {ρ : Fm} : csD seqD (some (.lst ds)) ρ = .ok (.fr ds) ρ := rfl
theorem cs_lt {ds : List D} {ρ : Fm} : csD seqD (some (.tup ds)) ρ = .ok (.fr ds) ρ := rfl
theorem seq_l {ds : List D} : seqD (.lst ds) = some ds := rfl
theorem seq_t {ds : List D} : seqD (.tup ds) = some ds := rfl
theorem g_mul' {i j : Int} (h1 : -1809251394333065553493296640760748560207343510400633813116524750123642650624 < i) (h2 : i < 1809251394333065553493296640760748560207343510400633813116524750123642650624) (h3 : -1809251394333065553493296640760748560207343510400633813116524750123642650624 < j) (h4 : j < 1809251394333065553493296640760748560207343510400633813116524750123642650624) : gMul (.int i) (.int j) = some (.int (i * j)) := by
  have e : big = 1809251394333065553493296640760748560207343510400633813116524750123642650624 := by decide +kernel
  exact if_pos ⟨by rw [e]; omega, by rw [e]; omega⟩
theorem g_div' {i j : Int} (h3 : 0 < j) (h4 : j < 1809251394333065553493296640760748560207343510400633813116524750123642650624) : gDiv (.int i) (.int j) = some (.int (i / j)) := by
  have e : big = 1809251394333065553493296640760748560207343510400633813116524750123642650624 := by decide +kernel
  exact if_pos ⟨h3, by rw [e]; omega⟩
theorem tru_b {b : Bool} : tru (.bl b) = some b := rfl
theorem tru_i {i : Int} : tru (.int i) = some (i != 0) := rfl
theorem tru_n : tru .non = some false := rfl
theorem tru_t {ds : List D} : tru (.tup ds) = some (!ds.isEmpty) := rfl
theorem tru_l {ds : List D} : tru (.lst ds) = some (!ds.isEmpty) := rfl
theorem not_b {b : Bool} : gNot (.bl b) = some (.bl (!b)) := rfl
theorem is_bb {a b : Bool} : gIs (.bl a) (.bl b) = some (.bl (decide (a = b))) := rfl
theorem isn_bb {a b : Bool} : gIsN (.bl a) (.bl b) = some (.bl (!decide (a = b))) := rfl
theorem len_l {ds : List D} : gLen [.lst ds] = some (.int ds.length) := rfl
theorem len_t {ds : List D} : gLen [.tup ds] = some (.int ds.length) := rfl
theorem len_z {ds : List Int} : gLen [.fz ds] = some (.int ds.length) := rfl
theorem vw_d {d : D} : vwOf (.dt d) = [] := rfl
theorem vw_f {d : List D} : vwOf (.fr d) = [] := rfl
theorem vw_v {i : Nat} : vwOf (.vw i) = [i] := rfl
theorem ev_mul {i j : Int} (h1 : i.natAbs < 2 ^ 250) (h2 : j.natAbs < 2 ^ 250) : gMul (.int i) (.int j) = some (.int (i * j)) := if_pos ⟨h1, h2⟩
/-! ### comprehensions -/
def lcD (vws : List Nat) (ds : List D) (put : PutF) (B : Fm → Out Bool) (F : Fm → Out RV) (vs : List Nat) (ρ1 : Fm) : Out RV := if noIo vws ρ1 then (match wipeS vs (lockG vws 0 ρ1) with
  | some ρL => match compD put B F vs ds [] ρL with
    | .ok zs ρ2 => .ok (.fr zs) (reK vws 0 ρ1 ρ2)
    | _ => .bad
  | none => .bad) else .bad
def kLc (Q : Out RV → Prop) : Out (List D) → Prop
  | .ok zs ρ => Q (.ok (.fr zs) ρ)
  | _ => Q .bad
def kCe (I : List D → List D → Fm → Prop) (vs : List Nat) (rest acc : List D) : Out RV → Prop
  | .ok r ρ3 => ∃ e ρ4, toD r = some e ∧ wipeS vs ρ3 = some ρ4 ∧ I rest (acc ++ [e]) ρ4
  | _ => False
def kCt (F : Fm → Out RV) (I : List D → List D → Fm → Prop) (vs : List Nat) (rest acc : List D) : Out Bool → Prop
  | .ok true ρ2 => acc.length < 1000000 ∧ WP (F ρ2) (kCe I vs rest acc)
  | .ok false ρ2 => ∃ ρ4, wipeS vs ρ2 = some ρ4 ∧ I rest acc ρ4
  | _ => False
section
variable {Fs : SrcF} {put : PutF} {B : Fm → Out Bool} {F : Fm → Out RV} {vs : List Nat} {ρ : Fm} {Q : Out RV → Prop}
theorem w_fLc : WP (fLc Fs put B F vs ρ) Q = WP (Fs ρ) (kB (fun p ρ1 => lcD p.2 p.1 put B F vs ρ1) Q) := rfl
theorem w_lc0 {ds : List D} {ρL : Fm} (h : wipeS vs ρ = some ρL) (q : WP (compD put B F vs ds [] ρL) (kLc Q)) : WP (lcD [] ds put B F vs ρ) Q := by
  show Q (lcD [] ds put B F vs ρ)
  unfold lcD
  rw [show noIo [] ρ = true from rfl, lockN, h]
  simp only [if_true]
  have q : kLc Q (compD put B F vs ds [] ρL) := q
  cases e : compD put B F vs ds [] ρL with
  | ok zs ρ2 =>
    rw [e] at q
    dsimp only
    rw [reN]
    exact q
  | ex => rw [e] at q; exact q
  | bad => rw [e] at q; exact q
theorem w_bYes {Q : Out Bool → Prop} : WP (bYes ρ) Q = WP (.ok true ρ) Q := rfl
theorem w_ctT' {I : List D → List D → Fm → Prop} {rest acc : List D} : WP (.ok true ρ) (kCt F I vs rest acc) = (acc.length < 1000000 ∧ WP (F ρ) (kCe I vs rest acc)) := rfl
theorem w_ctF' {I : List D → List D → Fm → Prop} {rest acc : List D} : WP (.ok false ρ) (kCt F I vs rest acc) = ∃ ρ4, wipeS vs ρ = some ρ4 ∧ I rest acc ρ4 := rfl
theorem w_ctB {I : List D → List D → Fm → Prop} {rest acc : List D} {k : Bool} (h1 : k = true → acc.length < 1000000 ∧ WP (F ρ) (kCe I vs rest acc)) (h2 : k = false → ∃ ρ4, wipeS vs ρ = some ρ4 ∧ I rest acc ρ4) : WP (.ok k ρ) (kCt F I vs rest acc) := by
  cases k
  · exact h2 rfl
  · exact h1 rfl
theorem w_ceD {I : List D → List D → Fm → Prop} {rest acc : List D} {d : D} : WP (.ok (.dt d) ρ) (kCe I vs rest acc) = ∃ ρ4, wipeS vs ρ = some ρ4 ∧ I rest (acc ++ [d]) ρ4 := by
  show (∃ e ρ4, some d = some e ∧ wipeS vs ρ = some ρ4 ∧ I rest (acc ++ [e]) ρ4) = _
  apply propext
  constructor
  · rintro ⟨e, ρ4, h, q⟩
    cases h
    exact ⟨ρ4, q⟩
  · rintro ⟨ρ4, q⟩
    exact ⟨d, ρ4, rfl, q⟩
def kPc (B : Fm → Out Bool) (F : Fm → Out RV) (I : List D → List D → Fm → Prop) (vs : List Nat) (rest acc : List D) : SO → Prop
  | .nx ρ1 => WP (B ρ1) (kCt F I vs rest acc)
  | _ => False
theorem w_nxPc {I : List D → List D → Fm → Prop} {rest acc : List D} : WP (.nx ρ) (kPc B F I vs rest acc) = WP (B ρ) (kCt F I vs rest acc) := rfl
theorem w_comp (I : List D → List D → Fm → Prop) {QL : Out (List D) → Prop} (hs : ∀ d rest acc ρ, I (d :: rest) acc ρ → WP (zN (put d ρ)) (kPc B F I vs rest acc)) (he : ∀ acc ρ, I [] acc ρ → WP (.ok acc ρ) QL) : ∀ (ds acc : List D) (ρ : Fm), I ds acc ρ → WP (compD put B F vs ds acc ρ) QL
  | [], acc, ρ, h => he acc ρ h
  | d :: ds, acc, ρ, h => by
    have q := hs d ds acc ρ h
    show QL (compD put B F vs (d :: ds) acc ρ)
    unfold compD
    cases e : put d ρ with
    | none =>
      rw [e] at q
      exact False.elim q
    | some ρ1 =>
    rw [e] at q
    dsimp only
    have q : kCt F I vs ds acc (B ρ1) := q
    cases e2 : B ρ1 with
    | bad => rw [e2] at q; exact q.elim
    | ex => rw [e2] at q; exact q.elim
    | ok k ρ2 =>
      rw [e2] at q
      cases k with
      | false =>
        obtain ⟨ρ4, h4, q⟩ := q
        dsimp only
        rw [h4]
        exact w_comp I hs he ds acc ρ4 q
      | true =>
        obtain ⟨hl, q⟩ := q
        have q : kCe I vs ds acc (F ρ2) := q
        dsimp only
        cases e3 : F ρ2 with
        | bad => rw [e3] at q; exact q.elim
        | ex => rw [e3] at q; exact q.elim
        | ok r ρ3 =>
          rw [e3] at q
          obtain ⟨d', ρ4, h3, h4, q⟩ := q
          dsimp only
          rw [h3, h4]
          dsimp only
          rw [if_pos hl]
          exact w_comp I hs he ds (acc ++ [d']) ρ4 q
theorem w_lcR {zs : List D} : WP (.ok zs ρ) (kLc Q) = WP (.ok (.fr zs) ρ) Q := rfl
end
theorem w_pickL {ρ : Fm} {Q : Out RV → Prop} {ds : List D} {v : Int} (h0 : 0 ≤ v) (h1 : v < (ds.length : Int)) (h : ∀ d ∈ ds, WP (.ok (.dt d) ρ) Q) : WP (zR (gIx (.lst ds) (.int v)) ρ) Q := by
  have hk : v.toNat < ds.length := by omega
  have e : gIx (.lst ds) (.int v) = some ds[v.toNat] := by
    show atI ds v = _
    unfold atI ixN
    rw [if_pos h0, if_pos h1]
    exact List.getElem?_eq_getElem hk
  rw [e]
  exact h _ (List.getElem_mem hk)
theorem w_pickT {ρ : Fm} {Q : Out RV → Prop} {ds : List D} {v : Int} (h0 : 0 ≤ v) (h1 : v < (ds.length : Int)) (h : ∀ d ∈ ds, WP (.ok (.dt d) ρ) Q) : WP (zR (gIx (.tup ds) (.int v)) ρ) Q := w_pickL h0 h1 h
theorem w_ceI {vs : List Nat} {ρ ρ4 : Fm} {I : List D → List D → Fm → Prop} {rest acc : List D} {d : D} (h : wipeS vs ρ = some ρ4) (q : I rest (acc ++ [d]) ρ4) : WP (.ok (.dt d) ρ) (kCe I vs rest acc) := ⟨d, ρ4, rfl, h, q⟩
theorem w_ctI {F : Fm → Out RV} {vs : List Nat} {ρ : Fm} {I : List D → List D → Fm → Prop} {rest acc : List D} (h : acc.length < 1000000) (q : WP (F ρ) (kCe I vs rest acc)) : WP (.ok true ρ) (kCt F I vs rest acc) := ⟨h, q⟩
theorem w_nxI {QS : SO → Prop} {ρ : Fm} {I : List D → Fm → Prop} {rest : List D} (q : I rest ρ) : WP (.nx ρ) (kL I rest QS) := q
theorem w_ctJ {QS : SO → Prop} {ρ : Fm} {I : List D → Fm → Prop} {rest : List D} (q : I rest ρ) : WP (.ct ρ) (kL I rest QS) := q
theorem w_pickI {ρ : Fm} {Q : Out RV → Prop} {ds : List D} {v : Int} (R : Int → Prop) (h0 : 0 ≤ v) (h1 : v < (ds.length : Int)) (h : ∀ d ∈ ds, ∃ u, d = .int u ∧ R u) (k : ∀ u, R u → WP (.ok (.dt (.int u)) ρ) Q) : WP (zR (gIx (.lst ds) (.int v)) ρ) Q := w_pickL h0 h1 fun d hd => by
  obtain ⟨u, rfl, r⟩ := h d hd
  exact k u r
theorem rk_c {vws : List Nat} {j : Nat} {s0 s : Sl} {ρ0 ρ : Fm} : reK vws j (s0 :: ρ0) (s :: ρ) = reS (vws.contains j) s0 s :: reK vws (j + 1) ρ0 ρ := rfl
theorem rk_n {vws : List Nat} {j : Nat} {ρ : Fm} : reK vws j [] ρ = ρ := by
  cases ρ <;> rfl
theorem lk_c {vws : List Nat} {j : Nat} {s : Sl} {ρ : Fm} : lockG vws j (s :: ρ) = lkS (vws.contains j) s :: lockG vws (j + 1) ρ := rfl
theorem lk_n {vws : List Nat} {j : Nat} : lockG vws j [] = [] := rfl
theorem reS_f {s0 s : Sl} : reS false s0 s = s := rfl
theorem reS_t {k k' : Nat} {a b : List D} : reS true (.ow k a) (.ow k' b) = .ow k b := rfl
theorem lkS_f {s : Sl} : lkS false s = s := rfl
theorem lkS_t {k : Nat} {a : List D} : lkS true (.ow k a) = .ow 2 a := rfl
theorem w_pickZ {ρ : Fm} {Q : Out RV → Prop} {ns : List Int} {v : Int} (h0 : 0 ≤ v) (h1 : v < (ns.length : Int)) (h : ∀ c ∈ ns, WP (.ok (.dt (.int c)) ρ) Q) : WP (zR (gIx (.fz ns) (.int v)) ρ) Q := by
  have hk : v.toNat < ns.length := by omega
  have e : gIx (.fz ns) (.int v) = some (.int ns[v.toNat]) := by
    show (atI ns v).map D.int = _
    unfold atI ixN
    rw [if_pos h0, if_pos h1]
    show (ns[v.toNat]?).map D.int = _
    rw [List.getElem?_eq_getElem hk]
    rfl
  rw [e]
  exact h _ (List.getElem_mem hk)
theorem g_int {i : Int} : gInt [.int i] = some (.int i) := rfl
theorem g_intb {b : Bool} : gInt [.bl b] = some (.int (if b then 1 else 0)) := rfl
/-! exceptions -/
def kH (hs : List Hd) (Q : SO → Prop) : SO → Prop := fun o => Q (match o with | .ex c f d ρ1 => hdl c f d hs ρ1 | o => o)
def hdZ (o : Option Bool) (i : Option Nat) (T : Fm → SO) (rest : SO) (x : Option Fm) : SO := match o, x with
  | some false, _ => rest
  | some true, some ρ' => leaveX i (T ρ')
  | _, _ => .bad
def kV (i : Option Nat) (Q : SO → Prop) : SO → Prop := fun o => Q (leaveX i o)
def rtX (r : RV) : Option Fm → SO
  | some ρ => .rt r ρ
  | none => .bad
def outO (i : Nat) (ρ : Fm) : Option Sl → Option Fm
  | some (.ex _ _ _) => if (ρ.set i .un).any exS then none else some (ρ.set i .un)
  | _ => none
def raD (c f : Str) (o : Option D) (ρ : Fm) : SO := match o with
  | some d => .ex c f d ρ
  | none => .bad
def xfD (c f : Str) (s : Option Sl) (ρ : Fm) : Out RV := match s with
  | some (.ex c' f' d) => if c' = c ∧ f' = f then .ok (.dt d) ρ else .bad
  | _ => .bad
def isD (c : Str) (b : Bool) (s : Option Sl) (ρ : Fm) : Out RV := match s with
  | some (.ex c' _ _) => if c' = c then .ok (.dt (.bl b)) ρ else .bad
  | _ => .bad
section
variable {F : Fm → Out RV} {S T : Fm → SO} {ρ : Fm} {Q : Out RV → Prop} {QS : SO → Prop} {c f : Str} {d : D} {hs : List Hd}
theorem w_sTry : WP (sTry S hs ρ) QS = WP (S ρ) (kH hs QS) := by
  show QS (sTry S hs ρ) = QS _
  unfold sTry
  cases S ρ <;> rfl
theorem w_nxH : WP (.nx ρ) (kH hs QS) = WP (.nx ρ) QS := rfl
theorem w_rtH {r : RV} : WP (.rt r ρ) (kH hs QS) = WP (.rt r ρ) QS := rfl
theorem w_exH : WP (.ex c f d ρ) (kH hs QS) = WP (hdl c f d hs ρ) QS := rfl
theorem h_nil : WP (hdl c f d [] ρ) QS = WP (.ex c f d ρ) QS := rfl
theorem h_cons {tbl : List (Str × Bool)} {i : Option Nat} : WP (hdl c f d (⟨tbl, i, T⟩ :: hs) ρ) QS = WP (hdZ (tbl.lookup c) i T (hdl c f d hs ρ) (inX i c f d ρ)) QS := by
  show QS (match tbl.lookup c with | none => .bad | some false => hdl c f d hs ρ | some true => match inX i c f d ρ with | some ρ' => leaveX i (T ρ') | none => .bad) = QS _
  cases tbl.lookup c with
  | none => rfl
  | some b => cases b <;> cases inX i c f d ρ <;> rfl
theorem hdZ_f {i : Option Nat} {rest : SO} {x : Option Fm} : WP (hdZ (some false) i T rest x) QS = WP rest QS := rfl
theorem hdZ_t {i : Option Nat} {rest : SO} : WP (hdZ (some true) i T rest (some ρ)) QS = WP (T ρ) (kV i QS) := rfl
theorem inX_n : inX none c f d ρ = some ρ := rfl
theorem inX_s {i : Nat} : inX (some i) c f d ρ = putO i (.ex c f d) ρ ρ[i]? := rfl
theorem outX_s {i : Nat} : outX (some i) ρ = outO i ρ ρ[i]? := by
  show (match ρ[i]? with | some (.ex _ _ _) => if (ρ.set i .un).any exS then none else some (ρ.set i .un) | _ => none) = _
  cases ρ[i]? with
  | none => rfl
  | some s => cases s <;> rfl
theorem outO_e {i : Nat} : outO i ρ (some (.ex c f d)) = if (ρ.set i .un).any exS then none else some (ρ.set i .un) := rfl
theorem exS_d : exS (.dt d) = false := rfl
theorem exS_u : exS .un = false := rfl
theorem exS_o {k : Nat} {ds : List D} : exS (.ow k ds) = false := rfl
theorem exS_s {s : Sl} (h : Sf s) : exS s = false := by
  rcases h with rfl | ⟨_, rfl⟩ | ⟨_, rfl⟩ <;> rfl
theorem w_nxV {i : Option Nat} : WP (.nx ρ) (kV i QS) = WP (zN (outX i ρ)) QS := by
  show QS (match outX i ρ with | some ρ => .nx ρ | none => .bad) = QS _
  cases outX i ρ <;> rfl
theorem w_rtV {i : Option Nat} {r : RV} : WP (.rt r ρ) (kV i QS) = WP (rtX r (outX i ρ)) QS := by
  show QS (match outX i ρ with | some ρ => .rt r ρ | none => .bad) = QS _
  cases outX i ρ <;> rfl
theorem rtX_s {r : RV} : WP (rtX r (some ρ)) QS = WP (.rt r ρ) QS := rfl
theorem w_sRaise : WP (sRaise c f F ρ) QS = WP (F ρ) (kS (fun r ρ => raD c f (toD r) ρ) QS) := by
  rfl
theorem raD_s : WP (raD c f (some d) ρ) QS = WP (.ex c f d ρ) QS := rfl
theorem w_fXf {i : Nat} : WP (fXf i c f ρ) Q = WP (xfD c f ρ[i]? ρ) Q := by
  show Q _ = Q _
  congr 1
theorem xf_s : WP (xfD c f (some (.ex c f d)) ρ) Q = WP (.ok (.dt d) ρ) Q := by
  show Q (if c = c ∧ f = f then _ else _) = _
  rw [if_pos ⟨rfl, rfl⟩]
  rfl
theorem w_fIsX {i : Nat} {b : Bool} : WP (fIsX i c b ρ) Q = WP (isD c b ρ[i]? ρ) Q := by
  show Q _ = Q _
  congr 1
theorem isD_s {b : Bool} : WP (isD c b (some (.ex c f d)) ρ) Q = WP (.ok (.dt (.bl b)) ρ) Q := by
  show Q (if c = c then _ else _) = _
  rw [if_pos rfl]
  rfl
/-! a loop turn by turn -/
def kLd (put : PutF) (S : Fm → SO) (ds : List D) (Q : SO → Prop) : SO → Prop
  | .nx ρ => WP (loopD put S ds ρ) Q
  | .ct ρ => WP (loopD put S ds ρ) Q
  | .bk ρ => Q (.nx ρ)
  | o => Q o
theorem lp_n {put : PutF} : WP (loopD put S [] ρ) QS = WP (.nx ρ) QS := rfl
theorem lp_c {put : PutF} {ds : List D} : WP (loopD put S (d :: ds) ρ) QS = WP (zN (put d ρ)) (fun o => match o with | .nx ρ1 => WP (S ρ1) (kLd put S ds QS) | _ => QS .bad) := by
  show QS (loopD put S (d :: ds) ρ) = _
  unfold loopD
  cases put d ρ with
  | none => rfl
  | some ρ1 =>
    show QS (match S ρ1 with | .nx ρ2 => _ | .ct ρ2 => _ | .bk ρ2 => _ | .rt r ρ2 => _ | .ex c f x ρ2 => _ | .bad => _) = kLd put S ds QS (S ρ1)
    cases S ρ1 <;> rfl
def kPd (put : PutF) (S : Fm → SO) (ds : List D) (QS : SO → Prop) : SO → Prop
  | .nx ρ1 => WP (S ρ1) (kLd put S ds QS)
  | _ => QS .bad
theorem lp_c' {put : PutF} {ds : List D} : WP (loopD put S (d :: ds) ρ) QS = WP (zN (put d ρ)) (kPd put S ds QS) := by
  rw [lp_c]
  show (match zN (put d ρ) with | .nx ρ1 => _ | _ => _) = kPd put S ds QS (zN (put d ρ))
  cases zN (put d ρ) <;> rfl
theorem w_nxPd {put : PutF} {ds : List D} : WP (.nx ρ) (kPd put S ds QS) = WP (S ρ) (kLd put S ds QS) := rfl
theorem w_nxLd {put : PutF} {ds : List D} : WP (.nx ρ) (kLd put S ds QS) = WP (loopD put S ds ρ) QS := rfl
theorem w_ctLd {put : PutF} {ds : List D} : WP (.ct ρ) (kLd put S ds QS) = WP (loopD put S ds ρ) QS := rfl
theorem w_bkLd {put : PutF} {ds : List D} : WP (.bk ρ) (kLd put S ds QS) = WP (.nx ρ) QS := rfl
theorem w_rtLd {put : PutF} {ds : List D} {r : RV} : WP (.rt r ρ) (kLd put S ds QS) = WP (.rt r ρ) QS := rfl
theorem w_exLd {put : PutF} {ds : List D} : WP (.ex c f d ρ) (kLd put S ds QS) = WP (.ex c f d ρ) QS := rfl
end
theorem lk_s {c : Str} {b : Bool} {l : List (Str × Bool)} : List.lookup c ((c, b) :: l) = some b := by simp [List.lookup]
theorem lk_ne {c c' : Str} {b : Bool} {l : List (Str × Bool)} (h : (c == c') = false) : List.lookup c ((c', b) :: l) = List.lookup c l := by
  rw [List.lookup_cons, h]
theorem w_mulP {ρ : Fm} {Q : Out RV → Prop} {a b A B : Int} (h1 : 0 ≤ a) (h2 : a ≤ A) (h3 : 0 ≤ b) (h4 : b ≤ B) (h5 : A < 1000000000000000000000000000000000000) (h6 : B < 1000000000000000000000000000000000000) (k : ∀ u : Int, u = a * b → 0 ≤ u → u ≤ A * B → WP (.ok (.dt (.int u)) ρ) Q) : WP (zR (gMul (.int a) (.int b)) ρ) Q := by
  rw [g_mul' (by omega) (by omega) (by omega) (by omega)]
  have q1 : a * b ≤ A * b := Int.mul_le_mul_of_nonneg_right h2 h3
  have q3 : A * b ≤ A * B := Int.mul_le_mul_of_nonneg_left h4 (by omega)
  exact k _ rfl (Int.mul_nonneg h1 h3) (by omega)
theorem w_mulS {ρ : Fm} {Q : Out RV → Prop} {a b A B : Int} (h1 : -A ≤ a) (h2 : a ≤ A) (h3 : 0 ≤ b) (h4 : b ≤ B) (h5 : A < 1000000000000000000000000000000000000) (h6 : B < 1000000000000000000000000000000000000) (k : ∀ u : Int, u = a * b → -(A * B) ≤ u → u ≤ A * B → WP (.ok (.dt (.int u)) ρ) Q) : WP (zR (gMul (.int a) (.int b)) ρ) Q := by
  rw [g_mul' (by omega) (by omega) (by omega) (by omega)]
  have q1 : a * b ≤ A * b := Int.mul_le_mul_of_nonneg_right h2 h3
  have q3 : A * b ≤ A * B := Int.mul_le_mul_of_nonneg_left h4 (by omega)
  have q4 : (-A) * b ≤ a * b := Int.mul_le_mul_of_nonneg_right h1 h3
  have q5 : (-A) * b = -(A * b) := by rw [Int.neg_mul]
  exact k _ rfl (by omega) (by omega)
end DL

namespace DL
open PySem L2
/-! ### rules for instances, f-strings -/
def obX (c : Str) (z : Out RV → Out RV) (G : List D → FO) (rs : List RV) (ρ : Fm) : Option D → Out RV
  | some (.ob c' _ _) => if c' = c then z (cx none G [0] [] rs ρ) else .bad
  | _ => .bad
def ob2 (c : Str) (tbl : List Str) (z : Out RV → Out RV) (G : List D → FO) (rs : List RV) (ρ : Fm) : Option D → Option D → Out RV
  | some (.ob c' _ _), some d => if c' = c then zI (nfD tbl d) (z (cx none G [0, 1] [] rs ρ)) .bad else .bad
  | _, _ => .bad
def kZ (z : Out RV → Out RV) (Q : Out RV → Prop) : Out RV → Prop := fun o => Q (z o)
theorem callX_1 {G : List D → FO} {r : RV} {ρ : Fm} : callX none G [] [r] ρ = cx none G [0] [] [r] ρ := by
  unfold cx callX
  dsimp only
  unfold callF
  cases q : argDs ρ none 0 [r] with
  | none => rfl
  | some ds =>
    have hl := (argDs_get q).1
    match ds, hl with
    | [d], _ => rfl
theorem callX_2 {G : List D → FO} {r s : RV} {ρ : Fm} : callX none G [] [r, s] ρ = cx none G [0, 1] [] [r, s] ρ := by
  unfold cx callX
  dsimp only
  unfold callF
  cases q : argDs ρ none 0 [r, s] with
  | none => rfl
  | some ds =>
    have hl := (argDs_get q).1
    match ds, hl with
    | [d, e], _ => rfl
section
variable {F F1 F2 : Fm → Out RV} {ρ : Fm} {Q : Out RV → Prop} {QF : FO → Prop} {c : Str} {G : List D → FO} {tbl : List Str} {z : Out RV → Out RV}
theorem w_fProp : WP (fProp c G F ρ) Q = WP (F ρ) (kB (fun r ρ => obX c noX G [r] ρ (r.get ρ)) Q) := by
  show Q _ = Q _
  congr 1
  unfold fProp
  congr 1
  funext r ρ
  cases r.get ρ with
  | none => rfl
  | some d =>
    cases d <;> first | rfl | (show (if _ then noX (callX none G [] [r] ρ) else _) = _; rw [callX_1]; rfl)
theorem w_fOwn1 : WP (fOwn1 c z G F ρ) Q = WP (F ρ) (kB (fun r ρ => obX c z G [r] ρ (r.get ρ)) Q) := by
  show Q _ = Q _
  congr 1
  unfold fOwn1
  congr 1
  funext r ρ
  cases r.get ρ with
  | none => rfl
  | some d =>
    cases d <;> first | rfl | (show (if _ then z (callX none G [] [r] ρ) else _) = _; rw [callX_1]; rfl)
theorem w_obX {ns : List Str} {ds : List D} {rs : List RV} : WP (obX c z G rs ρ (some (.ob c ns ds))) Q = WP (cx none G [0] [] rs ρ) (kZ z Q) := by
  show Q (if c = c then _ else _) = Q _
  rw [if_pos rfl]
def idX (o : Out RV) : Out RV := o
theorem w_fOwn : WP (fOwn c tbl G F1 F2 ρ) Q = WP (F1 ρ) (kB (fun r1 ρ => (F2 ρ).bind fun r2 ρ => ob2 c tbl idX G [r1, r2] ρ (r1.get ρ) (r2.get ρ)) Q) := by
  show Q _ = Q _
  congr 1
  unfold fOwn
  congr 1
  funext r1 ρ
  congr 1
  funext r2 ρ
  cases r1.get ρ with
  | none => rfl
  | some d =>
    cases r2.get ρ with
    | none => cases d <;> rfl
    | some e =>
      cases d <;> first | rfl | skip
      rename_i c' ns ds
      show (if c' = c ∧ nfD tbl e = true then callX none G [] [r1, r2] ρ else .bad) = (if c' = c then zI (nfD tbl e) (cx none G [0, 1] [] [r1, r2] ρ) .bad else .bad)
      rw [callX_2]
      by_cases h1 : c' = c
      · rw [if_pos h1]
        cases h2 : nfD tbl e
        · rw [if_neg fun z => nomatch z.2]
          rfl
        · rw [if_pos ⟨h1, rfl⟩]
          rfl
      · rw [if_neg h1, if_neg fun z => h1 z.1]
theorem w_fOwnNe : WP (fOwnNe c tbl G F1 F2 ρ) Q = WP (F1 ρ) (kB (fun r1 ρ => (F2 ρ).bind fun r2 ρ => ob2 c tbl notX G [r1, r2] ρ (r1.get ρ) (r2.get ρ)) Q) := by
  show Q _ = Q _
  congr 1
  unfold fOwnNe
  congr 1
  funext r1 ρ
  congr 1
  funext r2 ρ
  cases r1.get ρ with
  | none => rfl
  | some d =>
    cases r2.get ρ with
    | none => cases d <;> rfl
    | some e =>
      cases d <;> first | rfl | skip
      rename_i c' ns ds
      show (if c' = c ∧ nfD tbl e = true then notX (callX none G [] [r1, r2] ρ) else .bad) = (if c' = c then zI (nfD tbl e) (notX (cx none G [0, 1] [] [r1, r2] ρ)) .bad else .bad)
      rw [callX_2]
      by_cases h1 : c' = c
      · rw [if_pos h1]
        cases h2 : nfD tbl e
        · rw [if_neg fun z => nomatch z.2]
          rfl
        · rw [if_pos ⟨h1, rfl⟩]
          rfl
      · rw [if_neg h1, if_neg fun z => h1 z.1]
theorem w_ob2 {ns : List Str} {ds : List D} {rs : List RV} {d : D} : WP (ob2 c tbl z G rs ρ (some (.ob c ns ds)) (some d)) Q = WP (zI (nfD tbl d) (z (cx none G [0, 1] [] rs ρ)) .bad) Q := by
  show Q (if c = c then _ else _) = Q _
  rw [if_pos rfl]
theorem w_kZn {o : Out RV} : WP (notX o) Q = WP o (kZ notX Q) := rfl
theorem w_kZi {o : Out RV} : WP (idX o) Q = WP o Q := rfl
theorem w_noX {r : RV} : WP (.ok r ρ) (kZ noX Q) = WP (.ok r ρ) Q := rfl
theorem w_strX {s : Str} : WP (.ok (.dt (.str s)) ρ) (kZ strX Q) = WP (.ok (.dt (.str s)) ρ) Q := rfl
theorem w_blX {s : Bool} : WP (.ok (.dt (.bl s)) ρ) (kZ blX Q) = WP (.ok (.dt (.bl s)) ρ) Q := rfl
theorem w_notX {s : Bool} : WP (.ok (.dt (.bl s)) ρ) (kZ notX Q) = WP (.ok (.dt (.bl (!s))) ρ) Q := rfl
theorem w_idX {o : Out RV} : WP o (kZ idX Q) = WP o Q := rfl
theorem nf_i {i : Int} : nfD tbl (.int i) = true := rfl
theorem nf_b {i : Bool} : nfD tbl (.bl i) = true := rfl
theorem nf_n : nfD tbl .non = true := rfl
theorem nf_s {i : Str} : nfD tbl (.str i) = true := rfl
theorem nf_t {i : List D} : nfD tbl (.tup i) = true := rfl
theorem nf_l {i : List D} : nfD tbl (.lst i) = true := rfl
theorem nf_o {ns : List Str} {ds : List D} : nfD (c :: tbl) (.ob c ns ds) = true := by
  show (c :: tbl).contains c = true
  rw [List.contains_cons, beq_self_eq_true]
  rfl
theorem g_slt {i : Nat} {ds : List D} : gSlt c i (.ob c [] ds) = ds[i]? := if_pos rfl
theorem g_isO {t : List (Str × Bool)} {d : D} : gIsO c t [d, .cl c] = isO t d := if_pos rfl
theorem is_i {t : List (Str × Bool)} {i : Int} : isO t (.int i) = some (.bl false) := rfl
theorem is_t {t : List (Str × Bool)} {i : List D} : isO t (.tup i) = some (.bl false) := rfl
theorem is_n {t : List (Str × Bool)} : isO t .non = some (.bl false) := rfl
theorem is_b {t : List (Str × Bool)} {i : Bool} : isO t (.bl i) = some (.bl false) := rfl
theorem is_s {t : List (Str × Bool)} {i : Str} : isO t (.str i) = some (.bl false) := rfl
theorem is_o {t : List (Str × Bool)} {b : Bool} {ns : List Str} {ds : List D} : isO ((c, b) :: t) (.ob c ns ds) = some (.bl b) := by
  show (List.lookup c ((c, b) :: t)).map D.bl = _
  rw [lk_s]
  rfl
/-! making -/
def kI (c : Str) (js : List Nat) (QF : FO → Prop) : SO → Prop := fun o => QF (match o with
  | .nx ρ => iniO c js ρ
  | .ex c1 f d _ => .ex c1 f d []
  | _ => .bad)
def getZ (o : Option Sl) (l : Option (List D)) : Option (List D) := match o with
  | some (.dt d) => if noL d then l.map (d :: ·) else none
  | _ => none
def iniG (c : Str) : Option (List D) → FO
  | some fs => .ok (.dt (.ob c [] fs)) []
  | none => .bad
def mapC (d : D) : Option (List D) → Option (List D)
  | some l => some (d :: l)
  | none => none
variable {S : Fm → SO} {m : Nat} {js : List Nat} {ds : List D} {f : Str} {d : D}
theorem w_init : WP (initF c m S js ds) QF = WP (S (entryI c m ds)) (kI c js QF) := by
  show QF _ = QF _
  congr 1
theorem w_nxI0 : WP (.nx (.nw c :: ρ)) (kI c js QF) = WP (iniG c (getF (.nw c :: ρ) js)) QF := by
  show QF (if c = c then _ else _) = QF _
  rw [if_pos rfl]
  cases getF (.nw c :: ρ) js <;> rfl
theorem w_exI {c1 : Str} : WP (.ex c1 f d ρ) (kI c js QF) = WP (FO.ex c1 f d []) QF := rfl
theorem getF_n : getF ρ [] = some [] := rfl
theorem getF_c {j : Nat} : getF ρ (j :: js) = getZ ρ[j]? (getF ρ js) := by
  first
    | (unfold getZ; rw [getF]; done)
    | (unfold getZ; rw [getF]; rcases ρ[j]? with _ | s <;> first | rfl | (cases s <;> rfl))
theorem getZ_d {l : Option (List D)} : getZ (some (.dt d)) l = if noL d then mapC d l else none := by cases l <;> rfl
theorem mapC_s {l : List D} : mapC d (some l) = some (d :: l) := rfl
theorem iniG_s {l : List D} : WP (iniG c (some l)) QF = WP (FO.ok (.dt (.ob c [] l)) []) QF := rfl
theorem exS_nw : exS (.nw c) = true := rfl
/-! f-strings -/
def jsZ (Fs : List (Fm → Out RV)) (o : Option Str) (ρ : Fm) : Out RV := match o with
  | some x => fJs Fs x ρ
  | none => .bad
theorem w_jsN {acc : Str} : WP (fJs [] acc ρ) Q = WP (.ok (.dt (.str acc)) ρ) Q := rfl
theorem w_jsC {Fs : List (Fm → Out RV)} {acc : Str} : WP (fJs (F :: Fs) acc ρ) Q = WP (F ρ) (kB (fun r ρ => jsZ Fs (jsD acc (r.get ρ)) ρ) Q) := by
  show Q _ = Q _
  congr 1
theorem w_jsZ {Fs : List (Fm → Out RV)} {x : Str} : WP (jsZ Fs (some x) ρ) Q = WP (fJs Fs x ρ) Q := rfl
theorem js_s {acc y : Str} (h : (acc ++ y).length ≤ sizeLine) : jsD acc (some (.str y)) = some (acc ++ y) := if_pos h
theorem w_fFmt : WP (fFmt F ρ) Q = WP (F ρ) (kB (fun r ρ => zR (fmtD (r.get ρ)) ρ) Q) := by
  show Q _ = Q _
  congr 1
theorem fmt_s {y : Str} (h : y.length ≤ sizeLine) : fmtD (some (.str y)) = some (.str y) := if_pos h
theorem gStr_s {y : Str} : gStr [.str y] = some (.str y) := rfl
theorem gStr_i {i : Int} (h : i.natAbs.log2 < 1920) : gStr [.int i] = some (.str (toString i)) := if_pos h
theorem gBool_b {b : Bool} : gBool [.bl b] = some (.bl b) := rfl
theorem gBool_i {i : Int} : gBool [.int i] = some (.bl (i != 0)) := rfl
/-! zip, reversed -/
def zipZ (o : Option (List D)) (ρ : Fm) : Out RV := match o with
  | some zs => .ok (.fr zs) ρ
  | none => .bad
variable {A : Fm → Out (List RV)}
theorem w_fLzip : WP (fLzip A ρ) Q = WP (A ρ) (kB (fun rs ρ => zipZ (o1 zipD (gets ρ rs)) ρ) Q) := by
  show Q _ = Q _
  congr 1
  unfold fLzip
  congr 1
  funext rs ρ
  cases gets ρ rs with
  | none => rfl
  | some ds =>
    show (match zipD ds with | some zs => Out.ok (RV.fr zs) ρ | none => .bad) = zipZ (zipD ds) ρ
    cases zipD ds <;> rfl
theorem w_zipZ {zs : List D} : WP (zipZ (some zs) ρ) Q = WP (.ok (.fr zs) ρ) Q := rfl
theorem gRevL_l {ds : List D} : gRevL (.lst ds) = some ds.reverse := rfl
theorem cs_rev {ds : List D} : csD gRevL (some (.lst ds)) ρ = .ok (.fr ds.reverse) ρ := cs_l gRevL_l
/-! operators of own classes -/
def obB (c : Str) (G : List D → FO) (r1 r2 : RV) (ρ : Fm) : Option D → Option D → Out RV
  | some (.ob c' _ _), some (.int _) => if c' = c then cx none G [0, 1] [] [r1, r2] ρ else .bad
  | _, _ => .bad
def obR (c : Str) (G : List D → FO) (r2 : RV) (ρ : Fm) : Option D → Option D → Out RV
  | some (.ob c' ns ds), some (.int i) => if c' = c then zI (noL (.ob c' ns ds)) (cx none G [0, 1] [] [r2, .dt (.int i)] ρ) .bad else .bad
  | _, _ => .bad
def obI (c : Str) (G : List D → FO) (r1 r2 : RV) (ρ : Fm) : Option D → Out RV
  | some (.ob c' _ _) => if c' = c then blX (cx none G [1, 0] [] [r1, r2] ρ) else .bad
  | _ => .bad
theorem w_fBinO : WP (fBinO c G F1 F2 ρ) Q = WP (F1 ρ) (kB (fun r1 ρ => (F2 ρ).bind fun r2 ρ => obB c G r1 r2 ρ (r1.get ρ) (r2.get ρ)) Q) := by
  show Q _ = Q _
  congr 1
  unfold fBinO
  congr 1
  funext r1 ρ
  congr 1
  funext r2 ρ
  cases r1.get ρ with
  | none => rfl
  | some d =>
    cases r2.get ρ with
    | none => cases d <;> rfl
    | some e =>
      cases d <;> first | rfl | skip
      cases e <;> first | rfl | (show (if _ then callX none G [] [r1, r2] ρ else _) = _; rw [callX_2]; rfl)
theorem w_obB {ns : List Str} {ds : List D} {r1 r2 : RV} {i : Int} : WP (obB c G r1 r2 ρ (some (.ob c ns ds)) (some (.int i))) Q = WP (cx none G [0, 1] [] [r1, r2] ρ) Q := by
  show Q (if c = c then _ else _) = Q _
  rw [if_pos rfl]
theorem w_fRaO : WP (fRaO c G F1 F2 ρ) Q = WP (F1 ρ) (kB (fun r1 ρ => (F2 ρ).bind fun r2 ρ => obR c G r2 ρ (r2.get ρ) (r1.get ρ)) Q) := by
  show Q _ = Q _
  congr 1
  unfold fRaO
  congr 1
  funext r1 ρ
  congr 1
  funext r2 ρ
  cases r2.get ρ with
  | none => rfl
  | some d =>
    cases r1.get ρ with
    | none => cases d <;> rfl
    | some e =>
      cases d <;> first | rfl | skip
      rename_i c' ns ds
      cases e <;> first | rfl | skip
      rename_i i
      show (if c' = c ∧ noL (.ob c' ns ds) = true then callX none G [] [r2, .dt (.int i)] ρ else .bad) = (if c' = c then zI (noL (.ob c' ns ds)) (cx none G [0, 1] [] [r2, .dt (.int i)] ρ) .bad else .bad)
      rw [callX_2]
      by_cases h1 : c' = c
      · rw [if_pos h1]
        cases h2 : noL (.ob c' ns ds)
        · rw [if_neg fun z => nomatch z.2]
          rfl
        · rw [if_pos ⟨h1, rfl⟩]
          rfl
      · rw [if_neg h1, if_neg fun z => h1 z.1]
theorem w_obR {ns : List Str} {ds : List D} {r2 : RV} {i : Int} : WP (obR c G r2 ρ (some (.ob c ns ds)) (some (.int i))) Q = WP (zI (noL (.ob c ns ds)) (cx none G [0, 1] [] [r2, .dt (.int i)] ρ) .bad) Q := by
  show Q (if c = c then _ else _) = Q _
  rw [if_pos rfl]
theorem callX_r {r1 r2 : RV} : callX none (fun ds => G (pickL [1, 0] ds)) [] [r1, r2] ρ = cx none G [1, 0] [] [r1, r2] ρ := by
  unfold cx
  congr 1
  funext ds
  rw [List.append_nil]
theorem w_fInO : WP (fInO c G F1 F2 ρ) Q = WP (F1 ρ) (kB (fun r1 ρ => (F2 ρ).bind fun r2 ρ => obI c G r1 r2 ρ (r2.get ρ)) Q) := by
  show Q _ = Q _
  congr 1
  unfold fInO
  congr 1
  funext r1 ρ
  congr 1
  funext r2 ρ
  cases r2.get ρ with
  | none => rfl
  | some d => cases d <;> first | rfl | (rw [callX_r]; rfl)
theorem w_obI {ns : List Str} {ds : List D} {r1 r2 : RV} : WP (obI c G r1 r2 ρ (some (.ob c ns ds))) Q = WP (cx none G [1, 0] [] [r1, r2] ρ) (kZ blX Q) := by
  show Q (if c = c then _ else _) = Q _
  rw [if_pos rfl]
def tgZ (p : PutF) (o : Option D) (ρ : Fm) : SO := match o with
  | some d => zN (p d ρ)
  | none => .bad
theorem w_sTgD {p : PutF} {QS : SO → Prop} : WP (sTgD p F ρ) QS = WP (F ρ) (kS (fun r ρ => tgZ p (toD r) ρ) QS) := by
  show QS _ = QS _
  congr 1
theorem w_tgZ {p : PutF} {d : D} {QS : SO → Prop} : WP (tgZ p (some d) ρ) QS = WP (zN (p d ρ)) QS := rfl
theorem pTl_e {ps : List PutF} {ds : List D} : pTl ps (.lst ds) ρ = pAll ps ds ρ := rfl
end
end DL
open PySem L2 DL
local macro_rules | `(tactic| simp_arith [$ls,*]) => `(tactic| simp +decide (discharger := first | omega | (simp only [List.length_map, List.length_append, List.length_cons, List.length_nil, List.length_take, List.length_drop]; omega)) only [w_bind, w_sbind, w_okB, w_exB, w_okS, w_exS, w_nxT, w_rtT, w_bkT, w_ctT, w_exT, w_zI_t, w_zI_f, w_zR, w_zRT, w_zF, w_zN, w_zM, w_fC, w_fOp, w_fAdd, w_fChain, w_fTest, w_testD, w_fTru, w_fUn, w_fNotT, w_fAndT, w_fOrT, w_fIf, w_fAnd, w_fOr, w_aNil, w_aCons, w_fTup, w_fLst, w_fIx, w_oNone, w_oSome, w_someI, w_fSl, w_fCB, w_fCS, w_fTupOf, w_fMU', w_muE, w_fCall', w_okC, w_exC, w_okD, w_exD, w_run, w_nxR, w_rtR, w_retY, w_exR,
  w_sNil, w_sSeq, w_sExpr, w_sRet, w_sIf, w_sSet, w_sPar, w_sTg, w_tgD, w_sSub, w_subD, w_subF, w_sAug, w_augS, w_augD, w_sFor, w_nxU, w_rtU, w_exU, w_sSrc, w_eSrc, w_srcZ, w_rSrc, w_bkL, w_rtL, w_exL, w_fV, w_fLzip, w_zipZ, cs_rev, w_fBinO, w_obB, w_fRaO, w_obR, w_fInO, w_obI, w_sTgD, w_tgZ, pTl_e, w_fProp, w_fOwn1, w_obX, w_fOwn, w_fOwnNe, w_ob2, w_kZn, w_kZi, w_noX, w_strX, w_blX, w_notX, w_idX, nf_i, nf_b, nf_n, nf_s, nf_t, nf_l, nf_o, g_slt, g_isO, is_i, is_t, is_n, is_b, is_s, is_o, w_init, w_nxI0, w_exI, getF_n, getF_c, getZ_d, mapC_s, iniG_s, entryI, w_jsN, w_jsC, w_jsZ, w_fFmt, gStr_s, gBool_b, gBool_i, w_vDt, w_vDo, w_cN, w_cI, w_ciV, w_ciF, w_fc, w_for0, w_fLc, w_bYes, w_nxPc, w_lcR, w_nxP, w_sTry, w_nxH, w_rtH, w_exH, h_nil, h_cons, hdZ_f, hdZ_t, inX_n, inX_s, outX_s, outO_e, exS_d, exS_u, exS_o, w_nxV, w_rtV, rtX_s, w_sRaise, raD_s, w_fXf, xf_s, w_fIsX, isD_s, w_nxPd, w_nxLd, w_ctLd, w_bkLd, w_rtLd, w_exLd, lk_s, rk_c, rk_n, lk_c, lk_n, reS_f, reS_t, lkS_f, lkS_t, List.contains_cons, List.contains_nil, pickL_nil, pickL_cons, pk_some,
  updZ_s, updO_0, updO_1, mapF_s, g_app, g_ins, s_dt, s_fr, s_vw, sw_0, p_un, p_dt, p_ow, pNm_e, putS_e, pTp_e, pAll_n, pAll_c, seqO_s, par_n, par_d, par_f, parO_s, bag_n, bag_s, bagG_o, ret_d, ret_f, ret_v, retV_0, setIo_n, setIo_s, setG_o, a_nil, a_none, a_some, consO_s, ioA_v, ioG_0, ioG_1, setX_e,
  List.append_nil, List.nil_append, List.cons_append, List.append_assoc, List.length_cons, List.length_nil, List.length_map, List.length_append, List.dropLast_cons₂, List.dropLast_singleton, List.any_nil, List.any_cons, List.isEmpty_nil, List.isEmpty_cons, Bool.not_true, Bool.not_false, Bool.or_false, Bool.or_true, Bool.false_or, Bool.true_or, Bool.and_false, Bool.and_true, Bool.false_and, Bool.true_and, Bool.not_not, reduceIte, Nat.reduceAdd, Nat.reduceSub, Nat.reduceEqDiff, Nat.reduceBEq, Option.some_beq_some, Option.some_beq_none, Option.none_beq_some, Nat.zero_add, reduceCtorEq, decide_true, decide_false, Int.reduceNeg, List.replicate_succ, List.replicate_zero, List.set_cons_zero, id_eq, Int.reduceToNat, List.take_succ_cons, List.take_zero, List.drop_succ_cons, List.drop_zero,
  List.getElem?_cons_zero, List.getElem?_cons_succ, List.set_cons_zero, List.set_cons_succ, Option.some.injEq, reduceIte, entry, slots0, inS, o1_s, o2_s, gets_n, gets_c, get_dt, get_fr, get_vw, vwG_ow, toDs_n, toDs_c, toD_d, toD_f, views, ioSlot, isVw, rvNoL, noL, noLs, add_ii, add_ll, add_ss, ch_b, sl_l, and_s, or_s, cs_ll, cs_lt, vw_d, vw_f, vw_v, seq_l, seq_t,
  g_add, g_sub, g_div', g_lt, g_le, g_gt, g_ge, g_eq, g_ne, g_mod, p_30, p_31, p_18, p_20, p_12, p_47, p_6, p_32, p_9, g_neg, g_max, g_min, g_abs, g_int, g_intb, ixT0, ixT1, ixT2, len_l, len_t, len_z, is_bb, isn_bb, tru_b, tru_i, tru_n, tru_t, tru_l, not_b, $ls,*])

namespace P
open PySem L2 DL
def S__law_take : Fm → SO := (sSeq (sIf (fTest (fOp gGt (fIx (fV 0) (fC (.int (0)))) (fC (.int (0))))) (sSeq (sSet 2 (fOp gMod (fCB gInt (aCons (fIx (fV 0) (fC (.int (0)))) aNil)) (fV 1)))
  (sSeq (sSub (fOp gDiv (fIx (fV 0) (fC (.int (0)))) (fV 1)) 0 (fC (.int (0))))
  (sRet (fV 2)))) sNil)
  (sSeq (sSub (fAdd (fIx (fV 0) (fC (.int (3)))) (fC (.int (1)))) 0 (fC (.int (3))))
  (sSeq (sSet 3 (fOp gMod (fCB gInt (aCons (fOp gPow (fAdd (fAdd (fIx (fV 0) (fC (.int (1)))) (fOp gMul (fC (.int (7368787))) (fIx (fV 0) (fC (.int (3)))))) (fIx (fV 0) (fC (.int (2))))) (fC (.int (2)))) aNil)) (fC (.int (2305843009213693921)))))
  (sSeq (sSet 3 (fOp gMod (fCB gInt (aCons (fOp gPow (fAdd (fV 3) (fOp gMul (fC (.int (32452867))) (fIx (fV 0) (fC (.int (3)))))) (fC (.int (3)))) aNil)) (fC (.int (2305843009213693951)))))
  (sSeq (sIf (fTest (fOp gGt (fV 1) (fC (.int (1000000000000))))) (sSet 3 (fOp gMod (fCB gInt (aCons (fOp gPow (fAdd (fV 3) (fC (.int (1000003)))) (fC (.int (5)))) aNil)) (fC (.int (100000000000000000000000000000000000000000000000))))) sNil)
  (sRet (fOp gMod (fCB gInt (aCons (fOp gDiv (fV 3) (fC (.int (4096)))) aNil)) (fV 1))))))))
@[irreducible] def f__law_take : List D → FO := runF (some 0) 4 S__law_take
def S_is_integer : Fm → SO := (sRet (fAnd (fCB gIsi (aCons (fV 0) (aCons (fC (.ty "int")) aNil))) (fUn gNot (fCB gIsi (aCons (fV 0) (aCons (fC (.ty "bool")) aNil))))))
@[irreducible] def f_is_integer : List D → FO := runF none 1 S_is_integer
def S_is_near : Fm → SO := (sRet (fChain gLe gLe (fC (.int (-1000000000000000000000000000000))) (fV 0) (fC (.int (1000000000000000000000000000000)))))
@[irreducible] def f_is_near : List D → FO := runF none 1 S_is_near
def S_is_ends : Fm → SO := (sRet (fAnd (fCB gIsi (aCons (fV 0) (aCons (fC (.ty "str")) aNil))) (fOp (gIn false) (fV 0) (fTup (aCons (fC (.str "half")) (aCons (fC (.str "shut")) aNil))))))
@[irreducible] def f_is_ends : List D → FO := runF none 1 S_is_ends
def S__law_bag : Fm → SO := (sSeq (sSet 2 (fIf (fTest (fOp gLt (fV 1) (fCB gLen (aCons (fV 0) aNil)))) (fIx (fV 0) (fV 1)) (fC (.int (0)))))
  (sRet (fLst (aCons (fIf (fTest (fOp gGe (fCB gAbs (aCons (fV 2) aNil)) (fC (.int (1000000000000000000))))) (fCB gAbs (aCons (fV 2) aNil)) (fC (.int (0)))) (aCons (fOp gMod (fCB gInt (aCons (fV 2) aNil)) (fC (.int (2305843009213693951)))) (aCons (fAdd (fOp gMul (fC (.int (6151))) (fV 1)) (fC (.int (389)))) (aCons (fC (.int (0))) aNil)))))))
@[irreducible] def f__law_bag : List D → FO := runF none 3 S__law_bag
def S_is_edge : Fm → SO := (sRet (fAnd (fCall none P.f_is_integer [0] [] (aCons (fV 0) aNil) aNil) (fOr (fOp (gIn false) (fV 0) (fTup (aCons (fC (.int (-10000000000000000000000000000000))) (aCons (fC (.int (10000000000000000000000000000000))) aNil)))) (fCall none P.f_is_near [0] [] (aCons (fV 0) aNil) aNil))))
@[irreducible] def f_is_edge : List D → FO := runF none 1 S_is_edge
def S_check_ends : Fm → SO := (sIf (fNotT (fTru (fCall none P.f_is_ends [0] [] (aCons (fV 0) aNil) aNil))) (sRaise "BadEnds" "ends" (fV 0)) sNil)
@[irreducible] def f_check_ends : List D → FO := runF none 1 S_check_ends
def S_is_pair : Fm → SO := (sRet (fAnd (fCB gIsi (aCons (fV 0) (aCons (fC (.ty "tuple")) aNil))) (fAnd (fOp gEq (fCB gLen (aCons (fV 0) aNil)) (fC (.int (2)))) (fAnd (fCall none P.f_is_edge [0] [] (aCons (fIx (fV 0) (fC (.int (0)))) aNil) aNil) (fCall none P.f_is_edge [0] [] (aCons (fIx (fV 0) (fC (.int (1)))) aNil) aNil)))))
@[irreducible] def f_is_pair : List D → FO := runF none 1 S_is_pair
def S_is_empty : Fm → SO := (sSeq (sExpr (fCall none P.f_check_ends [0] [] (aCons (fV 1) aNil) aNil))
  (sRet (fOr (fOp gGt (fIx (fV 0) (fC (.int (0)))) (fIx (fV 0) (fC (.int (1))))) (fAnd (fOp gEq (fV 1) (fC (.str "half"))) (fOp gEq (fIx (fV 0) (fC (.int (0)))) (fIx (fV 0) (fC (.int (1)))))))))
@[irreducible] def f_is_empty : List D → FO := runF none 2 S_is_empty
def S_is_stretch : Fm → SO := (sRet (fAnd (fCall none P.f_is_pair [0] [] (aCons (fV 0) aNil) aNil) (fAnd (fOp gLt (fC (.int (-10000000000000000000000000000000))) (fIx (fV 0) (fC (.int (1))))) (fAnd (fOp gLt (fIx (fV 0) (fC (.int (0)))) (fC (.int (10000000000000000000000000000000)))) (fOp gLe (fIx (fV 0) (fC (.int (0)))) (fIx (fV 0) (fC (.int (1)))))))))
@[irreducible] def f_is_stretch : List D → FO := runF none 1 S_is_stretch
def S_check_spans : Fm → SO := (sFor (eSrc (fV 0)) (pTp [(pNm 1), (pNm 2)]) (sIf (fNotT (fTru (fCall none P.f_is_stretch [0] [] (aCons (fV 2) aNil) aNil))) (sRaise "BadItem" "index" (fV 1)) sNil))
@[irreducible] def f_check_spans : List D → FO := runF none 3 S_check_spans
def S_in_one_form : Fm → SO := (sSeq (sExpr (fCall none P.f_check_spans [0] [] (aCons (fV 0) aNil) aNil))
  (sSeq (sExpr (fCall none P.f_check_ends [0] [] (aCons (fV 1) aNil) aNil))
  (sSeq (sFor (eSrc (fV 0)) (pTp [(pNm 2), (pNm 3)]) (sIf (fOrT (fTru (fCall none P.f_is_empty [0, 1] [(.str "half")] (aCons (fV 3) (aCons (fV 1) aNil)) aNil)) (fAndT (fTest (fOp gGt (fV 2) (fC (.int (0))))) (fTest (fOp gLe (fIx (fV 3) (fC (.int (0)))) (fIx (fIx (fV 0) (fOp gSub (fV 2) (fC (.int (1))))) (fC (.int (1)))))))) (sRet (fC (.bl false))) sNil))
  (sRet (fC (.bl true))))))
@[irreducible] def f_in_one_form : List D → FO := runF none 4 S_in_one_form
def S_union : Fm → SO := (sSeq (sExpr (fCall none P.f_check_spans [0] [] (aCons (fV 0) aNil) aNil))
  (sSeq (sExpr (fCall none P.f_check_ends [0] [] (aCons (fV 1) aNil) aNil))
  (sSeq (sSet 2 (fLst aNil))
  (sSeq (sFor (sSrc (fCS gSortL (fLc (sSrc (fV 0)) (pNm 5) (fNotT (fTru (fCall none P.f_is_empty [0, 1] [(.str "half")] (aCons (fV 5) (aCons (fV 1) aNil)) aNil))) (fV 5) [5]))) (pTp [(pNm 3), (pNm 4)]) (sIf (fAndT (fTru (fV 2)) (fTest (fOp gLe (fV 3) (fIx (fIx (fV 2) (fC (.int (-1)))) (fC (.int (1))))))) (sSub (fTup (aCons (fIx (fIx (fV 2) (fC (.int (-1)))) (fC (.int (0)))) (aCons (fCB gMax (aCons (fIx (fIx (fV 2) (fC (.int (-1)))) (fC (.int (1)))) (aCons (fV 4) aNil))) aNil))) 2 (fC (.int (-1)))) (sExpr (fMU 2 gAppend (aCons (fTup (aCons (fV 3) (aCons (fV 4) aNil))) aNil)))))
  (sRet (fV 2))))))
@[irreducible] def f_union : List D → FO := runF none 6 S_union
def S__law_edge : Fm → SO := (sSeq (sSet 1 (fCall (some 0) P.f__law_take [0, 1] [] (aCons (fV 0) (aCons (fC (.int (8))) aNil)) aNil))
  (sSeq (sIf (fTest (fOp gEq (fV 1) (fC (.int (0))))) (sRet (fOp gSub (fCall (some 0) P.f__law_take [0, 1] [] (aCons (fV 0) (aCons (fC (.int (2000000000000000000000000000001))) aNil)) aNil) (fC (.int (1000000000000000000000000000000))))) sNil)
  (sSeq (sIf (fTest (fOp gEq (fV 1) (fC (.int (1))))) (sRet (fOp gMul (fOp gSub (fC (.int (1000000000000000000000000000000))) (fCall (some 0) P.f__law_take [0, 1] [] (aCons (fV 0) (aCons (fC (.int (3))) aNil)) aNil)) (fOp gSub (fC (.int (1))) (fOp gMul (fC (.int (2))) (fCall (some 0) P.f__law_take [0, 1] [] (aCons (fV 0) (aCons (fC (.int (2))) aNil)) aNil))))) sNil)
  (sRet (fOp gSub (fCall (some 0) P.f__law_take [0, 1] [] (aCons (fV 0) (aCons (fC (.int (15))) aNil)) aNil) (fC (.int (7))))))))
@[irreducible] def f__law_edge : List D → FO := runF (some 0) 2 S__law_edge
def S__law_stretch : Fm → SO := (sSeq (sPar [1, 2] (aCons (fCall (some 0) P.f__law_edge [0] [] (aCons (fV 0) aNil) aNil) (aCons (fCall (some 0) P.f__law_edge [0] [] (aCons (fV 0) aNil) aNil) aNil)))
  (sSeq (sIf (fTest (fOp gEq (fCall (some 0) P.f__law_take [0, 1] [] (aCons (fV 0) (aCons (fC (.int (6))) aNil)) aNil) (fC (.int (0))))) (sSet 2 (fV 1)) sNil)
  (sSeq (sPar [3, 4] (aCons (fCB gMin (aCons (fV 1) (aCons (fV 2) aNil))) (aCons (fCB gMax (aCons (fV 1) (aCons (fV 2) aNil))) aNil)))
  (sSeq (sSet 5 (fCall (some 0) P.f__law_take [0, 1] [] (aCons (fV 0) (aCons (fC (.int (16))) aNil)) aNil))
  (sSeq (sIf (fOrT (fTest (fOp gEq (fV 5) (fC (.int (1))))) (fTest (fOp gEq (fV 5) (fC (.int (3)))))) (sSet 3 (fC (.int (-10000000000000000000000000000000)))) sNil)
  (sSeq (sIf (fOrT (fTest (fOp gEq (fV 5) (fC (.int (2))))) (fTest (fOp gEq (fV 5) (fC (.int (3)))))) (sSet 4 (fC (.int (10000000000000000000000000000000)))) sNil)
  (sRet (fTup (aCons (fV 3) (aCons (fV 4) aNil))))))))))
@[irreducible] def f__law_stretch : List D → FO := runF (some 0) 6 S__law_stretch
def S_is_moment : Fm → SO := (sRet (fAnd (fCall none P.f_is_integer [0] [] (aCons (fV 0) aNil) aNil) (fChain gLt gLt (fC (.int (-10000000000000000000000000000000))) (fV 0) (fC (.int (10000000000000000000000000000000))))))
@[irreducible] def f_is_moment : List D → FO := runF none 1 S_is_moment
def S_pair_holds : Fm → SO := (sSeq (sIf (fTest (fOp gEq (fV 2) (fC (.str "half")))) (sRet (fChain gLe gLt (fIx (fV 0) (fC (.int (0)))) (fV 1) (fIx (fV 0) (fC (.int (1)))))) sNil)
  (sRet (fChain gLe gLe (fIx (fV 0) (fC (.int (0)))) (fV 1) (fIx (fV 0) (fC (.int (1)))))))
@[irreducible] def f_pair_holds : List D → FO := runF none 3 S_pair_holds
def S_check_moment : Fm → SO := (sIf (fNotT (fTru (fCall none P.f_is_moment [0] [] (aCons (fV 0) aNil) aNil))) (sRaise "BadMoment" "moment" (fV 0)) sNil)
@[irreducible] def f_check_moment : List D → FO := runF none 1 S_check_moment
def S_holds : Fm → SO := (sSeq (sExpr (fCall none P.f_check_moment [0] [] (aCons (fV 1) aNil) aNil))
  (sSeq (sExpr (fCall none P.f_check_ends [0] [] (aCons (fV 2) aNil) aNil))
  (sRet (fCall none P.f_pair_holds [0, 1, 2] [] (aCons (fV 0) (aCons (fV 1) (aCons (fV 2) aNil))) aNil))))
@[irreducible] def f_holds : List D → FO := runF none 3 S_holds
end P

open PySem L2 DL
namespace P
theorem k_ii : kitB "int" "int" = some true := by decide +kernel
theorem k_ib : kitB "int" "bool" = some false := by decide +kernel
theorem k_tt : kitB "tuple" "tuple" = some true := by decide +kernel
theorem k_ss : kitB "str" "str" = some true := by decide +kernel
theorem is_integer_int (i : Int) : f_is_integer [.int i] = .ok (.dt (.bl true)) [] := by
  simp [runF, sRet, sSeq, sIf, sSet, sExpr, sNil, sPar, sSub, sTg, sAug, fAdd, fAnd, fOr, fIf, fChain, fOp, fUn, fTest, fTru, fNotT, fAndT, fOrT, fIx, fTup, fLst, fCB, fCS, fTupOf, fMU, aCons, aNil, fV, fC, entry, slots0, inS, Out.bind, Out.sbind, SO.bind, gets, RV.get, toD, toDs, setS, slOf, cool, DL.putS, setAll, setIx, updS, retOf, retV, bagOf, fCall, callX, callF, argDs, argD, views, ioSlot, setIo, isVw, rvNoL, noL, noLs, pickL, gNeg, gNot, gLt, gLe, gGt, gGe, gAdd, DL.gSub, gMul, gDiv, gMod, gPow, gI, gInt, gAbs, gMax, gMin, gLen, gIsi, gIs, gIsN, DL.isNon, tyOf, tru, dropS, gIx, atI, ixN, seqD, big, f_is_integer, S_is_integer, k_ii, k_ib]
theorem is_near_int (i : Int) : f_is_near [.int i] = .ok (.dt (.bl (decide (-1000000000000000000000000000000 ≤ i) && decide (i ≤ 1000000000000000000000000000000)))) [] := by
  by_cases h : -1000000000000000000000000000000 ≤ i
  · simp [runF, sRet, sSeq, sIf, sSet, sExpr, sNil, sPar, sSub, sTg, sAug, fAdd, fAnd, fOr, fIf, fChain, fOp, fUn, fTest, fTru, fNotT, fAndT, fOrT, fIx, fTup, fLst, fCB, fCS, fTupOf, fMU, aCons, aNil, fV, fC, entry, slots0, inS, Out.bind, Out.sbind, SO.bind, gets, RV.get, toD, toDs, setS, slOf, cool, DL.putS, setAll, setIx, updS, retOf, retV, bagOf, fCall, callX, callF, argDs, argD, views, ioSlot, setIo, isVw, rvNoL, noL, noLs, pickL, gNeg, gNot, gLt, gLe, gGt, gGe, gAdd, DL.gSub, gMul, gDiv, gMod, gPow, gI, gInt, gAbs, gMax, gMin, gLen, gIsi, gIs, gIsN, DL.isNon, tyOf, tru, dropS, gIx, atI, ixN, seqD, big, f_is_near, S_is_near, h]
  · simp [runF, sRet, sSeq, sIf, sSet, sExpr, sNil, sPar, sSub, sTg, sAug, fAdd, fAnd, fOr, fIf, fChain, fOp, fUn, fTest, fTru, fNotT, fAndT, fOrT, fIx, fTup, fLst, fCB, fCS, fTupOf, fMU, aCons, aNil, fV, fC, entry, slots0, inS, Out.bind, Out.sbind, SO.bind, gets, RV.get, toD, toDs, setS, slOf, cool, DL.putS, setAll, setIx, updS, retOf, retV, bagOf, fCall, callX, callF, argDs, argD, views, ioSlot, setIo, isVw, rvNoL, noL, noLs, pickL, gNeg, gNot, gLt, gLe, gGt, gGe, gAdd, DL.gSub, gMul, gDiv, gMod, gPow, gI, gInt, gAbs, gMax, gMin, gLen, gIsi, gIs, gIsN, DL.isNon, tyOf, tru, dropS, gIx, atI, ixN, seqD, big, f_is_near, S_is_near, h]
def edge (i : Int) : Bool := i == -10000000000000000000000000000000 || i == 10000000000000000000000000000000 || (decide (-1000000000000000000000000000000 ≤ i) && decide (i ≤ 1000000000000000000000000000000))
theorem deq_int (i j : Int) : deq (.int i) (.int j) = decide (i = j) := by
  show (i == j) = decide (i = j)
  by_cases h : i = j
  · subst h
    simp
  · simp [h]
theorem is_edge_int (i : Int) : f_is_edge [.int i] = .ok (.dt (.bl (edge i))) [] := by
  have e : ∀ a b : Bool, (a || b) = if a then true else b := fun a b => by cases a <;> rfl
  by_cases h1 : i = -10000000000000000000000000000000
  · subst h1
    simp [runF, sRet, sSeq, sIf, sSet, sExpr, sNil, sPar, sSub, sTg, sAug, fAdd, fAnd, fOr, fIf, fChain, fOp, fUn, fTest, fTru, fNotT, fAndT, fOrT, fIx, fTup, fLst, fCB, fCS, fTupOf, fMU, aCons, aNil, fV, fC, entry, slots0, inS, Out.bind, Out.sbind, SO.bind, gets, RV.get, toD, toDs, setS, slOf, cool, DL.putS, setAll, setIx, updS, retOf, retV, bagOf, fCall, callX, callF, argDs, argD, views, ioSlot, setIo, isVw, rvNoL, noL, noLs, pickL, gNeg, gNot, gLt, gLe, gGt, gGe, gAdd, DL.gSub, gMul, gDiv, gMod, gPow, gI, gInt, gAbs, gMax, gMin, gLen, gIsi, gIs, gIsN, DL.isNon, tyOf, tru, dropS, gIx, atI, ixN, seqD, big, f_is_edge, S_is_edge, is_integer_int, is_near_int, gIn, gInL, flat, deq_int, edge]
  · by_cases h2 : i = 10000000000000000000000000000000
    · subst h2
      simp [runF, sRet, sSeq, sIf, sSet, sExpr, sNil, sPar, sSub, sTg, sAug, fAdd, fAnd, fOr, fIf, fChain, fOp, fUn, fTest, fTru, fNotT, fAndT, fOrT, fIx, fTup, fLst, fCB, fCS, fTupOf, fMU, aCons, aNil, fV, fC, entry, slots0, inS, Out.bind, Out.sbind, SO.bind, gets, RV.get, toD, toDs, setS, slOf, cool, DL.putS, setAll, setIx, updS, retOf, retV, bagOf, fCall, callX, callF, argDs, argD, views, ioSlot, setIo, isVw, rvNoL, noL, noLs, pickL, gNeg, gNot, gLt, gLe, gGt, gGe, gAdd, DL.gSub, gMul, gDiv, gMod, gPow, gI, gInt, gAbs, gMax, gMin, gLen, gIsi, gIs, gIsN, DL.isNon, tyOf, tru, dropS, gIx, atI, ixN, seqD, big, f_is_edge, S_is_edge, is_integer_int, is_near_int, gIn, gInL, flat, deq_int, edge]
    · have h1' : ¬ -10000000000000000000000000000000 = i := fun z => h1 z.symm
      have h2' : ¬ 10000000000000000000000000000000 = i := fun z => h2 z.symm
      simp [runF, sRet, sSeq, sIf, sSet, sExpr, sNil, sPar, sSub, sTg, sAug, fAdd, fAnd, fOr, fIf, fChain, fOp, fUn, fTest, fTru, fNotT, fAndT, fOrT, fIx, fTup, fLst, fCB, fCS, fTupOf, fMU, aCons, aNil, fV, fC, entry, slots0, inS, Out.bind, Out.sbind, SO.bind, gets, RV.get, toD, toDs, setS, slOf, cool, DL.putS, setAll, setIx, updS, retOf, retV, bagOf, fCall, callX, callF, argDs, argD, views, ioSlot, setIo, isVw, rvNoL, noL, noLs, pickL, gNeg, gNot, gLt, gLe, gGt, gGe, gAdd, DL.gSub, gMul, gDiv, gMod, gPow, gI, gInt, gAbs, gMax, gMin, gLen, gIsi, gIs, gIsN, DL.isNon, tyOf, tru, dropS, gIx, atI, ixN, seqD, big, f_is_edge, S_is_edge, is_integer_int, is_near_int, gIn, gInL, flat, deq_int, edge, h1, h2, h1', h2']
theorem edge_i (i : Int) : f_is_integer [.int i] = .ok (.dt (.bl true)) [] := is_integer_int i
/-- a stretch -/
def okS (p : PP) : Bool := edge p.1 && edge p.2 && decide (-10000000000000000000000000000000 < p.2) && decide (p.1 < 10000000000000000000000000000000) && decide (p.1 ≤ p.2)
theorem deq_two : deq (.int 2) (.int 2) = true := by simp [deq_int]
theorem cq_int (i : Int) : cq (.int i) = true := by simp [cq, pl, dep]
theorem is_pair_ok (p : PP) (h1 : edge p.1 = true) (h2 : edge p.2 = true) : f_is_pair [dPair p] = .ok (.dt (.bl true)) [] := by
  simp [runF, sRet, sSeq, sIf, sSet, sExpr, sNil, sPar, sSub, sTg, sAug, fAdd, fAnd, fOr, fIf, fChain, fOp, fUn, fTest, fTru, fNotT, fAndT, fOrT, fIx, fTup, fLst, fCB, fCS, fTupOf, fMU, aCons, aNil, fV, fC, entry, slots0, inS, Out.bind, Out.sbind, SO.bind, gets, RV.get, toD, toDs, setS, slOf, cool, DL.putS, setAll, setIx, updS, retOf, retV, bagOf, fCall, callX, callF, argDs, argD, views, ioSlot, setIo, isVw, rvNoL, noL, noLs, pickL, gNeg, gNot, gLt, gLe, gGt, gGe, gAdd, DL.gSub, gMul, gDiv, gMod, gPow, gI, gInt, gAbs, gMax, gMin, gLen, gIsi, gIs, gIsN, DL.isNon, tyOf, tru, dropS, gIx, atI, ixN, seqD, big, f_is_pair, S_is_pair, dPair, k_tt, gEq, cq_int, deq_int, is_edge_int, h1, h2]
theorem is_stretch_ok (p : PP) (h : okS p = true) : f_is_stretch [dPair p] = .ok (.dt (.bl true)) [] := by
  unfold okS at h
  simp only [Bool.and_eq_true, decide_eq_true_eq] at h
  obtain ⟨⟨⟨⟨h1, h2⟩, h3⟩, h4⟩, h5⟩ := h
  have hp := is_pair_ok p h1 h2
  unfold dPair at hp
  simp [runF, sRet, sSeq, sIf, sSet, sExpr, sNil, sPar, sSub, sTg, sAug, fAdd, fAnd, fOr, fIf, fChain, fOp, fUn, fTest, fTru, fNotT, fAndT, fOrT, fIx, fTup, fLst, fCB, fCS, fTupOf, fMU, aCons, aNil, fV, fC, entry, slots0, inS, Out.bind, Out.sbind, SO.bind, gets, RV.get, toD, toDs, setS, slOf, cool, DL.putS, setAll, setIx, updS, retOf, retV, bagOf, fCall, callX, callF, argDs, argD, views, ioSlot, setIo, isVw, rvNoL, noL, noLs, pickL, gNeg, gNot, gLt, gLe, gGt, gGe, gAdd, DL.gSub, gMul, gDiv, gMod, gPow, gI, gInt, gAbs, gMax, gMin, gLen, gIsi, gIs, gIsN, DL.isNon, tyOf, tru, dropS, gIx, atI, ixN, seqD, big, f_is_stretch, S_is_stretch, dPair, hp, h3, h4, h5]
theorem deq_str (i j : Str) : deq (.str i) (.str j) = (i == j) := by
  simp [deq, py, PyData.eqv]
/-- a way to read ends -/
inductive Md where
  | half | shut
def Md.s : Md → Str
  | .half => "half"
  | .shut => "shut"
def Md.h : Md → Bool
  | .half => true
  | .shut => false
theorem is_ends_ok (m : Md) : f_is_ends [.str m.s] = .ok (.dt (.bl true)) [] := by
  have e1 : (("half" : Str) == ("half" : Str)) = true := by decide +kernel
  have e2 : (("half" : Str) == ("shut" : Str)) = false := by decide +kernel
  have e3 : (("shut" : Str) == ("shut" : Str)) = true := by decide +kernel
  cases m <;> simp [runF, sRet, sSeq, sIf, sSet, sExpr, sNil, sPar, sSub, sTg, sAug, fAdd, fAnd, fOr, fIf, fChain, fOp, fUn, fTest, fTru, fNotT, fAndT, fOrT, fIx, fTup, fLst, fCB, fCS, fTupOf, fMU, aCons, aNil, fV, fC, entry, slots0, inS, Out.bind, Out.sbind, SO.bind, gets, RV.get, toD, toDs, setS, slOf, cool, DL.putS, setAll, setIx, updS, retOf, retV, bagOf, fCall, callX, callF, argDs, argD, views, ioSlot, setIo, isVw, rvNoL, noL, noLs, pickL, gNeg, gNot, gLt, gLe, gGt, gGe, gAdd, DL.gSub, gMul, gDiv, gMod, gPow, gI, gInt, gAbs, gMax, gMin, gLen, gIsi, gIs, gIsN, DL.isNon, tyOf, tru, dropS, gIx, atI, ixN, seqD, big, f_is_ends, S_is_ends, k_ss, gIn, gInL, flat, deq_str, Md.s, e1, e2, e3]
theorem check_ends_ok (m : Md) : f_check_ends [.str m.s] = .ok (.dt .non) [] := by
  simp [runF, sRet, sSeq, sIf, sSet, sExpr, sNil, sPar, sSub, sTg, sAug, fAdd, fAnd, fOr, fIf, fChain, fOp, fUn, fTest, fTru, fNotT, fAndT, fOrT, fIx, fTup, fLst, fCB, fCS, fTupOf, fMU, aCons, aNil, fV, fC, entry, slots0, inS, Out.bind, Out.sbind, SO.bind, gets, RV.get, toD, toDs, setS, slOf, cool, DL.putS, setAll, setIx, updS, retOf, retV, bagOf, fCall, callX, callF, argDs, argD, views, ioSlot, setIo, isVw, rvNoL, noL, noLs, pickL, gNeg, gNot, gLt, gLe, gGt, gGe, gAdd, DL.gSub, gMul, gDiv, gMod, gPow, gI, gInt, gAbs, gMax, gMin, gLen, gIsi, gIs, gIsN, DL.isNon, tyOf, tru, dropS, gIx, atI, ixN, seqD, big, f_check_ends, S_check_ends, is_ends_ok]
theorem cq_md (m : Md) : cq (.str m.s) = true := by cases m <;> decide +kernel
theorem cq_half : cq (.str "half") = true := cq_md .half
theorem deq_half (m : Md) : deq (.str m.s) (.str "half") = m.h := by cases m <;> decide +kernel
theorem is_empty_ok (m : Md) (p : PP) (h : p.1 ≤ p.2) : f_is_empty [dPair p, .str m.s] = .ok (.dt (.bl (m.h && decide (p.1 = p.2)))) [] := by
  have n : ¬ p.2 < p.1 := by omega
  cases hm : m.h with
  | true => simp [runF, sRet, sSeq, sIf, sSet, sExpr, sNil, sPar, sSub, sTg, sAug, fAdd, fAnd, fOr, fIf, fChain, fOp, fUn, fTest, fTru, fNotT, fAndT, fOrT, fIx, fTup, fLst, fCB, fCS, fTupOf, fMU, aCons, aNil, fV, fC, entry, slots0, inS, Out.bind, Out.sbind, SO.bind, gets, RV.get, toD, toDs, setS, slOf, cool, DL.putS, setAll, setIx, updS, retOf, retV, bagOf, fCall, callX, callF, argDs, argD, views, ioSlot, setIo, isVw, rvNoL, noL, noLs, pickL, gNeg, gNot, gLt, gLe, gGt, gGe, gAdd, DL.gSub, gMul, gDiv, gMod, gPow, gI, gInt, gAbs, gMax, gMin, gLen, gIsi, gIs, gIsN, DL.isNon, tyOf, tru, dropS, gIx, atI, ixN, seqD, big, f_is_empty, S_is_empty, dPair, check_ends_ok, n, cq_md, cq_half, deq_half, hm, gEq, cq_int, deq_int]
  | false => simp [runF, sRet, sSeq, sIf, sSet, sExpr, sNil, sPar, sSub, sTg, sAug, fAdd, fAnd, fOr, fIf, fChain, fOp, fUn, fTest, fTru, fNotT, fAndT, fOrT, fIx, fTup, fLst, fCB, fCS, fTupOf, fMU, aCons, aNil, fV, fC, entry, slots0, inS, Out.bind, Out.sbind, SO.bind, gets, RV.get, toD, toDs, setS, slOf, cool, DL.putS, setAll, setIx, updS, retOf, retV, bagOf, fCall, callX, callF, argDs, argD, views, ioSlot, setIo, isVw, rvNoL, noL, noLs, pickL, gNeg, gNot, gLt, gLe, gGt, gGe, gAdd, DL.gSub, gMul, gDiv, gMod, gPow, gI, gInt, gAbs, gMax, gMin, gLen, gIsi, gIs, gIsN, DL.isNon, tyOf, tru, dropS, gIx, atI, ixN, seqD, big, f_is_empty, S_is_empty, dPair, check_ends_ok, n, cq_md, cq_half, deq_half, hm, gEq, cq_int, deq_int]
def slo : Option D → Sl
  | none => .un
  | some d => .dt d
abbrev dL (ps : List PP) : D := .lst (ps.map dPair)
abbrev dT (ps : List PP) : D := .tup (ps.map dPair)
theorem put2 {d : D} {a b : Option D} {x y : D} : pTp [pNm 1, pNm 2] (.tup [x, y]) [.dt d, slo a, slo b] = some [.dt d, slo (some x), slo (some y)] := by
  cases a <;> cases b <;> rfl
theorem spans_loop {R : Fm → SO} (S : Fm → SO) (hS : S = (sIf (fNotT (fTru (fCall none f_is_stretch [0] [] (aCons (fV 2) aNil) aNil))) R sNil)) (d : D) : ∀ (ps : List PP) (i : Nat) (a b : Option D), (∀ p ∈ ps, okS p = true) →
    ∃ a' b', loopD (pTp [pNm 1, pNm 2]) S (enumD i (ps.map dPair)) [.dt d, slo a, slo b] = .nx [.dt d, slo a', slo b']
  | [], i, a, b, _ => ⟨a, b, rfl⟩
  | p :: ps, i, a, b, h => by
    have hp := is_stretch_ok p (h p (.head _))
    obtain ⟨a', b', e⟩ := spans_loop S hS d ps (i + 1) (some (.int i)) (some (dPair p)) fun q hq => h q (.tail _ hq)
    refine ⟨a', b', ?_⟩
    rw [List.map_cons, enumD, loopD, put2]
    have e1 : S [.dt d, slo (some (.int i)), slo (some (dPair p))] = .nx [.dt d, slo (some (.int i)), slo (some (dPair p))] := by
      subst hS
      simp [runF, sRet, sSeq, sIf, sSet, sExpr, sNil, sPar, sSub, sTg, sAug, fAdd, fAnd, fOr, fIf, fChain, fOp, fUn, fTest, fTru, fNotT, fAndT, fOrT, fIx, fTup, fLst, fCB, fCS, fTupOf, fMU, aCons, aNil, fV, fC, entry, slots0, inS, Out.bind, Out.sbind, SO.bind, gets, RV.get, toD, toDs, setS, slOf, cool, DL.putS, setAll, setIx, updS, retOf, retV, bagOf, fCall, callX, callF, argDs, argD, views, ioSlot, setIo, isVw, rvNoL, noL, noLs, pickL, gNeg, gNot, gLt, gLe, gGt, gGe, gAdd, DL.gSub, gMul, gDiv, gMod, gPow, gI, gInt, gAbs, gMax, gMin, gLen, gIsi, gIs, gIsN, DL.isNon, tyOf, tru, dropS, gIx, atI, ixN, seqD, big, slo, hp]
    simp only [e1]
    exact e
theorem check_spans_L (ps : List PP) (h : ∀ p ∈ ps, okS p = true) : f_check_spans [dL ps] = .ok (.dt .non) [] := by
  obtain ⟨a, b, e⟩ := spans_loop _ rfl (dL ps) ps 0 none none h
  have e0 : S_check_spans [.dt (dL ps), .un, .un] = .nx [.dt (dL ps), slo a, slo b] := by
    unfold S_check_spans sFor eSrc
    simp only [fV, Out.bind, Out.sbind, RV.get, seqD, vwOf, noIo, List.all_nil, if_true, List.getElem?_cons_zero]
    have e' : lockG [] 0 [Sl.dt (dL ps), .un, .un] = [.dt (dL ps), slo none, slo none] := rfl
    rw [e', e]
    rfl
  simp [runF, sRet, sSeq, sIf, sSet, sExpr, sNil, sPar, sSub, sTg, sAug, fAdd, fAnd, fOr, fIf, fChain, fOp, fUn, fTest, fTru, fNotT, fAndT, fOrT, fIx, fTup, fLst, fCB, fCS, fTupOf, fMU, aCons, aNil, fV, fC, entry, slots0, inS, Out.bind, Out.sbind, SO.bind, gets, RV.get, toD, toDs, setS, slOf, cool, DL.putS, setAll, setIx, updS, retOf, retV, bagOf, fCall, callX, callF, argDs, argD, views, ioSlot, setIo, isVw, rvNoL, noL, noLs, pickL, gNeg, gNot, gLt, gLe, gGt, gGe, gAdd, DL.gSub, gMul, gDiv, gMod, gPow, gI, gInt, gAbs, gMax, gMin, gLen, gIsi, gIs, gIsN, DL.isNon, tyOf, tru, dropS, gIx, atI, ixN, seqD, big, f_check_spans, e0]
structure Bg where
  a : Int
  b : Int
  c : Int
  k : Int
def Bg.d (x : Bg) : List D := [.int x.a, .int x.b, .int x.c, .int x.k]
structure Bg.Ok (x : Bg) (n : Int) : Prop where
  a0 : 0 ≤ x.a
  b0 : 0 ≤ x.b
  b1 : x.b < 2305843009213693951
  c0 : 0 ≤ x.c
  c1 : x.c < 1000000000
  k0 : 0 ≤ x.k
  k1 : x.k ≤ n
theorem Bg.Ok.up {x : Bg} {n m : Int} (h : x.Ok n) (q : n ≤ m) : x.Ok m := ⟨h.a0, h.b0, h.b1, h.c0, h.c1, h.k0, Int.le_trans h.k1 q⟩
theorem nat_lt {i : Int} {n : Nat} (h0 : 0 ≤ i) (h : i < n) : i.natAbs < n := by omega
theorem take_ok {x : Bg} {n m : Int} (h : x.Ok n) (hn : n < 100000) (h0 : 0 < m) (h1 : m < 1000000000000000000000000000000000000000000000000000000000000) :
    ∃ (v : Int) (y : Bg), f__law_take [.lst x.d, .int m] = .ok (.dt (.int v)) y.d ∧ 0 ≤ v ∧ v < m ∧ y.Ok (n + 1) := by
  have hm : m.natAbs < 2 ^ 250 := by
    have : (1000000000000000000000000000000000000000000000000000000000000 : Nat) < 2 ^ 250 := by decide
    omega
  obtain ⟨a, b, c, k⟩ := x
  by_cases ha : 0 < a
  · refine ⟨a % m, ⟨a / m, b, c, k⟩, ?_, Int.emod_nonneg _ (by omega), Int.emod_lt_of_pos _ h0, ?_⟩
    · simp [runF, sRet, sSeq, sIf, sSet, sExpr, sNil, sPar, sSub, sTg, sAug, fAdd, fAnd, fOr, fIf, fChain, fOp, fUn, fTest, fTru, fNotT, fAndT, fOrT, fIx, fTup, fLst, fCB, fCS, fTupOf, fMU, aCons, aNil, fV, fC, entry, slots0, inS, Out.bind, Out.sbind, SO.bind, gets, RV.get, toD, toDs, setS, slOf, cool, DL.putS, setAll, setIx, updS, retOf, retV, bagOf, fCall, callX, callF, argDs, argD, views, ioSlot, setIo, isVw, rvNoL, noL, noLs, pickL, gNeg, gNot, gLt, gLe, gGt, gGe, gAdd, DL.gSub, gMul, gDiv, gMod, gPow, gI, gInt, gAbs, gMax, gMin, gLen, gIsi, gIs, gIsN, DL.isNon, tyOf, tru, dropS, gIx, atI, ixN, seqD, big, f__law_take, S__law_take, Bg.d, ha, h0, hm]
    · exact ⟨Int.ediv_nonneg h.a0 (by omega), h.b0, h.b1, h.c0, h.c1, h.k0, by have := h.k1; simp at this ⊢; omega⟩
  · have e1 : (b + 7368787 * (k + 1) + c).natAbs < 2 ^ 64 := by
      have := h.b0; have := h.b1; have := h.c0; have := h.c1; have := h.k0; have := h.k1
      simp at *
      omega
    generalize hu : (b + 7368787 * (k + 1) + c) ^ 2 % 2305843009213693921 = u
    have u0 : 0 ≤ u := by rw [← hu]; exact Int.emod_nonneg _ (by decide)
    have u1 : u < 2305843009213693921 := by rw [← hu]; exact Int.emod_lt_of_pos _ (by decide)
    have e2 : (u + 32452867 * (k + 1)).natAbs < 2 ^ 64 := by
      have := h.k0; have := h.k1
      simp at *
      omega
    generalize hw : (u + 32452867 * (k + 1)) ^ 3 % 2305843009213693951 = w
    have w0 : 0 ≤ w := by rw [← hw]; exact Int.emod_nonneg _ (by decide)
    have w1 : w < 2305843009213693951 := by rw [← hw]; exact Int.emod_lt_of_pos _ (by decide)
    have e3 : (w + 1000003).natAbs < 2 ^ 64 := by omega
    have e4 : (k + 1).natAbs < 2 ^ 250 := by
      have := h.k0; have := h.k1
      simp at *
      omega
    have okk : (Bg.mk a b c (k + 1)).Ok (n + 1) := ⟨h.a0, h.b0, h.b1, h.c0, h.c1, by have := h.k0; simp at this ⊢; omega, by have := h.k1; simp at this ⊢; omega⟩
    by_cases hb : 1000000000000 < m
    · refine ⟨(w + 1000003) ^ 5 % 100000000000000000000000000000000000000000000000 / 4096 % m, ⟨a, b, c, k + 1⟩, ?_, Int.emod_nonneg _ (by omega), Int.emod_lt_of_pos _ h0, okk⟩
      simp [runF, sRet, sSeq, sIf, sSet, sExpr, sNil, sPar, sSub, sTg, sAug, fAdd, fAnd, fOr, fIf, fChain, fOp, fUn, fTest, fTru, fNotT, fAndT, fOrT, fIx, fTup, fLst, fCB, fCS, fTupOf, fMU, aCons, aNil, fV, fC, entry, slots0, inS, Out.bind, Out.sbind, SO.bind, gets, RV.get, toD, toDs, setS, slOf, cool, DL.putS, setAll, setIx, updS, retOf, retV, bagOf, fCall, callX, callF, argDs, argD, views, ioSlot, setIo, isVw, rvNoL, noL, noLs, pickL, gNeg, gNot, gLt, gLe, gGt, gGe, gAdd, DL.gSub, gMul, gDiv, gMod, gPow, gI, gInt, gAbs, gMax, gMin, gLen, gIsi, gIs, gIsN, DL.isNon, tyOf, tru, dropS, gIx, atI, ixN, seqD, big, f__law_take, S__law_take, Bg.d, ha, h0, hm, e1, hu, e2, hw, e3, e4, hb]
    · refine ⟨w / 4096 % m, ⟨a, b, c, k + 1⟩, ?_, Int.emod_nonneg _ (by omega), Int.emod_lt_of_pos _ h0, okk⟩
      simp [runF, sRet, sSeq, sIf, sSet, sExpr, sNil, sPar, sSub, sTg, sAug, fAdd, fAnd, fOr, fIf, fChain, fOp, fUn, fTest, fTru, fNotT, fAndT, fOrT, fIx, fTup, fLst, fCB, fCS, fTupOf, fMU, aCons, aNil, fV, fC, entry, slots0, inS, Out.bind, Out.sbind, SO.bind, gets, RV.get, toD, toDs, setS, slOf, cool, DL.putS, setAll, setIx, updS, retOf, retV, bagOf, fCall, callX, callF, argDs, argD, views, ioSlot, setIo, isVw, rvNoL, noL, noLs, pickL, gNeg, gNot, gLt, gLe, gGt, gGe, gAdd, DL.gSub, gMul, gDiv, gMod, gPow, gI, gInt, gAbs, gMax, gMin, gLen, gIsi, gIs, gIsN, DL.isNon, tyOf, tru, dropS, gIx, atI, ixN, seqD, big, f__law_take, S__law_take, Bg.d, ha, h0, hm, e1, hu, e2, hw, e3, e4, hb]
def tkC (m : Int) : Fm → Out RV := fCall (some 0) f__law_take [0, 1] [] (aCons (fV 0) (aCons (fC (.int m)) aNil)) aNil
def tkV (i : Nat) : Fm → Out RV := fCall (some 0) f__law_take [0, 1] [] (aCons (fV 0) (aCons (fV i) aNil)) aNil
def tkE (b e : Int) : Fm → Out RV := fCall (some 0) f__law_take [0, 1] [] (aCons (fV 0) (aCons (fOp gPow (fC (.int b)) (fC (.int e))) aNil)) aNil
def tkL (i : Nat) : Fm → Out RV := fCall (some 0) f__law_take [0, 1] [] (aCons (fV 0) (aCons (fOp gSub (fCB gLen (aCons (fV i) aNil)) (fC (.int 1))) aNil)) aNil
abbrev Big60 (m : Int) : Prop := 0 < m ∧ m < 1000000000000000000000000000000000000000000000000000000000000
theorem noLs_bg (y : Bg) : noLs y.d = true := rfl
theorem tkC_ok {x : Bg} {n m : Int} (h : x.Ok n) (hn : n < 100000) (hm : Big60 m) : ∃ (v : Int) (y : Bg), (∀ ρ' : Fm, tkC m (.ow 1 x.d :: ρ') = .ok (.dt (.int v)) (.ow 1 y.d :: ρ')) ∧ 0 ≤ v ∧ v < m ∧ y.Ok (n + 1) := by
  obtain ⟨v, y, e, h1, h2, h3⟩ := take_ok h hn hm.1 hm.2
  refine ⟨v, y, fun ρ' => ?_, h1, h2, h3⟩
  simp [runF, sRet, sSeq, sIf, sSet, sExpr, sNil, sPar, sSub, sTg, sAug, fAdd, fAnd, fOr, fIf, fChain, fOp, fUn, fTest, fTru, fNotT, fAndT, fOrT, fIx, fTup, fLst, fCB, fCS, fTupOf, fMU, aCons, aNil, fV, fC, entry, slots0, inS, Out.bind, Out.sbind, SO.bind, gets, RV.get, toD, toDs, setS, slOf, cool, DL.putS, setAll, setIx, updS, retOf, retV, bagOf, fCall, callX, callF, argDs, argD, views, ioSlot, setIo, isVw, rvNoL, noL, noLs, pickL, gNeg, gNot, gLt, gLe, gGt, gGe, gAdd, DL.gSub, gMul, gDiv, gMod, gPow, gI, gInt, gAbs, gMax, gMin, gLen, gIsi, gIs, gIsN, DL.isNon, tyOf, tru, dropS, gIx, atI, ixN, seqD, big, tkC, e, noLs_bg]
theorem tkV_ok {x : Bg} {n m : Int} {i : Nat} (h : x.Ok n) (hn : n < 100000) (hm : Big60 m) : ∃ (v : Int) (y : Bg), (∀ ρ' : Fm, ρ'[i]? = some (.dt (.int m)) → tkV (i + 1) (.ow 1 x.d :: ρ') = .ok (.dt (.int v)) (.ow 1 y.d :: ρ')) ∧ 0 ≤ v ∧ v < m ∧ y.Ok (n + 1) := by
  obtain ⟨v, y, e, h1, h2, h3⟩ := take_ok h hn hm.1 hm.2
  refine ⟨v, y, fun ρ' hi => ?_, h1, h2, h3⟩
  simp [runF, sRet, sSeq, sIf, sSet, sExpr, sNil, sPar, sSub, sTg, sAug, fAdd, fAnd, fOr, fIf, fChain, fOp, fUn, fTest, fTru, fNotT, fAndT, fOrT, fIx, fTup, fLst, fCB, fCS, fTupOf, fMU, aCons, aNil, fV, fC, entry, slots0, inS, Out.bind, Out.sbind, SO.bind, gets, RV.get, toD, toDs, setS, slOf, cool, DL.putS, setAll, setIx, updS, retOf, retV, bagOf, fCall, callX, callF, argDs, argD, views, ioSlot, setIo, isVw, rvNoL, noL, noLs, pickL, gNeg, gNot, gLt, gLe, gGt, gGe, gAdd, DL.gSub, gMul, gDiv, gMod, gPow, gI, gInt, gAbs, gMax, gMin, gLen, gIsi, gIs, gIsN, DL.isNon, tyOf, tru, dropS, gIx, atI, ixN, seqD, big, tkV, e, noLs_bg, hi]
theorem tkE_ok {x : Bg} {n b e : Int} (h : x.Ok n) (hn : n < 100000) (hb : gPow (.int b) (.int e) = some (.int (b ^ e.toNat))) (hm : Big60 (b ^ e.toNat)) : ∃ (v : Int) (y : Bg), (∀ ρ' : Fm, tkE b e (.ow 1 x.d :: ρ') = .ok (.dt (.int v)) (.ow 1 y.d :: ρ')) ∧ 0 ≤ v ∧ v < b ^ e.toNat ∧ y.Ok (n + 1) := by
  obtain ⟨v, y, e', h1, h2, h3⟩ := take_ok h hn hm.1 hm.2
  refine ⟨v, y, fun ρ' => ?_, h1, h2, h3⟩
  have hb2 : (fOp gPow (fC (.int b)) (fC (.int e))) (.ow 1 x.d :: ρ') = .ok (.dt (.int (b ^ e.toNat))) (.ow 1 x.d :: ρ') := by
    simp [fOp, fC, Out.bind, RV.get, hb]
  simp [tkE, fCall, aCons, hb2, aNil, fV, Out.bind, callX, callF, argDs, argD, views, ioSlot, setIo, RV.get, pickL, e', isVw, noLs_bg]
theorem tkL_ok {x : Bg} {n : Int} {i k : Nat} {ds : List D} (h : x.Ok n) (hn : n < 100000) (hm : Big60 ((ds.length : Int) - 1)) : ∃ (v : Int) (y : Bg), (∀ ρ' : Fm, ρ'[i]? = some (.ow k ds) → tkL (i + 1) (.ow 1 x.d :: ρ') = .ok (.dt (.int v)) (.ow 1 y.d :: ρ')) ∧ 0 ≤ v ∧ v < (ds.length : Int) - 1 ∧ y.Ok (n + 1) := by
  obtain ⟨v, y, e, h1, h2, h3⟩ := take_ok h hn hm.1 hm.2
  refine ⟨v, y, fun ρ' hi => ?_, h1, h2, h3⟩
  simp [runF, sRet, sSeq, sIf, sSet, sExpr, sNil, sPar, sSub, sTg, sAug, fAdd, fAnd, fOr, fIf, fChain, fOp, fUn, fTest, fTru, fNotT, fAndT, fOrT, fIx, fTup, fLst, fCB, fCS, fTupOf, fMU, aCons, aNil, fV, fC, entry, slots0, inS, Out.bind, Out.sbind, SO.bind, gets, RV.get, toD, toDs, setS, slOf, cool, DL.putS, setAll, setIx, updS, retOf, retV, bagOf, fCall, callX, callF, argDs, argD, views, ioSlot, setIo, isVw, rvNoL, noL, noLs, pickL, gNeg, gNot, gLt, gLe, gGt, gGe, gAdd, DL.gSub, gMul, gDiv, gMod, gPow, gI, gInt, gAbs, gMax, gMin, gLen, gIsi, gIs, gIsN, DL.isNon, tyOf, tru, dropS, gIx, atI, ixN, seqD, big, tkL, e, noLs_bg, hi]
theorem slo_some (d : D) : slo (some d) = .dt d := rfl
def okPut : Option Sl → Bool
  | some .un => true
  | some (.dt _) => true
  | some (.ow 0 _) => true
  | _ => false
theorem putS_ok {i : Nat} {s : Sl} {ρ : Fm} (h : okPut ρ[i]? = true) : DL.putS i s ρ = some (ρ.set i s) := by
  unfold DL.putS
  cases q : ρ[i]? with
  | none => rw [q] at h; cases h
  | some t =>
    rw [q] at h
    cases t with
    | ow k ds => cases k with
      | zero => rfl
      | succ k => cases h
    | ex => cases h
    | nw => cases h
    | un => rfl
    | dt => rfl
theorem okPut_un : okPut (some .un) = true := rfl
theorem okPut_dt (d : D) : okPut (some (.dt d)) = true := rfl
theorem okPut_ow (d : List D) : okPut (some (.ow 0 d)) = true := rfl
theorem okPut_slo (o : Option D) : okPut (some (slo o)) = true := by cases o <;> rfl
theorem lockG_nil : ∀ {j : Nat} {ρ : Fm}, lockG [] j ρ = ρ
  | _, [] => rfl
  | j, s :: ρ => by
    rw [lockG, lockG_nil]
    rfl
theorem reK_nil : ∀ {j : Nat} {ρ0 ρ : Fm}, reK [] j ρ0 ρ = ρ
  | _, [], _ => rfl
  | _, _ :: _, [] => rfl
  | j, s0 :: ρ0, s :: ρ => by
    rw [reK, reK_nil]
    rfl
theorem unlk_nil {ρ0 : Fm} {o : SO} : unlk (reK [] 0 ρ0) o = o := by cases o <;> simp [unlk, reK_nil]
theorem deq_pair (p q : PP) : deq (dPair p) (dPair q) = decide (p = q) := by
  obtain ⟨a, b⟩ := p
  obtain ⟨c, d⟩ := q
  have : deq (dPair (a, b)) (dPair (c, d)) = ((a == c) && ((b == d) && true)) := rfl
  rw [this]
  by_cases h1 : a = c <;> by_cases h2 : b = d <;> simp [h1, h2]
theorem deq_list : ∀ ps qs : List PP, deq (dL ps) (dL qs) = decide (ps = qs)
  | [], [] => rfl
  | [], q :: qs => rfl
  | p :: ps, [] => rfl
  | p :: ps, q :: qs => by
    have e : deq (dL (p :: ps)) (dL (q :: qs)) = (deq (dPair p) (dPair q) && deq (dL ps) (dL qs)) := rfl
    rw [e, deq_pair, deq_list ps qs]
    by_cases h1 : p = q <;> by_cases h2 : ps = qs <;> simp [h1, h2]
theorem plL_pairs : ∀ ps : List PP, plL (ps.map dPair) = true
  | [] => rfl
  | p :: ps => by
    show (pl (dPair p) && plL (ps.map dPair)) = true
    rw [plL_pairs ps]
    rfl
theorem depL_pairs : ∀ ps : List PP, depL (ps.map dPair) ≤ 1
  | [] => by decide
  | p :: ps => by
    show max (dep (dPair p)) (depL (ps.map dPair)) ≤ 1
    have := depL_pairs ps
    have e : dep (dPair p) = 1 := rfl
    omega
theorem cq_dL (ps : List PP) : cq (dL ps) = true := by
  unfold cq
  have e1 : pl (dL ps) = plL (ps.map dPair) := rfl
  have e2 : dep (dL ps) = depL (ps.map dPair) + 1 := rfl
  have := depL_pairs ps
  rw [e1, plL_pairs, e2]
  simp
  omega
theorem noLs_pairs : ∀ ps : List PP, noLs (ps.map dPair) = true
  | [] => rfl
  | p :: ps => by
    show (noL (dPair p) && noLs (ps.map dPair)) = true
    rw [noLs_pairs ps]
    rfl
theorem gNe_cons (p : PP) (r : List PP) : gNe (.lst (.tup [.int p.1, .int p.2] :: r.map dPair)) (.lst []) = some (.bl true) := by
  have e : cq (.lst (.tup [.int p.1, .int p.2] :: r.map dPair)) = true := cq_dL (p :: r)
  have e2 : cq (.lst []) = true := rfl
  unfold gNe
  rw [e, e2]
  rfl
theorem gNe_nil : gNe (.lst []) (.lst []) = some (.bl false) := rfl
theorem gIx_0 (p : PP) : gIx (dPair p) (.int 0) = some (.int p.1) := rfl
theorem gIx_1 (p : PP) : gIx (dPair p) (.int 1) = some (.int p.2) := rfl
theorem atI_snoc {α : Type} (xs : List α) (x : α) : atI (xs ++ [x]) (-1) = some x := atI_last xs x
theorem gIx_at {ps : List PP} {k : Int} {p : PP} (h0 : 0 ≤ k) (h : ps[k.toNat]? = some p) : gIx (.lst (ps.map dPair)) (.int k) = some (dPair p) := by
  show atI (ps.map dPair) k = _
  have hl : k.toNat < ps.length := (List.getElem?_eq_some_iff.mp h).1
  have e : ixN (ps.map dPair).length k = some k.toNat := by
    unfold ixN
    rw [if_pos h0, if_pos (by rw [List.length_map]; omega)]
  unfold atI
  rw [e]
  show (ps.map dPair)[k.toNat]? = _
  rw [List.getElem?_map, h]
  rfl
theorem mem_set_or {α : Type} {p q : α} : ∀ {l : List α} {i : Nat}, p ∈ l.set i q → p = q ∨ p ∈ l
  | [], _, h => by cases h
  | a :: l, 0, h => by
    rcases List.mem_cons.mp h with z | z
    · exact .inl z
    · exact .inr (.tail _ z)
  | a :: l, i + 1, h => by
    rcases List.mem_cons.mp h with z | z
    · exact .inr (by rw [z]; exact .head _)
    · exact (mem_set_or z).imp id fun y => .tail _ y
def B1 : Fm → SO := (sIf (fOrT (fTru (fCall none f_is_empty [0, 1] [(.str "half")] (aCons (fV 3) (aCons (fV 1) aNil)) aNil)) (fAndT (fTest (fOp gGt (fV 2) (fC (.int (0))))) (fTest (fOp gLe (fIx (fV 3) (fC (.int (0)))) (fIx (fIx (fV 0) (fOp gSub (fV 2) (fC (.int (1))))) (fC (.int (1)))))))) (sRet (fC (.bl false))) sNil)
theorem S_iof : S_in_one_form = (sSeq (sExpr (fCall none f_check_spans [0] [] (aCons (fV 0) aNil) aNil))
  (sSeq (sExpr (fCall none f_check_ends [0] [] (aCons (fV 1) aNil) aNil))
  (sSeq (sFor (eSrc (fV 0)) (pTp [(pNm 2), (pNm 3)]) B1)
  (sRet (fC (.bl true)))))) := rfl
/-- the list or the tuple of these stretches -/
structure Sq (d : D) (all : List PP) : Prop where
  seq : seqD d = some (all.map dPair)
  ix : ∀ (k : Nat) (p : PP), all[k]? = some p → gIx d (.int k) = some (dPair p)
  nl : True
theorem sq_L (all : List PP) : Sq (dL all) all := ⟨rfl, fun k p h => gIx_at (by omega) (by simpa using h), trivial⟩
theorem sq_T (all : List PP) : Sq (dT all) all := ⟨rfl, fun k p h => gIx_at (ps := all) (by omega) (by simpa using h), trivial⟩
def cond (all : List PP) (m : Md) (i : Nat) (p : PP) : Bool := (m.h && decide (p.1 = p.2)) || (match i with
  | 0 => false
  | j + 1 => match all[j]? with
    | some q => decide (p.1 ≤ q.2)
    | none => false)
def dueB (all : List PP) (m : Md) : Nat → List PP → Bool
  | _, [] => true
  | i, p :: r => if cond all m i p then false else dueB all m (i + 1) r
def due (m : Md) (all : List PP) : Bool := dueB all m 0 all
abbrev FD (d : D) (m : Md) (a b : Option D) : Fm := [.dt d, .dt (.str m.s), slo a, slo b]
def StepB (S : Fm → SO) (d : D) (m : Md) (all : List PP) : Prop := ∀ (i : Nat) (p : PP), all[i]? = some p → p.1 ≤ p.2 →
  S (FD d m (some (.int i)) (some (dPair p))) = if cond all m i p then .rt (.dt (.bl false)) (FD d m (some (.int i)) (some (dPair p))) else .nx (FD d m (some (.int i)) (some (dPair p)))
theorem put23 {d : D} {m : Md} {a b : Option D} {x y : D} : pTp [pNm 2, pNm 3] (.tup [x, y]) (FD d m a b) = some (FD d m (some x) (some y)) := by
  cases a <;> cases b <;> rfl
theorem due_loop {S : Fm → SO} {d : D} {m : Md} {all : List PP} (hS : StepB S d m all) (hv : ∀ p ∈ all, p.1 ≤ p.2) : ∀ (rest : List PP) (i : Nat) (a b : Option D), (∀ (j : Nat) p, rest[j]? = some p → all[i + j]? = some p) →
    ∃ a' b', loopD (pTp [pNm 2, pNm 3]) S (enumD i (rest.map dPair)) (FD d m a b) = if dueB all m i rest then .nx (FD d m a' b') else .rt (.dt (.bl false)) (FD d m a' b')
  | [], i, a, b, _ => ⟨a, b, rfl⟩
  | p :: r, i, a, b, h => by
    have hp : all[i]? = some p := h 0 p rfl
    have le := hv p (List.mem_of_getElem? hp)
    have st := hS i p hp le
    rw [List.map_cons, enumD]
    unfold loopD dueB
    rw [put23]
    dsimp only
    rw [st]
    by_cases hc : cond all m i p = true
    · rw [if_pos hc, if_pos hc]
      exact ⟨_, _, rfl⟩
    · rw [if_neg hc, if_neg hc]
      exact due_loop hS hv r (i + 1) _ _ fun j q e => by
        have := h (j + 1) q (by simpa using e)
        rw [show i + 1 + j = i + (j + 1) by omega]
        exact this
theorem is_empty_ok' (m : Md) (p : PP) (h : p.1 ≤ p.2) : f_is_empty [.tup [.int p.1, .int p.2], .str m.s] = .ok (.dt (.bl (m.h && decide (p.1 = p.2)))) [] := is_empty_ok m p h
theorem step1 {d : D} {m : Md} {all : List PP} (q : Sq d all) : StepB B1 d m all := fun i p hp le => by
  unfold FD
  simp only [slo_some]
  cases i with
  | zero =>
    cases hc : (m.h && decide (p.1 = p.2)) with
    | true =>
      have e := is_empty_ok' m p le
      rw [hc] at e
      simp [runF, sRet, sSeq, sIf, sSet, sExpr, sNil, sPar, sSub, sTg, sAug, fAdd, fAnd, fOr, fIf, fChain, fOp, fUn, fTest, fTru, fNotT, fAndT, fOrT, fIx, fTup, fLst, fCB, fCS, fTupOf, fMU, aCons, aNil, fV, fC, entry, slots0, inS, Out.bind, Out.sbind, SO.bind, gets, RV.get, toD, toDs, setS, slOf, cool, DL.putS, setAll, setIx, updS, retOf, retV, bagOf, fCall, callX, callF, argDs, argD, views, ioSlot, setIo, isVw, rvNoL, noL, noLs, pickL, gNeg, gNot, gLt, gLe, gGt, gGe, gAdd, DL.gSub, gMul, gDiv, gMod, gPow, gI, gInt, gAbs, gMax, gMin, gLen, gIsi, gIs, gIsN, DL.isNon, tyOf, tru, dropS, gIx, atI, ixN, seqD, big, B1, dPair, e, cond, hc]
    | false =>
      have e := is_empty_ok' m p le
      rw [hc] at e
      simp [runF, sRet, sSeq, sIf, sSet, sExpr, sNil, sPar, sSub, sTg, sAug, fAdd, fAnd, fOr, fIf, fChain, fOp, fUn, fTest, fTru, fNotT, fAndT, fOrT, fIx, fTup, fLst, fCB, fCS, fTupOf, fMU, aCons, aNil, fV, fC, entry, slots0, inS, Out.bind, Out.sbind, SO.bind, gets, RV.get, toD, toDs, setS, slOf, cool, DL.putS, setAll, setIx, updS, retOf, retV, bagOf, fCall, callX, callF, argDs, argD, views, ioSlot, setIo, isVw, rvNoL, noL, noLs, pickL, gNeg, gNot, gLt, gLe, gGt, gGe, gAdd, DL.gSub, gMul, gDiv, gMod, gPow, gI, gInt, gAbs, gMax, gMin, gLen, gIsi, gIs, gIsN, DL.isNon, tyOf, tru, dropS, gIx, atI, ixN, seqD, big, B1, dPair, e, cond, hc]
  | succ j =>
    have hj : j < all.length := by
      have := (List.getElem?_eq_some_iff.mp hp).1
      omega
    have g := q.ix j _ (List.getElem?_eq_getElem hj)
    have e := is_empty_ok' m p le
    have e1 : (j : Int) + 1 - 1 = j := by omega
    generalize hq : all[j] = r at g
    have cq' : cond all m (j + 1) p = ((m.h && decide (p.1 = p.2)) || decide (p.1 ≤ r.2)) := by
      have e9 : all[j]? = some r := by rw [List.getElem?_eq_getElem hj, hq]
      show (_ || (match all[j]? with | some q => decide (p.1 ≤ q.2) | none => false)) = _
      rw [e9]
    have pos : (0 : Int) < (j : Int) + 1 := by omega
    have e := is_empty_ok m p le
    have es : (B1 [Sl.dt d, Sl.dt (D.str m.s), Sl.dt (D.int ((j + 1 : Nat) : Int)), Sl.dt (dPair p)]) = if ((m.h && decide (p.1 = p.2)) || decide (p.1 ≤ r.2)) = true then .rt (.dt (.bl false)) [Sl.dt d, Sl.dt (D.str m.s), Sl.dt (D.int ((j + 1 : Nat) : Int)), Sl.dt (dPair p)] else .nx [Sl.dt d, Sl.dt (D.str m.s), Sl.dt (D.int ((j + 1 : Nat) : Int)), Sl.dt (dPair p)] := by
      cases hc : (m.h && decide (p.1 = p.2)) with
      | true =>
        rw [hc] at e
        simp [B1, sIf, fOrT, fAndT, fTru, fTest, fCall, callX, callF, argDs, argD, views, ioSlot, setIo, aCons, aNil, fV, fC, Out.bind, Out.sbind, RV.get, pickL, e, isVw, noLs, noL, tru, sRet]
      | false =>
        rw [hc] at e
        by_cases hl : p.1 ≤ r.2
        · simp [B1, sIf, fOrT, fAndT, fTru, fTest, fCall, callX, callF, argDs, argD, views, ioSlot, setIo, aCons, aNil, fV, fC, Out.bind, Out.sbind, RV.get, pickL, e, isVw, noLs, noL, tru, fOp, gGt, gI, pos, gLe, fIx, gIx_0, DL.gSub, e1, g, gIx_1, hl, sRet]
        · simp [B1, sIf, fOrT, fAndT, fTru, fTest, fCall, callX, callF, argDs, argD, views, ioSlot, setIo, aCons, aNil, fV, fC, Out.bind, Out.sbind, RV.get, pickL, e, isVw, noLs, noL, tru, fOp, gGt, gI, pos, gLe, fIx, gIx_0, DL.gSub, e1, g, gIx_1, hl, sNil]
    rw [cq']
    exact es
theorem gEq_self (i : Int) : gEq (.int i) (.int i) = some (.bl true) := by
  unfold gEq
  rw [cq_int, deq_int]
  simp
theorem for_due {S : Fm → SO} {d : D} {m : Md} {all : List PP} (q : Sq d all) (hS : StepB S d m all) (hv : ∀ p ∈ all, p.1 ≤ p.2) : ∃ a' b', sFor (eSrc (fV 0)) (pTp [pNm 2, pNm 3]) S [.dt d, .dt (.str m.s), .un, .un] = if due m all then .nx (FD d m a' b') else .rt (.dt (.bl false)) (FD d m a' b') := by
  obtain ⟨a, b, e⟩ := due_loop hS hv all 0 none none fun j p h => by
    rw [Nat.zero_add]
    exact h
  have e' : loopD (pTp [pNm 2, pNm 3]) S (enumD 0 (all.map dPair)) [.dt d, .dt (.str m.s), .un, .un] = _ := e
  refine ⟨a, b, ?_⟩
  unfold sFor eSrc
  simp only [fV, Out.bind, Out.sbind, List.getElem?_cons_zero, RV.get, q.seq, vwOf, noIo, List.all_nil, if_true, unlk_nil, lockG_nil]
  exact e'
theorem okS_le {p : PP} (h : okS p = true) : p.1 ≤ p.2 := by
  unfold okS at h
  simp only [Bool.and_eq_true, decide_eq_true_eq] at h
  exact h.2
theorem check_spans_ok {d : D} {all : List PP} (q : Sq d all) (h : ∀ p ∈ all, okS p = true) : f_check_spans [d] = .ok (.dt .non) [] := by
  obtain ⟨a, b, e⟩ := spans_loop _ rfl d all 0 none none h
  have e0 : S_check_spans [.dt d, .un, .un] = .nx [.dt d, slo a, slo b] := by
    unfold S_check_spans sFor eSrc
    simp only [fV, Out.bind, Out.sbind, RV.get, q.seq, vwOf, noIo, List.all_nil, if_true, List.getElem?_cons_zero, unlk_nil, lockG_nil]
    exact e
  simp [runF, sRet, sSeq, sIf, sSet, sExpr, sNil, sPar, sSub, sTg, sAug, fAdd, fAnd, fOr, fIf, fChain, fOp, fUn, fTest, fTru, fNotT, fAndT, fOrT, fIx, fTup, fLst, fCB, fCS, fTupOf, fMU, aCons, aNil, fV, fC, entry, slots0, inS, Out.bind, Out.sbind, SO.bind, gets, RV.get, toD, toDs, setS, slOf, cool, DL.putS, setAll, setIx, updS, retOf, retV, bagOf, fCall, callX, callF, argDs, argD, views, ioSlot, setIo, isVw, rvNoL, noL, noLs, pickL, gNeg, gNot, gLt, gLe, gGt, gGe, gAdd, DL.gSub, gMul, gDiv, gMod, gPow, gI, gInt, gAbs, gMax, gMin, gLen, gIsi, gIs, gIsN, DL.isNon, tyOf, tru, dropS, gIx, atI, ixN, seqD, big, f_check_spans, e0]
theorem iof_ok {d : D} {all : List PP} (m : Md) (q : Sq d all) (hv : ∀ p ∈ all, okS p = true) : f_in_one_form [d, .str m.s] = .ok (.dt (.bl (due m all))) [] := by
  obtain ⟨a, b, e⟩ := for_due q (step1 (m := m) q) fun p hp => okS_le (hv p hp)
  have c1 := check_spans_ok q hv
  have c2 := check_ends_ok m
  unfold f_in_one_form runF
  rw [S_iof, show entry none 4 [d, .str m.s] = [.dt d, .dt (.str m.s), .un, .un] from rfl]
  cases hd : due m all with
  | true =>
    rw [hd, if_pos rfl] at e
    simp [sSeq, sExpr, fCall, callX, callF, argDs, argD, views, ioSlot, setIo, aCons, aNil, fV, fC, Out.bind, Out.sbind, RV.get, pickL, c1, c2, isVw, noLs, noL, SO.bind, e, sRet, retOf, bagOf]
  | false =>
    rw [hd, if_neg Bool.false_ne_true] at e
    simp [sSeq, sExpr, fCall, callX, callF, argDs, argD, views, ioSlot, setIo, aCons, aNil, fV, fC, Out.bind, Out.sbind, RV.get, pickL, c1, c2, isVw, noLs, noL, SO.bind, e, retOf, bagOf]
def BU : Fm → SO := (sIf (fAndT (fTru (fV 2)) (fTest (fOp gLe (fV 3) (fIx (fIx (fV 2) (fUn gNeg (fC (.int (1))))) (fC (.int (1))))))) (sSub (fTup (aCons (fIx (fIx (fV 2) (fUn gNeg (fC (.int (1))))) (fC (.int (0)))) (aCons (fCB gMax (aCons (fIx (fIx (fV 2) (fUn gNeg (fC (.int (1))))) (fC (.int (1)))) (aCons (fV 4) aNil))) aNil))) 2 (fUn gNeg (fC (.int (1))))) (sExpr (fMU 2 gAppend (aCons (fTup (aCons (fV 3) (aCons (fV 4) aNil))) aNil))))
def CU : Fm → Out Bool := (fNotT (fTru (fCall none f_is_empty [0, 1] [(.str "half")] (aCons (fV 5) (aCons (fV 1) aNil)) aNil)))
theorem S_uni : S_union = (sSeq (sExpr (fCall none f_check_spans [0] [] (aCons (fV 0) aNil) aNil))
  (sSeq (sExpr (fCall none f_check_ends [0] [] (aCons (fV 1) aNil) aNil))
  (sSeq (sSet 2 (fLst aNil))
  (sSeq (sFor (sSrc (fCS gSortL (fLc (sSrc (fV 0)) (pNm 5) CU (fV 5) [5]))) (pTp [(pNm 3), (pNm 4)]) BU)
  (sRet (fV 2)))))) := rfl
def ne (m : Md) (p : PP) : Bool := !(m.h && decide (p.1 = p.2))
abbrev FU (d : D) (m : Md) (f : List PP) (a b : Option D) : Fm := [.dt d, .dt (.str m.s), .ow 0 (f.map dPair), slo a, slo b, .un]
theorem comp_ok {d : D} {m : Md} {f : List PP} {a b : Option D} : ∀ (ps acc : List PP), acc.length + ps.length < 1000 → (∀ p ∈ ps, p.1 ≤ p.2) → compD (pNm 5) CU (fV 5) [5] (ps.map dPair) (acc.map dPair) (FU d m f a b) = .ok ((acc ++ ps.filter (ne m)).map dPair) (FU d m f a b)
  | [], acc, _, _ => by simp [compD]
  | p :: ps, acc, h, hv => by
    simp only [List.length_cons] at h
    have e := is_empty_ok m p (hv p (.head _))
    have ha : acc.length < 1000000 := by omega
    have w : ∀ (s : Sl), (match s with | .ow _ _ => false | _ => true) = true → wipeS [5] [.dt d, .dt (.str m.s), .ow 0 (f.map dPair), slo a, slo b, s] = some (FU d m f a b) := fun s hs => by
      unfold wipeS
      simp only [List.all_cons, List.all_nil, List.getElem?_cons_succ, List.getElem?_cons_zero, Bool.and_true]
      cases s <;> first | rfl | cases hs
    have p0 : pNm 5 (dPair p) (FU d m f a b) = some [.dt d, .dt (.str m.s), .ow 0 (f.map dPair), slo a, slo b, .dt (dPair p)] := rfl
    rw [List.map_cons]
    unfold compD
    rw [p0]
    dsimp only
    cases hc : (m.h && decide (p.1 = p.2)) with
    | true =>
      rw [hc] at e
      have e1 : CU [.dt d, .dt (.str m.s), .ow 0 (f.map dPair), slo a, slo b, .dt (dPair p)] = .ok false [.dt d, .dt (.str m.s), .ow 0 (f.map dPair), slo a, slo b, .dt (dPair p)] := by
        simp [CU, fNotT, fTru, fCall, callX, callF, argDs, argD, views, ioSlot, setIo, aCons, aNil, fV, Out.bind, RV.get, pickL, e, isVw, noLs, noL, tru]
      rw [e1]
      dsimp only
      rw [w _ rfl]
      have en : ne m p = false := by unfold ne; rw [hc]; rfl
      rw [List.filter_cons_of_neg (by rw [en]; decide)]
      exact comp_ok ps acc (by omega) fun q hq => hv q (.tail _ hq)
    | false =>
      rw [hc] at e
      have e1 : CU [.dt d, .dt (.str m.s), .ow 0 (f.map dPair), slo a, slo b, .dt (dPair p)] = .ok true [.dt d, .dt (.str m.s), .ow 0 (f.map dPair), slo a, slo b, .dt (dPair p)] := by
        simp [CU, fNotT, fTru, fCall, callX, callF, argDs, argD, views, ioSlot, setIo, aCons, aNil, fV, Out.bind, RV.get, pickL, e, isVw, noLs, noL, tru]
      have e2 : fV 5 [.dt d, .dt (.str m.s), .ow 0 (f.map dPair), slo a, slo b, .dt (dPair p)] = .ok (.dt (dPair p)) [.dt d, .dt (.str m.s), .ow 0 (f.map dPair), slo a, slo b, .dt (dPair p)] := rfl
      rw [e1]
      dsimp only
      rw [e2]
      dsimp only [toD]
      rw [w _ rfl]
      dsimp only
      rw [if_pos (by rw [List.length_map]; exact ha)]
      have en : ne m p = true := by unfold ne; rw [hc]; rfl
      rw [List.filter_cons_of_pos en]
      have ih := comp_ok (d := d) (m := m) (f := f) (a := a) (b := b) ps (acc ++ [p]) (by simp; omega) fun q hq => hv q (.tail _ hq)
      rw [List.map_append, List.append_assoc] at ih
      exact ih
def stepU (f : List PP) (p : PP) : List PP := match f.getLast? with
  | none => f ++ [p]
  | some q => if p.1 ≤ q.2 then f.dropLast ++ [(q.1, if p.2 > q.2 then p.2 else q.2)] else f ++ [p]
def mrg (f ps : List PP) : List PP := ps.foldl stepU f
theorem put34 {d : D} {m : Md} {f : List PP} {a b : Option D} {x y : D} : pTp [pNm 3, pNm 4] (.tup [x, y]) (FU d m f a b) = some (FU d m f (some x) (some y)) := by
  cases a <;> cases b <;> rfl
theorem bu_ok {d : D} {m : Md} (f : List PP) (p : PP) (hf : f.length < 1000) : BU (FU d m f (some (.int p.1)) (some (.int p.2))) = .nx (FU d m (stepU f p) (some (.int p.1)) (some (.int p.2))) := by
  unfold FU
  simp only [slo_some]
  rcases List.eq_nil_or_concat f with e | ⟨g, q, e⟩
  · subst e
    simp [runF, sRet, sSeq, sIf, sSet, sExpr, sNil, sPar, sSub, sTg, sAug, fAdd, fAnd, fOr, fIf, fChain, fOp, fUn, fTest, fTru, fNotT, fAndT, fOrT, fIx, fTup, fLst, fCB, fCS, fTupOf, fMU, aCons, aNil, fV, fC, entry, slots0, inS, Out.bind, Out.sbind, SO.bind, gets, RV.get, toD, toDs, setS, slOf, cool, putS_ok, okPut_un, okPut_dt, okPut_ow, okPut_slo, setAll, setIx, updS, retOf, retV, bagOf, noL, noLs, pNm, pIx, pTp, pAll, gNeg, gNot, gLt, gLe, gGt, gGe, gAdd, DL.gSub, gMul, gDiv, gMod, gPow, gI, gInt, gAbs, gMax, gMin, gLen, gIsi, gIs, gIsN, DL.isNon, tyOf, tru, gIx, atI, ixN, seqD, big, gEq, cq_int, deq_int, gAppend, BU, stepU, dPair]
  · rw [List.concat_eq_append] at e
    subst e
    have at1 : gIx (.lst ((g ++ [q]).map dPair)) (.int (-1)) = some (dPair q) := by
      show atI ((g ++ [q]).map dPair) (-1) = _
      rw [List.map_append]
      exact atI_snoc _ _
    have tr : tru (.lst ((g ++ [q]).map dPair)) = some true := by simp [tru]
    have st : ∀ x : D, setIx 2 (-1) x [.dt d, .dt (.str m.s), .ow 0 ((g ++ [q]).map dPair), .dt (.int p.1), .dt (.int p.2), .un] = some [.dt d, .dt (.str m.s), .ow 0 (g.map dPair ++ [x]), .dt (.int p.1), .dt (.int p.2), .un] := fun x => by
      have e1 : ixN ((g ++ [q]).map dPair).length (-1) = some g.length := by
        unfold ixN
        simp
        omega
      unfold setIx
      simp only [List.getElem?_cons_succ, List.getElem?_cons_zero, Nat.zero_le, if_true, e1, Option.map_some]
      simp
    have ln : ((g ++ [q]).map dPair).length < 1000000 := by
      rw [List.length_map]
      exact Nat.lt_trans hf (by decide)
    have sU : stepU (g ++ [q]) p = if p.1 ≤ q.2 then g ++ [(q.1, if p.2 > q.2 then p.2 else q.2)] else g ++ [q] ++ [p] := by
      unfold stepU
      simp
    rw [sU]
    by_cases hl : p.1 ≤ q.2
    · rw [if_pos hl]
      have st' := st (.tup [.int q.1, .int (if p.2 > q.2 then p.2 else q.2)])
      have ee : (g ++ [(q.1, if p.2 > q.2 then p.2 else q.2)]).map dPair = g.map dPair ++ [.tup [.int q.1, .int (if p.2 > q.2 then p.2 else q.2)]] := by simp [dPair]
      rw [ee]
      have mx : gMax [.int q.2, .int p.2] = some (.int (if p.2 > q.2 then p.2 else q.2)) := rfl
      generalize (if p.2 > q.2 then p.2 else q.2) = z at *
      generalize (g ++ [q]).map dPair = L at *
      simp [BU, sIf, fAndT, fTru, fTest, fOp, fV, fC, Out.bind, Out.sbind, RV.get, tr, gLe, gI, fIx, fUn, gNeg, at1, gIx_0, gIx_1, hl, sSub, fTup, aCons, aNil, fCB, gets, mx, toDs, toD, st']
    · rw [if_neg hl]
      have ee : (g ++ [q] ++ [p]).map dPair = (g ++ [q]).map dPair ++ [.tup [.int p.1, .int p.2]] := by simp [dPair]
      rw [ee]
      generalize (g ++ [q]).map dPair = L at *
      simp [BU, sIf, fAndT, fTru, fTest, fOp, fV, fC, Out.bind, Out.sbind, RV.get, tr, gLe, gI, fIx, fUn, gNeg, at1, gIx_1, hl, sExpr, fMU, aCons, aNil, fTup, toDs, toD, updS, gAppend, ln]
theorem stepU_len (f : List PP) (p : PP) : (stepU f p).length ≤ f.length + 1 := by
  unfold stepU
  split
  · simp
  · split
    · simp
    · simp
theorem bu_loop {d : D} {m : Md} : ∀ (ps f : List PP) (a b : Option D), f.length + ps.length < 1000 → ∃ a' b', loopD (pTp [pNm 3, pNm 4]) BU (ps.map dPair) (FU d m f a b) = .nx (FU d m (mrg f ps) a' b')
  | [], f, a, b, _ => ⟨a, b, rfl⟩
  | p :: ps, f, a, b, h => by
    simp only [List.length_cons] at h
    have hl := stepU_len f p
    obtain ⟨a', b', e⟩ := bu_loop (d := d) (m := m) ps (stepU f p) (some (.int p.1)) (some (.int p.2)) (by omega)
    refine ⟨a', b', ?_⟩
    rw [List.map_cons]
    unfold loopD
    have e0 : pTp [pNm 3, pNm 4] (dPair p) (FU d m f a b) = some (FU d m f (some (.int p.1)) (some (.int p.2))) := put34
    rw [e0]
    dsimp only
    rw [bu_ok f p (by omega)]
    exact e
def uni (m : Md) (ps : List PP) : List PP := mrg [] (psort (ps.filter (ne m)))
theorem uni_ok {d : D} {all : List PP} (m : Md) (q : Sq d all) (hv : ∀ p ∈ all, okS p = true) (hl : all.length < 100) : f_union [d, .str m.s] = .ok (.fr ((uni m all).map dPair)) [] := by
  have c1 := check_spans_ok q hv
  have c2 := check_ends_ok m
  have cp := comp_ok (d := d) (m := m) (f := []) (a := none) (b := none) all [] (by simp; omega) fun p hp => okS_le (hv p hp)
  have e1 : fLc (sSrc (fV 0)) (pNm 5) CU (fV 5) [5] (FU d m [] none none) = .ok (.fr ((all.filter (ne m)).map dPair)) (FU d m [] none none) := by
    unfold fLc sSrc
    simp only [fV, Out.bind, List.getElem?_cons_zero, RV.get, q.seq, vwOf, noIo, List.all_nil, if_true, reK_nil, lockG_nil]
    have w : wipeS [5] (FU d m [] none none) = some (FU d m [] none none) := rfl
    rw [w]
    dsimp only
    have cp' : compD (pNm 5) CU (fV 5) [5] (all.map dPair) [] (FU d m [] none none) = .ok ((all.filter (ne m)).map dPair) (FU d m [] none none) := by
      have z := cp
      rw [List.nil_append] at z
      exact z
    show (match compD (pNm 5) CU (fV 5) [5] (all.map dPair) [] (FU d m [] none none) with | .ok zs ρ2 => Out.ok (RV.fr zs) ρ2 | _ => .bad) = _
    rw [cp']
  have e2 : fCS gSortL (fLc (sSrc (fV 0)) (pNm 5) CU (fV 5) [5]) (FU d m [] none none) = .ok (.fr ((psort (all.filter (ne m))).map dPair)) (FU d m [] none none) := by
    unfold fCS
    rw [e1]
    have g : gSortL (.lst ((all.filter (ne m)).map dPair)) = some ((psort (all.filter (ne m))).map dPair) := by
      show (prs _).map _ = _
      rw [map_prs]
      rfl
    simp only [Out.bind, RV.get, seqD, g]
  have ll : (psort (all.filter (ne m))).length < 1000 := by
    rw [(psort_perm _).length_eq]
    have := List.length_filter_le (ne m) all
    omega
  obtain ⟨a, b, e3⟩ := bu_loop (d := d) (m := m) (psort (all.filter (ne m))) [] none none (by simp; omega)
  have e4 : sFor (sSrc (fCS gSortL (fLc (sSrc (fV 0)) (pNm 5) CU (fV 5) [5]))) (pTp [(pNm 3), (pNm 4)]) BU (FU d m [] none none) = .nx (FU d m (uni m all) a b) := by
    unfold sFor
    have e5 : sSrc (fCS gSortL (fLc (sSrc (fV 0)) (pNm 5) CU (fV 5) [5])) (FU d m [] none none) = .ok ((psort (all.filter (ne m))).map dPair, []) (FU d m [] none none) := by
      show (fCS gSortL (fLc (sSrc (fV 0)) (pNm 5) CU (fV 5) [5]) (FU d m [] none none)).bind _ = _
      rw [e2]
      rfl
    rw [e5]
    simp only [Out.sbind, noIo, List.all_nil, if_true, unlk_nil, lockG_nil]
    exact e3
  unfold f_union runF
  rw [S_uni, show entry none 6 [d, .str m.s] = [.dt d, .dt (.str m.s), .un, .un, .un, .un] from rfl]
  have e4' : sFor (sSrc (fCS gSortL (fLc (sSrc (fV 0)) (pNm 5) CU (fV 5) [5]))) (pTp [(pNm 3), (pNm 4)]) BU [.dt d, .dt (.str m.s), .ow 0 [], .un, .un, .un] = .nx (FU d m (uni m all) a b) := e4
  simp [sSeq, sExpr, fCall, callX, callF, argDs, argD, views, ioSlot, setIo, aCons, aNil, fV, Out.bind, Out.sbind, RV.get, pickL, c1, c2, isVw, noLs, noL, SO.bind, sSet, fLst, toDs, setS, cool, slOf, putS_ok, okPut_un, e4', sRet, retOf, retV, bagOf]
/-- each not empty, each behind the one before -/
def Form (m : Md) : Option PP → List PP → Prop
  | _, [] => True
  | q, p :: r => ne m p = true ∧ (∀ z, q = some z → z.2 < p.1) ∧ Form m (some p) r
theorem dueB_form {all : List PP} {m : Md} : ∀ (rest : List PP) (i : Nat) (q : Option PP), (∀ (j : Nat) p, rest[j]? = some p → all[i + j]? = some p) → (match i with | 0 => q = none | j + 1 => q = all[j]?) → (i ≠ 0 → q ≠ none) → (dueB all m i rest = true ↔ Form m q rest)
  | [], i, q, _, _, _ => by simp [dueB, Form]
  | p :: r, i, q, h, hq, hn => by
    have hp : all[i]? = some p := h 0 p rfl
    have ih := dueB_form (all := all) (m := m) r (i + 1) (some p) (fun j z e => by
      have := h (j + 1) z (by simpa using e)
      rw [show i + 1 + j = i + (j + 1) by omega]
      exact this) hp.symm (fun _ z => nomatch z)
    unfold dueB Form
    have hc : cond all m i p = false ↔ ne m p = true ∧ (∀ z, q = some z → z.2 < p.1) := by
      unfold cond ne
      cases i with
      | zero =>
        have hq : q = none := hq
        subst hq
        cases m.h <;> simp
      | succ j =>
        have hq : q = all[j]? := hq
        cases e : all[j]? with
        | none =>
          rw [e] at hq
          exact absurd hq (hn (by omega))
        | some z =>
          rw [e] at hq
          subst hq
          show ((m.h && decide (p.1 = p.2)) || (match all[j]? with | some q => decide (p.1 ≤ q.2) | none => false)) = false ↔ _
          rw [e]
          cases m.h <;> simp
    by_cases h1 : cond all m i p = true
    · rw [if_pos h1]
      constructor
      · intro z
        cases z
      · rintro ⟨a, b, _⟩
        rw [hc.mpr ⟨a, b⟩] at h1
        cases h1
    · rw [if_neg h1, ih]
      have h1' : cond all m i p = false := by
        cases z : cond all m i p with
        | true => exact absurd z h1
        | false => rfl
      obtain ⟨a, b⟩ := hc.mp h1'
      exact ⟨fun z => ⟨a, b, z⟩, fun z => z.2.2⟩
theorem due_form (m : Md) (ps : List PP) : due m ps = true ↔ Form m none ps := dueB_form ps 0 none (fun j p h => by rw [Nat.zero_add]; exact h) rfl (fun z => absurd rfl z)
theorem mrg_snoc (g : List PP) (q p : PP) (h : q.2 < p.1) : stepU (g ++ [q]) p = g ++ [q] ++ [p] := by
  unfold stepU
  simp
  exact h
/-- a list in one form stays -/
theorem mrg_form {m : Md} : ∀ (ps g : List PP) (q : PP), Form m (some q) ps → mrg (g ++ [q]) ps = g ++ [q] ++ ps
  | [], g, q, _ => by simp [mrg]
  | p :: r, g, q, h => by
    obtain ⟨_, h2, h3⟩ := h
    have e := mrg_snoc g q p (h2 q rfl)
    show mrg (stepU (g ++ [q]) p) r = _
    rw [e, mrg_form r (g ++ [q]) p h3]
    simp
theorem form_ne {m : Md} : ∀ {ps : List PP} {q : Option PP}, Form m q ps → ∀ p ∈ ps, ne m p = true
  | [], _, _, p, hp => nomatch hp
  | a :: r, q, h, p, hp => by
    rcases List.mem_cons.mp hp with z | z
    · rw [z]
      exact h.1
    · exact form_ne h.2.2 p z
theorem form_lt {m : Md} : ∀ {ps : List PP} {q : PP}, (∀ p ∈ ps, p.1 ≤ p.2) → q.1 ≤ q.2 → Form m (some q) ps → ∀ p ∈ ps, q.1 < p.1
  | [], _, _, _, _, p, hp => nomatch hp
  | a :: r, q, hv, hq, h, p, hp => by
    have h1 : q.1 < a.1 := by
      have := h.2.1 q rfl
      omega
    rcases List.mem_cons.mp hp with z | z
    · rw [z]
      exact h1
    · have := form_lt (fun p hp => hv p (.tail _ hp)) (hv a (.head _)) h.2.2 p z
      omega
theorem form_asc {m : Md} : ∀ {ps : List PP} {q : Option PP}, (∀ p ∈ ps, p.1 ≤ p.2) → Form m q ps → Asc ps
  | [], _, _, _ => List.Pairwise.nil
  | a :: r, q, hv, h => List.pairwise_cons.mpr ⟨fun y hy => by
      have := form_lt (fun p hp => hv p (.tail _ hp)) (hv a (.head _)) h.2.2 y hy
      exact SrtO.lexB_no.mpr (by omega), form_asc (fun p hp => hv p (.tail _ hp)) h.2.2⟩
theorem uni_of_due {m : Md} {ps : List PP} (hv : ∀ p ∈ ps, p.1 ≤ p.2) (h : Form m none ps) : uni m ps = ps := by
  unfold uni
  have e1 : ps.filter (ne m) = ps := List.filter_eq_self.mpr (form_ne h)
  have e2 : psort ps = ps := asc_uniq (psort_asc ps) (form_asc hv h) (psort_perm ps)
  rw [e1, e2]
  cases ps with
  | nil => rfl
  | cons p r =>
    show mrg (stepU [] p) r = _
    have : stepU [] p = [] ++ [p] := rfl
    rw [this, mrg_form r [] p h.2.2]
    rfl
/-- the union is in one form -/
def FormR (m : Md) : List PP → Prop := fun f => Form m none f
theorem form_app {m : Md} {p : PP} : ∀ {f : List PP} {q : Option PP}, Form m q f → ne m p = true → (∀ z, (f.getLast?.or q) = some z → z.2 < p.1) → Form m q (f ++ [p])
  | [], q, _, hn, hl => ⟨hn, fun z e => hl z (by rw [e]; rfl), trivial⟩
  | a :: r, q, h, hn, hl => ⟨h.1, h.2.1, form_app h.2.2 hn fun z e => hl z (by
      cases r with
      | nil => exact e
      | cons b r =>
        rw [List.getLast?_cons_cons]
        cases e2 : (b :: r).getLast? with
        | none => simp at e2
        | some y =>
          rw [e2] at e
          exact e)⟩
theorem form_init {m : Md} {p : PP} : ∀ {f : List PP} {q : Option PP}, Form m q (f ++ [p]) → Form m q f ∧ ne m p = true ∧ (∀ z, (f.getLast?.or q) = some z → z.2 < p.1)
  | [], q, h => ⟨trivial, h.1, fun z e => h.2.1 z e⟩
  | a :: r, q, h => by
    obtain ⟨i1, i2, i3⟩ := form_init h.2.2
    refine ⟨⟨h.1, h.2.1, i1⟩, i2, fun z e => i3 z ?_⟩
    cases r with
    | nil => exact e
    | cons b r =>
      rw [List.getLast?_cons_cons] at e
      cases e2 : (b :: r).getLast? with
      | none => simp at e2
      | some y =>
        rw [e2] at e
        exact e
theorem stepU_form {m : Md} {f : List PP} {p : PP} (h : Form m none f) (hv : ∀ q ∈ f, q.1 ≤ q.2) (hp : ne m p = true) (hle : p.1 ≤ p.2) (hs : ∀ q ∈ f, q.1 ≤ p.1) : Form m none (stepU f p) ∧ (∀ q ∈ stepU f p, q.1 ≤ q.2) ∧ ∀ q ∈ stepU f p, q.1 ≤ p.1 := by
  rcases List.eq_nil_or_concat f with e | ⟨g, q, e⟩
  · subst e
    have e1 : stepU [] p = [p] := rfl
    rw [e1]
    refine ⟨⟨hp, fun z e => (nomatch e), trivial⟩, fun q hq => ?_, fun q hq => ?_⟩
    · rw [List.mem_singleton.mp hq]
      exact hle
    · rw [List.mem_singleton.mp hq]
      exact Int.le_refl _
  · rw [List.concat_eq_append] at e
    subst e
    have sU : stepU (g ++ [q]) p = if p.1 ≤ q.2 then g ++ [(q.1, if p.2 > q.2 then p.2 else q.2)] else g ++ [q] ++ [p] := by
      unfold stepU
      simp
    rw [sU]
    obtain ⟨i1, i2, i3⟩ := form_init h
    have hq : q.1 ≤ q.2 := hv q (by simp)
    by_cases hl : p.1 ≤ q.2
    · rw [if_pos hl]
      have z1 : q.1 ≤ (if p.2 > q.2 then p.2 else q.2) := by split <;> omega
      refine ⟨form_app i1 ?_ i3, fun z hz => ?_, fun z hz => ?_⟩
      · by_cases h3 : p.2 > q.2
        · have e3 : (if p.2 > q.2 then p.2 else q.2) = p.2 := if_pos h3
          rw [e3]
          unfold ne
          have : q.1 ≠ p.2 := by omega
          simp [this]
        · have e3 : (if p.2 > q.2 then p.2 else q.2) = q.2 := if_neg h3
          rw [e3]
          exact i2
      · rcases List.mem_append.mp hz with y | y
        · exact hv z (by simp [y])
        · rw [List.mem_singleton.mp y]
          exact z1
      · rcases List.mem_append.mp hz with y | y
        · exact hs z (by simp [y])
        · rw [List.mem_singleton.mp y]
          exact hs q (by simp)
    · rw [if_neg hl]
      refine ⟨form_app h hp fun z e => ?_, fun z hz => ?_, fun z hz => ?_⟩
      · simp at e
        subst e
        omega
      · rcases List.mem_append.mp hz with y | y
        · exact hv z y
        · rw [List.mem_singleton.mp y]
          exact hle
      · rcases List.mem_append.mp hz with y | y
        · exact hs z y
        · rw [List.mem_singleton.mp y]
          exact Int.le_refl _
theorem mrg_isForm {m : Md} : ∀ (ps f : List PP), Form m none f → (∀ q ∈ f, q.1 ≤ q.2) → (∀ p ∈ ps, ne m p = true ∧ p.1 ≤ p.2) → Asc ps → (∀ q ∈ f, ∀ p ∈ ps, q.1 ≤ p.1) → Form m none (mrg f ps)
  | [], f, h, _, _, _, _ => h
  | p :: r, f, h, hv, hp, ha, hs => by
    obtain ⟨a1, a2⟩ := List.pairwise_cons.mp ha
    obtain ⟨s1, s2, s3⟩ := stepU_form h hv (hp p (.head _)).1 (hp p (.head _)).2 fun q hq => hs q hq p (.head _)
    refine mrg_isForm r (stepU f p) s1 s2 (fun q hq => hp q (.tail _ hq)) a2 fun q hq y hy => ?_
    have z1 := s3 q hq
    have z2 := SrtO.lexB_no.mp (a1 y hy)
    omega
theorem uni_form (m : Md) {ps : List PP} (hv : ∀ p ∈ ps, p.1 ≤ p.2) : Form m none (uni m ps) := by
  refine mrg_isForm _ [] trivial (fun q hq => (nomatch hq)) (fun p hp => ?_) (psort_asc _) fun q hq => (nomatch hq)
  have hm := (psort_perm _).mem_iff.mp hp
  obtain ⟨h1, h2⟩ := List.mem_filter.mp hm
  exact ⟨h2, hv p h1⟩
theorem uni_due (m : Md) {ps : List PP} (hv : ∀ p ∈ ps, p.1 ≤ p.2) : decide (uni m ps = ps) = due m ps := by
  cases h : due m ps with
  | true => exact decide_eq_true (uni_of_due hv ((due_form m ps).mp h))
  | false =>
    refine decide_eq_false fun e => ?_
    have := uni_form m hv
    rw [e, ← due_form, h] at this
    cases this
/-- a point of the doubled line that p covers: under half the points from its begin to ahead of its end, under shut to its end -/
def Cv (m : Md) (p : PP) (x : Int) : Prop := match m with
  | .half => p.1 ≤ x ∧ x < p.2
  | .shut => 2 * p.1 ≤ x ∧ x ≤ 2 * p.2
def Cov (m : Md) (ps : List PP) (x : Int) : Prop := ∃ p ∈ ps, Cv m p x
theorem cv_ne {m : Md} {p : PP} {x : Int} (h : p.1 ≤ p.2) (c : Cv m p x) : ne m p = true := by
  cases m with
  | half =>
    have c : p.1 ≤ x ∧ x < p.2 := c
    unfold ne
    have : p.1 ≠ p.2 := by omega
    simp [Md.h, this]
  | shut => rfl
theorem ne_lt {p : PP} (h : p.1 ≤ p.2) (n : ne .half p = true) : p.1 < p.2 := by
  unfold ne at n
  simp [Md.h] at n
  omega
theorem cov_step {m : Md} {f : List PP} {p : PP} (hv : ∀ q ∈ f, q.1 ≤ q.2) (hp : p.1 ≤ p.2) (hs : ∀ q ∈ f, q.1 ≤ p.1) (x : Int) : Cov m (stepU f p) x ↔ Cov m f x ∨ Cv m p x := by
  rcases List.eq_nil_or_concat f with e | ⟨g, q, e⟩
  · subst e
    have e1 : stepU [] p = [p] := rfl
    rw [e1]
    constructor
    · rintro ⟨z, hz, c⟩
      rw [List.mem_singleton.mp hz] at c
      exact .inr c
    · rintro (⟨z, hz, _⟩ | c)
      · cases hz
      · exact ⟨p, .head _, c⟩
  · rw [List.concat_eq_append] at e
    subst e
    have sU : stepU (g ++ [q]) p = if p.1 ≤ q.2 then g ++ [(q.1, if p.2 > q.2 then p.2 else q.2)] else g ++ [q] ++ [p] := by
      unfold stepU
      simp
    rw [sU]
    have hq : q.1 ≤ q.2 := hv q (by simp)
    have hqs : q.1 ≤ p.1 := hs q (by simp)
    by_cases hl : p.1 ≤ q.2
    · rw [if_pos hl]
      have key : Cv m (q.1, if p.2 > q.2 then p.2 else q.2) x ↔ Cv m q x ∨ Cv m p x := by
        cases m with
        | half =>
          show (q.1 ≤ x ∧ x < (if p.2 > q.2 then p.2 else q.2)) ↔ (q.1 ≤ x ∧ x < q.2) ∨ (p.1 ≤ x ∧ x < p.2)
          split <;> omega
        | shut =>
          show (2 * q.1 ≤ x ∧ x ≤ 2 * (if p.2 > q.2 then p.2 else q.2)) ↔ (2 * q.1 ≤ x ∧ x ≤ 2 * q.2) ∨ (2 * p.1 ≤ x ∧ x ≤ 2 * p.2)
          split <;> omega
      constructor
      · rintro ⟨z, hz, c⟩
        rcases List.mem_append.mp hz with y | y
        · exact .inl ⟨z, by simp [y], c⟩
        · rw [List.mem_singleton.mp y] at c
          rcases key.mp c with c | c
          · exact .inl ⟨q, by simp, c⟩
          · exact .inr c
      · rintro (⟨z, hz, c⟩ | c)
        · rcases List.mem_append.mp hz with y | y
          · exact ⟨z, by simp [y], c⟩
          · rw [List.mem_singleton.mp y] at c
            exact ⟨_, by simp, key.mpr (.inl c)⟩
        · exact ⟨_, by simp, key.mpr (.inr c)⟩
    · rw [if_neg hl]
      constructor
      · rintro ⟨z, hz, c⟩
        rcases List.mem_append.mp hz with y | y
        · exact .inl ⟨z, y, c⟩
        · rw [List.mem_singleton.mp y] at c
          exact .inr c
      · rintro (⟨z, hz, c⟩ | c)
        · exact ⟨z, List.mem_append_left _ hz, c⟩
        · exact ⟨p, by simp, c⟩
theorem cov_mrg {m : Md} : ∀ (ps f : List PP), Form m none f → (∀ q ∈ f, q.1 ≤ q.2) → (∀ p ∈ ps, ne m p = true ∧ p.1 ≤ p.2) → Asc ps → (∀ q ∈ f, ∀ p ∈ ps, q.1 ≤ p.1) → ∀ x, Cov m (mrg f ps) x ↔ Cov m f x ∨ Cov m ps x
  | [], f, h, _, _, _, _, x => by
    constructor
    · exact .inl
    · rintro (c | ⟨z, hz, _⟩)
      · exact c
      · cases hz
  | p :: r, f, h, hv, hp, ha, hs, x => by
    obtain ⟨a1, a2⟩ := List.pairwise_cons.mp ha
    obtain ⟨s1, s2, s3⟩ := stepU_form h hv (hp p (.head _)).1 (hp p (.head _)).2 fun q hq => hs q hq p (.head _)
    have ih := cov_mrg r (stepU f p) s1 s2 (fun q hq => hp q (.tail _ hq)) a2 (fun q hq y hy => by
      have z1 := s3 q hq
      have z2 := SrtO.lexB_no.mp (a1 y hy)
      omega) x
    have st := cov_step (m := m) hv (hp p (.head _)).2 (fun q hq => hs q hq p (.head _)) x
    show Cov m (mrg (stepU f p) r) x ↔ _
    rw [ih, st]
    constructor
    · rintro ((c | c) | ⟨z, hz, c⟩)
      · exact .inl c
      · exact .inr ⟨p, .head _, c⟩
      · exact .inr ⟨z, .tail _ hz, c⟩
    · rintro (c | ⟨z, hz, c⟩)
      · exact .inl (.inl c)
      · rcases List.mem_cons.mp hz with y | y
        · rw [y] at c
          exact .inl (.inr c)
        · exact .inr ⟨z, y, c⟩
theorem cov_uni (m : Md) {ps : List PP} (hv : ∀ p ∈ ps, p.1 ≤ p.2) (x : Int) : Cov m (uni m ps) x ↔ Cov m ps x := by
  have hmem : ∀ p, p ∈ psort (ps.filter (ne m)) ↔ p ∈ ps ∧ ne m p = true := fun p => by
    rw [(psort_perm _).mem_iff, List.mem_filter]
  have e := cov_mrg (m := m) (psort (ps.filter (ne m))) [] trivial (fun q hq => (nomatch hq)) (fun p hp => ⟨((hmem p).mp hp).2, hv p ((hmem p).mp hp).1⟩) (psort_asc _) (fun q hq => (nomatch hq)) x
  show Cov m (mrg [] (psort (ps.filter (ne m)))) x ↔ _
  rw [e]
  constructor
  · rintro (⟨z, hz, _⟩ | ⟨z, hz, c⟩)
    · cases hz
    · exact ⟨z, ((hmem z).mp hz).1, c⟩
  · rintro ⟨z, hz, c⟩
    exact .inr ⟨z, (hmem z).mpr ⟨hz, cv_ne (hv z hz) c⟩, c⟩
theorem form_after {m : Md} : ∀ {ps : List PP} {q : PP}, (∀ p ∈ ps, p.1 ≤ p.2) → Form m (some q) ps → ∀ p ∈ ps, q.2 < p.1
  | [], _, _, _, p, hp => nomatch hp
  | a :: r, q, hv, h, p, hp => by
    have h1 := h.2.1 q rfl
    have h2 := hv a (.head _)
    rcases List.mem_cons.mp hp with z | z
    · rw [z]
      exact h1
    · have := form_after (fun p hp => hv p (.tail _ hp)) h.2.2 p z
      omega
theorem form_weak {m : Md} {q : Option PP} : ∀ {ps : List PP}, Form m q ps → Form m none ps
  | [], _ => trivial
  | _ :: _, h => ⟨h.1, fun _ e => (nomatch e), h.2.2⟩
/-- the first point of p -/
def Fst (m : Md) (p : PP) : Int := match m with
  | .half => p.1
  | .shut => 2 * p.1
/-- the point just behind p -/
def Beh (m : Md) (p : PP) : Int := match m with
  | .half => p.2
  | .shut => 2 * p.2 + 1
theorem cv_fst {m : Md} {p : PP} (h : p.1 ≤ p.2) (n : ne m p = true) : Cv m p (Fst m p) := by
  cases m with
  | half => exact ⟨Int.le_refl _, ne_lt h n⟩
  | shut =>
    show 2 * p.1 ≤ 2 * p.1 ∧ 2 * p.1 ≤ 2 * p.2
    omega
theorem cv_iff {m : Md} {p : PP} {x : Int} : Cv m p x ↔ Fst m p ≤ x ∧ x < Beh m p := by
  cases m with
  | half => exact Iff.rfl
  | shut =>
    show (2 * p.1 ≤ x ∧ x ≤ 2 * p.2) ↔ (2 * p.1 ≤ x ∧ x < 2 * p.2 + 1)
    omega
theorem fst_beh {m : Md} {p q : PP} (h : q.2 < p.1) : Beh m q < Fst m p := by
  cases m with
  | half => exact h
  | shut =>
    show 2 * q.2 + 1 < 2 * p.1
    omega
theorem form_uniq {m : Md} : ∀ {f g : List PP}, (∀ p ∈ f, p.1 ≤ p.2) → (∀ p ∈ g, p.1 ≤ p.2) → Form m none f → Form m none g → (∀ x, Cov m f x ↔ Cov m g x) → f = g
  | [], [], _, _, _, _, _ => rfl
  | [], q :: s, _, hg, _, h2, hc => by
    obtain ⟨z, hz, _⟩ := (hc (Fst m q)).mpr ⟨q, .head _, cv_fst (hg q (.head _)) h2.1⟩
    cases hz
  | p :: r, [], hf, _, h1, _, hc => by
    obtain ⟨z, hz, _⟩ := (hc (Fst m p)).mp ⟨p, .head _, cv_fst (hf p (.head _)) h1.1⟩
    cases hz
  | p :: r, q :: s, hf, hg, h1, h2, hc => by
    have vp := hf p (.head _)
    have vq := hg q (.head _)
    have ar := form_after (fun z hz => hf z (.tail _ hz)) h1.2.2
    have as_ := form_after (fun z hz => hg z (.tail _ hz)) h2.2.2
    -- a point of the list is not ahead of its first one
    have lo : ∀ {a : PP} {t : List PP}, a.1 ≤ a.2 → ne m a = true → (∀ z ∈ t, a.2 < z.1) → ∀ x, Cov m (a :: t) x → Fst m a ≤ x := fun {a t} va na ha x ⟨z, hz, c⟩ => by
      rcases List.mem_cons.mp hz with e | e
      · rw [e] at c
        exact (cv_iff.mp c).1
      · have := fst_beh (m := m) (ha z e)
        have c1 := (cv_iff.mp c).1
        have c2 := cv_iff.mp (cv_fst va na)
        omega
    have e1 : Fst m p = Fst m q := by
      have a1 := lo vq h2.1 as_ _ ((hc _).mp ⟨p, .head _, cv_fst vp h1.1⟩)
      have a2 := lo vp h1.1 ar _ ((hc _).mpr ⟨q, .head _, cv_fst vq h2.1⟩)
      omega
    -- the point behind the first one is not covered
    have nb : ∀ {a : PP} {t : List PP}, (∀ z ∈ t, a.2 < z.1) → ¬ Cov m (a :: t) (Beh m a) := fun {a t} ha ⟨z, hz, c⟩ => by
      rcases List.mem_cons.mp hz with e | e
      · rw [e] at c
        have := (cv_iff.mp c).2
        omega
      · have := fst_beh (m := m) (ha z e)
        have c1 := (cv_iff.mp c).1
        omega
    have l1 := cv_iff.mp (cv_fst vp h1.1)
    have l2 := cv_iff.mp (cv_fst vq h2.1)
    have e2 : Beh m p = Beh m q := by
      rcases Int.lt_trichotomy (Beh m p) (Beh m q) with z | z | z
      · exact absurd ((hc _).mpr ⟨q, .head _, cv_iff.mpr ⟨by omega, z⟩⟩) (nb ar)
      · exact z
      · exact absurd ((hc _).mp ⟨p, .head _, cv_iff.mpr ⟨by omega, z⟩⟩) (nb as_)
    have e : p = q := by
      cases m with
      | half => exact Prod.ext e1 e2
      | shut =>
        have e1 : 2 * p.1 = 2 * q.1 := e1
        have e2 : 2 * p.2 + 1 = 2 * q.2 + 1 := e2
        exact Prod.ext (by omega) (by omega)
    subst e
    have rest : ∀ x, Cov m r x ↔ Cov m s x := fun x => by
      have far : ∀ {t : List PP}, (∀ z ∈ t, p.2 < z.1) → Cov m t x → ¬ Cv m p x := fun {t} ha ⟨z, hz, c⟩ c2 => by
        have := fst_beh (m := m) (ha z hz)
        have c1 := (cv_iff.mp c).1
        have c3 := (cv_iff.mp c2).2
        omega
      constructor
      · intro c
        obtain ⟨z, hz, c'⟩ := (hc x).mp (let ⟨z, hz, c'⟩ := c; ⟨z, .tail _ hz, c'⟩)
        rcases List.mem_cons.mp hz with y | y
        · rw [y] at c'
          exact absurd c' (far ar c)
        · exact ⟨z, y, c'⟩
      · intro c
        obtain ⟨z, hz, c'⟩ := (hc x).mpr (let ⟨z, hz, c'⟩ := c; ⟨z, .tail _ hz, c'⟩)
        rcases List.mem_cons.mp hz with y | y
        · rw [y] at c'
          exact absurd c' (far as_ c)
        · exact ⟨z, y, c'⟩
    rw [form_uniq (fun z hz => hf z (.tail _ hz)) (fun z hz => hg z (.tail _ hz)) (form_weak h1.2.2) (form_weak h2.2.2) rest]
theorem stepU_le {f : List PP} {p : PP} (hv : ∀ q ∈ f, q.1 ≤ q.2) (hp : p.1 ≤ p.2) : ∀ q ∈ stepU f p, q.1 ≤ q.2 := fun z hz => by
  rcases List.eq_nil_or_concat f with e | ⟨g, q, e⟩
  · subst e
    rw [List.mem_singleton.mp hz]
    exact hp
  · rw [List.concat_eq_append] at e
    subst e
    have sU : stepU (g ++ [q]) p = if p.1 ≤ q.2 then g ++ [(q.1, if p.2 > q.2 then p.2 else q.2)] else g ++ [q] ++ [p] := by
      unfold stepU
      simp
    rw [sU] at hz
    have hq : q.1 ≤ q.2 := hv q (by simp)
    split at hz
    · rcases List.mem_append.mp hz with y | y
      · exact hv z (by simp [y])
      · rw [List.mem_singleton.mp y]
        show q.1 ≤ if p.2 > q.2 then p.2 else q.2
        split <;> omega
    · rcases List.mem_append.mp hz with y | y
      · exact hv z y
      · rw [List.mem_singleton.mp y]
        exact hp
theorem mrg_le : ∀ {ps f : List PP}, (∀ q ∈ f, q.1 ≤ q.2) → (∀ p ∈ ps, p.1 ≤ p.2) → ∀ q ∈ mrg f ps, q.1 ≤ q.2
  | [], f, h, _ => h
  | p :: r, f, h, hp => mrg_le (ps := r) (stepU_le h (hp p (.head _))) fun q hq => hp q (.tail _ hq)
theorem uni_le (m : Md) {ps : List PP} (hv : ∀ p ∈ ps, p.1 ≤ p.2) : ∀ q ∈ uni m ps, q.1 ≤ q.2 := mrg_le (fun q hq => (nomatch hq)) fun p hp => hv p (List.mem_filter.mp ((psort_perm _).mem_iff.mp hp)).1
/-- the same moments: the same union -/
theorem uni_eq_iff (m : Md) {ps qs : List PP} (hp : ∀ p ∈ ps, p.1 ≤ p.2) (hq : ∀ p ∈ qs, p.1 ≤ p.2) : uni m ps = uni m qs ↔ ∀ x, Cov m ps x ↔ Cov m qs x := by
  constructor
  · intro e x
    rw [← cov_uni m hp, ← cov_uni m hq, e]
  · intro h
    exact form_uniq (uni_le m hp) (uni_le m hq) (uni_form m hp) (uni_form m hq) fun x => by rw [cov_uni m hp, cov_uni m hq, h x]
def BC : Fm → Out RV := (fIf (fTest (fOp gLt (fV 1) (fCB gLen (aCons (fV 0) aNil)))) (fIx (fV 0) (fV 1)) (fC (.int (0))))
theorem rep_bb (b : Bool) : ∃ s, gRepr [.lst [.bl b, .bl b]] = some (.str s) ∧ gNe (.str s) (.str s) = some (.bl false) := by
  refine ⟨_, if_pos (by cases b <;> decide +kernel), ?_⟩
  have e : cq (.str (py (.lst [.bl b, .bl b])).shown) = true := by cases b <;> decide +kernel
  unfold gNe
  rw [e, deq_str]
  simp
theorem rep_b (b : Bool) : ∃ s, gRepr [.bl b] = some (.str s) ∧ gNe (.str s) (.str s) = some (.bl false) := by
  refine ⟨_, if_pos (by cases b <;> decide +kernel), ?_⟩
  have e : cq (.str (py (.bl b)).shown) = true := by cases b <;> decide +kernel
  unfold gNe
  rw [e, deq_str]
  simp
theorem gNe_bl (b : Bool) : gNe (.bl b) (.bl b) = some (.bl false) := by cases b <;> rfl
theorem gNe_dL (ps : List PP) : gNe (dL ps) (dL ps) = some (.bl false) := by
  unfold gNe
  rw [cq_dL, deq_list]
  simp
theorem gEq_dL (ps qs : List PP) : gEq (dL ps) (dL qs) = some (.bl (decide (ps = qs))) := by
  unfold gEq
  rw [cq_dL, cq_dL, deq_list]
  rfl
def okF (s2 s3 s4 s5 : Sl) : Prop := okPut (some s2) = true ∧ okPut (some s3) = true ∧ okPut (some s4) = true ∧ okPut (some s5) = true
end P

namespace P
open PySem L2 DL
theorem take_w {x : Bg} {n m : Int} {Q : FO → Prop} (h : x.Ok n) (hn : n < 100000) (h0 : 0 < m) (h1 : m < 1000000000000000000000000000000000000000000000000000000000000) (k : ∀ (v : Int) (y : Bg), 0 ≤ v → v < m → y.Ok (n + 1) → WP (FO.ok (.dt (.int v)) y.d) Q) : WP (f__law_take [.lst x.d, .int m]) Q := by
  obtain ⟨v, y, e, a, b, c⟩ := take_ok h hn h0 h1
  rw [e]
  exact k v y a b c
theorem bag_w {ns : List Int} {k : Int} {Q : FO → Prop} (h0 : 0 ≤ k) (h1 : k < 64) (q : ∀ x : Bg, x.Ok 0 → WP (FO.ok (.fr x.d) []) Q) : WP (f__law_bag [.fz ns, .int k]) Q := by
  unfold f__law_bag S__law_bag
  simp_arith []
  refine w_dec (fun _ => ?_) (fun _ => ?_)
  · simp_arith []
    refine w_pickZ (by omega) (by omega) fun c _ => ?_
    simp_arith []
    refine w_dec (fun _ => ?_) (fun _ => ?_) <;> simp_arith [g_mul']
    · exact q ⟨_, _, _, _⟩ ⟨by show 0 ≤ (c.natAbs : Int); omega, Int.emod_nonneg _ (by decide), Int.emod_lt_of_pos _ (by decide), by show 0 ≤ 6151 * k + 389; omega, by show 6151 * k + 389 < 1000000000; omega, Int.le_refl _, Int.le_refl _⟩
    · exact q ⟨_, _, _, _⟩ ⟨Int.le_refl _, Int.emod_nonneg _ (by decide), Int.emod_lt_of_pos _ (by decide), by show 0 ≤ 6151 * k + 389; omega, by show 6151 * k + 389 < 1000000000; omega, Int.le_refl _, Int.le_refl _⟩
  · simp_arith [g_mul']
    exact q ⟨_, _, _, _⟩ ⟨Int.le_refl _, Int.emod_nonneg _ (by decide), Int.emod_lt_of_pos _ (by decide), by show 0 ≤ 6151 * k + 389; omega, by show 6151 * k + 389 < 1000000000; omega, Int.le_refl _, Int.le_refl _⟩
theorem mul_2 {a b A : Int} (h1 : -A ≤ a) (h2 : a ≤ A) (h3 : 0 ≤ b) (h4 : b < 2) : -A ≤ a * (1 - 2 * b) ∧ a * (1 - 2 * b) ≤ A := by
  rcases (show b = 0 ∨ b = 1 by omega) with rfl | rfl <;> omega
theorem edge_w {x : Bg} {n : Int} {Q : FO → Prop} (h : x.Ok n) (hn : n < 90000) (k : ∀ (v : Int) (y : Bg), -1000000000000000000000000000000 ≤ v → v ≤ 1000000000000000000000000000000 → y.Ok (n + 3) → WP (FO.ok (.dt (.int v)) y.d) Q) : WP (f__law_edge [.lst x.d]) Q := by
  unfold f__law_edge S__law_edge
  simp_arith [noLs_bg, g_mul']
  repeat' (first | (refine take_w (by assumption) (by omega) (by omega) (by omega) fun _ _ _ _ _ => ?_; simp_arith [noLs_bg, g_mul']) | (refine w_dec (fun _ => ?_) (fun _ => ?_) <;> first | (exfalso; omega) | simp_arith [noLs_bg, g_mul']))
  · exact k _ _ (by omega) (by omega) (Bg.Ok.up (by assumption) (by omega))
  · exact k _ _ (mul_2 (by omega) (by omega) (by omega) (by omega)).1 (mul_2 (by omega) (by omega) (by omega) (by omega)).2 (Bg.Ok.up (by assumption) (by omega))
  · exact k _ _ (by omega) (by omega) (Bg.Ok.up (by assumption) (by omega))
theorem okS_mk {a b : Int} (h : a ≤ b) (h1 : a = -10000000000000000000000000000000 ∨ (-1000000000000000000000000000000 ≤ a ∧ a ≤ 1000000000000000000000000000000)) (h2 : b = 10000000000000000000000000000000 ∨ (-1000000000000000000000000000000 ≤ b ∧ b ≤ 1000000000000000000000000000000)) : okS (a, b) = true := by
  simp [okS, edge]
  omega
theorem okS_iff {p : PP} : okS p = true ↔ p.1 ≤ p.2 ∧ (p.1 = -10000000000000000000000000000000 ∨ (-1000000000000000000000000000000 ≤ p.1 ∧ p.1 ≤ 1000000000000000000000000000000)) ∧ (p.2 = 10000000000000000000000000000000 ∨ (-1000000000000000000000000000000 ≤ p.2 ∧ p.2 ≤ 1000000000000000000000000000000)) := by
  simp [okS, edge]
  omega
theorem stretch_w {x : Bg} {n : Int} {Q : FO → Prop} (h : x.Ok n) (hn : n < 80000) (k : ∀ (p : PP) (y : Bg), okS p = true → y.Ok (n + 8) → WP (FO.ok (.dt (dPair p)) y.d) Q) : WP (f__law_stretch [.lst x.d]) Q := by
  unfold f__law_stretch S__law_stretch
  simp_arith [noLs_bg]
  repeat' (first | (refine take_w (by assumption) (by omega) (by omega) (by omega) fun _ _ _ _ _ => ?_; simp_arith [noLs_bg]) | (refine edge_w (by assumption) (by omega) fun _ _ _ _ _ => ?_; simp_arith [noLs_bg]) | (refine w_dec (fun _ => ?_) (fun _ => ?_) <;> first | (exfalso; omega) | simp_arith [noLs_bg]))
  all_goals exact k (_, _) _ (okS_mk (by omega) (by omega) (by omega)) (Bg.Ok.up (by assumption) (by omega))
end P

namespace DL
open PySem L2
def kN (R : Fm → Prop) : SO → Prop
  | .nx ρ => R ρ
  | _ => False
theorem w_nxN {ρ : Fm} {R : Fm → Prop} : WP (.nx ρ) (kN R) = R ρ := rfl
theorem w_nxJ {ρ : Fm} {R : Fm → Prop} (h : R ρ) : WP (.nx ρ) (kN R) := h
theorem w_cut0 {o : SO} {T : Fm → SO} {Q : SO → Prop} (R : Fm → Prop) (h1 : WP o (kN R)) (h2 : ∀ ρ, R ρ → WP (T ρ) Q) : WP o (kT T Q) := by
  cases o with
  | nx ρ => exact h2 ρ h1
  | _ => exact False.elim h1
theorem w_cut1 {o : SO} {S T : Fm → SO} {Q : SO → Prop} (R : Fm → Prop) (h1 : WP o (kT S (kN R))) (h2 : ∀ ρ, R ρ → WP (T ρ) Q) : WP o (kT (sSeq S T) Q) := by
  cases o with
  | nx ρ =>
    show WP (sSeq S T ρ) Q
    rw [w_sSeq]
    exact w_cut0 R h1 h2
  | _ => exact False.elim h1
theorem w_cut2 {o : SO} {S1 S2 T : Fm → SO} {Q : SO → Prop} (R : Fm → Prop) (h1 : WP o (kT (sSeq S1 S2) (kN R))) (h2 : ∀ ρ, R ρ → WP (T ρ) Q) : WP o (kT (sSeq S1 (sSeq S2 T)) Q) := by
  cases o with
  | nx ρ =>
    show WP (sSeq S1 (sSeq S2 T) ρ) Q
    rw [w_sSeq]
    have h1 : WP (S1 ρ) (kT S2 (kN R)) := h1
    exact w_cut1 R h1 h2
  | _ => exact False.elim h1
theorem cut_lo {α : Type} {l : List α} {v : Int} (h0 : 0 ≤ v) : cutD l none (some v) = l.take v.toNat := by
  unfold cutD
  have e1 : HT.sIx l.length 0 none = 0 := rfl
  have e2 : HT.sIx l.length l.length (some v) = min v.toNat l.length := by
    show (if v < 0 then (v + (l.length : Int)).toNat else min v.toNat l.length) = _
    rw [if_neg (by omega)]
  rw [e1, e2, List.drop_zero, Nat.sub_zero, List.take_eq_take_iff]
  omega
theorem cut_hi {α : Type} {l : List α} {v : Int} (h0 : 0 ≤ v) : cutD l (some v) none = l.drop v.toNat := by
  unfold cutD
  have e1 : HT.sIx l.length l.length none = l.length := rfl
  have e2 : HT.sIx l.length 0 (some v) = min v.toNat l.length := by
    show (if v < 0 then (v + (l.length : Int)).toNat else min v.toNat l.length) = _
    rw [if_neg (by omega)]
  rw [e1, e2]
  by_cases h : v.toNat ≤ l.length
  · rw [Nat.min_eq_left h, List.take_of_length_le (by rw [List.length_drop]; omega)]
  · rw [Nat.min_eq_right (by omega), Nat.sub_self, List.drop_eq_nil_of_le (Nat.le_refl _), List.drop_eq_nil_of_le (by omega)]
    rfl
end DL
namespace P
open PySem L2 DL
/-! ### more of unions -/
theorem form_beh {m : Md} : ∀ {f : List PP} {r : Option PP} {q : PP}, (∀ p ∈ f, p.1 ≤ p.2) → Form m r f → q ∈ f → ¬ Cov m f (Beh m q)
  | [], _, _, _, _, h => nomatch h
  | a :: f, r, q, hv, hf, hq => by
    have ha := hv a (.head _)
    have hr : ∀ p ∈ f, p.1 ≤ p.2 := fun p hp => hv p (.tail _ hp)
    rintro ⟨p, hp, hc⟩
    rw [cv_iff] at hc
    rcases List.mem_cons.mp hq with rfl | hq
    · rcases List.mem_cons.mp hp with rfl | hp
      · omega
      · have := fst_beh (m := m) (form_after hr hf.2.2 p hp)
        omega
    · have h1 := fst_beh (m := m) (form_after hr hf.2.2 q hq)
      have h2 := cv_iff.mp (cv_fst (hr q hq) (form_ne hf.2.2 q hq))
      rcases List.mem_cons.mp hp with rfl | hp
      · omega
      · exact form_beh hr hf.2.2 hq ⟨p, hp, cv_iff.mpr hc⟩
theorem stepU_ok {f : List PP} {p : PP} (hf : ∀ q ∈ f, okS q = true) (hp : okS p = true) : ∀ q ∈ stepU f p, okS q = true := fun z hz => by
  unfold stepU at hz
  split at hz
  · rcases List.mem_append.mp hz with h | h
    · exact hf z h
    · rw [List.mem_singleton.mp h]
      exact hp
  · rename_i q e
    have hq := hf q (List.mem_of_getLast? e)
    split at hz
    · rcases List.mem_append.mp hz with h | h
      · exact hf z (List.dropLast_subset _ h)
      · rw [List.mem_singleton.mp h]
        rw [okS_iff] at hq hp ⊢
        dsimp only
        split <;> omega
    · rcases List.mem_append.mp hz with h | h
      · exact hf z h
      · rw [List.mem_singleton.mp h]
        exact hp
theorem mrg_ok : ∀ {ps f : List PP}, (∀ q ∈ f, okS q = true) → (∀ p ∈ ps, okS p = true) → ∀ q ∈ mrg f ps, okS q = true
  | [], f, hf, _ => hf
  | p :: ps, f, hf, hp => mrg_ok (ps := ps) (f := stepU f p) (stepU_ok hf (hp p (.head _))) fun q hq => hp q (.tail _ hq)
theorem mrg_len : ∀ {ps f : List PP}, (mrg f ps).length ≤ f.length + ps.length
  | [], f => by simp [mrg]
  | p :: ps, f => by
    have h1 := stepU_len f p
    have h2 := mrg_len (ps := ps) (f := stepU f p)
    have e : mrg f (p :: ps) = mrg (stepU f p) ps := rfl
    rw [e, List.length_cons]
    omega
theorem uni_okS (m : Md) {ps : List PP} (h : ∀ p ∈ ps, okS p = true) : ∀ q ∈ uni m ps, okS q = true := mrg_ok (fun q hq => (nomatch hq)) fun p hp => h p (List.mem_filter.mp ((psort_perm _).mem_iff.mp hp)).1
theorem uni_len (m : Md) (ps : List PP) : (uni m ps).length ≤ ps.length := by
  have h := mrg_len (ps := psort (ps.filter (ne m))) (f := [])
  have h2 := (psort_perm (ps.filter (ne m))).length_eq
  have h3 := List.length_filter_le (ne m) ps
  unfold uni
  simp at h
  omega
theorem ne_beh {m : Md} {p : PP} (h : p.1 ≤ p.2) (n : ne m p = false) (x : Int) : ¬ Cv m p x := fun c => by
  rw [cv_ne h c] at n
  cases n
/-- the union stays as it is just if the stretch is empty or one of its stretches has all of it -/
theorem uni_more (m : Md) {p : PP} {qs : List PP} (hp : p.1 ≤ p.2) (hq : ∀ q ∈ qs, q.1 ≤ q.2) : uni m (p :: qs) = uni m qs ↔ (ne m p = false ∨ ∃ q ∈ uni m qs, q.1 ≤ p.1 ∧ p.2 ≤ q.2) := by
  rw [uni_eq_iff m (fun z hz => (List.mem_cons.mp hz).elim (fun e => e ▸ hp) (hq z)) hq]
  have hu := uni_le m hq
  have hf := uni_form m hq
  constructor
  · intro h
    cases hn : ne m p with
    | false => exact .inl rfl
    | true =>
      right
      have c0 := cv_fst hp hn
      obtain ⟨q, hqm, hc⟩ := (cov_uni m hq _).mpr ((h (Fst m p)).mp ⟨p, .head _, c0⟩)
      refine ⟨q, hqm, ?_⟩
      have hc' := cv_iff.mp hc
      have hb : ¬ Cv m p (Beh m q) := fun c => form_beh hu hf hqm ((cov_uni m hq _).mpr ((h _).mp ⟨p, .head _, c⟩))
      rw [cv_iff] at hb c0
      cases m with
      | half =>
        have e1 : Fst .half p = p.1 := rfl
        have e2 : Fst .half q = q.1 := rfl
        have e3 : Beh .half q = q.2 := rfl
        have e4 : Beh .half p = p.2 := rfl
        omega
      | shut =>
        have e1 : Fst .shut p = 2 * p.1 := rfl
        have e2 : Fst .shut q = 2 * q.1 := rfl
        have e3 : Beh .shut q = 2 * q.2 + 1 := rfl
        have e4 : Beh .shut p = 2 * p.2 + 1 := rfl
        omega
  · intro h x
    constructor
    · rintro ⟨z, hz, c⟩
      rcases List.mem_cons.mp hz with rfl | hz
      · rcases h with h | ⟨q, hqm, h1, h2⟩
        · exact absurd c (ne_beh hp h x)
        · refine (cov_uni m hq x).mp ⟨q, hqm, ?_⟩
          cases m with
          | half =>
            have c : z.1 ≤ x ∧ x < z.2 := c
            exact ⟨by omega, by omega⟩
          | shut =>
            have c : 2 * z.1 ≤ x ∧ x ≤ 2 * z.2 := c
            exact ⟨by omega, by omega⟩
      · exact ⟨z, hz, c⟩
    · rintro ⟨z, hz, c⟩
      exact ⟨z, .tail _ hz, c⟩
theorem cov_app {m : Md} {ps qs : List PP} {x : Int} : Cov m (ps ++ qs) x ↔ Cov m ps x ∨ Cov m qs x := by
  constructor
  · rintro ⟨z, hz, c⟩
    rcases List.mem_append.mp hz with h | h
    · exact .inl ⟨z, h, c⟩
    · exact .inr ⟨z, h, c⟩
  · rintro (⟨z, hz, c⟩ | ⟨z, hz, c⟩)
    · exact ⟨z, List.mem_append_left _ hz, c⟩
    · exact ⟨z, List.mem_append_right _ hz, c⟩
end P

namespace DL
open PySem L2
/-! ### texts of data -/
theorem deq_refl {d : D} (h : pl d = true) : deq d d = true := PySem.SeqAt.eqv_refl _ (pl_can d h)
theorem gEq_refl {d : D} (h : cq d = true) : gEq d d = some (.bl true) := by
  unfold gEq
  have h' := h
  unfold cq at h'
  rw [Bool.and_eq_true] at h'
  rw [h, deq_refl h'.1]
  rfl
theorem gNe_refl {d : D} (h : cq d = true) : gNe d d = some (.bl false) := by
  unfold gNe
  have h' := h
  unfold cq at h'
  rw [Bool.and_eq_true] at h'
  rw [h, deq_refl h'.1]
  rfl
theorem all_app {a b : Str} (f : Nat → Bool) : (a ++ b).cps.all f = (a.cps.all f && b.cps.all f) := by
  show (a.cps ++ b.cps).all f = _
  rw [Array.all_append]
theorem len_app (a b : Str) : (a ++ b).length = a.length + b.length := by
  show (a.cps ++ b.cps).size = _
  rw [Array.size_append]
  rfl
theorem ok_app {a b : Str} (h1 : PyData.strOk a = true) (h2 : PyData.strOk b = true) : PyData.strOk (a ++ b) = true := by
  unfold PyData.strOk at *
  rw [all_app, h1, h2]
  rfl
theorem ok_str (s : String) : PyData.strOk (Str.ofString s) = true := by
  unfold PyData.strOk
  rw [Str.ofString_eq_toList]
  rw [Array.all_eq_true_iff_forall_mem]
  intro x hx
  rw [List.mem_toArray] at hx
  obtain ⟨c, _, rfl⟩ := List.mem_map.mp hx
  have := c.valid
  have h : c.toNat < 1114112 := by
    show c.val.toNat < 1114112
    rcases this with h | h
    · exact Nat.lt_trans h (by decide)
    · exact h.2
  simpa using h
/-- it may be shown: its text's length, its depth -/
structure Rs (d : D) (n k : Nat) : Prop where
  pl : pl d = true
  sh : (py d).showable = true
  ok : PyData.strOk (py d).shown = true
  len : (py d).shown.length ≤ n
  dp : dep d ≤ k
theorem Rs.up {d : D} {n k m j : Nat} (h : Rs d n k) (h1 : n ≤ m) (h2 : k ≤ j) : Rs d m j := ⟨h.pl, h.sh, h.ok, Nat.le_trans h.len h1, Nat.le_trans h.dp h2⟩
theorem rs_int {i : Int} (h1 : -1000000000000000000000000000000000000000000000000000000000000 < i) (h2 : i < 1000000000000000000000000000000000000000000000000000000000000) : Rs (.int i) 61 0 := by
  have hn : i.natAbs < 10 ^ 60 := by
    have : (10 ^ 60 : Nat) = 1000000000000000000000000000000000000000000000000000000000000 := by decide +kernel
    rw [this]
    omega
  have hn2 : i.natAbs < 2 ^ 1920 := Nat.lt_trans hn (by decide +kernel)
  refine ⟨rfl, ?_, ?_, ?_, Nat.le_refl _⟩
  · show decide (i.natAbs.log2 < 1920) = true
    exact decide_eq_true (PySem.Flt.log2_lt_of (by decide) hn2)
  · show PyData.strOk (PyData.int i).shown = true
    rw [PyData.shown_int]
    exact ok_str _
  · show (PyData.int i).shown.length ≤ 61
    rw [PyData.shown_int]
    show (Str.ofString (toString i)).length ≤ 61
    rw [PyProof.Rows.ofString_length]
    exact PySem.int_text_length_le10 (k := 60) (by decide) hn
theorem rs_bl {b : Bool} : Rs (.bl b) 5 0 := by cases b <;> exact ⟨rfl, rfl, by decide +kernel, by decide +kernel, Nat.le_refl _⟩
theorem rs_non : Rs .non 4 0 := ⟨rfl, rfl, by decide +kernel, by decide +kernel, Nat.le_refl _⟩
def RsL (ds : List D) (n k : Nat) : Prop := ∀ sep : Str, PyData.strOk sep = true → sep.length ≤ 2 → plL ds = true ∧ PyData.showableAll (pyL ds) = true ∧ PyData.strOk (sep.join (PyData.shownAll (pyL ds))) = true ∧ (sep.join (PyData.shownAll (pyL ds))).length ≤ n ∧ depL ds ≤ k
theorem rsl_nil : RsL [] 0 0 := fun sep _ _ => ⟨rfl, rfl, by show PyData.strOk Str.empty = true; decide +kernel, Nat.le_refl _, Nat.le_refl _⟩
theorem rsl_cons {d : D} {ds : List D} {n m k : Nat} (h : Rs d n k) (r : RsL ds m k) : RsL (d :: ds) (n + m + 2) k := fun sep h1 h2 => by
  obtain ⟨r1, r2, r3, r4, r5⟩ := r sep h1 h2
  refine ⟨by show (DL.pl d && plL ds) = true; rw [h.pl, r1]; rfl, by show (PyData.showable _ && PyData.showableAll _) = true; rw [h.sh, r2]; rfl, ?_, ?_, by show max (dep d) (depL ds) ≤ k; have := h.dp; omega⟩
  · cases ds with
    | nil => exact h.ok
    | cons e es => exact ok_app (ok_app h.ok h1) r3
  · cases ds with
    | nil =>
      have := h.len
      show (py d).shown.length ≤ _
      omega
    | cons e es =>
      have := h.len
      show ((py d).shown ++ sep ++ _).length ≤ _
      rw [len_app, len_app]
      have : (sep.join (PyData.shownAll (pyL (e :: es)))).length ≤ m := r4
      show (py d).shown.length + sep.length + (sep.join (PyData.shownAll (pyL (e :: es)))).length ≤ _
      omega
theorem sep_ok : PyData.strOk (Str.ofString ", ") = true ∧ (Str.ofString ", ").length ≤ 2 := ⟨ok_str _, by decide +kernel⟩
theorem rs_tup {ds : List D} {n k : Nat} (r : RsL ds n k) : Rs (.tup ds) (n + 3) (k + 1) := by
  obtain ⟨r1, r2, r3, r4, r5⟩ := r _ sep_ok.1 sep_ok.2
  refine ⟨r1, r2, ?_, ?_, Nat.succ_le_succ r5⟩
  · show PyData.strOk (PyData.tuple (pyL ds)).shown = true
    rw [PyData.shown_tuple]
    exact ok_app (ok_app (ok_str _) r3) (ok_str _)
  · show (PyData.tuple (pyL ds)).shown.length ≤ _
    rw [PyData.shown_tuple, len_app, len_app]
    have h1 : (Str.ofString "(").length = 1 := by decide +kernel
    have h2 : (Str.ofString (if ((pyL ds).length == 1) = true then ",)" else ")")).length ≤ 2 := by split <;> decide +kernel
    omega
theorem rs_lst {ds : List D} {n k : Nat} (r : RsL ds n k) : Rs (.lst ds) (n + 3) (k + 1) := by
  obtain ⟨r1, r2, r3, r4, r5⟩ := r _ sep_ok.1 sep_ok.2
  refine ⟨r1, r2, ?_, ?_, Nat.succ_le_succ r5⟩
  · show PyData.strOk (PyData.list (pyL ds)).shown = true
    rw [PyData.shown_list]
    exact ok_app (ok_app (ok_str _) r3) (ok_str _)
  · show (PyData.list (pyL ds)).shown.length ≤ _
    rw [PyData.shown_list, len_app, len_app]
    have h1 : (Str.ofString "[").length = 1 := by decide +kernel
    have h2 : (Str.ofString "]").length = 1 := by decide +kernel
    omega
theorem rs_str {s : String} (h1 : PyData.strOk (reprText (Str.ofString s)) = true := by decide +kernel) (h2 : (reprText (Str.ofString s)).length ≤ 100 := by decide +kernel) : Rs (.str (Str.ofString s)) 100 0 := by
  refine ⟨ok_str s, rfl, ?_, ?_, Nat.le_refl _⟩
  · show PyData.strOk (PyData.str _).shown = true
    rw [PyData.shown_str]
    exact h1
  · show (PyData.str _).shown.length ≤ 100
    rw [PyData.shown_str]
    exact h2
/-- the text of data -/
def rep (d : D) : Str := (py d).shown
theorem repr_ok {d : D} {n k : Nat} (h : Rs d n k) (hn : n ≤ 16777216) (hk : k ≤ 64) : gRepr [d] = some (.str (rep d)) := by
  refine if_pos ?_
  unfold rpOk
  rw [h.pl, h.sh, decide_eq_true (Nat.le_trans h.dp hk), decide_eq_true (Nat.le_trans h.len hn)]
  rfl
theorem rep_pl {d : D} {n k : Nat} (h : Rs d n k) : pl (.str (rep d)) = true := h.ok
theorem cq_of {d : D} (h1 : pl d = true) (h2 : dep d ≤ 64) : cq d = true := by
  unfold cq
  rw [h1, decide_eq_true h2]
  rfl
end DL

open PySem L2 DL
namespace P
/-! ### the program's tests, on any plain data -/
theorem kits : kitB "NoneType" "int" = some false ∧ kitB "bool" "int" = some true ∧ kitB "int" "int" = some true ∧ kitB "str" "int" = some false ∧ kitB "tuple" "int" = some false ∧ kitB "list" "int" = some false := by decide +kernel
theorem kitb : kitB "NoneType" "bool" = some false ∧ kitB "bool" "bool" = some true ∧ kitB "int" "bool" = some false ∧ kitB "str" "bool" = some false ∧ kitB "tuple" "bool" = some false ∧ kitB "list" "bool" = some false := by decide +kernel
theorem kitt : kitB "NoneType" "tuple" = some false ∧ kitB "bool" "tuple" = some false ∧ kitB "int" "tuple" = some false ∧ kitB "str" "tuple" = some false ∧ kitB "tuple" "tuple" = some true ∧ kitB "list" "tuple" = some false := by decide +kernel
theorem kitst : kitB "NoneType" "str" = some false ∧ kitB "bool" "str" = some false ∧ kitB "int" "str" = some false ∧ kitB "str" "str" = some true ∧ kitB "tuple" "str" = some false ∧ kitB "list" "str" = some false := by decide +kernel
def isI : D → Bool
  | .int _ => true
  | _ => false
def isB : D → Bool
  | .bl _ => true
  | _ => false
def isN : D → Bool
  | .int _ => true
  | .bl _ => true
  | _ => false
def isT : D → Bool
  | .tup _ => true
  | _ => false
def isS : D → Bool
  | .str _ => true
  | _ => false
theorem isi_int {d : D} (h : pl d = true) : gIsi [d, .ty "int"] = some (.bl (isN d)) := by
  obtain ⟨h1, h2, h3, h4, h5, h6⟩ := kits
  cases d <;> first | (cases h; done) | (simp only [gIsi, tyOf, h1, h2, h3, h4, h5, h6]; rfl)
theorem isi_bool {d : D} (h : pl d = true) : gIsi [d, .ty "bool"] = some (.bl (isB d)) := by
  obtain ⟨h1, h2, h3, h4, h5, h6⟩ := kitb
  cases d <;> first | (cases h; done) | (simp only [gIsi, tyOf, h1, h2, h3, h4, h5, h6]; rfl)
theorem isi_tup {d : D} (h : pl d = true) : gIsi [d, .ty "tuple"] = some (.bl (isT d)) := by
  obtain ⟨h1, h2, h3, h4, h5, h6⟩ := kitt
  cases d <;> first | (cases h; done) | (simp only [gIsi, tyOf, h1, h2, h3, h4, h5, h6]; rfl)
theorem isi_str {d : D} (h : pl d = true) : gIsi [d, .ty "str"] = some (.bl (isS d)) := by
  obtain ⟨h1, h2, h3, h4, h5, h6⟩ := kitst
  cases d <;> first | (cases h; done) | (simp only [gIsi, tyOf, h1, h2, h3, h4, h5, h6]; rfl)
/-- an outcome that is known -/
theorem fo_of {o r : FO} (h : WP o (fun z => z = r)) : o = r := h
theorem is_integer_any {d : D} (h : pl d = true) : f_is_integer [d] = .ok (.dt (.bl (isI d))) [] := fo_of (by
  unfold f_is_integer S_is_integer
  simp_arith [isi_int h, isi_bool h]
  cases d <;> first | (cases h; done) | (simp_arith [isN, isB, isI]; rfl))
def isM : D → Bool
  | .int i => decide (-10000000000000000000000000000000 < i) && decide (i < 10000000000000000000000000000000)
  | _ => false
theorem is_moment_any {d : D} (h : pl d = true) : f_is_moment [d] = .ok (.dt (.bl (isM d))) [] := fo_of (by
  unfold f_is_moment S_is_moment
  simp_arith [is_integer_any h]
  cases d <;> first | (cases h; done) | skip
  case int i =>
    simp_arith [isI]
    refine w_dec (fun h1 => ?_) (fun h1 => ?_)
    · simp_arith []
      show WP (FO.ok _ _) _
      rw [show isM (.int i) = (true && decide (i < 10000000000000000000000000000000)) by simp [isM, h1]]
      rfl
    · simp_arith []
      rw [show isM (.int i) = false by simp [isM, h1]]
      rfl
  all_goals (simp_arith [isI]; rfl))
def isEd : D → Bool
  | .int i => edge i
  | _ => false
theorem is_edge_any {d : D} (h : pl d = true) : f_is_edge [d] = .ok (.dt (.bl (isEd d))) [] := by
  cases d <;> first | (cases h; done) | skip
  case int i => exact is_edge_int i
  all_goals exact fo_of (by
    unfold f_is_edge S_is_edge
    simp_arith [is_integer_any h, isI]
    rfl)
def isPr : D → Bool
  | .tup [a, b] => isEd a && isEd b
  | _ => false
theorem is_pair_any {d : D} (h : pl d = true) : f_is_pair [d] = .ok (.dt (.bl (isPr d))) [] := fo_of (by
  unfold f_is_pair S_is_pair
  simp_arith [isi_tup h]
  cases d <;> first | (cases h; done) | skip
  case tup ds =>
    simp_arith [isT]
    refine w_dec (fun h1 => ?_) (fun h1 => ?_)
    · obtain ⟨a, b, rfl⟩ : ∃ a b, ds = [a, b] := by
        match ds, h1 with
        | [a, b], _ => exact ⟨a, b, rfl⟩
        | [], h1 => exact absurd h1 (by decide)
        | [_], h1 => exact absurd h1 (by simp)
        | _ :: _ :: _ :: _, h1 => exact absurd h1 (by simp; omega)
      have ha : pl a = true := by
        have : (pl a && (pl b && true)) = true := h
        simp only [Bool.and_eq_true] at this
        exact this.1
      have hb : pl b = true := by
        have : (pl a && (pl b && true)) = true := h
        simp only [Bool.and_eq_true] at this
        exact this.2.1
      simp_arith [is_edge_any ha]
      refine w_bool (fun h1 => ?_) (fun h1 => ?_)
      · simp_arith [is_edge_any hb]
        rw [show isPr (.tup [a, b]) = isEd b by simp [isPr, h1]]
        rfl
      · simp_arith []
        rw [show isPr (.tup [a, b]) = false by simp [isPr, h1], h1]
        rfl
    · simp_arith []
      rw [show isPr (.tup ds) = false by
        match ds, h1 with
        | [a, b], h1 => exact absurd rfl h1
        | [], _ => rfl
        | [_], _ => rfl
        | _ :: _ :: _ :: _, _ => rfl, decide_eq_false h1]
      rfl
  all_goals (simp_arith [isT]; rfl))
def isSt : D → Bool
  | .tup [.int a, .int b] => okS (a, b)
  | _ => false
theorem isPr_inv {d : D} (h : isPr d = true) : ∃ a b : Int, d = .tup [.int a, .int b] ∧ edge a = true ∧ edge b = true := by
  unfold isPr at h
  split at h
  · rename_i a b
    rw [Bool.and_eq_true] at h
    obtain ⟨h1, h2⟩ := h
    cases a <;> first | (cases h1; done) | skip
    cases b <;> first | (cases h2; done) | skip
    exact ⟨_, _, rfl, h1, h2⟩
  · cases h
theorem isSt_pr {d : D} (h : isPr d = false) : isSt d = false := by
  unfold isSt
  split
  · rename_i a b
    have h : (edge a && edge b) = false := h
    unfold okS
    dsimp only
    rw [h]
    rfl
  · rfl
theorem is_stretch_any {d : D} (h : pl d = true) : f_is_stretch [d] = .ok (.dt (.bl (isSt d))) [] := fo_of (by
  unfold f_is_stretch S_is_stretch
  simp_arith [is_pair_any h]
  refine w_bool (fun h1 => ?_) (fun h1 => ?_)
  · obtain ⟨a, b, rfl, ha, hb⟩ := isPr_inv h1
    have e : isSt (.tup [.int a, .int b]) = (decide (-10000000000000000000000000000000 < b) && decide (a < 10000000000000000000000000000000) && decide (a ≤ b)) := by
      show okS (a, b) = _
      unfold okS
      rw [ha, hb]
      rfl
    rw [e]
    simp_arith []
    refine w_dec (fun h2 => ?_) (fun h2 => ?_)
    · simp_arith []
      refine w_dec (fun h3 => ?_) (fun h3 => ?_)
      · simp_arith []
        simp only [h2, h3, decide_true, Bool.true_and]
        rfl
      · simp_arith []
        simp only [h2, h3, decide_true, decide_false, Bool.true_and, Bool.false_and]
        rfl
    · simp_arith []
      simp only [h2, decide_false, Bool.false_and]
      rfl
  · simp_arith []
    rw [isSt_pr h1, h1]
    rfl)
def isE : D → Bool
  | .str s => ("half" : Str) == s || ("shut" : Str) == s
  | _ => false
theorem is_ends_any {d : D} (h : pl d = true) : f_is_ends [d] = .ok (.dt (.bl (isE d))) [] := fo_of (by
  unfold f_is_ends S_is_ends
  simp_arith [isi_str h]
  cases d <;> first | (cases h; done) | skip
  case str s =>
    have e : gIn false (.str s) (.tup [.str "half", .str "shut"]) = some (.bl (("half" : Str) == s || ("shut" : Str) == s)) := by
      show some (D.bl (deq (.str "half") (.str s) || (deq (.str "shut") (.str s) || false))) = _
      rw [deq_str, deq_str, Bool.or_false]
    simp_arith [isS, e]
    rfl
  all_goals (simp_arith [isS]; rfl))
theorem isE_inv {d : D} (h : isE d = true) : ∃ m : Md, d = .str m.s := by
  unfold isE at h
  split at h
  · rw [Bool.or_eq_true] at h
    rcases h with h | h
    · exact ⟨.half, by rw [← eq_of_beq h]; rfl⟩
    · exact ⟨.shut, by rw [← eq_of_beq h]; rfl⟩
  · cases h
theorem isE_md (m : Md) : isE (.str m.s) = true := by cases m <;> decide +kernel
theorem pl_md (m : Md) : pl (.str m.s) = true := by cases m <;> decide +kernel
/-- what the checks do: they raise, or they give None -/
theorem check_ends_any {d : D} (h : pl d = true) : f_check_ends [d] = if isE d then .ok (.dt .non) [] else .ex "BadEnds" "ends" d [] := fo_of (by
  unfold f_check_ends S_check_ends
  simp_arith [is_ends_any h]
  refine w_bool (fun h1 => ?_) (fun h1 => ?_)
  · have : isE d = false := by simpa using h1
    simp_arith []
    rw [this]
    rfl
  · have : isE d = true := by simpa using h1
    simp_arith []
    rw [this]
    rfl)
theorem check_moment_any {d : D} (h : pl d = true) : f_check_moment [d] = if isM d then .ok (.dt .non) [] else .ex "BadMoment" "moment" d [] := fo_of (by
  unfold f_check_moment S_check_moment
  simp_arith [is_moment_any h]
  refine w_bool (fun h1 => ?_) (fun h1 => ?_)
  · have : isM d = false := by simpa using h1
    simp_arith []
    rw [this]
    rfl
  · have : isM d = true := by simpa using h1
    simp_arith []
    rw [this]
    rfl)
end P

open PySem L2 DL
namespace P
theorem gEq_md (m : Md) : gEq (.str m.s) (.str "half") = some (.bl m.h) := by
  unfold gEq
  rw [cq_md, cq_half, deq_half]
  rfl
/-- whether a pair of edges holds a number -/
def holdB (m : Md) (a b i : Int) : Bool := match m with
  | .half => decide (a ≤ i) && decide (i < b)
  | .shut => decide (a ≤ i) && decide (i ≤ b)
theorem pair_holds_ok (m : Md) (a b i : Int) : f_pair_holds [.tup [.int a, .int b], .int i, .str m.s] = .ok (.dt (.bl (holdB m a b i))) [] := fo_of (by
  unfold f_pair_holds S_pair_holds
  simp_arith [gEq_md]
  cases m
  · simp_arith [Md.h]
    refine w_dec (fun h1 => ?_) (fun h1 => ?_)
    · simp_arith []
      simp only [holdB, h1, decide_true, Bool.true_and]
      rfl
    · simp_arith []
      simp only [holdB, h1, decide_false, Bool.false_and]
      rfl
  · simp_arith [Md.h]
    refine w_dec (fun h1 => ?_) (fun h1 => ?_)
    · simp_arith []
      simp only [holdB, h1, decide_true, Bool.true_and]
      rfl
    · simp_arith []
      simp only [holdB, h1, decide_false, Bool.false_and]
      rfl)
theorem isM_inv {d : D} (h : isM d = true) : ∃ i, d = .int i := by
  cases d <;> first | exact ⟨_, rfl⟩ | cases h
theorem holds_1 {p w e : D} (h : pl w = true) (h1 : isM w = false) : f_holds [p, w, e] = .ex "BadMoment" "moment" w [] := fo_of (by
  have q := check_moment_any h
  rw [h1] at q
  unfold f_holds S_holds
  simp_arith [q]
  rfl)
theorem holds_2 {p e : D} {i : Int} (h1 : isM (.int i) = true) (h : pl e = true) (h2 : isE e = false) : f_holds [p, .int i, e] = .ex "BadEnds" "ends" e [] := fo_of (by
  have q := check_moment_any (d := .int i) rfl
  rw [h1] at q
  have r := check_ends_any h
  rw [h2] at r
  unfold f_holds S_holds
  simp_arith [q, r]
  rfl)
theorem holds_3 {m : Md} {a b i : Int} (h1 : isM (.int i) = true) : f_holds [.tup [.int a, .int b], .int i, .str m.s] = .ok (.dt (.bl (holdB m a b i))) [] := fo_of (by
  have q := check_moment_any (d := .int i) rfl
  rw [h1] at q
  have r := check_ends_any (pl_md m)
  rw [isE_md] at r
  unfold f_holds S_holds
  simp_arith [q, r, pair_holds_ok]
  rfl)
def emptyB (m : Md) (a b : Int) : Bool := decide (b < a) || (m.h && decide (a = b))
theorem is_empty_1 {p e : D} (h : pl e = true) (h2 : isE e = false) : f_is_empty [p, e] = .ex "BadEnds" "ends" e [] := fo_of (by
  have r := check_ends_any h
  rw [h2] at r
  unfold f_is_empty S_is_empty
  simp_arith [r]
  rfl)
theorem is_empty_2 {m : Md} {a b : Int} : f_is_empty [.tup [.int a, .int b], .str m.s] = .ok (.dt (.bl (emptyB m a b))) [] := fo_of (by
  have r := check_ends_any (pl_md m)
  rw [isE_md] at r
  unfold f_is_empty S_is_empty
  simp_arith [r, gEq_md]
  refine w_dec (fun h1 => ?_) (fun h1 => ?_)
  · simp_arith []
    simp only [emptyB, h1, decide_true, Bool.true_or]
    rfl
  · simp_arith [gEq_md]
    simp only [emptyB, h1, decide_false, Bool.false_or]
    refine w_bool (fun h2 => ?_) (fun h2 => ?_)
    · simp_arith []
      rw [h2, Bool.true_and]
      rfl
    · simp_arith []
      rw [h2, Bool.false_and]
      rfl)
end P

namespace K3
open PySem L2 DL
open PyProof.Rows (envOfC)
abbrev topS (i : Nat) : Stmt := PySem.Challenge.pw_spanloops_k03_whole_unions.main.body.getD i (.Pass ⟨0, 0, 0, 0⟩)
abbrev st_is_integer : Stmt := topS 9
theorem sc_is_integer : FnScope ["thing"] ["thing"] (defScope st_is_integer) := ⟨rfl, rfl, rfl, by decide +kernel, rfl, by decide +kernel, by decide +kernel⟩
abbrev st_is_near : Stmt := topS 10
theorem sc_is_near : FnScope ["number"] ["number"] (defScope st_is_near) := ⟨rfl, rfl, rfl, by decide +kernel, rfl, by decide +kernel, by decide +kernel⟩
abbrev st_is_edge : Stmt := topS 11
theorem sc_is_edge : FnScope ["thing"] ["thing"] (defScope st_is_edge) := ⟨rfl, rfl, rfl, by decide +kernel, rfl, by decide +kernel, by decide +kernel⟩
abbrev st_is_pair : Stmt := topS 12
theorem sc_is_pair : FnScope ["thing"] ["thing"] (defScope st_is_pair) := ⟨rfl, rfl, rfl, by decide +kernel, rfl, by decide +kernel, by decide +kernel⟩
abbrev st_is_stretch : Stmt := topS 13
theorem sc_is_stretch : FnScope ["thing"] ["thing"] (defScope st_is_stretch) := ⟨rfl, rfl, rfl, by decide +kernel, rfl, by decide +kernel, by decide +kernel⟩
abbrev st_is_ends : Stmt := topS 14
theorem sc_is_ends : FnScope ["thing"] ["thing"] (defScope st_is_ends) := ⟨rfl, rfl, rfl, by decide +kernel, rfl, by decide +kernel, by decide +kernel⟩
abbrev st_check_ends : Stmt := topS 15
theorem sc_check_ends : FnScope ["ends"] ["ends"] (defScope st_check_ends) := ⟨rfl, rfl, rfl, by decide +kernel, rfl, by decide +kernel, by decide +kernel⟩
abbrev st_check_spans : Stmt := topS 16
theorem sc_check_spans : FnScope ["spans", "index", "span"] ["spans"] (defScope st_check_spans) := ⟨rfl, rfl, rfl, by decide +kernel, rfl, by decide +kernel, by decide +kernel⟩
abbrev st_is_empty : Stmt := topS 17
theorem sc_is_empty : FnScope ["pair", "ends"] ["pair", "ends"] (defScope st_is_empty) := ⟨rfl, rfl, rfl, by decide +kernel, rfl, by decide +kernel, by decide +kernel⟩
abbrev st_union : Stmt := topS 18
theorem sc_union : FnScope ["spans", "ends", "found", "begin", "end", "span"] ["spans", "ends"] (defScope st_union) := ⟨rfl, rfl, rfl, by decide +kernel, rfl, by decide +kernel, by decide +kernel⟩
abbrev st_in_one_form : Stmt := topS 19
theorem sc_in_one_form : FnScope ["spans", "ends", "index", "span"] ["spans", "ends"] (defScope st_in_one_form) := ⟨rfl, rfl, rfl, by decide +kernel, rfl, by decide +kernel, by decide +kernel⟩
abbrev st__law_bag : Stmt := topS 21
theorem sc__law_bag : FnScope ["script", "at", "cell"] ["script", "at"] (defScope st__law_bag) := ⟨rfl, rfl, rfl, by decide +kernel, rfl, by decide +kernel, by decide +kernel⟩
abbrev st__law_take : Stmt := topS 22
theorem sc__law_take : FnScope ["bag", "many", "digit", "mixed"] ["bag", "many"] (defScope st__law_take) := ⟨rfl, rfl, rfl, by decide +kernel, rfl, by decide +kernel, by decide +kernel⟩
abbrev st__law_edge : Stmt := topS 23
theorem sc__law_edge : FnScope ["bag", "kind"] ["bag"] (defScope st__law_edge) := ⟨rfl, rfl, rfl, by decide +kernel, rfl, by decide +kernel, by decide +kernel⟩
abbrev st__law_stretch : Stmt := topS 24
theorem sc__law_stretch : FnScope ["bag", "one", "other", "begin", "end", "kind"] ["bag"] (defScope st__law_stretch) := ⟨rfl, rfl, rfl, by decide +kernel, rfl, by decide +kernel, by decide +kernel⟩
abbrev st__law_stretches : Stmt := topS 25
theorem sc__law_stretches : FnScope ["bag", "many", "factor", "kind", "now", "rows", "turn", "begin", "low", "high"] ["bag", "many"] (defScope st__law_stretches) := ⟨rfl, rfl, rfl, by decide +kernel, rfl, by decide +kernel, by decide +kernel⟩
abbrev st__law_moments : Stmt := topS 26
theorem sc__law_moments : FnScope ["pairs", "found", "begin", "end", "one"] ["pairs"] (defScope st__law_moments) := ⟨rfl, rfl, rfl, by decide +kernel, rfl, by decide +kernel, by decide +kernel⟩
abbrev st__law_holds : Stmt := topS 27
theorem sc__law_holds : FnScope ["pair", "moment", "mode"] ["pair", "moment", "mode"] (defScope st__law_holds) := ⟨rfl, rfl, rfl, by decide +kernel, rfl, by decide +kernel, by decide +kernel⟩
abbrev st__law_pairs_right : Stmt := topS 28
theorem sc__law_pairs_right : FnScope ["found", "count", "pair"] ["found", "count"] (defScope st__law_pairs_right) := ⟨rfl, rfl, rfl, by decide +kernel, rfl, by decide +kernel, by decide +kernel⟩
abbrev st__law_due : Stmt := topS 29
theorem sc__law_due : FnScope ["rows", "mode", "full", "begins", "closes", "begin", "end", "span", "one"] ["rows", "mode"] (defScope st__law_due) := ⟨rfl, rfl, rfl, by decide +kernel, rfl, by decide +kernel, by decide +kernel⟩
abbrev st__law_right : Stmt := topS 30
theorem sc__law_right : FnScope ["rows", "mode", "is_by_name", "kept", "told", "moment", "many", "k", "pair", "turned", "span"] ["rows", "mode", "is_by_name"] (defScope st__law_right) := ⟨rfl, rfl, rfl, by decide +kernel, rfl, by decide +kernel, by decide +kernel⟩
abbrev st_law : Stmt := topS 31
theorem sc_law : FnScope ["script", "at", "bag", "many", "rows", "mode"] ["script"] (defScope st_law) := ⟨rfl, rfl, rfl, by decide +kernel, rfl, by decide +kernel, by decide +kernel⟩
/-- what stands in the written part -/
structure Wd (K : PySem.W.Frag) (mg : Str → Option Value) where
  a_is_integer : Addr
  d_is_integer : FuncData
  F_is_integer : FunD K "is_integer" "is_integer" (defArgs st_is_integer) (defBody st_is_integer) (defScope st_is_integer) [] [] a_is_integer d_is_integer
  m_is_integer : mg "is_integer" = some (.ref a_is_integer)
  a_is_near : Addr
  d_is_near : FuncData
  F_is_near : FunD K "is_near" "is_near" (defArgs st_is_near) (defBody st_is_near) (defScope st_is_near) [] [] a_is_near d_is_near
  m_is_near : mg "is_near" = some (.ref a_is_near)
  a_is_edge : Addr
  d_is_edge : FuncData
  F_is_edge : FunD K "is_edge" "is_edge" (defArgs st_is_edge) (defBody st_is_edge) (defScope st_is_edge) [] [] a_is_edge d_is_edge
  m_is_edge : mg "is_edge" = some (.ref a_is_edge)
  a_is_pair : Addr
  d_is_pair : FuncData
  F_is_pair : FunD K "is_pair" "is_pair" (defArgs st_is_pair) (defBody st_is_pair) (defScope st_is_pair) [] [] a_is_pair d_is_pair
  m_is_pair : mg "is_pair" = some (.ref a_is_pair)
  a_is_stretch : Addr
  d_is_stretch : FuncData
  F_is_stretch : FunD K "is_stretch" "is_stretch" (defArgs st_is_stretch) (defBody st_is_stretch) (defScope st_is_stretch) [] [] a_is_stretch d_is_stretch
  m_is_stretch : mg "is_stretch" = some (.ref a_is_stretch)
  a_is_ends : Addr
  d_is_ends : FuncData
  F_is_ends : FunD K "is_ends" "is_ends" (defArgs st_is_ends) (defBody st_is_ends) (defScope st_is_ends) [] [] a_is_ends d_is_ends
  m_is_ends : mg "is_ends" = some (.ref a_is_ends)
  a_check_ends : Addr
  d_check_ends : FuncData
  F_check_ends : FunD K "check_ends" "check_ends" (defArgs st_check_ends) (defBody st_check_ends) (defScope st_check_ends) [] [] a_check_ends d_check_ends
  m_check_ends : mg "check_ends" = some (.ref a_check_ends)
  a_check_spans : Addr
  d_check_spans : FuncData
  F_check_spans : FunD K "check_spans" "check_spans" (defArgs st_check_spans) (defBody st_check_spans) (defScope st_check_spans) [] [] a_check_spans d_check_spans
  m_check_spans : mg "check_spans" = some (.ref a_check_spans)
  a_is_empty : Addr
  d_is_empty : FuncData
  F_is_empty : FunD K "is_empty" "is_empty" (defArgs st_is_empty) (defBody st_is_empty) (defScope st_is_empty) [(.str "half")] [] a_is_empty d_is_empty
  m_is_empty : mg "is_empty" = some (.ref a_is_empty)
  a_union : Addr
  d_union : FuncData
  F_union : FunD K "union" "union" (defArgs st_union) (defBody st_union) (defScope st_union) [(.str "half")] [] a_union d_union
  m_union : mg "union" = some (.ref a_union)
  a_in_one_form : Addr
  d_in_one_form : FuncData
  F_in_one_form : FunD K "in_one_form" "in_one_form" (defArgs st_in_one_form) (defBody st_in_one_form) (defScope st_in_one_form) [(.str "half")] [] a_in_one_form d_in_one_form
  m_in_one_form : mg "in_one_form" = some (.ref a_in_one_form)
  a__law_bag : Addr
  d__law_bag : FuncData
  F__law_bag : FunD K "_law_bag" "_law_bag" (defArgs st__law_bag) (defBody st__law_bag) (defScope st__law_bag) [] [] a__law_bag d__law_bag
  m__law_bag : mg "_law_bag" = some (.ref a__law_bag)
  a__law_take : Addr
  d__law_take : FuncData
  F__law_take : FunD K "_law_take" "_law_take" (defArgs st__law_take) (defBody st__law_take) (defScope st__law_take) [] [] a__law_take d__law_take
  m__law_take : mg "_law_take" = some (.ref a__law_take)
  a__law_edge : Addr
  d__law_edge : FuncData
  F__law_edge : FunD K "_law_edge" "_law_edge" (defArgs st__law_edge) (defBody st__law_edge) (defScope st__law_edge) [] [] a__law_edge d__law_edge
  m__law_edge : mg "_law_edge" = some (.ref a__law_edge)
  a__law_stretch : Addr
  d__law_stretch : FuncData
  F__law_stretch : FunD K "_law_stretch" "_law_stretch" (defArgs st__law_stretch) (defBody st__law_stretch) (defScope st__law_stretch) [] [] a__law_stretch d__law_stretch
  m__law_stretch : mg "_law_stretch" = some (.ref a__law_stretch)
  a__law_stretches : Addr
  d__law_stretches : FuncData
  F__law_stretches : FunD K "_law_stretches" "_law_stretches" (defArgs st__law_stretches) (defBody st__law_stretches) (defScope st__law_stretches) [] [] a__law_stretches d__law_stretches
  m__law_stretches : mg "_law_stretches" = some (.ref a__law_stretches)
  a__law_moments : Addr
  d__law_moments : FuncData
  F__law_moments : FunD K "_law_moments" "_law_moments" (defArgs st__law_moments) (defBody st__law_moments) (defScope st__law_moments) [] [] a__law_moments d__law_moments
  m__law_moments : mg "_law_moments" = some (.ref a__law_moments)
  a__law_holds : Addr
  d__law_holds : FuncData
  F__law_holds : FunD K "_law_holds" "_law_holds" (defArgs st__law_holds) (defBody st__law_holds) (defScope st__law_holds) [] [] a__law_holds d__law_holds
  m__law_holds : mg "_law_holds" = some (.ref a__law_holds)
  a__law_pairs_right : Addr
  d__law_pairs_right : FuncData
  F__law_pairs_right : FunD K "_law_pairs_right" "_law_pairs_right" (defArgs st__law_pairs_right) (defBody st__law_pairs_right) (defScope st__law_pairs_right) [] [] a__law_pairs_right d__law_pairs_right
  m__law_pairs_right : mg "_law_pairs_right" = some (.ref a__law_pairs_right)
  a__law_due : Addr
  d__law_due : FuncData
  F__law_due : FunD K "_law_due" "_law_due" (defArgs st__law_due) (defBody st__law_due) (defScope st__law_due) [] [] a__law_due d__law_due
  m__law_due : mg "_law_due" = some (.ref a__law_due)
  a__law_right : Addr
  d__law_right : FuncData
  F__law_right : FunD K "_law_right" "_law_right" (defArgs st__law_right) (defBody st__law_right) (defScope st__law_right) [] [] a__law_right d__law_right
  m__law_right : mg "_law_right" = some (.ref a__law_right)
  a_law : Addr
  d_law : FuncData
  F_law : FunD K "law" "law" (defArgs st_law) (defBody st_law) (defScope st_law) [] [] a_law d_law
  m_law : mg "law" = some (.ref a_law)
  m_len : mg "len" = none
  m_int : mg "int" = none
  m_abs : mg "abs" = none
  m_max : mg "max" = none
  m_min : mg "min" = none
  m_range : mg "range" = none
  m_isinstance : mg "isinstance" = none
  m_bool : mg "bool" = none
  m_tuple : mg "tuple" = none
  m_enumerate : mg "enumerate" = none
  m_ValueError : mg "ValueError" = none
  m_str : mg "str" = none
  m_sorted : mg "sorted" = none
  m_set : mg "set" = none
  m_list : mg "list" = none
  m_zip : mg "zip" = none
  m_reversed : mg "reversed" = none
  g_MOST : Gc mg "MOST" (.int (1000000000000000000000000000000))
  g_LAST : Gc mg "LAST" (.int (10000000000000000000000000000000))
  g_FIRST : Gc mg "FIRST" (.int (-10000000000000000000000000000000))
  a_Ends : Addr
  m_Ends : mg "Ends" = some (.ref a_Ends)
  r_Ends : ClX.CRead K a_Ends (.type "type")
  a_BadItem : Addr
  m_BadItem : mg "BadItem" = some (.ref a_BadItem)
  T_BadItem : OexB K a_BadItem "ValueError.__new__" [.type "ValueError", .type "Exception", .type "BaseException", .type "object"]
  t_BadItem : PySem.W.takerIn K a_BadItem "index" = some none
  i_BadItem : Addr
  j_BadItem : FuncData
  iC_BadItem : PySem.W.findIn K (.ref a_BadItem) "__init__" = some (some (.ref i_BadItem))
  tI_BadItem : PySem.W.typeIn K (.ref i_BadItem) = some (.type "function")
  FI_BadItem : FunD K "__init__" "BadItem.__init__" (defArgs (clsS (topS 2) 0)) (defBody (clsS (topS 2) 0)) (defScope (clsS (topS 2) 0)) [] [] i_BadItem j_BadItem
  a_BadEnds : Addr
  m_BadEnds : mg "BadEnds" = some (.ref a_BadEnds)
  T_BadEnds : OexB K a_BadEnds "ValueError.__new__" [.type "ValueError", .type "Exception", .type "BaseException", .type "object"]
  t_BadEnds : PySem.W.takerIn K a_BadEnds "ends" = some none
  i_BadEnds : Addr
  j_BadEnds : FuncData
  iC_BadEnds : PySem.W.findIn K (.ref a_BadEnds) "__init__" = some (some (.ref i_BadEnds))
  tI_BadEnds : PySem.W.typeIn K (.ref i_BadEnds) = some (.type "function")
  FI_BadEnds : FunD K "__init__" "BadEnds.__init__" (defArgs (clsS (topS 1) 0)) (defBody (clsS (topS 1) 0)) (defScope (clsS (topS 1) 0)) [] [] i_BadEnds j_BadEnds
  v_ValueError : PySem.W.findCls K (.type "ValueError") (.type "type") "__init__" = some (.val (.builtin "ValueError.__init__"))
  u_Ends_SHUT : Value
  v_Ends_SHUT : ClX.CVal K a_Ends (.type "type") "SHUT" (.str "shut") u_Ends_SHUT
  u_Ends_HALF : Value
  v_Ends_HALF : ClX.CVal K a_Ends (.type "type") "HALF" (.str "half") u_Ends_HALF
section
variable {PR : Program} {w : World} {K : PySem.W.Frag} {mg : Str → Option Value} {base : Heap} (E : Wd K mg)
theorem sc_BadItem : FnScope ["self", "index"] ["self", "index"] (defScope (clsS (topS 2) 0)) := ⟨rfl, rfl, rfl, by decide +kernel, rfl, by decide +kernel, by decide +kernel⟩
include E in
theorem rz_BadItem : RaiseB PR w K mg base "BadItem" "index" E.a_BadItem "ValueError" "ValueError.__new__" "ValueError.__init__" [.type "ValueError", .type "Exception", .type "BaseException", .type "object"] := ⟨PySem.F.excBase_ValueError, E.T_BadItem, E.m_BadItem, E.t_BadItem, E.i_BadItem, E.j_BadItem, E.iC_BadItem, E.tI_BadItem,
  xinit (msg := "a wrong item in a list") E.FI_BadItem sc_BadItem (fun cdv A outer s H Ex => pss_cons (ps_expr (pe_initB PySem.F.excBase_ValueError (by kernel_rfl) (by decide +kernel) (by decide +kernel) rfl E.m_ValueError (by decide +kernel) (by decide) (by decide) E.v_ValueError (pa_cons (pv 0) (pa_cons pe_str pa_nil)))) (pss_one (ps_ostB PySem.F.store_ValueError (pv 0) (pv 1)))),
  binds_raw E.FI_BadItem fun _ _ _ _ _ _ us hl => match us, hl with | [_, _], _ => rfl⟩
theorem sc_BadEnds : FnScope ["self", "ends"] ["self", "ends"] (defScope (clsS (topS 1) 0)) := ⟨rfl, rfl, rfl, by decide +kernel, rfl, by decide +kernel, by decide +kernel⟩
include E in
theorem rz_BadEnds : RaiseB PR w K mg base "BadEnds" "ends" E.a_BadEnds "ValueError" "ValueError.__new__" "ValueError.__init__" [.type "ValueError", .type "Exception", .type "BaseException", .type "object"] := ⟨PySem.F.excBase_ValueError, E.T_BadEnds, E.m_BadEnds, E.t_BadEnds, E.i_BadEnds, E.j_BadEnds, E.iC_BadEnds, E.tI_BadEnds,
  xinit (msg := "not a way to read ends") E.FI_BadEnds sc_BadEnds (fun cdv A outer s H Ex => pss_cons (ps_expr (pe_initB PySem.F.excBase_ValueError (by kernel_rfl) (by decide +kernel) (by decide +kernel) rfl E.m_ValueError (by decide +kernel) (by decide) (by decide) E.v_ValueError (pa_cons (pv 0) (pa_cons pe_str pa_nil)))) (pss_one (ps_ostB PySem.F.store_ValueError (pv 0) (pv 1)))),
  binds_raw E.FI_BadEnds fun _ _ _ _ _ _ us hl => match us, hl with | [_, _], _ => rfl⟩
include E in
theorem kb__law_take_2 : KB K E.d__law_take ["bag", "many"] 2 [] [] [0, 1] := kb_raw E.F__law_take fun _ _ _ _ _ _ us ws h1 h2 => match us, ws, h1, h2 with | [_, _], [], _, _ => rfl
include E in
theorem kb__law_edge_1 : KB K E.d__law_edge ["bag"] 1 [] [] [0] := kb_raw E.F__law_edge fun _ _ _ _ _ _ us ws h1 h2 => match us, ws, h1, h2 with | [_], [], _, _ => rfl
include E in
theorem kb__law_stretch_1 : KB K E.d__law_stretch ["bag"] 1 [] [] [0] := kb_raw E.F__law_stretch fun _ _ _ _ _ _ us ws h1 h2 => match us, ws, h1, h2 with | [_], [], _, _ => rfl
include E in
theorem kb_is_integer_1 : KB K E.d_is_integer ["thing"] 1 [] [] [0] := kb_raw E.F_is_integer fun _ _ _ _ _ _ us ws h1 h2 => match us, ws, h1, h2 with | [_], [], _, _ => rfl
include E in
theorem kb_is_near_1 : KB K E.d_is_near ["number"] 1 [] [] [0] := kb_raw E.F_is_near fun _ _ _ _ _ _ us ws h1 h2 => match us, ws, h1, h2 with | [_], [], _, _ => rfl
include E in
theorem kb_is_edge_1 : KB K E.d_is_edge ["thing"] 1 [] [] [0] := kb_raw E.F_is_edge fun _ _ _ _ _ _ us ws h1 h2 => match us, ws, h1, h2 with | [_], [], _, _ => rfl
include E in
theorem kb_is_pair_1 : KB K E.d_is_pair ["thing"] 1 [] [] [0] := kb_raw E.F_is_pair fun _ _ _ _ _ _ us ws h1 h2 => match us, ws, h1, h2 with | [_], [], _, _ => rfl
include E in
theorem kb_is_stretch_1 : KB K E.d_is_stretch ["thing"] 1 [] [] [0] := kb_raw E.F_is_stretch fun _ _ _ _ _ _ us ws h1 h2 => match us, ws, h1, h2 with | [_], [], _, _ => rfl
include E in
theorem kb_is_ends_1 : KB K E.d_is_ends ["thing"] 1 [] [] [0] := kb_raw E.F_is_ends fun _ _ _ _ _ _ us ws h1 h2 => match us, ws, h1, h2 with | [_], [], _, _ => rfl
include E in
theorem kb_check_ends_1 : KB K E.d_check_ends ["ends"] 1 [] [] [0] := kb_raw E.F_check_ends fun _ _ _ _ _ _ us ws h1 h2 => match us, ws, h1, h2 with | [_], [], _, _ => rfl
include E in
theorem kb_check_spans_1 : KB K E.d_check_spans ["spans"] 1 [] [] [0] := kb_raw E.F_check_spans fun _ _ _ _ _ _ us ws h1 h2 => match us, ws, h1, h2 with | [_], [], _, _ => rfl
include E in
theorem kb_is_empty_2 : KB K E.d_is_empty ["pair", "ends"] 2 [] [(.str "half")] [0, 1] := kb_dfl E.F_is_empty (by exact List.cons_ne_nil _ _) fun _ _ _ _ _ _ _ us its ws h1 h2 h3 => match us, its, ws, h1, h2, h3 with | [_, _], [_], [], _, _, _ => ⟨_, rfl, rfl⟩
include E in
theorem kb_union_0_ends_spans : KB K E.d_union ["spans", "ends"] 0 ["ends", "spans"] [(.str "half")] [1, 0] := kb_dfl E.F_union (by exact List.cons_ne_nil _ _) fun _ _ _ _ _ _ _ us its ws h1 h2 h3 => match us, its, ws, h1, h2, h3 with | [], [_], [_, _], _, _, _ => ⟨_, rfl, rfl⟩
include E in
theorem kb_union_2 : KB K E.d_union ["spans", "ends"] 2 [] [(.str "half")] [0, 1] := kb_dfl E.F_union (by exact List.cons_ne_nil _ _) fun _ _ _ _ _ _ _ us its ws h1 h2 h3 => match us, its, ws, h1, h2, h3 with | [_, _], [_], [], _, _, _ => ⟨_, rfl, rfl⟩
include E in
theorem kb__law_pairs_right_2 : KB K E.d__law_pairs_right ["found", "count"] 2 [] [] [0, 1] := kb_raw E.F__law_pairs_right fun _ _ _ _ _ _ us ws h1 h2 => match us, ws, h1, h2 with | [_, _], [], _, _ => rfl
include E in
theorem kb__law_due_2 : KB K E.d__law_due ["rows", "mode"] 2 [] [] [0, 1] := kb_raw E.F__law_due fun _ _ _ _ _ _ us ws h1 h2 => match us, ws, h1, h2 with | [_, _], [], _, _ => rfl
include E in
theorem kb__law_moments_1 : KB K E.d__law_moments ["pairs"] 1 [] [] [0] := kb_raw E.F__law_moments fun _ _ _ _ _ _ us ws h1 h2 => match us, ws, h1, h2 with | [_], [], _, _ => rfl
include E in
theorem kb__law_holds_3 : KB K E.d__law_holds ["pair", "moment", "mode"] 3 [] [] [0, 1, 2] := kb_raw E.F__law_holds fun _ _ _ _ _ _ us ws h1 h2 => match us, ws, h1, h2 with | [_, _, _], [], _, _ => rfl
include E in
theorem kb_in_one_form_2 : KB K E.d_in_one_form ["spans", "ends"] 2 [] [(.str "half")] [0, 1] := kb_dfl E.F_in_one_form (by exact List.cons_ne_nil _ _) fun _ _ _ _ _ _ _ us its ws h1 h2 h3 => match us, its, ws, h1, h2, h3 with | [_, _], [_], [], _, _, _ => ⟨_, rfl, rfl⟩
include E in
theorem kb__law_bag_2 : KB K E.d__law_bag ["script", "at"] 2 [] [] [0, 1] := kb_raw E.F__law_bag fun _ _ _ _ _ _ us ws h1 h2 => match us, ws, h1, h2 with | [_, _], [], _, _ => rfl
include E in
theorem kb__law_stretches_2 : KB K E.d__law_stretches ["bag", "many"] 2 [] [] [0, 1] := kb_raw E.F__law_stretches fun _ _ _ _ _ _ us ws h1 h2 => match us, ws, h1, h2 with | [_, _], [], _, _ => rfl
include E in
theorem kb__law_right_3 : KB K E.d__law_right ["rows", "mode", "is_by_name"] 3 [] [] [0, 1, 2] := kb_raw E.F__law_right fun _ _ _ _ _ _ us ws h1 h2 => match us, ws, h1, h2 with | [_, _, _], [], _, _ => rfl
include E in
theorem kb_union_1 : KB K E.d_union ["spans", "ends"] 1 [] [(.str "half")] [0, 1] := kb_dfl E.F_union (by exact List.cons_ne_nil _ _) fun _ _ _ _ _ _ _ us its ws h1 h2 h3 => match us, its, ws, h1, h2, h3 with | [_], [_], [], _, _, _ => ⟨_, rfl, rfl⟩
def S__law_stretches : Fm → SO := (sSeq (sIf (fTest (fOp gGt (fCall (some 0) P.f__law_take [0, 1] [] (aCons (fV 0) (aCons (fC (.int (3))) aNil)) aNil) (fC (.int (0))))) (sRet (fLc (rSrc (aCons (fV 1) aNil)) (pNm 6) bYes (fCall (some 0) P.f__law_stretch [0] [] (aCons (fV 0) aNil) aNil) [6])) sNil)
  (sSeq (sSet 2 (fIx (fLst (aCons (fC (.int (1))) (aCons (fC (.int (1))) (aCons (fAdd (fC (.int (1))) (fCall (some 0) P.f__law_take [0, 1] [] (aCons (fV 0) (aCons (fC (.int (100000000000000000000))) aNil)) aNil)) aNil)))) (fCall (some 0) P.f__law_take [0, 1] [] (aCons (fV 0) (aCons (fC (.int (3))) aNil)) aNil)))
  (sSeq (sPar [3, 4, 5] (aCons (fCall (some 0) P.f__law_take [0, 1] [] (aCons (fV 0) (aCons (fC (.int (8))) aNil)) aNil) (aCons (fOp gMul (fOp gSub (fCall (some 0) P.f__law_take [0, 1] [] (aCons (fV 0) (aCons (fC (.int (41))) aNil)) aNil) (fC (.int (20)))) (fV 2)) (aCons (fLst aNil) aNil))))
  (sSeq (sFor (rSrc (aCons (fV 1) aNil)) (pNm 6) (sSeq (sSet 7 (fAdd (fV 4) (fOp gMul (fCall (some 0) P.f__law_take [0, 1] [] (aCons (fV 0) (aCons (fC (.int (4))) aNil)) aNil) (fV 2))))
  (sSeq (sSet 4 (fAdd (fV 7) (fOp gMul (fCall (some 0) P.f__law_take [0, 1] [] (aCons (fV 0) (aCons (fC (.int (4))) aNil)) aNil) (fV 2))))
  (sSeq (sSet 8 (fIf (fAndT (fTest (fOp gEq (fV 6) (fC (.int (0))))) (fTest (fOp gEq (fOp gMod (fV 3) (fC (.int (6)))) (fC (.int (1)))))) (fC (.int (-10000000000000000000000000000000))) (fV 7)))
  (sSeq (sSet 9 (fIf (fAndT (fTest (fOp gEq (fV 6) (fOp gSub (fV 1) (fC (.int (1)))))) (fTest (fOp gGt (fV 3) (fC (.int (5)))))) (fC (.int (10000000000000000000000000000000))) (fV 4)))
  (sExpr (fMU 5 gInsert (aCons (fCall (some 0) P.f__law_take [0, 1] [] (aCons (fV 0) (aCons (fAdd (fCB gLen (aCons (fV 5) aNil)) (fC (.int (1)))) aNil)) aNil) (aCons (fTup (aCons (fV 8) (aCons (fV 9) aNil))) aNil)))))))))
  (sRet (fV 5))))))
@[irreducible] def f__law_stretches : List D → FO := runF (some 0) 10 S__law_stretches
def S__law_due : Fm → SO := (sSeq (sSet 2 (fLc (sSrc (fV 0)) (pNm 7) (fOrT (fTest (fOp gLt (fIx (fV 7) (fC (.int (0)))) (fIx (fV 7) (fC (.int (1)))))) (fTest (fOp gEq (fV 1) (fC (.str "shut"))))) (fV 7) [7]))
  (sSeq (sPar [3, 4] (aCons (fLst aNil) (aCons (fLst aNil) aNil)))
  (sSeq (sFor (sSrc (fV 2)) (pTp [(pNm 5), (pNm 6)]) (sSeq (sIf (fTest (fOp gEq (fLc (sSrc (fV 2)) (pNm 8) (fTest (fChain gLt gLe (fIx (fV 8) (fC (.int (0)))) (fV 5) (fIx (fV 8) (fC (.int (1)))))) (fV 8) [8]) (fLst aNil))) (sExpr (fMU 3 gAppend (aCons (fV 5) aNil))) sNil)
  (sIf (fTest (fOp gEq (fLc (sSrc (fV 2)) (pNm 8) (fTest (fChain gLe gLt (fIx (fV 8) (fC (.int (0)))) (fV 6) (fIx (fV 8) (fC (.int (1)))))) (fV 8) [8]) (fLst aNil))) (sExpr (fMU 4 gAppend (aCons (fV 6) aNil))) sNil)))
  (sRet (fLzip (aCons (fCS gSrtSet (fV 3)) (aCons (fCS gSrtSet (fV 4)) aNil)))))))
@[irreducible] def f__law_due : List D → FO := runF none 9 S__law_due
def S__law_moments : Fm → SO := (sSeq (sSet 1 (fLst (aCons (fC (.int (-9999999999999999999999999999999))) (aCons (fC (.int (9999999999999999999999999999999))) aNil))))
  (sSeq (sFor (sSrc (fV 0)) (pTp [(pNm 2), (pNm 3)]) (sSet 1 (fAdd (fV 1) (fLst (aCons (fOp gSub (fV 2) (fC (.int (1)))) (aCons (fV 2) (aCons (fAdd (fV 2) (fC (.int (1)))) (aCons (fOp gSub (fV 3) (fC (.int (1)))) (aCons (fV 3) (aCons (fAdd (fV 3) (fC (.int (1)))) aNil))))))))))
  (sRet (fCS gSrtSet (fLc (sSrc (fV 1)) (pNm 4) (fTest (fChain gLt gLt (fC (.int (-10000000000000000000000000000000))) (fV 4) (fC (.int (10000000000000000000000000000000))))) (fV 4) [4])))))
@[irreducible] def f__law_moments : List D → FO := runF none 5 S__law_moments
def S__law_pairs_right : Fm → SO := (sSeq (sIf (fOrT (fNotT (fTru (fCB gIsi (aCons (fV 0) (aCons (fC (.ty "list")) aNil))))) (fTest (fOp gGt (fCB gLen (aCons (fV 0) aNil)) (fV 1)))) (sRet (fC (.bl false))) sNil)
  (sSeq (sFor (sSrc (fV 0)) (pNm 2) (sSeq (sIf (fOrT (fNotT (fTru (fCB gIsi (aCons (fV 2) (aCons (fC (.ty "tuple")) aNil))))) (fTest (fOp gNe (fCB gLen (aCons (fV 2) aNil)) (fC (.int (2)))))) (sRet (fC (.bl false))) sNil)
  (sIf (fOrT (fNotT (fTru (fCB gIsi (aCons (fIx (fV 2) (fC (.int (0)))) (aCons (fC (.ty "int")) aNil))))) (fNotT (fTru (fCB gIsi (aCons (fIx (fV 2) (fC (.int (1)))) (aCons (fC (.ty "int")) aNil)))))) (sRet (fC (.bl false))) sNil)))
  (sRet (fC (.bl true)))))
@[irreducible] def f__law_pairs_right : List D → FO := runF none 3 S__law_pairs_right
def S__law_holds : Fm → SO := (sRet (fOr (fChain gLe gLt (fIx (fV 0) (fC (.int (0)))) (fV 1) (fIx (fV 0) (fC (.int (1))))) (fAnd (fOp gEq (fV 2) (fC (.str "shut"))) (fChain gLe gEq (fIx (fV 0) (fC (.int (0)))) (fV 1) (fIx (fV 0) (fC (.int (1))))))))
@[irreducible] def f__law_holds : List D → FO := runF none 3 S__law_holds
def S__law_right : Fm → SO := (sSeq (sSet 3 (fCS seqD (fV 0)))
  (sSeq (sSet 4 (fIf (fTru (fV 2)) (fCall none P.f_union [1, 0] [(.str "half")] aNil (aCons (fV 1) (aCons (fV 0) aNil))) (fCall none P.f_union [0, 1] [(.str "half")] (aCons (fV 0) (aCons (fV 1) aNil)) aNil)))
  (sSeq (sIf (fOrT (fNotT (fTru (fCall none f__law_pairs_right [0, 1] [] (aCons (fV 4) (aCons (fCB gLen (aCons (fV 0) aNil)) aNil)) aNil))) (fOrT (fTest (fOp gNe (fCS seqD (fV 0)) (fV 3))) (fTest (fOp gNe (fV 4) (fCall none f__law_due [0, 1] [] (aCons (fV 0) (aCons (fV 1) aNil)) aNil))))) (sRet (fC (.bl false))) sNil)
  (sSeq (sFor (sSrc (fCall none f__law_moments [0] [] (aCons (fCS seqD (fV 0)) aNil) aNil)) (pNm 5) (sSeq (sSet 6 (fCB gLen (aCons (fLc (sSrc (fV 4)) (pNm 8) (fTru (fCall none f__law_holds [0, 1, 2] [] (aCons (fV 8) (aCons (fV 5) (aCons (fV 1) aNil))) aNil)) (fV 8) [8]) aNil)))
  (sIf (fTest (fOp gNe (fV 6) (fCB gInt (aCons (fOp gNe (fLc (sSrc (fV 0)) (pNm 10) (fTru (fCall none f__law_holds [0, 1, 2] [] (aCons (fV 10) (aCons (fV 5) (aCons (fV 1) aNil))) aNil)) (fV 10) [10]) (fLst aNil)) aNil)))) (sRet (fC (.bl false))) sNil)))
  (sSeq (sFor (eSrc (fV 4)) (pTp [(pNm 7), (pNm 8)]) (sIf (fOrT (fTest (fOp gGt (fIx (fV 8) (fC (.int (0)))) (fIx (fV 8) (fC (.int (1)))))) (fOrT (fAndT (fTest (fOp gEq (fV 1) (fC (.str "half")))) (fTest (fOp gEq (fIx (fV 8) (fC (.int (0)))) (fIx (fV 8) (fC (.int (1))))))) (fAndT (fTest (fOp gGt (fV 7) (fC (.int (0))))) (fTest (fOp gGe (fIx (fIx (fV 4) (fOp gSub (fV 7) (fC (.int (1))))) (fC (.int (1)))) (fIx (fV 8) (fC (.int (0))))))))) (sRet (fC (.bl false))) sNil))
  (sSeq (sIf (fOrT (fTest (fOp gIsN (fCall none P.f_in_one_form [0, 1] [(.str "half")] (aCons (fCS seqD (fV 4)) (aCons (fV 1) aNil)) aNil) (fC (.bl true)))) (fTest (fOp gNe (fCall none P.f_union [0, 1] [(.str "half")] (aCons (fCS seqD (fV 4)) (aCons (fV 1) aNil)) aNil) (fV 4)))) (sRet (fC (.bl false))) sNil)
  (sSeq (sSet 9 (fCall none P.f_union [0, 1] [(.str "half")] (aCons (fCS gRevL (fCS seqD (fV 3))) (aCons (fV 1) aNil)) aNil))
  (sSeq (sExpr (fMU 4 gAppend (aCons (fTup (aCons (fC (.int (1))) (aCons (fC (.int (0))) aNil))) aNil)))
  (sRet (fAnd (fOp gEq (fV 9) (fSl (fV 4) oNone (oSome (fC (.int (-1)))))) (fAnd (fOp gEq (fCall none P.f_union [0, 1] [(.str "half")] (aCons (fTupOf (fV 3)) (aCons (fV 1) aNil)) aNil) (fV 9)) (fOp gEq (fCS seqD (fV 0)) (fV 3)))))))))))))
@[irreducible] def f__law_right : List D → FO := runF none 11 S__law_right
def S_law : Fm → SO := (sSeq (sFor (rSrc (aCons (fCB gMax (aCons (fC (.int (1))) (aCons (fCB gMin (aCons (fCB gLen (aCons (fV 0) aNil)) (aCons (fC (.int (30))) aNil))) aNil))) aNil)) (pNm 1) (sSeq (sSet 2 (fCall none P.f__law_bag [0, 1] [] (aCons (fV 0) (aCons (fV 1) aNil)) aNil))
  (sSeq (sSet 3 (fCall (some 0) P.f__law_take [0, 1] [] (aCons (fV 2) (aCons (fC (.int (13))) aNil)) aNil))
  (sSeq (sIf (fAndT (fTest (fOp gEq (fV 1) (fC (.int (0))))) (fTest (fOp gEq (fCall (some 0) P.f__law_take [0, 1] [] (aCons (fV 2) (aCons (fC (.int (4))) aNil)) aNil) (fC (.int (0)))))) (sSet 3 (fAdd (fC (.int (30))) (fCall (some 0) P.f__law_take [0, 1] [] (aCons (fV 2) (aCons (fC (.int (31))) aNil)) aNil))) sNil)
  (sSeq (sSet 4 (fCall (some 0) f__law_stretches [0, 1] [] (aCons (fV 2) (aCons (fV 3) aNil)) aNil))
  (sSeq (sFor (sSrc (fLst (aCons (fC (.str "half")) (aCons (fC (.str "shut")) aNil)))) (pNm 5) (sIf (fNotT (fTru (fCall none f__law_right [0, 1, 2] [] (aCons (fV 4) (aCons (fV 5) (aCons (fOp gEq (fCall (some 0) P.f__law_take [0, 1] [] (aCons (fV 2) (aCons (fC (.int (2))) aNil)) aNil) (fC (.int (0)))) aNil))) aNil))) (sRet (fC (.bl false))) sNil))
  (sIf (fTest (fOp gNe (fCall none P.f_union [0, 1] [(.str "half")] (aCons (fV 4) aNil) aNil) (fCall none f__law_due [0, 1] [] (aCons (fV 4) (aCons (fC (.str "half")) aNil)) aNil))) (sRet (fC (.bl false))) sNil)))))))
  (sRet (fC (.bl true))))
def f_law : List D → FO := runF none 6 S_law
include E in
theorem ok__law_bag : FnG PR w K mg base 1 E.a__law_bag E.d__law_bag ["script", "at"] (spD K mg none 2 P.f__law_bag) := by
  refine fnE (k := 0) E.F__law_bag sc__law_bag P.S__law_bag (by unfold P.f__law_bag; rfl) rfl rfl rfl ?_
  intro cdv A outer s H Ex g hr
  unfold P.S__law_bag
  exact (dss_cons (ds_set (i := 2) sc__law_bag.nd (de_if (dt_cmp op_lt o2_lt (dv 1) (de_cb cb_len (da_cons (dv 0) da_nil) E.m_len)) (de_ix (dv 0) (dv 1)) de_int))
  (dss_one (ds_ret (de_lst (da_cons (de_if (dt_cmp op_ge o2_ge (de_cb cb_abs (da_cons (dv 2) da_nil) E.m_abs) (de_eq (F := (fOp gPow (fC (.int (10))) (fC (.int (18))))) (de_op op_pow o2_pow de_int de_int) rfl)) (de_cb cb_abs (da_cons (dv 2) da_nil) E.m_abs) de_int) (da_cons (de_op op_mod o2_mod (de_ct cb_int (da_cons (dv 2) da_nil) E.m_int) de_int) (da_cons (de_add (de_op op_mulW o2_mul de_int (dv 1)) de_int) (da_cons de_int da_nil)))) (la_cons (la_cons (la_cons (la_cons la_nil))))))))
include E in
theorem ok__law_take : FnG PR w K mg base 1 E.a__law_take E.d__law_take ["bag", "many"] (spD K mg (some 0) 2 P.f__law_take) := by
  refine fnE (k := 0) E.F__law_take sc__law_take P.S__law_take (by unfold P.f__law_take; rfl) rfl rfl rfl ?_
  intro cdv A outer s H Ex g hr
  unfold P.S__law_take
  exact (dss_cons (ds_if (dt_cmp op_gt o2_gt (de_ix (dv 0) de_int) de_int) (dss_cons (ds_set (i := 2) sc__law_take.nd (de_op op_mod o2_mod (de_ct cb_int (da_cons (de_ix (dv 0) de_int) da_nil) E.m_int) (dv 1)))
  (dss_cons (ds_sub (de_op op_fdivW o2_div (de_ix (dv 0) de_int) (dv 1)) (dv 0) de_int)
  (dss_one (ds_ret (dv 2))))) dss_nil)
  (dss_cons (ds_sub (de_add (de_ix (dv 0) de_int) de_int) (dv 0) de_int)
  (dss_cons (ds_set (i := 3) sc__law_take.nd (de_op op_mod o2_mod (de_ct cb_int (da_cons (de_op op_pow o2_pow (de_add (de_add (de_ix (dv 0) de_int) (de_op op_mulW o2_mul de_int (de_ix (dv 0) de_int))) (de_ix (dv 0) de_int)) de_int) da_nil) E.m_int) de_int))
  (dss_cons (ds_set (i := 3) sc__law_take.nd (de_op op_mod o2_mod (de_ct cb_int (da_cons (de_op op_pow o2_pow (de_add (dv 3) (de_op op_mulW o2_mul de_int (de_ix (dv 0) de_int))) de_int) da_nil) E.m_int) de_int))
  (dss_cons (ds_if (dt_cmp op_gt o2_gt (dv 1) (de_eq (F := (fOp gPow (fC (.int (10))) (fC (.int (12))))) (de_op op_pow o2_pow de_int de_int) rfl)) (dss_one (ds_set (i := 3) sc__law_take.nd (de_op op_mod o2_mod (de_ct cb_int (da_cons (de_op op_pow o2_pow (de_add (dv 3) de_int) de_int) da_nil) E.m_int) (de_eq (F := (fOp gPow (fC (.int (10))) (fC (.int (47))))) (de_op op_pow o2_pow de_int de_int) rfl)))) dss_nil)
  (dss_one (ds_ret (de_op op_mod o2_mod (de_ct cb_int (da_cons (de_op op_fdivW o2_div (dv 3) de_int) da_nil) E.m_int) (dv 1)))))))))
include E in
theorem ok__law_edge : FnG PR w K mg base 2 E.a__law_edge E.d__law_edge ["bag"] (spD K mg (some 0) 1 P.f__law_edge) := by
  refine fnE (k := 1) E.F__law_edge sc__law_edge P.S__law_edge (by unfold P.f__law_edge; rfl) rfl rfl rfl ?_
  intro cdv A outer s H Ex g hr
  unfold P.S__law_edge
  exact (dss_cons (ds_set (i := 1) sc__law_edge.nd (de_call (ok__law_take E |>.mono (by decide)) (guards_deeper g) hr E.m__law_take E.F__law_take.kp (kb__law_take_2 E) (takes_of rfl rfl rfl rfl) (fun _ _ => rfl) (da_cons (dv 0) (da_cons de_int da_nil)) dk_nil (la_cons (la_cons la_nil)) la_nil (by intro j h; cases h; decide) ⟨rfl, by decide, by walk_at "is_ok"⟩))
  (dss_cons (ds_if (dt_cmp (op_eqD hr.units) o2_eq (dv 1) de_int) (dss_one (ds_ret (de_op op_sub o2_sub (de_call (ok__law_take E |>.mono (by decide)) (guards_deeper g) hr E.m__law_take E.F__law_take.kp (kb__law_take_2 E) (takes_of rfl rfl rfl rfl) (fun _ _ => rfl) (da_cons (dv 0) (da_cons (de_eq (F := (fAdd (fC (.int (2000000000000000000000000000000))) (fC (.int (1))))) (de_add (de_eq (F := (fOp gMul (fC (.int (2))) (fC (.int (1000000000000000000000000000000))))) (de_op op_mulW o2_mul de_int (de_eq (F := (fOp gPow (fC (.int (10))) (fC (.int (30))))) (de_op op_pow o2_pow de_int de_int) rfl)) rfl) de_int) rfl) da_nil)) dk_nil (la_cons (la_cons la_nil)) la_nil (by intro j h; cases h; decide) ⟨rfl, by decide, by walk_at "is_ok"⟩) (de_eq (F := (fOp gPow (fC (.int (10))) (fC (.int (30))))) (de_op op_pow o2_pow de_int de_int) rfl)))) dss_nil)
  (dss_cons (ds_if (dt_cmp (op_eqD hr.units) o2_eq (dv 1) de_int) (dss_one (ds_ret (de_op op_mulW o2_mul (de_op op_sub o2_sub (de_eq (F := (fOp gPow (fC (.int (10))) (fC (.int (30))))) (de_op op_pow o2_pow de_int de_int) rfl) (de_call (ok__law_take E |>.mono (by decide)) (guards_deeper g) hr E.m__law_take E.F__law_take.kp (kb__law_take_2 E) (takes_of rfl rfl rfl rfl) (fun _ _ => rfl) (da_cons (dv 0) (da_cons de_int da_nil)) dk_nil (la_cons (la_cons la_nil)) la_nil (by intro j h; cases h; decide) ⟨rfl, by decide, by walk_at "is_ok"⟩)) (de_op op_sub o2_sub de_int (de_op op_mulW o2_mul de_int (de_call (ok__law_take E |>.mono (by decide)) (guards_deeper g) hr E.m__law_take E.F__law_take.kp (kb__law_take_2 E) (takes_of rfl rfl rfl rfl) (fun _ _ => rfl) (da_cons (dv 0) (da_cons de_int da_nil)) dk_nil (la_cons (la_cons la_nil)) la_nil (by intro j h; cases h; decide) ⟨rfl, by decide, by walk_at "is_ok"⟩)))))) dss_nil)
  (dss_one (ds_ret (de_op op_sub o2_sub (de_call (ok__law_take E |>.mono (by decide)) (guards_deeper g) hr E.m__law_take E.F__law_take.kp (kb__law_take_2 E) (takes_of rfl rfl rfl rfl) (fun _ _ => rfl) (da_cons (dv 0) (da_cons de_int da_nil)) dk_nil (la_cons (la_cons la_nil)) la_nil (by intro j h; cases h; decide) ⟨rfl, by decide, by walk_at "is_ok"⟩) de_int))))))
include E in
theorem ok__law_stretch : FnG PR w K mg base 3 E.a__law_stretch E.d__law_stretch ["bag"] (spD K mg (some 0) 1 P.f__law_stretch) := by
  refine fnE (k := 2) E.F__law_stretch sc__law_stretch P.S__law_stretch (by unfold P.f__law_stretch; rfl) rfl rfl rfl ?_
  intro cdv A outer s H Ex g hr
  unfold P.S__law_stretch
  exact (dss_cons (ds_par (i := 1) (j := 2) rfl sc__law_stretch.nd (by decide) (da_cons (de_call (ok__law_edge E |>.mono (by decide)) (guards_deeper g) hr E.m__law_edge E.F__law_edge.kp (kb__law_edge_1 E) (takes_of rfl rfl rfl rfl) (fun _ _ => rfl) (da_cons (dv 0) da_nil) dk_nil (la_cons la_nil) la_nil (by intro j h; cases h; decide) ⟨rfl, by decide, by walk_at "is_ok"⟩) (da_cons (de_call (ok__law_edge E |>.mono (by decide)) (guards_deeper g) hr E.m__law_edge E.F__law_edge.kp (kb__law_edge_1 E) (takes_of rfl rfl rfl rfl) (fun _ _ => rfl) (da_cons (dv 0) da_nil) dk_nil (la_cons la_nil) la_nil (by intro j h; cases h; decide) ⟨rfl, by decide, by walk_at "is_ok"⟩) da_nil)) (la_cons (la_cons la_nil)))
  (dss_cons (ds_if (dt_cmp (op_eqD hr.units) o2_eq (de_call (ok__law_take E |>.mono (by decide)) (guards_deeper g) hr E.m__law_take E.F__law_take.kp (kb__law_take_2 E) (takes_of rfl rfl rfl rfl) (fun _ _ => rfl) (da_cons (dv 0) (da_cons de_int da_nil)) dk_nil (la_cons (la_cons la_nil)) la_nil (by intro j h; cases h; decide) ⟨rfl, by decide, by walk_at "is_ok"⟩) de_int) (dss_one (ds_set (i := 2) sc__law_stretch.nd (dv 1))) dss_nil)
  (dss_cons (ds_par (i := 3) (j := 4) rfl sc__law_stretch.nd (by decide) (da_cons (de_cb (cb_min rfl) (da_cons (dv 1) (da_cons (dv 2) da_nil)) E.m_min) (da_cons (de_cb (cb_max rfl) (da_cons (dv 1) (da_cons (dv 2) da_nil)) E.m_max) da_nil)) (la_cons (la_cons la_nil)))
  (dss_cons (ds_set (i := 5) sc__law_stretch.nd (de_call (ok__law_take E |>.mono (by decide)) (guards_deeper g) hr E.m__law_take E.F__law_take.kp (kb__law_take_2 E) (takes_of rfl rfl rfl rfl) (fun _ _ => rfl) (da_cons (dv 0) (da_cons de_int da_nil)) dk_nil (la_cons (la_cons la_nil)) la_nil (by intro j h; cases h; decide) ⟨rfl, by decide, by walk_at "is_ok"⟩))
  (dss_cons (ds_if (dw_pt (dw_or (dt_cmp (op_eqD hr.units) o2_eq (dv 5) de_int) (dw_or1 (dt_cmp (op_eqD hr.units) o2_eq (dv 5) de_int)))) (dss_one (ds_set (i := 3) sc__law_stretch.nd (de_eq (F := (fUn gNeg (fC (.int (10000000000000000000000000000000))))) (de_neg (de_eq (F := (fOp gPow (fC (.int (10))) (fC (.int (31))))) (de_op op_pow o2_pow de_int de_int) rfl)) rfl))) dss_nil)
  (dss_cons (ds_if (dw_pt (dw_or (dt_cmp (op_eqD hr.units) o2_eq (dv 5) de_int) (dw_or1 (dt_cmp (op_eqD hr.units) o2_eq (dv 5) de_int)))) (dss_one (ds_set (i := 4) sc__law_stretch.nd (de_eq (F := (fOp gPow (fC (.int (10))) (fC (.int (31))))) (de_op op_pow o2_pow de_int de_int) rfl))) dss_nil)
  (dss_one (ds_ret (de_tup (da_cons (dv 3) (da_cons (dv 4) da_nil)) (la_cons (la_cons la_nil)))))))))))
include E in
theorem ok__law_stretches : FnG PR w K mg base 4 E.a__law_stretches E.d__law_stretches ["bag", "many"] (spD K mg (some 0) 2 f__law_stretches) := by
  refine fnE (k := 3) E.F__law_stretches sc__law_stretches S__law_stretches (by unfold f__law_stretches; rfl) rfl rfl rfl ?_
  intro cdv A outer s H Ex g hr
  unfold S__law_stretches
  exact (dss_cons (ds_if (dt_cmp op_gt o2_gt (de_call (ok__law_take E |>.mono (by decide)) (guards_deeper g) hr E.m__law_take E.F__law_take.kp (kb__law_take_2 E) (takes_of rfl rfl rfl rfl) (fun _ _ => rfl) (da_cons (dv 0) (da_cons de_int da_nil)) dk_nil (la_cons (la_cons la_nil)) la_nil (by intro j h; cases h; decide) ⟨rfl, by decide, by walk_at "is_ok"⟩) de_int) (dss_one (ds_ret (de_lc (own := [("turn", 6)]) rfl sc__law_stretches.nd (di_range1 (da_cons (dv 1) da_nil) (la_cons la_nil) E.m_range) (by show BlkOk ["bag", "many", "factor", "kind", "now", "rows", "turn", "begin", "low", "high"] (defScope st__law_stretches) _ _; exact blkOk_by (by decide +kernel)) (fun _ _ _ _ _ => (pg_name (i := 6) sc__law_stretches.nd rfl (by first | exact .inl rfl | exact .inr rfl))) tp_nm (fun _ _ _ _ _ => dts_nil) (fun _ _ _ _ _ => (de_call (ok__law_stretch E |>.mono (by decide)) (guards_deeper g) hr E.m__law_stretch E.F__law_stretch.kp (kb__law_stretch_1 E) takes_no (fun _ _ => rfl) (da_cons (dv 0) da_nil) dk_nil (la_cons la_nil) la_nil (by intro j h; cases h; decide) ⟨rfl, by decide, by walk_at "is_ok"⟩))))) dss_nil)
  (dss_cons (ds_set (i := 2) sc__law_stretches.nd (de_ix (de_lst (da_cons de_int (da_cons de_int (da_cons (de_add de_int (de_call (ok__law_take E |>.mono (by decide)) (guards_deeper g) hr E.m__law_take E.F__law_take.kp (kb__law_take_2 E) (takes_of rfl rfl rfl rfl) (fun _ _ => rfl) (da_cons (dv 0) (da_cons (de_eq (F := (fOp gPow (fC (.int (10))) (fC (.int (20))))) (de_op op_pow o2_pow de_int de_int) rfl) da_nil)) dk_nil (la_cons (la_cons la_nil)) la_nil (by intro j h; cases h; decide) ⟨rfl, by decide, by walk_at "is_ok"⟩)) da_nil))) (la_cons (la_cons (la_cons la_nil)))) (de_call (ok__law_take E |>.mono (by decide)) (guards_deeper g) hr E.m__law_take E.F__law_take.kp (kb__law_take_2 E) (takes_of rfl rfl rfl rfl) (fun _ _ => rfl) (da_cons (dv 0) (da_cons de_int da_nil)) dk_nil (la_cons (la_cons la_nil)) la_nil (by intro j h; cases h; decide) ⟨rfl, by decide, by walk_at "is_ok"⟩)))
  (dss_cons (ds_par3 (i := 3) (j := 4) (l := 5) rfl sc__law_stretches.nd (by decide) (by decide) (by decide) (da_cons (de_call (ok__law_take E |>.mono (by decide)) (guards_deeper g) hr E.m__law_take E.F__law_take.kp (kb__law_take_2 E) (takes_of rfl rfl rfl rfl) (fun _ _ => rfl) (da_cons (dv 0) (da_cons de_int da_nil)) dk_nil (la_cons (la_cons la_nil)) la_nil (by intro j h; cases h; decide) ⟨rfl, by decide, by walk_at "is_ok"⟩) (da_cons (de_op op_mulW o2_mul (de_op op_sub o2_sub (de_call (ok__law_take E |>.mono (by decide)) (guards_deeper g) hr E.m__law_take E.F__law_take.kp (kb__law_take_2 E) (takes_of rfl rfl rfl rfl) (fun _ _ => rfl) (da_cons (dv 0) (da_cons de_int da_nil)) dk_nil (la_cons (la_cons la_nil)) la_nil (by intro j h; cases h; decide) ⟨rfl, by decide, by walk_at "is_ok"⟩) de_int) (dv 2)) (da_cons (de_lst da_nil la_nil) da_nil))) (la_cons (la_cons (la_cons la_nil))))
  (dss_cons (ds_for (passes_of rfl) rfl (di_range1 (da_cons (dv 1) da_nil) (la_cons la_nil) E.m_range) (pg_name (i := 6) sc__law_stretches.nd rfl (by first | exact .inl rfl | exact .inr rfl)) tp_nm (dss_cons (ds_set (i := 7) sc__law_stretches.nd (de_add (dv 4) (de_op op_mulW o2_mul (de_call (ok__law_take E |>.mono (by decide)) (guards_deeper g) hr E.m__law_take E.F__law_take.kp (kb__law_take_2 E) (takes_of rfl rfl rfl rfl) (fun _ _ => rfl) (da_cons (dv 0) (da_cons de_int da_nil)) dk_nil (la_cons (la_cons la_nil)) la_nil (by intro j h; cases h; decide) ⟨rfl, by decide, by walk_at "is_ok"⟩) (dv 2))))
  (dss_cons (ds_set (i := 4) sc__law_stretches.nd (de_add (dv 7) (de_op op_mulW o2_mul (de_call (ok__law_take E |>.mono (by decide)) (guards_deeper g) hr E.m__law_take E.F__law_take.kp (kb__law_take_2 E) (takes_of rfl rfl rfl rfl) (fun _ _ => rfl) (da_cons (dv 0) (da_cons de_int da_nil)) dk_nil (la_cons (la_cons la_nil)) la_nil (by intro j h; cases h; decide) ⟨rfl, by decide, by walk_at "is_ok"⟩) (dv 2))))
  (dss_cons (ds_set (i := 8) sc__law_stretches.nd (de_if (dw_pt (dw_and (dt_cmp (op_eqD hr.units) o2_eq (dv 6) de_int) (dw_and1 (dt_cmp (op_eqD hr.units) o2_eq (de_op op_mod o2_mod (dv 3) de_int) de_int)))) (de_eq (F := (fUn gNeg (fC (.int (10000000000000000000000000000000))))) (de_neg (de_eq (F := (fOp gPow (fC (.int (10))) (fC (.int (31))))) (de_op op_pow o2_pow de_int de_int) rfl)) rfl) (dv 7)))
  (dss_cons (ds_set (i := 9) sc__law_stretches.nd (de_if (dw_pt (dw_and (dt_cmp (op_eqD hr.units) o2_eq (dv 6) (de_op op_sub o2_sub (dv 1) de_int)) (dw_and1 (dt_cmp op_gt o2_gt (dv 3) de_int)))) (de_eq (F := (fOp gPow (fC (.int (10))) (fC (.int (31))))) (de_op op_pow o2_pow de_int de_int) rfl) (dv 4)))
  (dss_one (ds_expr (de_mu mu_insert PySem.F.slot_list_insert PySem.F.type_list_insert (dv 5) (da_cons (de_call (ok__law_take E |>.mono (by decide)) (guards_deeper g) hr E.m__law_take E.F__law_take.kp (kb__law_take_2 E) (takes_of rfl rfl rfl rfl) (fun _ _ => rfl) (da_cons (dv 0) (da_cons (de_add (de_cb cb_len (da_cons (dv 5) da_nil) E.m_len) de_int) da_nil)) dk_nil (la_cons (la_cons la_nil)) la_nil (by intro j h; cases h; decide) ⟨rfl, by decide, by walk_at "is_ok"⟩) (da_cons (de_tup (da_cons (dv 8) (da_cons (dv 9) da_nil)) (la_cons (la_cons la_nil))) da_nil))))))))))
  (dss_one (ds_ret (dv 5)))))))
include E in
theorem ok_is_integer : FnG PR w K mg base 1 E.a_is_integer E.d_is_integer ["thing"] (spD K mg none 1 P.f_is_integer) := by
  refine fnE (k := 0) E.F_is_integer sc_is_integer P.S_is_integer (by unfold P.f_is_integer; rfl) rfl rfl rfl ?_
  intro cdv A outer s H Ex g hr
  unfold P.S_is_integer
  exact (dss_one (ds_ret (de_and (de_cb cb_isi (da_cons (dv 0) (da_cons (de_ty E.m_int) da_nil)) E.m_isinstance) (de_one (de_not (de_cb cb_isi (da_cons (dv 0) (da_cons (de_ty E.m_bool) da_nil)) E.m_isinstance))))))
include E in
theorem ok_is_near : FnG PR w K mg base 1 E.a_is_near E.d_is_near ["number"] (spD K mg none 1 P.f_is_near) := by
  refine fnE (k := 0) E.F_is_near sc_is_near P.S_is_near (by unfold P.f_is_near; rfl) rfl rfl rfl ?_
  intro cdv A outer s H Ex g hr
  unfold P.S_is_near
  exact (dss_one (ds_ret (de_chain op_le o2_le op_le o2_le (de_eq (F := (fUn gNeg (fC (.int (1000000000000000000000000000000))))) (de_neg (de_gc E.g_MOST)) rfl) (dv 0) (de_gc E.g_MOST))))
include E in
theorem ok_is_edge : FnG PR w K mg base 2 E.a_is_edge E.d_is_edge ["thing"] (spD K mg none 1 P.f_is_edge) := by
  refine fnE (k := 1) E.F_is_edge sc_is_edge P.S_is_edge (by unfold P.f_is_edge; rfl) rfl rfl rfl ?_
  intro cdv A outer s H Ex g hr
  unfold P.S_is_edge
  exact (dss_one (ds_ret (de_and (de_call (ok_is_integer E |>.mono (by decide)) (guards_deeper g) hr E.m_is_integer E.F_is_integer.kp (kb_is_integer_1 E) (takes_of rfl rfl rfl rfl) (fun _ _ => rfl) (da_cons (dv 0) da_nil) dk_nil (la_cons la_nil) la_nil (fun _ h => (nomatch h)) ⟨rfl, by decide, fun _ h => (nomatch h)⟩) (de_one (de_or (de_cmp op_in_seq o2_in (dv 0) (de_tup (da_cons (de_gc E.g_FIRST) (da_cons (de_gc E.g_LAST) da_nil)) (la_cons (la_cons la_nil)))) (de_one (de_call (ok_is_near E |>.mono (by decide)) (guards_deeper g) hr E.m_is_near E.F_is_near.kp (kb_is_near_1 E) (takes_of rfl rfl rfl rfl) (fun _ _ => rfl) (da_cons (dv 0) da_nil) dk_nil (la_cons la_nil) la_nil (fun _ h => (nomatch h)) ⟨rfl, by decide, fun _ h => (nomatch h)⟩)))))))
include E in
theorem ok_is_pair : FnG PR w K mg base 3 E.a_is_pair E.d_is_pair ["thing"] (spD K mg none 1 P.f_is_pair) := by
  refine fnE (k := 2) E.F_is_pair sc_is_pair P.S_is_pair (by unfold P.f_is_pair; rfl) rfl rfl rfl ?_
  intro cdv A outer s H Ex g hr
  unfold P.S_is_pair
  exact (dss_one (ds_ret (de_and (de_cb cb_isi (da_cons (dv 0) (da_cons (de_ty E.m_tuple) da_nil)) E.m_isinstance) (de_and (de_cmp (op_eqD hr.units) o2_eq (de_cb cb_len (da_cons (dv 0) da_nil) E.m_len) de_int) (de_and (de_call (ok_is_edge E |>.mono (by decide)) (guards_deeper g) hr E.m_is_edge E.F_is_edge.kp (kb_is_edge_1 E) (takes_of rfl rfl rfl rfl) (fun _ _ => rfl) (da_cons (de_ix (dv 0) de_int) da_nil) dk_nil (la_cons la_nil) la_nil (fun _ h => (nomatch h)) ⟨rfl, by decide, fun _ h => (nomatch h)⟩) (de_one (de_call (ok_is_edge E |>.mono (by decide)) (guards_deeper g) hr E.m_is_edge E.F_is_edge.kp (kb_is_edge_1 E) (takes_of rfl rfl rfl rfl) (fun _ _ => rfl) (da_cons (de_ix (dv 0) de_int) da_nil) dk_nil (la_cons la_nil) la_nil (fun _ h => (nomatch h)) ⟨rfl, by decide, fun _ h => (nomatch h)⟩)))))))
include E in
theorem ok_is_stretch : FnG PR w K mg base 4 E.a_is_stretch E.d_is_stretch ["thing"] (spD K mg none 1 P.f_is_stretch) := by
  refine fnE (k := 3) E.F_is_stretch sc_is_stretch P.S_is_stretch (by unfold P.f_is_stretch; rfl) rfl rfl rfl ?_
  intro cdv A outer s H Ex g hr
  unfold P.S_is_stretch
  exact (dss_one (ds_ret (de_and (de_call (ok_is_pair E |>.mono (by decide)) (guards_deeper g) hr E.m_is_pair E.F_is_pair.kp (kb_is_pair_1 E) (takes_of rfl rfl rfl rfl) (fun _ _ => rfl) (da_cons (dv 0) da_nil) dk_nil (la_cons la_nil) la_nil (fun _ h => (nomatch h)) ⟨rfl, by decide, fun _ h => (nomatch h)⟩) (de_and (de_cmp op_lt o2_lt (de_gc E.g_FIRST) (de_ix (dv 0) de_int)) (de_and (de_cmp op_lt o2_lt (de_ix (dv 0) de_int) (de_gc E.g_LAST)) (de_one (de_cmp op_le o2_le (de_ix (dv 0) de_int) (de_ix (dv 0) de_int))))))))
include E in
theorem ok_check_spans : FnG PR w K mg base 5 E.a_check_spans E.d_check_spans ["spans"] (spD K mg none 1 P.f_check_spans) := by
  refine fnE (k := 4) E.F_check_spans sc_check_spans P.S_check_spans (by unfold P.f_check_spans; rfl) rfl rfl rfl ?_
  intro cdv A outer s H Ex g hr
  unfold P.S_check_spans
  exact (dss_one (ds_for (passes_of rfl) rfl (di_enum (dv 0) E.m_enumerate) (pg_tup rfl (pgs_cons (pg_name (i := 1) sc_check_spans.nd rfl (by first | exact .inl rfl | exact .inr rfl)) (pgs_cons (pg_name (i := 2) sc_check_spans.nd rfl (by first | exact .inl rfl | exact .inr rfl)) pgs_nil))) (tp_tup (GsP.cons tp_nm (GsP.cons tp_nm GsP.nil))) (dss_one (ds_if (dt_not (dt_tru (de_call (ok_is_stretch E |>.mono (by decide)) (guards_deeper g) hr E.m_is_stretch E.F_is_stretch.kp (kb_is_stretch_1 E) (takes_of rfl rfl rfl rfl) (fun _ _ => rfl) (da_cons (dv 2) da_nil) dk_nil (la_cons la_nil) la_nil (fun _ h => (nomatch h)) ⟨rfl, by decide, fun _ h => (nomatch h)⟩))) (dss_one (ds_raise (rz_BadItem E) (hr.mono (by decide)) (takes_of rfl rfl rfl rfl) (dv 1))) dss_nil))))
include E in
theorem ok_is_ends : FnG PR w K mg base 1 E.a_is_ends E.d_is_ends ["thing"] (spD K mg none 1 P.f_is_ends) := by
  refine fnE (k := 0) E.F_is_ends sc_is_ends P.S_is_ends (by unfold P.f_is_ends; rfl) rfl rfl rfl ?_
  intro cdv A outer s H Ex g hr
  unfold P.S_is_ends
  exact (dss_one (ds_ret (de_and (de_cb cb_isi (da_cons (dv 0) (da_cons (de_ty E.m_str) da_nil)) E.m_isinstance) (de_one (de_cmp op_in_seq o2_in (dv 0) (de_tup (da_cons (de_cval E.m_Ends E.r_Ends E.v_Ends_HALF rfl) (da_cons (de_cval E.m_Ends E.r_Ends E.v_Ends_SHUT rfl) da_nil)) (la_cons (la_cons la_nil))))))))
include E in
theorem ok_check_ends : FnG PR w K mg base 3 E.a_check_ends E.d_check_ends ["ends"] (spD K mg none 1 P.f_check_ends) := by
  refine fnE (k := 2) E.F_check_ends sc_check_ends P.S_check_ends (by unfold P.f_check_ends; rfl) rfl rfl rfl ?_
  intro cdv A outer s H Ex g hr
  unfold P.S_check_ends
  exact (dss_one (ds_if (dt_not (dt_tru (de_call (ok_is_ends E |>.mono (by decide)) (guards_deeper g) hr E.m_is_ends E.F_is_ends.kp (kb_is_ends_1 E) (takes_of rfl rfl rfl rfl) (fun _ _ => rfl) (da_cons (dv 0) da_nil) dk_nil (la_cons la_nil) la_nil (fun _ h => (nomatch h)) ⟨rfl, by decide, fun _ h => (nomatch h)⟩))) (dss_one (ds_raise (rz_BadEnds E) (hr.mono (by decide)) (takes_of rfl rfl rfl rfl) (dv 0))) dss_nil))
include E in
theorem ok_is_empty : FnG PR w K mg base 4 E.a_is_empty E.d_is_empty ["pair", "ends"] (spD K mg none 2 P.f_is_empty) := by
  refine fnE (k := 3) E.F_is_empty sc_is_empty P.S_is_empty (by unfold P.f_is_empty; rfl) rfl rfl rfl ?_
  intro cdv A outer s H Ex g hr
  unfold P.S_is_empty
  exact (dss_cons (ds_expr (de_call (ok_check_ends E |>.mono (by decide)) (guards_deeper g) hr E.m_check_ends E.F_check_ends.kp (kb_check_ends_1 E) (takes_of rfl rfl rfl rfl) (fun _ _ => rfl) (da_cons (dv 1) da_nil) dk_nil (la_cons la_nil) la_nil (fun _ h => (nomatch h)) ⟨rfl, by decide, fun _ h => (nomatch h)⟩))
  (dss_one (ds_ret (de_or (de_cmp op_gt o2_gt (de_ix (dv 0) de_int) (de_ix (dv 0) de_int)) (de_one (de_and (de_cmp (op_eqD hr.units) o2_eq (dv 1) (de_cval E.m_Ends E.r_Ends E.v_Ends_HALF rfl)) (de_one (de_cmp (op_eqD hr.units) o2_eq (de_ix (dv 0) de_int) (de_ix (dv 0) de_int)))))))))
include E in
theorem ok_union : FnG PR w K mg base 6 E.a_union E.d_union ["spans", "ends"] (spD K mg none 2 P.f_union) := by
  refine fnE (k := 5) E.F_union sc_union P.S_union (by unfold P.f_union; rfl) rfl rfl rfl ?_
  intro cdv A outer s H Ex g hr
  unfold P.S_union
  exact (dss_cons (ds_expr (de_call (ok_check_spans E |>.mono (by decide)) (guards_deeper g) hr E.m_check_spans E.F_check_spans.kp (kb_check_spans_1 E) (takes_of rfl rfl rfl rfl) (fun _ _ => rfl) (da_cons (dv 0) da_nil) dk_nil (la_cons la_nil) la_nil (fun _ h => (nomatch h)) ⟨rfl, by decide, fun _ h => (nomatch h)⟩))
  (dss_cons (ds_expr (de_call (ok_check_ends E |>.mono (by decide)) (guards_deeper g) hr E.m_check_ends E.F_check_ends.kp (kb_check_ends_1 E) (takes_of rfl rfl rfl rfl) (fun _ _ => rfl) (da_cons (dv 1) da_nil) dk_nil (la_cons la_nil) la_nil (fun _ h => (nomatch h)) ⟨rfl, by decide, fun _ h => (nomatch h)⟩))
  (dss_cons (ds_set (i := 2) sc_union.nd (de_lst da_nil la_nil))
  (dss_cons (ds_for (passes_of rfl) rfl (di_seq (de_cs cs_sortedP (de_lc (own := [("span", 5)]) rfl sc_union.nd (di_seq (dv 0)) (by show BlkOk ["spans", "ends", "found", "begin", "end", "span"] (defScope st_union) _ _; exact blkOk_by (by decide +kernel)) (fun _ _ _ _ _ => (pg_name (i := 5) sc_union.nd rfl (by first | exact .inl rfl | exact .inr rfl))) tp_nm (fun _ _ _ _ _ => (dts_one (dt_not (dt_tru (de_call (ok_is_empty E |>.mono (by decide)) (guards_deeper g) hr E.m_is_empty E.F_is_empty.kp (kb_is_empty_2 E) takes_no (fun _ _ => rpl_sc rfl) (da_cons (dv 5) (da_cons (dv 1) da_nil)) dk_nil (la_cons (la_cons la_nil)) la_nil (fun _ h => (nomatch h)) ⟨rfl, by decide, fun _ h => (nomatch h)⟩))))) (fun _ _ _ _ _ => (dv 5))) E.m_sorted)) (pg_tup rfl (pgs_cons (pg_name (i := 3) sc_union.nd rfl (by first | exact .inl rfl | exact .inr rfl)) (pgs_cons (pg_name (i := 4) sc_union.nd rfl (by first | exact .inl rfl | exact .inr rfl)) pgs_nil))) (tp_tup (GsP.cons tp_nm (GsP.cons tp_nm GsP.nil))) (dss_one (ds_if (dw_pt (dw_and (dt_tru (dv 2)) (dw_and1 (dt_cmp op_le o2_le (dv 3) (de_ix (de_ix (dv 2) (de_eq (F := (fUn gNeg (fC (.int (1))))) (de_neg de_int) rfl)) de_int))))) (dss_one (ds_sub (de_tup (da_cons (de_ix (de_ix (dv 2) (de_eq (F := (fUn gNeg (fC (.int (1))))) (de_neg de_int) rfl)) de_int) (da_cons (de_cb (cb_max rfl) (da_cons (de_ix (de_ix (dv 2) (de_eq (F := (fUn gNeg (fC (.int (1))))) (de_neg de_int) rfl)) de_int) (da_cons (dv 4) da_nil)) E.m_max) da_nil)) (la_cons (la_cons la_nil))) (dv 2) (de_eq (F := (fUn gNeg (fC (.int (1))))) (de_neg de_int) rfl))) (dss_one (ds_expr (de_mu mu_append PySem.F.slot_list_append PySem.F.type_list_append (dv 2) (da_cons (de_tup (da_cons (dv 3) (da_cons (dv 4) da_nil)) (la_cons (la_cons la_nil))) da_nil)))))))
  (dss_one (ds_ret (dv 2)))))))
include E in
theorem ok__law_due : FnG PR w K mg base 1 E.a__law_due E.d__law_due ["rows", "mode"] (spD K mg none 2 f__law_due) := by
  refine fnE (k := 0) E.F__law_due sc__law_due S__law_due (by unfold f__law_due; rfl) rfl rfl rfl ?_
  intro cdv A outer s H Ex g hr
  unfold S__law_due
  exact (dss_cons (by first | exact (ds_setLc (i := 2) (own := [("span", 7)]) rfl sc__law_due.nd (di_seq (dv 0)) (by show BlkOk ["rows", "mode", "full", "begins", "closes", "begin", "end", "span", "one"] (defScope st__law_due) _ _; exact blkOk_by (by decide +kernel)) (fun _ _ _ _ _ => (pg_name (i := 7) sc__law_due.nd rfl (by first | exact .inl rfl | exact .inr rfl))) tp_nm (fun _ _ _ _ _ => (dts_one (dw_pt (dw_or (dt_cmp op_lt o2_lt (de_ix (dv 7) de_int) (de_ix (dv 7) de_int)) (dw_or1 (dt_cmp (op_eqD hr.units) o2_eq (dv 1) de_str)))))) (fun _ _ _ _ _ => (dv 7))) | exact (ds_set (i := 2) sc__law_due.nd (de_lc (own := [("span", 7)]) rfl sc__law_due.nd (di_seq (dv 0)) (by show BlkOk ["rows", "mode", "full", "begins", "closes", "begin", "end", "span", "one"] (defScope st__law_due) _ _; exact blkOk_by (by decide +kernel)) (fun _ _ _ _ _ => (pg_name (i := 7) sc__law_due.nd rfl (by first | exact .inl rfl | exact .inr rfl))) tp_nm (fun _ _ _ _ _ => (dts_one (dw_pt (dw_or (dt_cmp op_lt o2_lt (de_ix (dv 7) de_int) (de_ix (dv 7) de_int)) (dw_or1 (dt_cmp (op_eqD hr.units) o2_eq (dv 1) de_str)))))) (fun _ _ _ _ _ => (dv 7)))))
  (dss_cons (ds_par (i := 3) (j := 4) rfl sc__law_due.nd (by decide) (da_cons (de_lst da_nil la_nil) (da_cons (de_lst da_nil la_nil) da_nil)) (la_cons (la_cons la_nil)))
  (dss_cons (ds_for (passes_of rfl) rfl (di_seq (dv 2)) (pg_tup rfl (pgs_cons (pg_name (i := 5) sc__law_due.nd rfl (by first | exact .inl rfl | exact .inr rfl)) (pgs_cons (pg_name (i := 6) sc__law_due.nd rfl (by first | exact .inl rfl | exact .inr rfl)) pgs_nil))) (tp_tup (GsP.cons tp_nm (GsP.cons tp_nm GsP.nil))) (dss_cons (ds_if (dt_cmp (op_eqD hr.units) o2_eq (de_lc (own := [("one", 8)]) rfl sc__law_due.nd (di_seq (dv 2)) (by show BlkOk ["rows", "mode", "full", "begins", "closes", "begin", "end", "span", "one"] (defScope st__law_due) _ _; exact blkOk_by (by decide +kernel)) (fun _ _ _ _ _ => (pg_name (i := 8) sc__law_due.nd rfl (by first | exact .inl rfl | exact .inr rfl))) tp_nm (fun _ _ _ _ _ => (dts_one (dt_chain op_lt o2_lt op_le o2_le (de_ix (dv 8) de_int) (dv 5) (de_ix (dv 8) de_int)))) (fun _ _ _ _ _ => (dv 8))) (de_lst da_nil la_nil)) (dss_one (ds_expr (de_mu mu_append PySem.F.slot_list_append PySem.F.type_list_append (dv 3) (da_cons (dv 5) da_nil)))) dss_nil)
  (dss_one (ds_if (dt_cmp (op_eqD hr.units) o2_eq (de_lc (own := [("one", 8)]) rfl sc__law_due.nd (di_seq (dv 2)) (by show BlkOk ["rows", "mode", "full", "begins", "closes", "begin", "end", "span", "one"] (defScope st__law_due) _ _; exact blkOk_by (by decide +kernel)) (fun _ _ _ _ _ => (pg_name (i := 8) sc__law_due.nd rfl (by first | exact .inl rfl | exact .inr rfl))) tp_nm (fun _ _ _ _ _ => (dts_one (dt_chain op_le o2_le op_lt o2_lt (de_ix (dv 8) de_int) (dv 6) (de_ix (dv 8) de_int)))) (fun _ _ _ _ _ => (dv 8))) (de_lst da_nil la_nil)) (dss_one (ds_expr (de_mu mu_append PySem.F.slot_list_append PySem.F.type_list_append (dv 4) (da_cons (dv 6) da_nil)))) dss_nil))))
  (dss_one (ds_ret (de_lzip (da_cons (de_srtSet (dv 3) E.m_sorted E.m_set) (da_cons (de_srtSet (dv 4) E.m_sorted E.m_set) da_nil)) E.m_list E.m_zip))))))
include E in
theorem ok__law_moments : FnG PR w K mg base 1 E.a__law_moments E.d__law_moments ["pairs"] (spD K mg none 1 f__law_moments) := by
  refine fnE (k := 0) E.F__law_moments sc__law_moments S__law_moments (by unfold f__law_moments; rfl) rfl rfl rfl ?_
  intro cdv A outer s H Ex g hr
  unfold S__law_moments
  exact (dss_cons (ds_set (i := 1) sc__law_moments.nd (de_lst (da_cons (de_eq (F := (fOp gSub (fC (.int (1))) (fC (.int (10000000000000000000000000000000))))) (de_op op_sub o2_sub de_int (de_eq (F := (fOp gPow (fC (.int (10))) (fC (.int (31))))) (de_op op_pow o2_pow de_int de_int) rfl)) rfl) (da_cons (de_eq (F := (fOp gSub (fC (.int (10000000000000000000000000000000))) (fC (.int (1))))) (de_op op_sub o2_sub (de_eq (F := (fOp gPow (fC (.int (10))) (fC (.int (31))))) (de_op op_pow o2_pow de_int de_int) rfl) de_int) rfl) da_nil)) (la_cons (la_cons la_nil))))
  (dss_cons (ds_for (passes_of rfl) rfl (di_seq (dv 0)) (pg_tup rfl (pgs_cons (pg_name (i := 2) sc__law_moments.nd rfl (by first | exact .inl rfl | exact .inr rfl)) (pgs_cons (pg_name (i := 3) sc__law_moments.nd rfl (by first | exact .inl rfl | exact .inr rfl)) pgs_nil))) (tp_tup (GsP.cons tp_nm (GsP.cons tp_nm GsP.nil))) (dss_one (ds_set (i := 1) sc__law_moments.nd (de_add (dv 1) (de_lst (da_cons (de_op op_sub o2_sub (dv 2) de_int) (da_cons (dv 2) (da_cons (de_add (dv 2) de_int) (da_cons (de_op op_sub o2_sub (dv 3) de_int) (da_cons (dv 3) (da_cons (de_add (dv 3) de_int) da_nil)))))) (la_cons (la_cons (la_cons (la_cons (la_cons (la_cons la_nil)))))))))))
  (dss_one (ds_ret (de_srtSet (de_lc (own := [("one", 4)]) rfl sc__law_moments.nd (di_seq (dv 1)) (by show BlkOk ["pairs", "found", "begin", "end", "one"] (defScope st__law_moments) _ _; exact blkOk_by (by decide +kernel)) (fun _ _ _ _ _ => (pg_name (i := 4) sc__law_moments.nd rfl (by first | exact .inl rfl | exact .inr rfl))) tp_nm (fun _ _ _ _ _ => (dts_one (dt_chain op_lt o2_lt op_lt o2_lt (de_eq (F := (fUn gNeg (fC (.int (10000000000000000000000000000000))))) (de_neg (de_eq (F := (fOp gPow (fC (.int (10))) (fC (.int (31))))) (de_op op_pow o2_pow de_int de_int) rfl)) rfl) (dv 4) (de_eq (F := (fOp gPow (fC (.int (10))) (fC (.int (31))))) (de_op op_pow o2_pow de_int de_int) rfl)))) (fun _ _ _ _ _ => (dv 4))) E.m_sorted E.m_set)))))
include E in
theorem ok__law_pairs_right : FnG PR w K mg base 1 E.a__law_pairs_right E.d__law_pairs_right ["found", "count"] (spD K mg none 2 f__law_pairs_right) := by
  refine fnE (k := 0) E.F__law_pairs_right sc__law_pairs_right S__law_pairs_right (by unfold f__law_pairs_right; rfl) rfl rfl rfl ?_
  intro cdv A outer s H Ex g hr
  unfold S__law_pairs_right
  exact (dss_cons (ds_if (dw_pt (dw_or (dt_not (dt_tru (de_cb cb_isi (da_cons (dv 0) (da_cons (de_ty E.m_list) da_nil)) E.m_isinstance))) (dw_or1 (dt_cmp op_gt o2_gt (de_cb cb_len (da_cons (dv 0) da_nil) E.m_len) (dv 1))))) (dss_one (ds_ret de_bl)) dss_nil)
  (dss_cons (ds_for (passes_of rfl) rfl (di_seq (dv 0)) (pg_name (i := 2) sc__law_pairs_right.nd rfl (by first | exact .inl rfl | exact .inr rfl)) tp_nm (dss_cons (ds_if (dw_pt (dw_or (dt_not (dt_tru (de_cb cb_isi (da_cons (dv 2) (da_cons (de_ty E.m_tuple) da_nil)) E.m_isinstance))) (dw_or1 (dt_cmp (op_neD hr.units) o2_ne (de_cb cb_len (da_cons (dv 2) da_nil) E.m_len) de_int)))) (dss_one (ds_ret de_bl)) dss_nil)
  (dss_one (ds_if (dw_pt (dw_or (dt_not (dt_tru (de_cb cb_isi (da_cons (de_ix (dv 2) de_int) (da_cons (de_ty E.m_int) da_nil)) E.m_isinstance))) (dw_or1 (dt_not (dt_tru (de_cb cb_isi (da_cons (de_ix (dv 2) de_int) (da_cons (de_ty E.m_int) da_nil)) E.m_isinstance)))))) (dss_one (ds_ret de_bl)) dss_nil))))
  (dss_one (ds_ret de_bl))))
include E in
theorem ok_in_one_form : FnG PR w K mg base 6 E.a_in_one_form E.d_in_one_form ["spans", "ends"] (spD K mg none 2 P.f_in_one_form) := by
  refine fnE (k := 5) E.F_in_one_form sc_in_one_form P.S_in_one_form (by unfold P.f_in_one_form; rfl) rfl rfl rfl ?_
  intro cdv A outer s H Ex g hr
  unfold P.S_in_one_form
  exact (dss_cons (ds_expr (de_call (ok_check_spans E |>.mono (by decide)) (guards_deeper g) hr E.m_check_spans E.F_check_spans.kp (kb_check_spans_1 E) (takes_of rfl rfl rfl rfl) (fun _ _ => rfl) (da_cons (dv 0) da_nil) dk_nil (la_cons la_nil) la_nil (fun _ h => (nomatch h)) ⟨rfl, by decide, fun _ h => (nomatch h)⟩))
  (dss_cons (ds_expr (de_call (ok_check_ends E |>.mono (by decide)) (guards_deeper g) hr E.m_check_ends E.F_check_ends.kp (kb_check_ends_1 E) (takes_of rfl rfl rfl rfl) (fun _ _ => rfl) (da_cons (dv 1) da_nil) dk_nil (la_cons la_nil) la_nil (fun _ h => (nomatch h)) ⟨rfl, by decide, fun _ h => (nomatch h)⟩))
  (dss_cons (ds_for (passes_of rfl) rfl (di_enum (dv 0) E.m_enumerate) (pg_tup rfl (pgs_cons (pg_name (i := 2) sc_in_one_form.nd rfl (by first | exact .inl rfl | exact .inr rfl)) (pgs_cons (pg_name (i := 3) sc_in_one_form.nd rfl (by first | exact .inl rfl | exact .inr rfl)) pgs_nil))) (tp_tup (GsP.cons tp_nm (GsP.cons tp_nm GsP.nil))) (dss_one (ds_if (dw_pt (dw_or (dt_tru (de_call (ok_is_empty E |>.mono (by decide)) (guards_deeper g) hr E.m_is_empty E.F_is_empty.kp (kb_is_empty_2 E) (takes_of rfl rfl rfl rfl) (fun _ _ => rpl_sc rfl) (da_cons (dv 3) (da_cons (dv 1) da_nil)) dk_nil (la_cons (la_cons la_nil)) la_nil (fun _ h => (nomatch h)) ⟨rfl, by decide, fun _ h => (nomatch h)⟩)) (dw_or1 (dw_pt (dw_and (dt_cmp op_gt o2_gt (dv 2) de_int) (dw_and1 (dt_cmp op_le o2_le (de_ix (dv 3) de_int) (de_ix (de_ix (dv 0) (de_op op_sub o2_sub (dv 2) de_int)) de_int)))))))) (dss_one (ds_ret de_bl)) dss_nil)))
  (dss_one (ds_ret de_bl)))))
include E in
theorem ok__law_holds : FnG PR w K mg base 1 E.a__law_holds E.d__law_holds ["pair", "moment", "mode"] (spD K mg none 3 f__law_holds) := by
  refine fnE (k := 0) E.F__law_holds sc__law_holds S__law_holds (by unfold f__law_holds; rfl) rfl rfl rfl ?_
  intro cdv A outer s H Ex g hr
  unfold S__law_holds
  exact (dss_one (ds_ret (de_or (de_chain op_le o2_le op_lt o2_lt (de_ix (dv 0) de_int) (dv 1) (de_ix (dv 0) de_int)) (de_one (de_and (de_cmp (op_eqD hr.units) o2_eq (dv 2) de_str) (de_one (de_chain op_le o2_le (op_eqD hr.units) o2_eq (de_ix (dv 0) de_int) (dv 1) (de_ix (dv 0) de_int))))))))
include E in
theorem ok__law_right : FnG PR w K mg base 7 E.a__law_right E.d__law_right ["rows", "mode", "is_by_name"] (spD K mg none 3 f__law_right) := by
  refine fnE (k := 6) E.F__law_right sc__law_right S__law_right (by unfold f__law_right; rfl) rfl rfl rfl ?_
  intro cdv A outer s H Ex g hr
  unfold S__law_right
  exact (dss_cons (ds_set (i := 3) sc__law_right.nd (de_cst cs_list (dv 0) E.m_list))
  (dss_cons (ds_set (i := 4) sc__law_right.nd (de_if (dt_tru (dv 2)) (de_call0 (ok_union E |>.mono (by decide)) (guards_deeper g) hr E.m_union E.F_union.kp (kb_union_0_ends_spans E) (takes_of rfl rfl rfl rfl) (fun _ _ => rpl_sc rfl) (dk_cons (dv 1) (dk_cons (dv 0) dk_nil)) (la_cons (la_cons la_nil)) (fun _ h => (nomatch h)) ⟨rfl, by decide, fun _ h => (nomatch h)⟩) (de_call (ok_union E |>.mono (by decide)) (guards_deeper g) hr E.m_union E.F_union.kp (kb_union_2 E) (takes_of rfl rfl rfl rfl) (fun _ _ => rpl_sc rfl) (da_cons (dv 0) (da_cons (dv 1) da_nil)) dk_nil (la_cons (la_cons la_nil)) la_nil (fun _ h => (nomatch h)) ⟨rfl, by decide, fun _ h => (nomatch h)⟩)))
  (dss_cons (ds_if (dw_pt (dw_or (dt_not (dt_tru (de_call (ok__law_pairs_right E |>.mono (by decide)) (guards_deeper g) hr E.m__law_pairs_right E.F__law_pairs_right.kp (kb__law_pairs_right_2 E) (takes_of rfl rfl rfl rfl) (fun _ _ => rfl) (da_cons (dv 4) (da_cons (de_cb cb_len (da_cons (dv 0) da_nil) E.m_len) da_nil)) dk_nil (la_cons (la_cons la_nil)) la_nil (fun _ h => (nomatch h)) ⟨rfl, by decide, fun _ h => (nomatch h)⟩))) (dw_or (dt_cmp (op_neD hr.units) o2_ne (de_cst cs_list (dv 0) E.m_list) (dv 3)) (dw_or1 (dt_cmp (op_neD hr.units) o2_ne (dv 4) (de_call (ok__law_due E |>.mono (by decide)) (guards_deeper g) hr E.m__law_due E.F__law_due.kp (kb__law_due_2 E) (takes_of rfl rfl rfl rfl) (fun _ _ => rfl) (da_cons (dv 0) (da_cons (dv 1) da_nil)) dk_nil (la_cons (la_cons la_nil)) la_nil (fun _ h => (nomatch h)) ⟨rfl, by decide, fun _ h => (nomatch h)⟩)))))) (dss_one (ds_ret de_bl)) dss_nil)
  (dss_cons (ds_for (passes_of rfl) rfl (di_seq (de_call (ok__law_moments E |>.mono (by decide)) (guards_deeper g) hr E.m__law_moments E.F__law_moments.kp (kb__law_moments_1 E) (takes_of rfl rfl rfl rfl) (fun _ _ => rfl) (da_cons (de_cst cs_list (dv 0) E.m_list) da_nil) dk_nil (la_cons la_nil) la_nil (fun _ h => (nomatch h)) ⟨rfl, by decide, fun _ h => (nomatch h)⟩)) (pg_name (i := 5) sc__law_right.nd rfl (by first | exact .inl rfl | exact .inr rfl)) tp_nm (dss_cons (ds_set (i := 6) sc__law_right.nd (de_cb cb_len (da_cons (de_lc (own := [("pair", 8)]) rfl sc__law_right.nd (di_seq (dv 4)) (by show BlkOk ["rows", "mode", "is_by_name", "kept", "told", "moment", "many", "k", "pair", "turned", "span"] (defScope st__law_right) _ _; exact blkOk_by (by decide +kernel)) (fun _ _ _ _ _ => (pg_name (i := 8) sc__law_right.nd rfl (by first | exact .inl rfl | exact .inr rfl))) tp_nm (fun _ _ _ _ _ => (dts_one (dt_tru (de_call (ok__law_holds E |>.mono (by decide)) (guards_deeper g) hr E.m__law_holds E.F__law_holds.kp (kb__law_holds_3 E) takes_no (fun _ _ => rfl) (da_cons (dv 8) (da_cons (dv 5) (da_cons (dv 1) da_nil))) dk_nil (la_cons (la_cons (la_cons la_nil))) la_nil (fun _ h => (nomatch h)) ⟨rfl, by decide, fun _ h => (nomatch h)⟩)))) (fun _ _ _ _ _ => (dv 8))) da_nil) E.m_len))
  (dss_one (ds_if (dt_cmp (op_neD hr.units) o2_ne (dv 6) (de_ct cb_int (da_cons (de_cmp (op_neD hr.units) o2_ne (de_lc (own := [("span", 10)]) rfl sc__law_right.nd (di_seq (dv 0)) (by show BlkOk ["rows", "mode", "is_by_name", "kept", "told", "moment", "many", "k", "pair", "turned", "span"] (defScope st__law_right) _ _; exact blkOk_by (by decide +kernel)) (fun _ _ _ _ _ => (pg_name (i := 10) sc__law_right.nd rfl (by first | exact .inl rfl | exact .inr rfl))) tp_nm (fun _ _ _ _ _ => (dts_one (dt_tru (de_call (ok__law_holds E |>.mono (by decide)) (guards_deeper g) hr E.m__law_holds E.F__law_holds.kp (kb__law_holds_3 E) takes_no (fun _ _ => rfl) (da_cons (dv 10) (da_cons (dv 5) (da_cons (dv 1) da_nil))) dk_nil (la_cons (la_cons (la_cons la_nil))) la_nil (fun _ h => (nomatch h)) ⟨rfl, by decide, fun _ h => (nomatch h)⟩)))) (fun _ _ _ _ _ => (dv 10))) (de_lst da_nil la_nil)) da_nil) E.m_int)) (dss_one (ds_ret de_bl)) dss_nil))))
  (dss_cons (ds_for (passes_of rfl) rfl (di_enum (dv 4) E.m_enumerate) (pg_tup rfl (pgs_cons (pg_name (i := 7) sc__law_right.nd rfl (by first | exact .inl rfl | exact .inr rfl)) (pgs_cons (pg_name (i := 8) sc__law_right.nd rfl (by first | exact .inl rfl | exact .inr rfl)) pgs_nil))) (tp_tup (GsP.cons tp_nm (GsP.cons tp_nm GsP.nil))) (dss_one (ds_if (dw_pt (dw_or (dt_cmp op_gt o2_gt (de_ix (dv 8) de_int) (de_ix (dv 8) de_int)) (dw_or (dw_pt (dw_and (dt_cmp (op_eqD hr.units) o2_eq (dv 1) de_str) (dw_and1 (dt_cmp (op_eqD hr.units) o2_eq (de_ix (dv 8) de_int) (de_ix (dv 8) de_int))))) (dw_or1 (dw_pt (dw_and (dt_cmp op_gt o2_gt (dv 7) de_int) (dw_and1 (dt_cmp op_ge o2_ge (de_ix (de_ix (dv 4) (de_op op_sub o2_sub (dv 7) de_int)) de_int) (de_ix (dv 8) de_int))))))))) (dss_one (ds_ret de_bl)) dss_nil)))
  (dss_cons (ds_if (dw_pt (dw_or (dt_cmp o_isn o2_isn (de_call (ok_in_one_form E |>.mono (by decide)) (guards_deeper g) hr E.m_in_one_form E.F_in_one_form.kp (kb_in_one_form_2 E) (takes_of rfl rfl rfl rfl) (fun _ _ => rpl_sc rfl) (da_cons (de_cst cs_list (dv 4) E.m_list) (da_cons (dv 1) da_nil)) dk_nil (la_cons (la_cons la_nil)) la_nil (fun _ h => (nomatch h)) ⟨rfl, by decide, fun _ h => (nomatch h)⟩) de_bl) (dw_or1 (dt_cmp (op_neD hr.units) o2_ne (de_call (ok_union E |>.mono (by decide)) (guards_deeper g) hr E.m_union E.F_union.kp (kb_union_2 E) (takes_of rfl rfl rfl rfl) (fun _ _ => rpl_sc rfl) (da_cons (de_cst cs_list (dv 4) E.m_list) (da_cons (dv 1) da_nil)) dk_nil (la_cons (la_cons la_nil)) la_nil (fun _ h => (nomatch h)) ⟨rfl, by decide, fun _ h => (nomatch h)⟩) (dv 4))))) (dss_one (ds_ret de_bl)) dss_nil)
  (dss_cons (ds_set (i := 9) sc__law_right.nd (de_call (ok_union E |>.mono (by decide)) (guards_deeper g) hr E.m_union E.F_union.kp (kb_union_2 E) (takes_of rfl rfl rfl rfl) (fun _ _ => rpl_sc rfl) (da_cons (de_lrev (de_cst cs_list (dv 3) E.m_list) E.m_list E.m_reversed) (da_cons (dv 1) da_nil)) dk_nil (la_cons (la_cons la_nil)) la_nil (fun _ h => (nomatch h)) ⟨rfl, by decide, fun _ h => (nomatch h)⟩))
  (dss_cons (ds_expr (de_mu mu_append PySem.F.slot_list_append PySem.F.type_list_append (dv 4) (da_cons (de_tup (da_cons de_int (da_cons de_int da_nil)) (la_cons (la_cons la_nil))) da_nil)))
  (dss_one (ds_ret (de_and (de_cmp (op_eqD hr.units) o2_eq (dv 9) (de_slice (dv 4) do_none (do_some (de_eq (F := (fUn gNeg (fC (.int (1))))) (de_neg de_int) rfl)))) (de_and (de_cmp (op_eqD hr.units) o2_eq (de_call (ok_union E |>.mono (by decide)) (guards_deeper g) hr E.m_union E.F_union.kp (kb_union_2 E) (takes_of rfl rfl rfl rfl) (fun _ _ => rpl_sc rfl) (da_cons (de_tupOf (dv 3) E.m_tuple) (da_cons (dv 1) da_nil)) dk_nil (la_cons (la_cons la_nil)) la_nil (fun _ h => (nomatch h)) ⟨rfl, by decide, fun _ h => (nomatch h)⟩) (dv 9)) (de_one (de_cmp (op_eqD hr.units) o2_eq (de_cst cs_list (dv 0) E.m_list) (dv 3)))))))))))))))
include E in
theorem ok_law : FnG PR w K mg base 8 E.a_law E.d_law ["script"] (spD K mg none 1 f_law) := by
  refine fnE (k := 7) E.F_law sc_law S_law (by unfold f_law; rfl) rfl rfl rfl ?_
  intro cdv A outer s H Ex g hr
  unfold S_law
  exact (dss_cons (ds_for (passes_of rfl) rfl (di_range1 (da_cons (de_cb (cb_max rfl) (da_cons de_int (da_cons (de_cb (cb_min rfl) (da_cons (de_cb cb_len (da_cons (dv 0) da_nil) E.m_len) (da_cons de_int da_nil)) E.m_min) da_nil)) E.m_max) da_nil) (la_cons la_nil) E.m_range) (pg_name (i := 1) sc_law.nd rfl (by first | exact .inl rfl | exact .inr rfl)) tp_nm (dss_cons (ds_set (i := 2) sc_law.nd (de_call (ok__law_bag E |>.mono (by decide)) (guards_deeper g) hr E.m__law_bag E.F__law_bag.kp (kb__law_bag_2 E) (takes_of rfl rfl rfl rfl) (fun _ _ => rfl) (da_cons (dv 0) (da_cons (dv 1) da_nil)) dk_nil (la_cons (la_cons la_nil)) la_nil (fun _ h => (nomatch h)) ⟨rfl, by decide, fun _ h => (nomatch h)⟩))
  (dss_cons (ds_set (i := 3) sc_law.nd (de_call (ok__law_take E |>.mono (by decide)) (guards_deeper g) hr E.m__law_take E.F__law_take.kp (kb__law_take_2 E) (takes_of rfl rfl rfl rfl) (fun _ _ => rfl) (da_cons (dv 2) (da_cons de_int da_nil)) dk_nil (la_cons (la_cons la_nil)) la_nil (by intro j h; cases h; decide) ⟨rfl, by decide, by walk_at "is_ok"⟩))
  (dss_cons (ds_if (dw_pt (dw_and (dt_cmp (op_eqD hr.units) o2_eq (dv 1) de_int) (dw_and1 (dt_cmp (op_eqD hr.units) o2_eq (de_call (ok__law_take E |>.mono (by decide)) (guards_deeper g) hr E.m__law_take E.F__law_take.kp (kb__law_take_2 E) (takes_of rfl rfl rfl rfl) (fun _ _ => rfl) (da_cons (dv 2) (da_cons de_int da_nil)) dk_nil (la_cons (la_cons la_nil)) la_nil (by intro j h; cases h; decide) ⟨rfl, by decide, by walk_at "is_ok"⟩) de_int)))) (dss_one (ds_set (i := 3) sc_law.nd (de_add de_int (de_call (ok__law_take E |>.mono (by decide)) (guards_deeper g) hr E.m__law_take E.F__law_take.kp (kb__law_take_2 E) (takes_of rfl rfl rfl rfl) (fun _ _ => rfl) (da_cons (dv 2) (da_cons de_int da_nil)) dk_nil (la_cons (la_cons la_nil)) la_nil (by intro j h; cases h; decide) ⟨rfl, by decide, by walk_at "is_ok"⟩)))) dss_nil)
  (dss_cons (ds_set (i := 4) sc_law.nd (de_call (ok__law_stretches E |>.mono (by decide)) (guards_deeper g) hr E.m__law_stretches E.F__law_stretches.kp (kb__law_stretches_2 E) (takes_of rfl rfl rfl rfl) (fun _ _ => rfl) (da_cons (dv 2) (da_cons (dv 3) da_nil)) dk_nil (la_cons (la_cons la_nil)) la_nil (by intro j h; cases h; decide) ⟨rfl, by decide, by walk_at "is_ok"⟩))
  (dss_cons (ds_for (passes_of rfl) rfl (di_seq (de_lst (da_cons de_str (da_cons de_str da_nil)) (la_cons (la_cons la_nil)))) (pg_name (i := 5) sc_law.nd rfl (by first | exact .inl rfl | exact .inr rfl)) tp_nm (dss_one (ds_if (dt_not (dt_tru (de_call (ok__law_right E |>.mono (by decide)) (guards_deeper g) hr E.m__law_right E.F__law_right.kp (kb__law_right_3 E) (takes_of rfl rfl rfl rfl) (fun _ _ => rfl) (da_cons (dv 4) (da_cons (dv 5) (da_cons (de_cmp (op_eqD hr.units) o2_eq (de_call (ok__law_take E |>.mono (by decide)) (guards_deeper g) hr E.m__law_take E.F__law_take.kp (kb__law_take_2 E) (takes_of rfl rfl rfl rfl) (fun _ _ => rfl) (da_cons (dv 2) (da_cons de_int da_nil)) dk_nil (la_cons (la_cons la_nil)) la_nil (by intro j h; cases h; decide) ⟨rfl, by decide, by walk_at "is_ok"⟩) de_int) da_nil))) dk_nil (la_cons (la_cons (la_cons la_nil))) la_nil (fun _ h => (nomatch h)) ⟨rfl, by decide, fun _ h => (nomatch h)⟩))) (dss_one (ds_ret de_bl)) dss_nil)))
  (dss_one (ds_if (dt_cmp (op_neD hr.units) o2_ne (de_call (ok_union E |>.mono (by decide)) (guards_deeper g) hr E.m_union E.F_union.kp (kb_union_1 E) (takes_of rfl rfl rfl rfl) (fun _ _ => rpl_sc rfl) (da_cons (dv 4) da_nil) dk_nil (la_cons la_nil) la_nil (fun _ h => (nomatch h)) ⟨rfl, by decide, fun _ h => (nomatch h)⟩) (de_call (ok__law_due E |>.mono (by decide)) (guards_deeper g) hr E.m__law_due E.F__law_due.kp (kb__law_due_2 E) (takes_of rfl rfl rfl rfl) (fun _ _ => rfl) (da_cons (dv 4) (da_cons de_str da_nil)) dk_nil (la_cons (la_cons la_nil)) la_nil (fun _ h => (nomatch h)) ⟨rfl, by decide, fun _ h => (nomatch h)⟩)) (dss_one (ds_ret de_bl)) dss_nil))))))))
  (dss_one (ds_ret de_bl)))
end
theorem all_mk {l : PySem.W.OpenLaw} {w : World} {K : PySem.W.Frag} {h : Heap} {mg : Str → Option Value} {fa : Addr} (X : K.In h) (G : h.Ns mainGlobals mg) (hfa : mg "law" = some (.ref fa))
  {f_is_integer_ : Addr} {od_is_integer an_is_integer : Option Addr} {sl_is_integer : Array (Option Value)} {oc_is_integer kV_is_integer dc_is_integer pm_is_integer cd_is_integer ct_is_integer : Value}
  {f_is_near_ : Addr} {od_is_near an_is_near : Option Addr} {sl_is_near : Array (Option Value)} {oc_is_near kV_is_near dc_is_near pm_is_near cd_is_near ct_is_near : Value}
  {f_is_edge_ : Addr} {od_is_edge an_is_edge : Option Addr} {sl_is_edge : Array (Option Value)} {oc_is_edge kV_is_edge dc_is_edge pm_is_edge cd_is_edge ct_is_edge : Value}
  {f_is_pair_ : Addr} {od_is_pair an_is_pair : Option Addr} {sl_is_pair : Array (Option Value)} {oc_is_pair kV_is_pair dc_is_pair pm_is_pair cd_is_pair ct_is_pair : Value}
  {f_is_stretch_ : Addr} {od_is_stretch an_is_stretch : Option Addr} {sl_is_stretch : Array (Option Value)} {oc_is_stretch kV_is_stretch dc_is_stretch pm_is_stretch cd_is_stretch ct_is_stretch : Value}
  {f_is_ends_ : Addr} {od_is_ends an_is_ends : Option Addr} {sl_is_ends : Array (Option Value)} {oc_is_ends kV_is_ends dc_is_ends pm_is_ends cd_is_ends ct_is_ends : Value}
  {f_check_ends_ : Addr} {od_check_ends an_check_ends : Option Addr} {sl_check_ends : Array (Option Value)} {oc_check_ends kV_check_ends dc_check_ends pm_check_ends cd_check_ends ct_check_ends : Value}
  {f_check_spans_ : Addr} {od_check_spans an_check_spans : Option Addr} {sl_check_spans : Array (Option Value)} {oc_check_spans kV_check_spans dc_check_spans pm_check_spans cd_check_spans ct_check_spans : Value}
  {f_is_empty_ : Addr} {od_is_empty an_is_empty : Option Addr} {sl_is_empty : Array (Option Value)} {oc_is_empty kV_is_empty dc_is_empty pm_is_empty cd_is_empty ct_is_empty : Value}
  {T_is_empty : Addr} {oT_is_empty : Value} {dT_is_empty : Option Addr} {nT_is_empty : Nat} {sT_is_empty : Array (Option Value)} {t_is_empty_0 : Tok}
  {f_union_ : Addr} {od_union an_union : Option Addr} {sl_union : Array (Option Value)} {oc_union kV_union dc_union pm_union cd_union ct_union : Value}
  {T_union : Addr} {oT_union : Value} {dT_union : Option Addr} {nT_union : Nat} {sT_union : Array (Option Value)} {t_union_0 : Tok}
  {f_in_one_form_ : Addr} {od_in_one_form an_in_one_form : Option Addr} {sl_in_one_form : Array (Option Value)} {oc_in_one_form kV_in_one_form dc_in_one_form pm_in_one_form cd_in_one_form ct_in_one_form : Value}
  {T_in_one_form : Addr} {oT_in_one_form : Value} {dT_in_one_form : Option Addr} {nT_in_one_form : Nat} {sT_in_one_form : Array (Option Value)} {t_in_one_form_0 : Tok}
  {f__law_bag_ : Addr} {od__law_bag an__law_bag : Option Addr} {sl__law_bag : Array (Option Value)} {oc__law_bag kV__law_bag dc__law_bag pm__law_bag cd__law_bag ct__law_bag : Value}
  {f__law_take_ : Addr} {od__law_take an__law_take : Option Addr} {sl__law_take : Array (Option Value)} {oc__law_take kV__law_take dc__law_take pm__law_take cd__law_take ct__law_take : Value}
  {f__law_edge_ : Addr} {od__law_edge an__law_edge : Option Addr} {sl__law_edge : Array (Option Value)} {oc__law_edge kV__law_edge dc__law_edge pm__law_edge cd__law_edge ct__law_edge : Value}
  {f__law_stretch_ : Addr} {od__law_stretch an__law_stretch : Option Addr} {sl__law_stretch : Array (Option Value)} {oc__law_stretch kV__law_stretch dc__law_stretch pm__law_stretch cd__law_stretch ct__law_stretch : Value}
  {f__law_stretches_ : Addr} {od__law_stretches an__law_stretches : Option Addr} {sl__law_stretches : Array (Option Value)} {oc__law_stretches kV__law_stretches dc__law_stretches pm__law_stretches cd__law_stretches ct__law_stretches : Value}
  {f__law_moments_ : Addr} {od__law_moments an__law_moments : Option Addr} {sl__law_moments : Array (Option Value)} {oc__law_moments kV__law_moments dc__law_moments pm__law_moments cd__law_moments ct__law_moments : Value}
  {f__law_holds_ : Addr} {od__law_holds an__law_holds : Option Addr} {sl__law_holds : Array (Option Value)} {oc__law_holds kV__law_holds dc__law_holds pm__law_holds cd__law_holds ct__law_holds : Value}
  {f__law_pairs_right_ : Addr} {od__law_pairs_right an__law_pairs_right : Option Addr} {sl__law_pairs_right : Array (Option Value)} {oc__law_pairs_right kV__law_pairs_right dc__law_pairs_right pm__law_pairs_right cd__law_pairs_right ct__law_pairs_right : Value}
  {f__law_due_ : Addr} {od__law_due an__law_due : Option Addr} {sl__law_due : Array (Option Value)} {oc__law_due kV__law_due dc__law_due pm__law_due cd__law_due ct__law_due : Value}
  {f__law_right_ : Addr} {od__law_right an__law_right : Option Addr} {sl__law_right : Array (Option Value)} {oc__law_right kV__law_right dc__law_right pm__law_right cd__law_right ct__law_right : Value}
  {f_law_ : Addr} {od_law an_law : Option Addr} {sl_law : Array (Option Value)} {oc_law kV_law dc_law pm_law cd_law ct_law : Value}
  {t_MOST : Tok}
  {t_LAST : Tok}
  {t_FIRST : Tok}
  {f_Ends_ : Addr}
  {f_BadItem_ : Addr}
  {i_BadItem_ : Addr} {od_BadItem an_BadItem : Option Addr} {sl_BadItem : Array (Option Value)} {oc_BadItem kV_BadItem dc_BadItem pm_BadItem cd_BadItem ct_BadItem : Value}
  {f_BadEnds_ : Addr}
  {i_BadEnds_ : Addr} {od_BadEnds an_BadEnds : Option Addr} {sl_BadEnds : Array (Option Value)} {oc_BadEnds kV_BadEnds dc_BadEnds pm_BadEnds cd_BadEnds ct_BadEnds : Value}
  {t_Ends_SHUT : Tok}
  {t_Ends_HALF : Tok}
  (a_is_integer : PySem.W.nsIn K mainGlobals "is_integer" = some (some (.ref f_is_integer_)))
  (l_is_integer : K.lookup f_is_integer_ = some ⟨oc_is_integer, od_is_integer, .func (PySem.W.fnOf "is_integer" "is_integer" (defArgs st_is_integer) (defBody st_is_integer) (defScope st_is_integer) .none kV_is_integer dc_is_integer pm_is_integer an_is_integer cd_is_integer ct_is_integer), sl_is_integer⟩)
  (c_is_integer : PySem.W.codeIn K cd_is_integer "is_integer" = true)
  (k_is_integer : PySem.W.keepIn K (.ref f_is_integer_) = true)
  (a_is_near : PySem.W.nsIn K mainGlobals "is_near" = some (some (.ref f_is_near_)))
  (l_is_near : K.lookup f_is_near_ = some ⟨oc_is_near, od_is_near, .func (PySem.W.fnOf "is_near" "is_near" (defArgs st_is_near) (defBody st_is_near) (defScope st_is_near) .none kV_is_near dc_is_near pm_is_near an_is_near cd_is_near ct_is_near), sl_is_near⟩)
  (c_is_near : PySem.W.codeIn K cd_is_near "is_near" = true)
  (k_is_near : PySem.W.keepIn K (.ref f_is_near_) = true)
  (a_is_edge : PySem.W.nsIn K mainGlobals "is_edge" = some (some (.ref f_is_edge_)))
  (l_is_edge : K.lookup f_is_edge_ = some ⟨oc_is_edge, od_is_edge, .func (PySem.W.fnOf "is_edge" "is_edge" (defArgs st_is_edge) (defBody st_is_edge) (defScope st_is_edge) .none kV_is_edge dc_is_edge pm_is_edge an_is_edge cd_is_edge ct_is_edge), sl_is_edge⟩)
  (c_is_edge : PySem.W.codeIn K cd_is_edge "is_edge" = true)
  (k_is_edge : PySem.W.keepIn K (.ref f_is_edge_) = true)
  (a_is_pair : PySem.W.nsIn K mainGlobals "is_pair" = some (some (.ref f_is_pair_)))
  (l_is_pair : K.lookup f_is_pair_ = some ⟨oc_is_pair, od_is_pair, .func (PySem.W.fnOf "is_pair" "is_pair" (defArgs st_is_pair) (defBody st_is_pair) (defScope st_is_pair) .none kV_is_pair dc_is_pair pm_is_pair an_is_pair cd_is_pair ct_is_pair), sl_is_pair⟩)
  (c_is_pair : PySem.W.codeIn K cd_is_pair "is_pair" = true)
  (k_is_pair : PySem.W.keepIn K (.ref f_is_pair_) = true)
  (a_is_stretch : PySem.W.nsIn K mainGlobals "is_stretch" = some (some (.ref f_is_stretch_)))
  (l_is_stretch : K.lookup f_is_stretch_ = some ⟨oc_is_stretch, od_is_stretch, .func (PySem.W.fnOf "is_stretch" "is_stretch" (defArgs st_is_stretch) (defBody st_is_stretch) (defScope st_is_stretch) .none kV_is_stretch dc_is_stretch pm_is_stretch an_is_stretch cd_is_stretch ct_is_stretch), sl_is_stretch⟩)
  (c_is_stretch : PySem.W.codeIn K cd_is_stretch "is_stretch" = true)
  (k_is_stretch : PySem.W.keepIn K (.ref f_is_stretch_) = true)
  (a_is_ends : PySem.W.nsIn K mainGlobals "is_ends" = some (some (.ref f_is_ends_)))
  (l_is_ends : K.lookup f_is_ends_ = some ⟨oc_is_ends, od_is_ends, .func (PySem.W.fnOf "is_ends" "is_ends" (defArgs st_is_ends) (defBody st_is_ends) (defScope st_is_ends) .none kV_is_ends dc_is_ends pm_is_ends an_is_ends cd_is_ends ct_is_ends), sl_is_ends⟩)
  (c_is_ends : PySem.W.codeIn K cd_is_ends "is_ends" = true)
  (k_is_ends : PySem.W.keepIn K (.ref f_is_ends_) = true)
  (a_check_ends : PySem.W.nsIn K mainGlobals "check_ends" = some (some (.ref f_check_ends_)))
  (l_check_ends : K.lookup f_check_ends_ = some ⟨oc_check_ends, od_check_ends, .func (PySem.W.fnOf "check_ends" "check_ends" (defArgs st_check_ends) (defBody st_check_ends) (defScope st_check_ends) .none kV_check_ends dc_check_ends pm_check_ends an_check_ends cd_check_ends ct_check_ends), sl_check_ends⟩)
  (c_check_ends : PySem.W.codeIn K cd_check_ends "check_ends" = true)
  (k_check_ends : PySem.W.keepIn K (.ref f_check_ends_) = true)
  (a_check_spans : PySem.W.nsIn K mainGlobals "check_spans" = some (some (.ref f_check_spans_)))
  (l_check_spans : K.lookup f_check_spans_ = some ⟨oc_check_spans, od_check_spans, .func (PySem.W.fnOf "check_spans" "check_spans" (defArgs st_check_spans) (defBody st_check_spans) (defScope st_check_spans) .none kV_check_spans dc_check_spans pm_check_spans an_check_spans cd_check_spans ct_check_spans), sl_check_spans⟩)
  (c_check_spans : PySem.W.codeIn K cd_check_spans "check_spans" = true)
  (k_check_spans : PySem.W.keepIn K (.ref f_check_spans_) = true)
  (a_is_empty : PySem.W.nsIn K mainGlobals "is_empty" = some (some (.ref f_is_empty_)))
  (l_is_empty : K.lookup f_is_empty_ = some ⟨oc_is_empty, od_is_empty, .func (PySem.W.fnOf "is_empty" "is_empty" (defArgs st_is_empty) (defBody st_is_empty) (defScope st_is_empty) (.ref T_is_empty) kV_is_empty dc_is_empty pm_is_empty an_is_empty cd_is_empty ct_is_empty), sl_is_empty⟩)
  (c_is_empty : PySem.W.codeIn K cd_is_empty "is_empty" = true)
  (k_is_empty : PySem.W.keepIn K (.ref f_is_empty_) = true)
  (T_is_empty_ : K.lookup T_is_empty = some ⟨oT_is_empty, dT_is_empty, .seq #[(.str "half" t_is_empty_0)] nT_is_empty, sT_is_empty⟩)
  (a_union : PySem.W.nsIn K mainGlobals "union" = some (some (.ref f_union_)))
  (l_union : K.lookup f_union_ = some ⟨oc_union, od_union, .func (PySem.W.fnOf "union" "union" (defArgs st_union) (defBody st_union) (defScope st_union) (.ref T_union) kV_union dc_union pm_union an_union cd_union ct_union), sl_union⟩)
  (c_union : PySem.W.codeIn K cd_union "union" = true)
  (k_union : PySem.W.keepIn K (.ref f_union_) = true)
  (T_union_ : K.lookup T_union = some ⟨oT_union, dT_union, .seq #[(.str "half" t_union_0)] nT_union, sT_union⟩)
  (a_in_one_form : PySem.W.nsIn K mainGlobals "in_one_form" = some (some (.ref f_in_one_form_)))
  (l_in_one_form : K.lookup f_in_one_form_ = some ⟨oc_in_one_form, od_in_one_form, .func (PySem.W.fnOf "in_one_form" "in_one_form" (defArgs st_in_one_form) (defBody st_in_one_form) (defScope st_in_one_form) (.ref T_in_one_form) kV_in_one_form dc_in_one_form pm_in_one_form an_in_one_form cd_in_one_form ct_in_one_form), sl_in_one_form⟩)
  (c_in_one_form : PySem.W.codeIn K cd_in_one_form "in_one_form" = true)
  (k_in_one_form : PySem.W.keepIn K (.ref f_in_one_form_) = true)
  (T_in_one_form_ : K.lookup T_in_one_form = some ⟨oT_in_one_form, dT_in_one_form, .seq #[(.str "half" t_in_one_form_0)] nT_in_one_form, sT_in_one_form⟩)
  (a__law_bag : PySem.W.nsIn K mainGlobals "_law_bag" = some (some (.ref f__law_bag_)))
  (l__law_bag : K.lookup f__law_bag_ = some ⟨oc__law_bag, od__law_bag, .func (PySem.W.fnOf "_law_bag" "_law_bag" (defArgs st__law_bag) (defBody st__law_bag) (defScope st__law_bag) .none kV__law_bag dc__law_bag pm__law_bag an__law_bag cd__law_bag ct__law_bag), sl__law_bag⟩)
  (c__law_bag : PySem.W.codeIn K cd__law_bag "_law_bag" = true)
  (k__law_bag : PySem.W.keepIn K (.ref f__law_bag_) = true)
  (a__law_take : PySem.W.nsIn K mainGlobals "_law_take" = some (some (.ref f__law_take_)))
  (l__law_take : K.lookup f__law_take_ = some ⟨oc__law_take, od__law_take, .func (PySem.W.fnOf "_law_take" "_law_take" (defArgs st__law_take) (defBody st__law_take) (defScope st__law_take) .none kV__law_take dc__law_take pm__law_take an__law_take cd__law_take ct__law_take), sl__law_take⟩)
  (c__law_take : PySem.W.codeIn K cd__law_take "_law_take" = true)
  (k__law_take : PySem.W.keepIn K (.ref f__law_take_) = true)
  (a__law_edge : PySem.W.nsIn K mainGlobals "_law_edge" = some (some (.ref f__law_edge_)))
  (l__law_edge : K.lookup f__law_edge_ = some ⟨oc__law_edge, od__law_edge, .func (PySem.W.fnOf "_law_edge" "_law_edge" (defArgs st__law_edge) (defBody st__law_edge) (defScope st__law_edge) .none kV__law_edge dc__law_edge pm__law_edge an__law_edge cd__law_edge ct__law_edge), sl__law_edge⟩)
  (c__law_edge : PySem.W.codeIn K cd__law_edge "_law_edge" = true)
  (k__law_edge : PySem.W.keepIn K (.ref f__law_edge_) = true)
  (a__law_stretch : PySem.W.nsIn K mainGlobals "_law_stretch" = some (some (.ref f__law_stretch_)))
  (l__law_stretch : K.lookup f__law_stretch_ = some ⟨oc__law_stretch, od__law_stretch, .func (PySem.W.fnOf "_law_stretch" "_law_stretch" (defArgs st__law_stretch) (defBody st__law_stretch) (defScope st__law_stretch) .none kV__law_stretch dc__law_stretch pm__law_stretch an__law_stretch cd__law_stretch ct__law_stretch), sl__law_stretch⟩)
  (c__law_stretch : PySem.W.codeIn K cd__law_stretch "_law_stretch" = true)
  (k__law_stretch : PySem.W.keepIn K (.ref f__law_stretch_) = true)
  (a__law_stretches : PySem.W.nsIn K mainGlobals "_law_stretches" = some (some (.ref f__law_stretches_)))
  (l__law_stretches : K.lookup f__law_stretches_ = some ⟨oc__law_stretches, od__law_stretches, .func (PySem.W.fnOf "_law_stretches" "_law_stretches" (defArgs st__law_stretches) (defBody st__law_stretches) (defScope st__law_stretches) .none kV__law_stretches dc__law_stretches pm__law_stretches an__law_stretches cd__law_stretches ct__law_stretches), sl__law_stretches⟩)
  (c__law_stretches : PySem.W.codeIn K cd__law_stretches "_law_stretches" = true)
  (k__law_stretches : PySem.W.keepIn K (.ref f__law_stretches_) = true)
  (a__law_moments : PySem.W.nsIn K mainGlobals "_law_moments" = some (some (.ref f__law_moments_)))
  (l__law_moments : K.lookup f__law_moments_ = some ⟨oc__law_moments, od__law_moments, .func (PySem.W.fnOf "_law_moments" "_law_moments" (defArgs st__law_moments) (defBody st__law_moments) (defScope st__law_moments) .none kV__law_moments dc__law_moments pm__law_moments an__law_moments cd__law_moments ct__law_moments), sl__law_moments⟩)
  (c__law_moments : PySem.W.codeIn K cd__law_moments "_law_moments" = true)
  (k__law_moments : PySem.W.keepIn K (.ref f__law_moments_) = true)
  (a__law_holds : PySem.W.nsIn K mainGlobals "_law_holds" = some (some (.ref f__law_holds_)))
  (l__law_holds : K.lookup f__law_holds_ = some ⟨oc__law_holds, od__law_holds, .func (PySem.W.fnOf "_law_holds" "_law_holds" (defArgs st__law_holds) (defBody st__law_holds) (defScope st__law_holds) .none kV__law_holds dc__law_holds pm__law_holds an__law_holds cd__law_holds ct__law_holds), sl__law_holds⟩)
  (c__law_holds : PySem.W.codeIn K cd__law_holds "_law_holds" = true)
  (k__law_holds : PySem.W.keepIn K (.ref f__law_holds_) = true)
  (a__law_pairs_right : PySem.W.nsIn K mainGlobals "_law_pairs_right" = some (some (.ref f__law_pairs_right_)))
  (l__law_pairs_right : K.lookup f__law_pairs_right_ = some ⟨oc__law_pairs_right, od__law_pairs_right, .func (PySem.W.fnOf "_law_pairs_right" "_law_pairs_right" (defArgs st__law_pairs_right) (defBody st__law_pairs_right) (defScope st__law_pairs_right) .none kV__law_pairs_right dc__law_pairs_right pm__law_pairs_right an__law_pairs_right cd__law_pairs_right ct__law_pairs_right), sl__law_pairs_right⟩)
  (c__law_pairs_right : PySem.W.codeIn K cd__law_pairs_right "_law_pairs_right" = true)
  (k__law_pairs_right : PySem.W.keepIn K (.ref f__law_pairs_right_) = true)
  (a__law_due : PySem.W.nsIn K mainGlobals "_law_due" = some (some (.ref f__law_due_)))
  (l__law_due : K.lookup f__law_due_ = some ⟨oc__law_due, od__law_due, .func (PySem.W.fnOf "_law_due" "_law_due" (defArgs st__law_due) (defBody st__law_due) (defScope st__law_due) .none kV__law_due dc__law_due pm__law_due an__law_due cd__law_due ct__law_due), sl__law_due⟩)
  (c__law_due : PySem.W.codeIn K cd__law_due "_law_due" = true)
  (k__law_due : PySem.W.keepIn K (.ref f__law_due_) = true)
  (a__law_right : PySem.W.nsIn K mainGlobals "_law_right" = some (some (.ref f__law_right_)))
  (l__law_right : K.lookup f__law_right_ = some ⟨oc__law_right, od__law_right, .func (PySem.W.fnOf "_law_right" "_law_right" (defArgs st__law_right) (defBody st__law_right) (defScope st__law_right) .none kV__law_right dc__law_right pm__law_right an__law_right cd__law_right ct__law_right), sl__law_right⟩)
  (c__law_right : PySem.W.codeIn K cd__law_right "_law_right" = true)
  (k__law_right : PySem.W.keepIn K (.ref f__law_right_) = true)
  (a_law : PySem.W.nsIn K mainGlobals "law" = some (some (.ref f_law_)))
  (l_law : K.lookup f_law_ = some ⟨oc_law, od_law, .func (PySem.W.fnOf "law" "law" (defArgs st_law) (defBody st_law) (defScope st_law) .none kV_law dc_law pm_law an_law cd_law ct_law), sl_law⟩)
  (c_law : PySem.W.codeIn K cd_law "law" = true)
  (k_law : PySem.W.keepIn K (.ref f_law_) = true)
  (z_len : PySem.W.nsIn K mainGlobals "len" = some none)
  (z_int : PySem.W.nsIn K mainGlobals "int" = some none)
  (z_abs : PySem.W.nsIn K mainGlobals "abs" = some none)
  (z_max : PySem.W.nsIn K mainGlobals "max" = some none)
  (z_min : PySem.W.nsIn K mainGlobals "min" = some none)
  (z_range : PySem.W.nsIn K mainGlobals "range" = some none)
  (z_isinstance : PySem.W.nsIn K mainGlobals "isinstance" = some none)
  (z_bool : PySem.W.nsIn K mainGlobals "bool" = some none)
  (z_tuple : PySem.W.nsIn K mainGlobals "tuple" = some none)
  (z_enumerate : PySem.W.nsIn K mainGlobals "enumerate" = some none)
  (z_ValueError : PySem.W.nsIn K mainGlobals "ValueError" = some none)
  (z_str : PySem.W.nsIn K mainGlobals "str" = some none)
  (z_sorted : PySem.W.nsIn K mainGlobals "sorted" = some none)
  (z_set : PySem.W.nsIn K mainGlobals "set" = some none)
  (z_list : PySem.W.nsIn K mainGlobals "list" = some none)
  (z_zip : PySem.W.nsIn K mainGlobals "zip" = some none)
  (z_reversed : PySem.W.nsIn K mainGlobals "reversed" = some none)
  (y_MOST : PySem.W.nsIn K mainGlobals "MOST" = some (some (.int (1000000000000000000000000000000) t_MOST)))
  (y_LAST : PySem.W.nsIn K mainGlobals "LAST" = some (some (.int (10000000000000000000000000000000) t_LAST)))
  (y_FIRST : PySem.W.nsIn K mainGlobals "FIRST" = some (some (.int (-10000000000000000000000000000000) t_FIRST)))
  (a_Ends : PySem.W.nsIn K mainGlobals "Ends" = some (some (.ref f_Ends_)))
  (b_Ends : PySem.W.readsIn K f_Ends_ (.type "type") = true)
  (e_Ends : PySem.W.specialIn K (.ref f_Ends_) "__getattribute__" = some (some (.builtin "type.__getattribute__")))
  (a_BadItem : PySem.W.nsIn K mainGlobals "BadItem" = some (some (.ref f_BadItem_)))
  (xi_BadItem : PySem.W.excInitIn K f_BadItem_ [.type "ValueError", .type "Exception", .type "BaseException", .type "object"] "ValueError.__new__" = true)
  (xo_BadItem : PySem.W.excOver K f_BadItem_ [.type "ValueError", .type "Exception", .type "BaseException", .type "object"] = true)
  (xs_BadItem : PySem.W.findIn K (.ref f_BadItem_) "__setattr__" = some (some (.builtin "object.__setattr__")))
  (xt_BadItem : PySem.W.typeIn K (.ref f_BadItem_) = some (.type "type"))
  (xk_BadItem : PySem.W.keepIn K (.ref f_BadItem_) = true)
  (tt_BadItem : PySem.W.takerIn K f_BadItem_ "index" = some none)
  (ii_BadItem : PySem.W.findIn K (.ref f_BadItem_) "__init__" = some (some (.ref i_BadItem_)))
  (it_BadItem : PySem.W.typeIn K (.ref i_BadItem_) = some (.type "function"))
  (il_BadItem : K.lookup i_BadItem_ = some ⟨oc_BadItem, od_BadItem, .func (PySem.W.fnOf "__init__" "BadItem.__init__" (defArgs (clsS (topS 2) 0)) (defBody (clsS (topS 2) 0)) (defScope (clsS (topS 2) 0)) .none kV_BadItem dc_BadItem pm_BadItem an_BadItem cd_BadItem ct_BadItem), sl_BadItem⟩)
  (ic_BadItem : PySem.W.codeIn K cd_BadItem "BadItem.__init__" = true)
  (ik_BadItem : PySem.W.keepIn K (.ref i_BadItem_) = true)
  (xd_BadItem : PySem.W.hasDictIn K f_BadItem_ = true)
  (xb_BadItem : PySem.W.subIn K (.ref f_BadItem_) (.type "BaseException") = some true)
  (a_BadEnds : PySem.W.nsIn K mainGlobals "BadEnds" = some (some (.ref f_BadEnds_)))
  (xi_BadEnds : PySem.W.excInitIn K f_BadEnds_ [.type "ValueError", .type "Exception", .type "BaseException", .type "object"] "ValueError.__new__" = true)
  (xo_BadEnds : PySem.W.excOver K f_BadEnds_ [.type "ValueError", .type "Exception", .type "BaseException", .type "object"] = true)
  (xs_BadEnds : PySem.W.findIn K (.ref f_BadEnds_) "__setattr__" = some (some (.builtin "object.__setattr__")))
  (xt_BadEnds : PySem.W.typeIn K (.ref f_BadEnds_) = some (.type "type"))
  (xk_BadEnds : PySem.W.keepIn K (.ref f_BadEnds_) = true)
  (tt_BadEnds : PySem.W.takerIn K f_BadEnds_ "ends" = some none)
  (ii_BadEnds : PySem.W.findIn K (.ref f_BadEnds_) "__init__" = some (some (.ref i_BadEnds_)))
  (it_BadEnds : PySem.W.typeIn K (.ref i_BadEnds_) = some (.type "function"))
  (il_BadEnds : K.lookup i_BadEnds_ = some ⟨oc_BadEnds, od_BadEnds, .func (PySem.W.fnOf "__init__" "BadEnds.__init__" (defArgs (clsS (topS 1) 0)) (defBody (clsS (topS 1) 0)) (defScope (clsS (topS 1) 0)) .none kV_BadEnds dc_BadEnds pm_BadEnds an_BadEnds cd_BadEnds ct_BadEnds), sl_BadEnds⟩)
  (ic_BadEnds : PySem.W.codeIn K cd_BadEnds "BadEnds.__init__" = true)
  (ik_BadEnds : PySem.W.keepIn K (.ref i_BadEnds_) = true)
  (xd_BadEnds : PySem.W.hasDictIn K f_BadEnds_ = true)
  (xb_BadEnds : PySem.W.subIn K (.ref f_BadEnds_) (.type "BaseException") = some true)
  (vB_ValueError : PySem.W.findCls K (.type "ValueError") (.type "type") "__init__" = some (.val (.builtin "ValueError.__init__")))
  (v_Ends_SHUT : PySem.W.findCls K (.ref f_Ends_) (.type "type") "SHUT" = some (.val (.str "shut" t_Ends_SHUT)))
  (v_Ends_HALF : PySem.W.findCls K (.ref f_Ends_) (.type "type") "HALF" = some (.val (.str "half" t_Ends_HALF))) :
  ∃ fd : FuncData, (∀ (s : Shared) (v : Value), BindsTo s fd ⟨[v], []⟩ [("script", v)]) ∧ ∀ base : Heap, K.In base → base.Ns mainGlobals mg → FnG l.prog w K mg base 8 fa fd ["script"] (spD K mg none 1 f_law) := by
  have e : f_law_ = fa := by
    have z := (PySem.W.mg_of X G a_law).symm.trans hfa
    injection z with z
    injection z
  subst e
  let E : Wd K mg := { a_is_integer := f_is_integer_, d_is_integer := _, F_is_integer := ⟨⟨_, _, _, _, _, _, _, _, _, _, rfl, l_is_integer, c_is_integer, .inl ⟨rfl, rfl⟩, .inl rfl⟩, k_is_integer⟩, m_is_integer := PySem.W.mg_of X G a_is_integer, a_is_near := f_is_near_, d_is_near := _, F_is_near := ⟨⟨_, _, _, _, _, _, _, _, _, _, rfl, l_is_near, c_is_near, .inl ⟨rfl, rfl⟩, .inl rfl⟩, k_is_near⟩, m_is_near := PySem.W.mg_of X G a_is_near, a_is_edge := f_is_edge_, d_is_edge := _, F_is_edge := ⟨⟨_, _, _, _, _, _, _, _, _, _, rfl, l_is_edge, c_is_edge, .inl ⟨rfl, rfl⟩, .inl rfl⟩, k_is_edge⟩, m_is_edge := PySem.W.mg_of X G a_is_edge, a_is_pair := f_is_pair_, d_is_pair := _, F_is_pair := ⟨⟨_, _, _, _, _, _, _, _, _, _, rfl, l_is_pair, c_is_pair, .inl ⟨rfl, rfl⟩, .inl rfl⟩, k_is_pair⟩, m_is_pair := PySem.W.mg_of X G a_is_pair, a_is_stretch := f_is_stretch_, d_is_stretch := _, F_is_stretch := ⟨⟨_, _, _, _, _, _, _, _, _, _, rfl, l_is_stretch, c_is_stretch, .inl ⟨rfl, rfl⟩, .inl rfl⟩, k_is_stretch⟩, m_is_stretch := PySem.W.mg_of X G a_is_stretch, a_is_ends := f_is_ends_, d_is_ends := _, F_is_ends := ⟨⟨_, _, _, _, _, _, _, _, _, _, rfl, l_is_ends, c_is_ends, .inl ⟨rfl, rfl⟩, .inl rfl⟩, k_is_ends⟩, m_is_ends := PySem.W.mg_of X G a_is_ends, a_check_ends := f_check_ends_, d_check_ends := _, F_check_ends := ⟨⟨_, _, _, _, _, _, _, _, _, _, rfl, l_check_ends, c_check_ends, .inl ⟨rfl, rfl⟩, .inl rfl⟩, k_check_ends⟩, m_check_ends := PySem.W.mg_of X G a_check_ends, a_check_spans := f_check_spans_, d_check_spans := _, F_check_spans := ⟨⟨_, _, _, _, _, _, _, _, _, _, rfl, l_check_spans, c_check_spans, .inl ⟨rfl, rfl⟩, .inl rfl⟩, k_check_spans⟩, m_check_spans := PySem.W.mg_of X G a_check_spans, a_is_empty := f_is_empty_, d_is_empty := _, F_is_empty := ⟨⟨_, _, _, _, _, _, _, _, _, _, rfl, l_is_empty, c_is_empty, .inr ⟨List.cons_ne_nil _ _, T_is_empty, _, [(.str "half" t_is_empty_0)], nT_is_empty, rfl, T_is_empty_, rfl, (.cons ⟨_, rfl⟩ .nil)⟩, .inl rfl⟩, k_is_empty⟩, m_is_empty := PySem.W.mg_of X G a_is_empty, a_union := f_union_, d_union := _, F_union := ⟨⟨_, _, _, _, _, _, _, _, _, _, rfl, l_union, c_union, .inr ⟨List.cons_ne_nil _ _, T_union, _, [(.str "half" t_union_0)], nT_union, rfl, T_union_, rfl, (.cons ⟨_, rfl⟩ .nil)⟩, .inl rfl⟩, k_union⟩, m_union := PySem.W.mg_of X G a_union, a_in_one_form := f_in_one_form_, d_in_one_form := _, F_in_one_form := ⟨⟨_, _, _, _, _, _, _, _, _, _, rfl, l_in_one_form, c_in_one_form, .inr ⟨List.cons_ne_nil _ _, T_in_one_form, _, [(.str "half" t_in_one_form_0)], nT_in_one_form, rfl, T_in_one_form_, rfl, (.cons ⟨_, rfl⟩ .nil)⟩, .inl rfl⟩, k_in_one_form⟩, m_in_one_form := PySem.W.mg_of X G a_in_one_form, a__law_bag := f__law_bag_, d__law_bag := _, F__law_bag := ⟨⟨_, _, _, _, _, _, _, _, _, _, rfl, l__law_bag, c__law_bag, .inl ⟨rfl, rfl⟩, .inl rfl⟩, k__law_bag⟩, m__law_bag := PySem.W.mg_of X G a__law_bag, a__law_take := f__law_take_, d__law_take := _, F__law_take := ⟨⟨_, _, _, _, _, _, _, _, _, _, rfl, l__law_take, c__law_take, .inl ⟨rfl, rfl⟩, .inl rfl⟩, k__law_take⟩, m__law_take := PySem.W.mg_of X G a__law_take, a__law_edge := f__law_edge_, d__law_edge := _, F__law_edge := ⟨⟨_, _, _, _, _, _, _, _, _, _, rfl, l__law_edge, c__law_edge, .inl ⟨rfl, rfl⟩, .inl rfl⟩, k__law_edge⟩, m__law_edge := PySem.W.mg_of X G a__law_edge, a__law_stretch := f__law_stretch_, d__law_stretch := _, F__law_stretch := ⟨⟨_, _, _, _, _, _, _, _, _, _, rfl, l__law_stretch, c__law_stretch, .inl ⟨rfl, rfl⟩, .inl rfl⟩, k__law_stretch⟩, m__law_stretch := PySem.W.mg_of X G a__law_stretch, a__law_stretches := f__law_stretches_, d__law_stretches := _, F__law_stretches := ⟨⟨_, _, _, _, _, _, _, _, _, _, rfl, l__law_stretches, c__law_stretches, .inl ⟨rfl, rfl⟩, .inl rfl⟩, k__law_stretches⟩, m__law_stretches := PySem.W.mg_of X G a__law_stretches, a__law_moments := f__law_moments_, d__law_moments := _, F__law_moments := ⟨⟨_, _, _, _, _, _, _, _, _, _, rfl, l__law_moments, c__law_moments, .inl ⟨rfl, rfl⟩, .inl rfl⟩, k__law_moments⟩, m__law_moments := PySem.W.mg_of X G a__law_moments, a__law_holds := f__law_holds_, d__law_holds := _, F__law_holds := ⟨⟨_, _, _, _, _, _, _, _, _, _, rfl, l__law_holds, c__law_holds, .inl ⟨rfl, rfl⟩, .inl rfl⟩, k__law_holds⟩, m__law_holds := PySem.W.mg_of X G a__law_holds, a__law_pairs_right := f__law_pairs_right_, d__law_pairs_right := _, F__law_pairs_right := ⟨⟨_, _, _, _, _, _, _, _, _, _, rfl, l__law_pairs_right, c__law_pairs_right, .inl ⟨rfl, rfl⟩, .inl rfl⟩, k__law_pairs_right⟩, m__law_pairs_right := PySem.W.mg_of X G a__law_pairs_right, a__law_due := f__law_due_, d__law_due := _, F__law_due := ⟨⟨_, _, _, _, _, _, _, _, _, _, rfl, l__law_due, c__law_due, .inl ⟨rfl, rfl⟩, .inl rfl⟩, k__law_due⟩, m__law_due := PySem.W.mg_of X G a__law_due, a__law_right := f__law_right_, d__law_right := _, F__law_right := ⟨⟨_, _, _, _, _, _, _, _, _, _, rfl, l__law_right, c__law_right, .inl ⟨rfl, rfl⟩, .inl rfl⟩, k__law_right⟩, m__law_right := PySem.W.mg_of X G a__law_right, a_law := f_law_, d_law := _, F_law := ⟨⟨_, _, _, _, _, _, _, _, _, _, rfl, l_law, c_law, .inl ⟨rfl, rfl⟩, .inl rfl⟩, k_law⟩, m_law := PySem.W.mg_of X G a_law, m_len := PySem.W.mg_none_of X G z_len, m_int := PySem.W.mg_none_of X G z_int, m_abs := PySem.W.mg_none_of X G z_abs, m_max := PySem.W.mg_none_of X G z_max, m_min := PySem.W.mg_none_of X G z_min, m_range := PySem.W.mg_none_of X G z_range, m_isinstance := PySem.W.mg_none_of X G z_isinstance, m_bool := PySem.W.mg_none_of X G z_bool, m_tuple := PySem.W.mg_none_of X G z_tuple, m_enumerate := PySem.W.mg_none_of X G z_enumerate, m_ValueError := PySem.W.mg_none_of X G z_ValueError, m_str := PySem.W.mg_none_of X G z_str, m_sorted := PySem.W.mg_none_of X G z_sorted, m_set := PySem.W.mg_none_of X G z_set, m_list := PySem.W.mg_none_of X G z_list, m_zip := PySem.W.mg_none_of X G z_zip, m_reversed := PySem.W.mg_none_of X G z_reversed, g_MOST := ⟨_, PySem.W.mg_of X G y_MOST, ⟨_, rfl⟩⟩, g_LAST := ⟨_, PySem.W.mg_of X G y_LAST, ⟨_, rfl⟩⟩, g_FIRST := ⟨_, PySem.W.mg_of X G y_FIRST, ⟨_, rfl⟩⟩, a_Ends := f_Ends_, m_Ends := PySem.W.mg_of X G a_Ends, r_Ends := ⟨b_Ends, e_Ends⟩, a_BadItem := f_BadItem_, m_BadItem := PySem.W.mg_of X G a_BadItem, T_BadItem := ⟨xi_BadItem, xo_BadItem, xd_BadItem, xs_BadItem, xb_BadItem, xt_BadItem, xk_BadItem⟩, t_BadItem := tt_BadItem, i_BadItem := i_BadItem_, j_BadItem := _, iC_BadItem := ii_BadItem, tI_BadItem := it_BadItem, FI_BadItem := ⟨⟨_, _, _, _, _, _, _, _, _, _, rfl, il_BadItem, ic_BadItem, .inl ⟨rfl, rfl⟩, .inl rfl⟩, ik_BadItem⟩, a_BadEnds := f_BadEnds_, m_BadEnds := PySem.W.mg_of X G a_BadEnds, T_BadEnds := ⟨xi_BadEnds, xo_BadEnds, xd_BadEnds, xs_BadEnds, xb_BadEnds, xt_BadEnds, xk_BadEnds⟩, t_BadEnds := tt_BadEnds, i_BadEnds := i_BadEnds_, j_BadEnds := _, iC_BadEnds := ii_BadEnds, tI_BadEnds := it_BadEnds, FI_BadEnds := ⟨⟨_, _, _, _, _, _, _, _, _, _, rfl, il_BadEnds, ic_BadEnds, .inl ⟨rfl, rfl⟩, .inl rfl⟩, ik_BadEnds⟩, v_ValueError := vB_ValueError, u_Ends_SHUT := _, v_Ends_SHUT := ⟨v_Ends_SHUT, ⟨_, rfl⟩⟩, u_Ends_HALF := _, v_Ends_HALF := ⟨v_Ends_HALF, ⟨_, rfl⟩⟩ }
  exact ⟨E.d_law, fun s v => .of_eq rfl, fun base _ _ => ok_law E⟩
end K3

open PySem L2 DL P
namespace K3
/-- the points at an edge -/
def fm (m : Md) (b : Int) : Int := match m with
  | .half => b
  | .shut => 2 * b
def em (m : Md) (c : Int) : Int := match m with
  | .half => c
  | .shut => 2 * c + 1
theorem fst_fm {m : Md} {p : PP} : Fst m p = fm m p.1 := by cases m <;> rfl
theorem beh_em {m : Md} {p : PP} : Beh m p = em m p.2 := by cases m <;> rfl
theorem fm_inj {m : Md} {a b : Int} (h : fm m a = fm m b) : a = b := by
  cases m with
  | half => exact h
  | shut =>
    have h : 2 * a = 2 * b := h
    omega
theorem em_inj {m : Md} {a b : Int} (h : em m a = em m b) : a = b := by
  cases m with
  | half => exact h
  | shut =>
    have h : 2 * a + 1 = 2 * b + 1 := h
    omega
theorem cv_left {m : Md} {p : PP} {b : Int} : Cv m p (fm m b - 1) ↔ p.1 < b ∧ b ≤ p.2 := by
  cases m with
  | half =>
    show (p.1 ≤ b - 1 ∧ b - 1 < p.2) ↔ _
    omega
  | shut =>
    show (2 * p.1 ≤ 2 * b - 1 ∧ 2 * b - 1 ≤ 2 * p.2) ↔ _
    omega
theorem cv_right {m : Md} {p : PP} {c : Int} : Cv m p (em m c) ↔ p.1 ≤ c ∧ c < p.2 := by
  cases m with
  | half =>
    show (p.1 ≤ c ∧ c < p.2) ↔ _
    omega
  | shut =>
    show (2 * p.1 ≤ 2 * c + 1 ∧ 2 * c + 1 ≤ 2 * p.2) ↔ _
    omega
theorem beg_iff {m : Md} {L : List PP} (hv : ∀ p ∈ L, p.1 ≤ p.2) (hn : ∀ p ∈ L, ne m p = true) {b : Int} : (∃ p ∈ L, p.1 = b ∧ ∀ o ∈ L, ¬ (o.1 < b ∧ b ≤ o.2)) ↔ Cov m L (fm m b) ∧ ¬ Cov m L (fm m b - 1) := by
  constructor
  · rintro ⟨p, hp, rfl, ho⟩
    refine ⟨⟨p, hp, ?_⟩, fun ⟨o, hm, c⟩ => ho o hm (cv_left.mp c)⟩
    rw [← fst_fm]
    exact cv_fst (hv p hp) (hn p hp)
  · rintro ⟨⟨p, hp, c⟩, h⟩
    refine ⟨p, hp, fm_inj (m := m) ?_, fun o hm z => h ⟨o, hm, cv_left.mpr z⟩⟩
    have c2 : ¬ Cv m p (fm m b - 1) := fun z => h ⟨p, hp, z⟩
    rw [cv_iff] at c c2
    rw [← fst_fm]
    omega
theorem end_iff {m : Md} {L : List PP} (hv : ∀ p ∈ L, p.1 ≤ p.2) (hn : ∀ p ∈ L, ne m p = true) {c : Int} : (∃ p ∈ L, p.2 = c ∧ ∀ o ∈ L, ¬ (o.1 ≤ c ∧ c < o.2)) ↔ Cov m L (em m c - 1) ∧ ¬ Cov m L (em m c) := by
  constructor
  · rintro ⟨p, hp, rfl, ho⟩
    refine ⟨⟨p, hp, ?_⟩, fun ⟨o, hm, c⟩ => ho o hm (cv_right.mp c)⟩
    have := cv_iff.mp (cv_fst (hv p hp) (hn p hp))
    rw [cv_iff, ← beh_em]
    omega
  · rintro ⟨⟨p, hp, h1⟩, h⟩
    refine ⟨p, hp, em_inj (m := m) ?_, fun o hm z => h ⟨o, hm, cv_right.mpr z⟩⟩
    have c2 : ¬ Cv m p (em m c) := fun z => h ⟨p, hp, z⟩
    rw [cv_iff] at h1 c2
    rw [← beh_em]
    omega
/-- in a list in form no other one reaches a begin or goes beyond an end -/
theorem form_at {m : Md} : ∀ {f : List PP} {r : Option PP} {j : Nat} {q p : PP}, Form m r f → f[j]? = some q → f[j + 1]? = some p → q.2 < p.1
  | [], _, _, _, _, _, h, _ => by simp at h
  | [a], _, 0, _, _, _, _, h => by simp at h
  | a :: b :: r, _, 0, q, p, hf, h1, h2 => by
    cases h1
    have h2 : some b = some p := h2
    cases h2
    exact hf.2.2.2.1 _ rfl
  | a :: f, _, j + 1, q, p, hf, h1, h2 => form_at hf.2.2 (j := j) h1 h2
theorem form_pw {m : Md} : ∀ {f : List PP} {r : Option PP}, (∀ p ∈ f, p.1 ≤ p.2) → Form m r f → f.Pairwise (fun a b => a.2 < b.1)
  | [], _, _, _ => .nil
  | p :: f, _, hv, h => .cons (fun q hq => form_after (fun z hz => hv z (.tail _ hz)) h.2.2 q hq) (form_pw (fun z hz => hv z (.tail _ hz)) h.2.2)
theorem pw_two {α : Type} {R : α → α → Prop} : ∀ {l : List α} {a b : α}, l.Pairwise R → a ∈ l → b ∈ l → a = b ∨ R a b ∨ R b a
  | x :: l, a, b, h, ha, hb => by
    cases h with
    | cons h1 h2 =>
      rcases List.mem_cons.mp ha with e1 | q1
      · rcases List.mem_cons.mp hb with e2 | q2
        · exact .inl (e1.trans e2.symm)
        · exact .inr (.inl (by rw [e1]; exact h1 b q2))
      · rcases List.mem_cons.mp hb with e2 | q2
        · exact .inr (.inr (by rw [e2]; exact h1 a q1))
        · exact pw_two h2 q1 q2
theorem asc_ext : ∀ {xs ys : List Int}, xs.Pairwise (· < ·) → ys.Pairwise (· < ·) → (∀ k, k ∈ xs ↔ k ∈ ys) → xs = ys
  | [], [], _, _, _ => rfl
  | [], y :: ys, _, _, h => absurd ((h y).mpr (.head _)) List.not_mem_nil
  | x :: xs, [], _, _, h => absurd ((h x).mp (.head _)) List.not_mem_nil
  | x :: xs, y :: ys, .cons h1 h2, .cons h3 h4, h => by
    have e : x = y := by
      rcases List.mem_cons.mp ((h x).mp (.head _)) with e | e
      · exact e
      · rcases List.mem_cons.mp ((h y).mpr (.head _)) with e' | e'
        · exact e'.symm
        · have := h3 x e
          have := h1 y e'
          omega
    subst e
    rw [asc_ext h2 h4 fun k => ?_]
    constructor
    · intro hk
      rcases List.mem_cons.mp ((h k).mp (.tail _ hk)) with e | e
      · subst e
        have := h1 k hk
        omega
      · exact e
    · intro hk
      rcases List.mem_cons.mp ((h k).mpr (.tail _ hk)) with e | e
      · subst e
        have := h3 k hk
        omega
      · exact e
def hitB (L : List PP) (b : Int) : List PP := L.filter fun o => decide (o.1 < b) && decide (b ≤ o.2)
def hitE (L : List PP) (c : Int) : List PP := L.filter fun o => decide (o.1 ≤ c) && decide (c < o.2)
def begs (L : List PP) : List Int := (L.filter fun p => (hitB L p.1).isEmpty).map (·.1)
def ends (L : List PP) : List Int := (L.filter fun p => (hitE L p.2).isEmpty).map (·.2)
theorem mem_begs {L : List PP} {b : Int} : b ∈ begs L ↔ ∃ p ∈ L, p.1 = b ∧ ∀ o ∈ L, ¬ (o.1 < b ∧ b ≤ o.2) := by
  unfold begs
  rw [List.mem_map]
  constructor
  · rintro ⟨p, hp, rfl⟩
    obtain ⟨h1, h2⟩ := List.mem_filter.mp hp
    refine ⟨p, h1, rfl, fun o ho z => ?_⟩
    have : hitB L p.1 = [] := List.isEmpty_iff.mp h2
    have : o ∈ hitB L p.1 := List.mem_filter.mpr ⟨ho, by simp [z]⟩
    simp_all
  · rintro ⟨p, hp, rfl, h⟩
    refine ⟨p, List.mem_filter.mpr ⟨hp, List.isEmpty_iff.mpr (List.filter_eq_nil_iff.mpr fun o ho z => h o ho ?_)⟩, rfl⟩
    simpa using z
theorem mem_ends {L : List PP} {c : Int} : c ∈ ends L ↔ ∃ p ∈ L, p.2 = c ∧ ∀ o ∈ L, ¬ (o.1 ≤ c ∧ c < o.2) := by
  unfold ends
  rw [List.mem_map]
  constructor
  · rintro ⟨p, hp, rfl⟩
    obtain ⟨h1, h2⟩ := List.mem_filter.mp hp
    refine ⟨p, h1, rfl, fun o ho z => ?_⟩
    have : hitE L p.2 = [] := List.isEmpty_iff.mp h2
    have : o ∈ hitE L p.2 := List.mem_filter.mpr ⟨ho, by simp [z]⟩
    simp_all
  · rintro ⟨p, hp, rfl, h⟩
    refine ⟨p, List.mem_filter.mpr ⟨hp, List.isEmpty_iff.mpr (List.filter_eq_nil_iff.mpr fun o ho z => h o ho ?_)⟩, rfl⟩
    simpa using z
theorem cov_full {m : Md} {ps : List PP} (hv : ∀ p ∈ ps, p.1 ≤ p.2) (x : Int) : Cov m (ps.filter (ne m)) x ↔ Cov m ps x :=
  ⟨fun ⟨p, hp, c⟩ => ⟨p, (List.mem_filter.mp hp).1, c⟩, fun ⟨p, hp, c⟩ => ⟨p, List.mem_filter.mpr ⟨hp, cv_ne (hv p hp) c⟩, c⟩⟩
theorem uni_le {m : Md} {ps : List PP} (h : ∀ p ∈ ps, okS p = true) : ∀ q ∈ uni m ps, q.1 ≤ q.2 := fun q hq => okS_le (uni_okS m h q hq)
theorem begs_uni (m : Md) {ps : List PP} (h : ∀ p ∈ ps, okS p = true) : sset (begs (ps.filter (ne m))) = (uni m ps).map (·.1) := by
  have hv : ∀ p ∈ ps, p.1 ≤ p.2 := fun p hp => okS_le (h p hp)
  have hu := uni_le (m := m) h
  have hf := uni_form m hv
  have pw := form_pw hu hf
  refine asc_ext sset_asc ?_ fun k => ?_
  · refine List.pairwise_map.mpr (List.Pairwise.imp_of_mem ?_ pw)
    intro a b ha hb r
    have := hu a ha
    omega
  · rw [sset_mem, mem_begs, beg_iff (m := m) (fun p hp => hv p (List.mem_filter.mp hp).1) (fun p hp => (List.mem_filter.mp hp).2), cov_full hv, cov_full hv, ← cov_uni m hv, ← cov_uni m hv, ← beg_iff hu (form_ne hf), List.mem_map]
    constructor
    · rintro ⟨p, hp, e, _⟩
      exact ⟨p, hp, e⟩
    · rintro ⟨p, hp, rfl⟩
      refine ⟨p, hp, rfl, fun o ho z => ?_⟩
      rcases pw_two pw ho hp with e | e | e
      · subst e; omega
      · omega
      · have := hu p hp
        have := hu o ho
        omega
theorem ends_uni (m : Md) {ps : List PP} (h : ∀ p ∈ ps, okS p = true) : sset (ends (ps.filter (ne m))) = (uni m ps).map (·.2) := by
  have hv : ∀ p ∈ ps, p.1 ≤ p.2 := fun p hp => okS_le (h p hp)
  have hu := uni_le (m := m) h
  have hf := uni_form m hv
  have pw := form_pw hu hf
  refine asc_ext sset_asc ?_ fun k => ?_
  · refine List.pairwise_map.mpr (List.Pairwise.imp_of_mem ?_ pw)
    intro a b ha hb r
    have := hu b hb
    omega
  · rw [sset_mem, mem_ends, end_iff (m := m) (fun p hp => hv p (List.mem_filter.mp hp).1) (fun p hp => (List.mem_filter.mp hp).2), cov_full hv, cov_full hv, ← cov_uni m hv, ← cov_uni m hv, ← end_iff hu (form_ne hf), List.mem_map]
    constructor
    · rintro ⟨p, hp, e, _⟩
      exact ⟨p, hp, e⟩
    · rintro ⟨p, hp, rfl⟩
      refine ⟨p, hp, rfl, fun o ho z => ?_⟩
      rcases pw_two pw ho hp with e | e | e
      · subst e; omega
      · have := hu p hp
        have := hu o ho
        omega
      · omega
theorem zip_back : ∀ us : List PP, gZip ((us.map (·.1)).map D.int) ((us.map (·.2)).map D.int) = us.map dPair
  | [] => rfl
  | u :: us => by
    show D.tup [.int u.1, .int u.2] :: gZip ((us.map (·.1)).map D.int) ((us.map (·.2)).map D.int) = _
    rw [zip_back us]
    rfl
/-! how many of the union's pairs hold a moment -/
theorem hold_cv {m : Md} {p : PP} {i : Int} : holdB m p.1 p.2 i = true ↔ Cv m p (fm m i) := by
  cases m with
  | half =>
    show (decide (p.1 ≤ i) && decide (i < p.2)) = true ↔ (p.1 ≤ i ∧ i < p.2)
    rw [Bool.and_eq_true, decide_eq_true_eq, decide_eq_true_eq]
  | shut =>
    show (decide (p.1 ≤ i) && decide (i ≤ p.2)) = true ↔ (2 * p.1 ≤ 2 * i ∧ 2 * i ≤ 2 * p.2)
    rw [Bool.and_eq_true, decide_eq_true_eq, decide_eq_true_eq]
    omega
theorem few {m : Md} {i : Int} : ∀ {us : List PP}, (∀ p ∈ us, p.1 ≤ p.2) → us.Pairwise (fun a b => a.2 < b.1) → (us.filter fun p => holdB m p.1 p.2 i).length = if (us.filter fun p => holdB m p.1 p.2 i).isEmpty then 0 else 1
  | [], _, _ => rfl
  | u :: us, hv, .cons h1 h2 => by
    cases hb : holdB m u.1 u.2 i with
    | false =>
      rw [List.filter_cons_of_neg (by rw [hb]; decide)]
      exact few (fun p hp => hv p (.tail _ hp)) h2
    | true =>
      rw [List.filter_cons_of_pos (by rw [hb])]
      have e : us.filter (fun p => holdB m p.1 p.2 i) = [] := List.filter_eq_nil_iff.mpr fun q hq hb2 => by
        have := h1 q hq
        rw [hold_cv, cv_iff, fst_fm, beh_em] at hb hb2
        cases m with
        | half =>
          have h3 : i < u.2 := hb.2
          have h4 : q.1 ≤ i := hb2.1
          omega
        | shut =>
          have h3 : 2 * i < 2 * u.2 + 1 := hb.2
          have h4 : 2 * q.1 ≤ 2 * i := hb2.1
          omega
      rw [e]
      rfl
theorem held {m : Md} {i : Int} {ps : List PP} : ((ps.filter fun p => holdB m p.1 p.2 i).isEmpty = false) ↔ Cov m ps (fm m i) := by
  constructor
  · intro h
    cases e : ps.filter fun p => holdB m p.1 p.2 i with
    | nil => rw [e] at h; cases h
    | cons q r =>
      have hq : q ∈ ps.filter fun p => holdB m p.1 p.2 i := by rw [e]; exact .head _
      obtain ⟨h1, h2⟩ := List.mem_filter.mp hq
      exact ⟨q, h1, hold_cv.mp h2⟩
  · rintro ⟨p, hp, c⟩
    cases e : ps.filter fun p => holdB m p.1 p.2 i with
    | nil =>
      have : p ∈ ps.filter fun p => holdB m p.1 p.2 i := List.mem_filter.mpr ⟨hp, hold_cv.mpr c⟩
      rw [e] at this
      cases this
    | cons q r => rfl
theorem count_uni (m : Md) {ps : List PP} (h : ∀ p ∈ ps, okS p = true) (i : Int) : (((uni m ps).filter fun p => holdB m p.1 p.2 i).length : Int) = if (ps.filter fun p => holdB m p.1 p.2 i).isEmpty then 0 else 1 := by
  have hv : ∀ p ∈ ps, p.1 ≤ p.2 := fun p hp => okS_le (h p hp)
  rw [few (uni_le h) (form_pw (uni_le h) (uni_form m hv))]
  have e : ((uni m ps).filter fun p => holdB m p.1 p.2 i).isEmpty = (ps.filter fun p => holdB m p.1 p.2 i).isEmpty := by
    have h1 := held (m := m) (i := i) (ps := uni m ps)
    have h2 := held (m := m) (i := i) (ps := ps)
    rw [cov_uni m hv, ← h2] at h1
    cases a : ((uni m ps).filter fun p => holdB m p.1 p.2 i).isEmpty <;> cases b : (ps.filter fun p => holdB m p.1 p.2 i).isEmpty <;> simp_all
  rw [e]
  split <;> rfl
theorem uni_rev (m : Md) {ps : List PP} (h : ∀ p ∈ ps, okS p = true) : uni m ps.reverse = uni m ps := by
  have hr : ∀ p ∈ ps.reverse, okS p = true := fun p hp => h p (List.mem_reverse.mp hp)
  have hv : ∀ p ∈ ps, p.1 ≤ p.2 := fun p hp => okS_le (h p hp)
  have hv' : ∀ p ∈ ps.reverse, p.1 ≤ p.2 := fun p hp => okS_le (hr p hp)
  refine form_uniq (uni_le hr) (uni_le h) (uni_form m hv') (uni_form m hv) fun x => ?_
  rw [cov_uni m hv', cov_uni m hv]
  exact ⟨fun ⟨p, hp, c⟩ => ⟨p, List.mem_reverse.mp hp, c⟩, fun ⟨p, hp, c⟩ => ⟨p, List.mem_reverse.mpr hp, c⟩⟩
end K3

open PySem L2 DL P
namespace K3
theorem wipe_k {k : Nat} {ρ : Fm} {d : D} (hk : ρ[k]? = some .un) : wipeS [k] (ρ.set k (.dt d)) = some ρ := by
  unfold wipeS
  have hl : k < ρ.length := (List.getElem?_eq_some_iff.mp hk).1
  rw [if_pos]
  · show some ((ρ.set k (.dt d)).set k .un) = some ρ
    rw [List.set_set]
    congr 1
    apply List.ext_getElem?
    intro i
    by_cases e : k = i
    · subst e
      rw [List.getElem?_set_self hl, hk]
    · rw [List.getElem?_set_ne e]
  · rw [List.all_cons, List.all_nil, Bool.and_true, List.getElem?_set_self hl]
theorem comp_filt {k : Nat} {ρ : Fm} {B : Fm → Out Bool} {α : Type} {en : α → D} {c : α → Bool} (hk : ρ[k]? = some .un) : ∀ (L acc : List α), acc.length + L.length < 1000000 → (∀ p ∈ L, B (ρ.set k (.dt (en p))) = .ok (c p) (ρ.set k (.dt (en p)))) →
    compD (pNm k) B (fV k) [k] (L.map en) (acc.map en) ρ = .ok ((acc ++ L.filter c).map en) ρ
  | [], acc, _, _ => by simp [compD]
  | p :: L, acc, h, hB => by
    have hl : k < ρ.length := (List.getElem?_eq_some_iff.mp hk).1
    simp only [List.length_cons] at h
    have p0 : pNm k (en p) ρ = some (ρ.set k (.dt (en p))) := by
      rw [pNm_e, hk, p_un]
    rw [List.map_cons]
    unfold compD
    rw [p0]
    dsimp only
    rw [hB p (.head _)]
    cases hc : c p with
    | false =>
      dsimp only
      rw [wipe_k hk, List.filter_cons_of_neg (by rw [hc]; decide)]
      exact comp_filt hk L acc (by omega) fun q hq => hB q (.tail _ hq)
    | true =>
      dsimp only
      have e2 : fV k (ρ.set k (.dt (en p))) = .ok (.dt (en p)) (ρ.set k (.dt (en p))) := by
        unfold fV
        rw [List.getElem?_set_self hl]
      rw [e2]
      dsimp only [toD]
      rw [wipe_k hk]
      dsimp only
      rw [if_pos (by rw [List.length_map]; omega), List.filter_cons_of_pos hc]
      have ih := comp_filt (c := c) hk L (acc ++ [p]) (by simp; omega) fun q hq => hB q (.tail _ hq)
      rw [List.map_append, List.append_assoc] at ih
      exact ih
theorem wipe_un {k : Nat} {ρ : Fm} (hk : ρ[k]? = some .un) : wipeS [k] ρ = some ρ := by
  unfold wipeS
  have hl : k < ρ.length := (List.getElem?_eq_some_iff.mp hk).1
  rw [if_pos]
  · show some (ρ.set k .un) = some ρ
    congr 1
    apply List.ext_getElem?
    intro i
    by_cases e : k = i
    · subst e
      rw [List.getElem?_set_self hl, hk]
    · rw [List.getElem?_set_ne e]
  · rw [List.all_cons, List.all_nil, Bool.and_true, hk]
theorem w_filt {k : Nat} {vws : List Nat} {ρ ρL : Fm} {B : Fm → Out Bool} {α : Type} {en : α → D} {c : α → Bool} {L : List α} {Q : Out RV → Prop} (h0 : noIo vws ρ = true) (h1 : lockG vws 0 ρ = ρL) (hk : ρL[k]? = some .un) (h2 : reK vws 0 ρ ρL = ρ) (hl : L.length < 1000000)
    (hB : ∀ p ∈ L, WP (B (ρL.set k (.dt (en p)))) (fun o => o = .ok (c p) (ρL.set k (.dt (en p))))) (q : WP (.ok (.fr ((L.filter c).map en)) ρ) Q) : WP (lcD vws (L.map en) (pNm k) B (fV k) [k] ρ) Q := by
  show Q (lcD vws (L.map en) (pNm k) B (fV k) [k] ρ)
  unfold lcD
  rw [if_pos h0, h1, wipe_un hk]
  dsimp only
  have e := comp_filt (acc := []) (c := c) hk L (by simpa using hl) hB
  rw [List.map_nil, List.nil_append] at e
  rw [e]
  dsimp only
  rw [h2]
  exact q
theorem gEq_shut (m : Md) : gEq (.str m.s) (.str "shut") = some (.bl (!m.h)) := by
  have h : cq (.str "shut") = true := cq_md .shut
  unfold gEq
  rw [cq_md, h]
  have e : deq (.str m.s) (.str "shut") = !m.h := by cases m <;> decide +kernel
  rw [e]
  rfl
theorem lhold (m : Md) (p : PP) (i : Int) : f__law_holds [dPair p, .int i, .str m.s] = .ok (.dt (.bl (holdB m p.1 p.2 i))) [] := fo_of (by
  obtain ⟨a, b⟩ := p
  unfold f__law_holds S__law_holds
  cases m
  · simp_arith [dPair]
    refine w_dec (fun h1 => ?_) (fun h1 => ?_)
    · simp_arith []
      refine w_bool (fun h2 => ?_) (fun h2 => ?_)
      · simp_arith []
        simp only [holdB, h1, h2, decide_true, Bool.true_and]
        rfl
      · simp_arith [gEq_shut, Md.h]
        simp only [holdB, h1, h2, decide_true, Bool.true_and]
        rfl
    · simp_arith [gEq_shut, Md.h]
      simp only [holdB, h1, decide_false, Bool.false_and]
      rfl
  · simp_arith [dPair]
    refine w_dec (fun h1 => ?_) (fun h1 => ?_)
    · simp_arith []
      refine w_bool (fun h2 => ?_) (fun h2 => ?_)
      · have h2' : i < b := of_decide_eq_true h2
        simp_arith []
        simp only [holdB, h1, h2, decide_true, Bool.true_and, show i ≤ b by omega]
        rfl
      · have h2' : ¬ i < b := of_decide_eq_false h2
        simp_arith [gEq_shut, Md.h]
        refine w_dec (fun h1 => ?_) (fun h3 => (h3 h1).elim)
        simp_arith []
        rw [show holdB .shut a b i = decide (i = b) by
          unfold holdB
          rw [decide_eq_true h1, Bool.true_and]
          by_cases h : i = b
          · simp [h]
          · rw [decide_eq_false h]
            exact decide_eq_false (by omega)]
        rfl
    · simp_arith [gEq_shut, Md.h]
      refine w_dec (fun h3 => (h1 h3).elim) (fun _ => ?_)
      simp_arith []
      simp only [holdB, h1, decide_false, Bool.false_and]
      rfl)
end K3

open PySem L2 DL P
namespace K3
theorem gEq_nil (L : List PP) : gEq (.lst (L.map dPair)) (.lst []) = some (.bl L.isEmpty) := by
  have h1 := cq_dL L
  have h2 := cq_dL []
  have e : deq (dL L) (dL []) = decide (L = []) := deq_list L []
  show (if cq (dL L) && cq (dL []) then some (D.bl (deq (dL L) (dL []))) else none) = _
  rw [h1, h2, e]
  cases L <;> rfl
theorem gNe_nil' (L : List PP) : gNe (.lst (L.map dPair)) (.lst []) = some (.bl (!L.isEmpty)) := by
  have h1 := cq_dL L
  have h2 := cq_dL []
  have e : deq (dL L) (dL []) = decide (L = []) := deq_list L []
  show (if cq (dL L) && cq (dL []) then some (D.bl (!deq (dL L) (dL []))) else none) = _
  rw [h1, h2, e]
  cases L <;> rfl
theorem noLs_ints : ∀ ns : List Int, noLs (ns.map D.int) = true
  | [] => rfl
  | n :: ns => noLs_ints ns
theorem zipD_e (xs ys : List Int) : zipD [.lst (xs.map D.int), .lst (ys.map D.int)] = some (gZip (xs.map D.int) (ys.map D.int)) := if_pos ⟨noLs_ints xs, noLs_ints ys⟩
theorem due_e (m : Md) {ps : List PP} (h : ∀ p ∈ ps, okS p = true) (hl : ps.length ≤ 100) : f__law_due [dL ps, .str m.s] = .ok (.fr ((uni m ps).map dPair)) [] := fo_of (by
  have hv : ∀ p ∈ ps, p.1 ≤ p.2 := fun p hp => okS_le (h p hp)
  have hfl : (ps.filter (ne m)).length ≤ 100 := Nat.le_trans (List.length_filter_le _ _) hl
  have E1 := begs_uni m h
  have E2 := ends_uni m h
  obtain ⟨full, hfull⟩ : ∃ full, full = ps.filter (ne m) := ⟨_, rfl⟩
  unfold f__law_due S__law_due
  simp_arith [dL]
  refine w_filt (en := dPair) (c := ne m) rfl rfl rfl rfl (by omega) ?_ ?_
  · rintro ⟨a, b⟩ hp
    have hab := hv _ hp
    dsimp only at hab
    simp_arith [dPair, gEq_shut]
    refine w_dec (fun h1 => ?_) (fun h1 => ?_)
    · show Out.ok _ _ = _
      rw [show ne m (a, b) = true by unfold ne; simp; omega]
    · simp_arith [gEq_shut]
      show Out.ok _ _ = _
      rw [show ne m (a, b) = !m.h by unfold ne; have : a = b := by omega
                                     simp [this]]
  · rw [← hfull] at hfl E1 E2 ⊢
    simp_arith []
    rw [w_for1 rfl]
    simp_arith []
    refine w_loop (fun rest ρ => ∃ (don todo : List PP) (bs cs : List Int) (s5 s6 : Sl), full = don ++ todo ∧ rest = todo.map dPair ∧ Sf s5 ∧ Sf s6 ∧ bs = (don.filter fun p => (hitB full p.1).isEmpty).map (·.1) ∧ cs = (don.filter fun p => (hitE full p.2).isEmpty).map (·.2) ∧
      ρ = [.dt (.lst (ps.map dPair)), .dt (.str m.s), .ow 2 (full.map dPair), .ow 0 (bs.map D.int), .ow 0 (cs.map D.int), s5, s6, .un, .un]) ?_ ?_ _ _ ⟨[], full, [], [], _, _, rfl, rfl, .un, .un, rfl, rfl, rfl⟩
    · rintro d rest ρ ⟨don, todo, bs, cs, s5, s6, e1, e2, f5, f6, eb, ec, rfl⟩
      obtain ⟨p, todo', rfl⟩ : ∃ p r, todo = p :: r := by
        cases todo with
        | nil => cases e2
        | cons p r => exact ⟨p, r, rfl⟩
      obtain ⟨rfl, rfl⟩ := List.cons.inj e2
      have lb : bs.length ≤ 100 := by
        rw [eb, List.length_map]
        have := List.length_filter_le (fun p => (hitB full p.1).isEmpty) don
        have : don.length ≤ full.length := by rw [e1, List.length_append]; omega
        omega
      have lc : cs.length ≤ 100 := by
        rw [ec, List.length_map]
        have := List.length_filter_le (fun p => (hitE full p.2).isEmpty) don
        have : don.length ≤ full.length := by rw [e1, List.length_append]; omega
        omega
      have lb' : (bs.map D.int).length < 1000000 := by rw [List.length_map]; omega
      have lc' : (cs.map D.int).length < 1000000 := by rw [List.length_map]; omega
      obtain ⟨a, b⟩ := p
      simp_arith [dPair, p_sf f5, p_sf f6]
      refine w_filt (en := dPair) (c := fun o : PP => decide (o.1 < a) && decide (a ≤ o.2)) rfl rfl rfl rfl (by omega) ?_ ?_
      · rintro ⟨u, v⟩ hq
        simp_arith [dPair]
        refine w_dec (fun h1 => ?_) (fun h1 => ?_)
        · simp_arith []
          show Out.ok _ _ = _
          rw [decide_eq_true h1, Bool.true_and]
        · simp_arith []
          show Out.ok _ _ = _
          rw [decide_eq_false h1, Bool.false_and]
      rw [show full.filter (fun o => decide (o.1 < a) && decide (a ≤ o.2)) = hitB full a from rfl]
      simp_arith [gEq_nil]
      have e0 : full = (don ++ [(a, b)]) ++ todo' := by rw [e1, List.append_assoc]; rfl
      have second : ∀ (bs' : List Int), lcD [2] (full.map dPair) (pNm 8) (fTest (fChain gLe gLt (fIx (fV 8) (fC (.int 0))) (fV 6) (fIx (fV 8) (fC (.int 1))))) (fV 8) [8]
          [Sl.dt (.lst (ps.map dPair)), .dt (.str m.s), .ow 2 (full.map dPair), .ow 0 (bs'.map D.int), .ow 0 (cs.map D.int), .dt (.int a), .dt (.int b), .un, .un] = .ok (.fr ((hitE full b).map dPair)) [Sl.dt (.lst (ps.map dPair)), .dt (.str m.s), .ow 2 (full.map dPair), .ow 0 (bs'.map D.int), .ow 0 (cs.map D.int), .dt (.int a), .dt (.int b), .un, .un] := fun bs' => by
        show WP _ (fun o => o = _)
        refine w_filt (en := dPair) (c := fun o : PP => decide (o.1 ≤ b) && decide (b < o.2)) rfl rfl rfl rfl (by omega) ?_ rfl
        rintro ⟨u, v⟩ hq
        simp_arith [dPair]
        refine w_dec (fun h1 => ?_) (fun h1 => ?_)
        · simp_arith []
          show Out.ok _ _ = _
          rw [decide_eq_true h1, Bool.true_and]
        · simp_arith []
          show Out.ok _ _ = _
          rw [decide_eq_false h1, Bool.false_and]
      have ec' : ∀ (k : (hitE full b).isEmpty = true), cs ++ [b] = ((don ++ [(a, b)]).filter fun p => (hitE full p.2).isEmpty).map (·.2) := fun k => by
        rw [List.filter_append, List.map_append, ← ec]
        simp [k]
      have ec2 : ∀ (k : (hitE full b).isEmpty = false), cs = ((don ++ [(a, b)]).filter fun p => (hitE full p.2).isEmpty).map (·.2) := fun k => by
        rw [List.filter_append, List.map_append, ← ec]
        simp [k]
      refine w_bool (fun hb => ?_) (fun hb => ?_)
      · have eb' : bs ++ [a] = ((don ++ [(a, b)]).filter fun p => (hitB full p.1).isEmpty).map (·.1) := by
          rw [List.filter_append, List.map_append, ← eb]
          simp [hb]
        simp_arith []
        rw [show bs.map D.int ++ [D.int a] = (bs ++ [a]).map D.int by simp, second]
        simp_arith [gEq_nil]
        refine w_bool (fun hc => ?_) (fun hc => ?_)
        · simp_arith []
          rw [show cs.map D.int ++ [D.int b] = (cs ++ [b]).map D.int by simp]
          exact w_nxI ⟨_, todo', _, _, _, _, e0, rfl, .dt, .dt, eb', ec' hc, rfl⟩
        · simp_arith []
          exact w_nxI ⟨_, todo', _, _, _, _, e0, rfl, .dt, .dt, eb', ec2 hc, rfl⟩
      · have eb' : bs = ((don ++ [(a, b)]).filter fun p => (hitB full p.1).isEmpty).map (·.1) := by
          rw [List.filter_append, List.map_append, ← eb]
          simp [hb]
        simp_arith []
        rw [second]
        simp_arith [gEq_nil]
        refine w_bool (fun hc => ?_) (fun hc => ?_)
        · simp_arith []
          rw [show cs.map D.int ++ [D.int b] = (cs ++ [b]).map D.int by simp]
          exact w_nxI ⟨_, todo', _, _, _, _, e0, rfl, .dt, .dt, eb', ec' hc, rfl⟩
        · simp_arith []
          exact w_nxI ⟨_, todo', _, _, _, _, e0, rfl, .dt, .dt, eb', ec2 hc, rfl⟩
    · rintro ρ ⟨don, todo, bs, cs, s5, s6, e1, e2, f5, f6, eb, ec, rfl⟩
      have : todo = [] := by
        cases todo with
        | nil => rfl
        | cons p r => cases e2
      subst this
      rw [List.append_nil] at e1
      subst e1
      have eb : bs = begs full := eb
      have ec : cs = ends full := ec
      have lb : bs.length ≤ 4000 := by
        rw [eb]
        unfold begs
        rw [List.length_map]
        have := List.length_filter_le (fun p => (hitB full p.1).isEmpty) full
        omega
      have lc : cs.length ≤ 4000 := by
        rw [ec]
        unfold ends
        rw [List.length_map]
        have := List.length_filter_le (fun p => (hitE full p.2).isEmpty) full
        omega
      have c1 : ∀ ρ, csD gSrtSet (some (.lst (bs.map D.int))) ρ = .ok (.fr ((sset bs).map D.int)) ρ := fun ρ => cs_l (srtSet_e lb)
      have c2 : ∀ ρ, csD gSrtSet (some (.lst (cs.map D.int))) ρ = .ok (.fr ((sset cs).map D.int)) ρ := fun ρ => cs_l (srtSet_e lc)
      simp_arith [c1, c2, zipD_e]
      rw [eb, ec, E1, E2, zip_back]
      rfl)
end K3

open PySem L2 DL P
namespace K3
theorem isi_lst {ds : List D} : gIsi [.lst ds, .ty "list"] = some (.bl true) := by
  have k : kitB "list" "list" = some true := by decide +kernel
  simp only [gIsi, tyOf, k]
  rfl
theorem isi_tpl {ds : List D} : gIsi [.tup ds, .ty "tuple"] = some (.bl true) := by
  have k : kitB "tuple" "tuple" = some true := by decide +kernel
  simp only [gIsi, tyOf, k]
  rfl
theorem isi_i {i : Int} : gIsi [.int i, .ty "int"] = some (.bl true) := by
  have k : kitB "int" "int" = some true := by decide +kernel
  simp only [gIsi, tyOf, k]
  rfl
theorem pairs_e {us : List PP} {n : Int} (hn : (us.length : Int) ≤ n) : f__law_pairs_right [.lst (us.map dPair), .int n] = .ok (.dt (.bl true)) [] := fo_of (by
  unfold f__law_pairs_right S__law_pairs_right
  simp_arith [isi_lst]
  refine w_dec (fun h => ?_) (fun h => ?_)
  · exfalso
    omega
  · simp_arith []
    refine w_loop (fun rest ρ => ∃ (todo : List PP) (s2 : Sl), Sf s2 ∧ rest = todo.map dPair ∧ ρ = [.dt (.lst (us.map dPair)), .dt (.int n), s2]) ?_ ?_ _ _ ⟨us, _, .un, rfl, rfl⟩
    · rintro d rest ρ ⟨todo, s2, f2, e, rfl⟩
      obtain ⟨p, r, rfl⟩ : ∃ p r, todo = p :: r := by
        cases todo with
        | nil => cases e
        | cons p r => exact ⟨p, r, rfl⟩
      obtain ⟨rfl, rfl⟩ := List.cons.inj e
      obtain ⟨a, b⟩ := p
      simp_arith [dPair, p_sf f2, isi_tpl, isi_i]
      exact w_nxI ⟨r, _, .dt, rfl, rfl⟩
    · rintro ρ ⟨todo, s2, f2, e, rfl⟩
      simp_arith []
      rfl)
theorem moms_w {ps : List PP} {Q : FO → Prop} (hl : ps.length ≤ 100) (k : ∀ vs : List Int, WP (FO.ok (.fr (vs.map D.int)) []) Q) : WP (f__law_moments [.lst (ps.map dPair)]) Q := by
  unfold f__law_moments S__law_moments
  simp_arith []
  refine w_loop (fun rest ρ => ∃ (don todo : List PP) (ns : List Int) (s2 s3 : Sl), ps = don ++ todo ∧ Sf s2 ∧ Sf s3 ∧ ns.length = 2 + 6 * don.length ∧ rest = todo.map dPair ∧ ρ = [.dt (.lst (ps.map dPair)), .ow 0 (ns.map D.int), s2, s3, .un]) ?_ ?_ _ _ ⟨[], ps, [-9999999999999999999999999999999, 9999999999999999999999999999999], _, _, rfl, .un, .un, rfl, rfl, rfl⟩
  · rintro d rest ρ ⟨don, todo, ns, s2, s3, e0, f2, f3, hn, e, rfl⟩
    obtain ⟨p, r, rfl⟩ : ∃ p r, todo = p :: r := by
      cases todo with
      | nil => cases e
      | cons p r => exact ⟨p, r, rfl⟩
    obtain ⟨rfl, rfl⟩ := List.cons.inj e
    obtain ⟨a, b⟩ := p
    have hd : don.length ≤ 100 := by
      rw [e0, List.length_append] at hl
      omega
    simp_arith [dPair, p_sf f2, p_sf f3]
    rw [show ns.map D.int ++ [D.int (a - 1), D.int a, D.int (a + 1), D.int (b - 1), D.int b, D.int (b + 1)] = (ns ++ [a - 1, a, a + 1, b - 1, b, b + 1]).map D.int by simp]
    exact w_nxI ⟨don ++ [(a, b)], r, _, _, _, by rw [e0, List.append_assoc]; rfl, .dt, .dt, by simp; omega, rfl, rfl⟩
  · rintro ρ ⟨don, todo, ns, s2, s3, e0, f2, f3, hn, e, rfl⟩
    have hd : don.length ≤ 100 := by
      rw [e0, List.length_append] at hl
      omega
    simp_arith []
    refine w_filt (en := D.int) (c := fun i : Int => decide (-10000000000000000000000000000000 < i) && decide (i < 10000000000000000000000000000000)) rfl rfl rfl rfl (by omega) ?_ ?_
    · intro i _
      simp_arith []
      refine w_dec (fun h1 => ?_) (fun h1 => ?_)
      · simp_arith []
        show Out.ok _ _ = _
        rw [decide_eq_true h1, Bool.true_and]
      · simp_arith []
        show Out.ok _ _ = _
        rw [decide_eq_false h1, Bool.false_and]
    · have lf : (ns.filter fun i => decide (-10000000000000000000000000000000 < i) && decide (i < 10000000000000000000000000000000)).length ≤ 4000 := Nat.le_trans (List.length_filter_le _ _) (by omega)
      have c1 : ∀ ρ, csD gSrtSet (some (.lst ((ns.filter fun i => decide (-10000000000000000000000000000000 < i) && decide (i < 10000000000000000000000000000000)).map D.int))) ρ = .ok (.fr ((sset _).map D.int)) ρ := fun ρ => cs_l (srtSet_e lf)
      simp_arith [c1]
      exact k _
end K3

open PySem L2 DL P
namespace K3
theorem w_cutT {o : SO} {T : Fm → SO} {Q : SO → Prop} (R : Fm → Prop) (h1 : ∀ ρ, R ρ → WP (T ρ) Q) (h2 : WP o (fun o => ∃ ρ, o = .nx ρ ∧ R ρ)) : WP o (kT T Q) := by
  obtain ⟨ρ, e, hr⟩ := h2
  show Q (o.bind T)
  rw [e]
  exact h1 ρ hr
theorem gNe_same (L : List PP) : gNe (.lst (L.map dPair)) (.lst (L.map dPair)) = some (.bl false) := gNe_refl (cq_dL L)
theorem gEq_same (L : List PP) : gEq (.lst (L.map dPair)) (.lst (L.map dPair)) = some (.bl true) := gEq_refl (cq_dL L)
theorem cut_m1 {α : Type} {l : List α} {x : α} : cutD (l ++ [x]) none (some (-1)) = l := by
  unfold cutD
  have e1 : HT.sIx (l ++ [x]).length 0 none = 0 := rfl
  have e2 : HT.sIx (l ++ [x]).length (l ++ [x]).length (some (-1)) = l.length := by
    show (if (-1 : Int) < 0 then ((-1 : Int) + ((l ++ [x]).length : Int)).toNat else min (-1 : Int).toNat (l ++ [x]).length) = _
    rw [if_pos (by decide), List.length_append, List.length_singleton]
    omega
  rw [e1, e2, List.drop_zero, Nat.sub_zero, List.take_left']
  rfl
theorem enum_get : ∀ (L : List PP) (i : Nat) (d : D), d ∈ enumD i (L.map dPair) → ∃ (j : Nat) (p : PP), L[j]? = some p ∧ d = .tup [.int ((i + j : Nat) : Int), dPair p]
  | [], _, _, h => nomatch h
  | p :: L, i, d, h => by
    rcases List.mem_cons.mp h with rfl | h
    · exact ⟨0, p, rfl, rfl⟩
    · obtain ⟨j, q, h1, h2⟩ := enum_get L (i + 1) d h
      exact ⟨j + 1, q, h1, by rw [h2, show i + 1 + j = i + (j + 1) by omega]⟩
theorem right_e (m : Md) {ps : List PP} (x : Bool) (h : ∀ p ∈ ps, okS p = true) (hl : ps.length ≤ 60) : f__law_right [.lst (ps.map dPair), .str m.s, .bl x] = .ok (.dt (.bl true)) [] := fo_of (by
  have hv : ∀ p ∈ ps, p.1 ≤ p.2 := fun p hp => okS_le (h p hp)
  obtain ⟨us, hus⟩ : ∃ us, us = uni m ps := ⟨_, rfl⟩
  have U1 : f_union [.lst (ps.map dPair), .str m.s] = .ok (.fr (us.map dPair)) [] := by rw [hus]; exact uni_ok m (sq_L ps) h (by omega)
  have U2 : f_union [.tup (ps.map dPair), .str m.s] = .ok (.fr (us.map dPair)) [] := by rw [hus]; exact uni_ok m (sq_T ps) h (by omega)
  have hr : ∀ p ∈ ps.reverse, okS p = true := fun p hp => h p (List.mem_reverse.mp hp)
  have U3 : f_union [.lst (ps.map dPair).reverse, .str m.s] = .ok (.fr (us.map dPair)) [] := by
    rw [← List.map_reverse, hus, ← uni_rev m h]
    exact uni_ok m (sq_L ps.reverse) hr (by rw [List.length_reverse]; omega)
  have hu : ∀ p ∈ us, okS p = true := by rw [hus]; exact uni_okS m h
  have huv : ∀ p ∈ us, p.1 ≤ p.2 := fun p hp => okS_le (hu p hp)
  have hf : Form m none us := by rw [hus]; exact uni_form m hv
  have hul : us.length ≤ ps.length := by rw [hus]; exact uni_len m ps
  have U4 : f_union [.lst (us.map dPair), .str m.s] = .ok (.fr (us.map dPair)) [] := by
    have e : uni m us = us := uni_of_due huv hf
    have z := uni_ok m (sq_L us) hu (by omega)
    rw [e] at z
    exact z
  have I1 : f_in_one_form [.lst (us.map dPair), .str m.s] = .ok (.dt (.bl true)) [] := by
    have z := iof_ok m (sq_L us) hu
    rw [(due_form m us).mpr hf] at z
    exact z
  have D1 : f__law_due [.lst (ps.map dPair), .str m.s] = .ok (.fr (us.map dPair)) [] := by rw [hus]; exact due_e m h (by omega)
  have P1 := pairs_e (us := us) (n := (ps.length : Int)) (by omega)
  have CU : ∀ i : Int, ((us.filter fun p => holdB m p.1 p.2 i).length : Int) = if (ps.filter fun p => holdB m p.1 p.2 i).isEmpty then 0 else 1 := fun i => by rw [hus]; exact count_uni m h i
  unfold f__law_right S__law_right
  simp_arith []
  refine w_cutT (fun ρ => ρ = [.dt (.lst (ps.map dPair)), .dt (.str m.s), .dt (.bl x), .ow 0 (ps.map dPair), .ow 0 (us.map dPair), .un, .un, .un, .un, .un, .un]) ?_ ?_
  · rintro _ rfl
    simp_arith [P1, gNe_same, D1]
    refine moms_w (by omega) fun vs => ?_
    simp_arith []
    refine w_loop (fun rest ρ => ∃ (todo : List Int) (s5 s6 : Sl), Sf s5 ∧ Sf s6 ∧ rest = todo.map D.int ∧ ρ = [.dt (.lst (ps.map dPair)), .dt (.str m.s), .dt (.bl x), .ow 0 (ps.map dPair), .ow 0 (us.map dPair), s5, s6, .un, .un, .un, .un]) ?_ ?_ _ _ ⟨vs, _, _, .un, .un, rfl, rfl⟩
    · rintro d rest ρ ⟨todo, s5, s6, f5, f6, e, rfl⟩
      obtain ⟨i, r, rfl⟩ : ∃ i r, todo = i :: r := by
        cases todo with
        | nil => cases e
        | cons p r => exact ⟨p, r, rfl⟩
      obtain ⟨rfl, rfl⟩ := List.cons.inj e
      simp_arith [p_sf f5]
      refine w_filt (en := dPair) (c := fun p : PP => holdB m p.1 p.2 i) rfl rfl rfl rfl (by omega) ?_ ?_
      · intro p hp
        simp_arith [lhold]
        show Out.ok _ _ = _
        rfl
      · simp_arith [p_sf f6]
        refine w_filt (en := dPair) (c := fun p : PP => holdB m p.1 p.2 i) rfl rfl rfl rfl (by omega) ?_ ?_
        · intro p hp
          simp_arith [lhold]
          show Out.ok _ _ = _
          rfl
        · have cu := CU i
          simp_arith [gNe_nil']
          cases hE : (ps.filter fun p => holdB m p.1 p.2 i).isEmpty
          all_goals (
            rw [hE] at cu
            refine w_bool (fun hb => ?_) (fun hb => ?_)
            · exfalso
              simp [cu] at hb
            · simp_arith []
              exact w_nxI ⟨r, _, _, .dt, .dt, rfl, rfl⟩)
    · rintro ρ ⟨todo, s5, s6, f5, f6, e, rfl⟩
      simp_arith []
      rw [w_for1 rfl]
      simp_arith []
      refine w_loop (fun rest ρ => ∃ (s7 s8 : Sl), Sf s7 ∧ Sf s8 ∧ (∀ d ∈ rest, ∃ (j : Nat) (p : PP), us[j]? = some p ∧ d = .tup [.int (j : Int), dPair p]) ∧ ρ = [.dt (.lst (ps.map dPair)), .dt (.str m.s), .dt (.bl x), .ow 0 (ps.map dPair), .ow 2 (us.map dPair), s5, s6, s7, s8, .un, .un]) ?_ ?_ _ _ ⟨_, _, .un, .un, fun d hd => ?_, rfl⟩
      · rintro d rest ρ ⟨s7, s8, f7, f8, hd, rfl⟩
        obtain ⟨j, ⟨a, b⟩, hj, rfl⟩ := hd d (.head _)
        have hd' : ∀ d ∈ rest, ∃ (j : Nat) (p : PP), us[j]? = some p ∧ d = .tup [.int (j : Int), dPair p] := fun d h => hd d (.tail _ h)
        have hab : a ≤ b := huv _ (List.mem_of_getElem? hj)
        have hne : ne m (a, b) = true := form_ne hf _ (List.mem_of_getElem? hj)
        have hprev : 0 < (j : Int) → ∃ q : PP, gIx (.lst (us.map dPair)) (.int ((j : Int) - 1)) = some (dPair q) ∧ q.2 < a := fun h0 => by
          obtain ⟨j', rfl⟩ : ∃ j', j = j' + 1 := ⟨j - 1, by omega⟩
          obtain ⟨q, hq⟩ : ∃ q, us[j']? = some q := ⟨_, List.getElem?_eq_getElem (show j' < us.length by
            have := (List.getElem?_eq_some_iff.mp hj).1
            omega)⟩
          exact ⟨q, gIx_at (by omega) (by rw [show (((j' + 1 : Nat) : Int) - 1).toNat = j' by omega]; exact hq), form_at hf hq hj⟩
        simp_arith [dPair, p_sf f7, p_sf f8]
        refine w_dec (fun h1 => ?_) (fun h1 => ?_)
        · exfalso
          omega
        · simp_arith [P.gEq_md]
          refine w_bool (fun hm => ?_) (fun hm => ?_)
          · simp_arith []
            refine w_dec (fun h4 => ?_) (fun h4 => ?_)
            · exfalso
              simp [ne, hm, h4] at hne
            · simp_arith []
              refine w_dec (fun h2 => ?_) (fun h2 => ?_)
              · obtain ⟨⟨q1, q2⟩, g1, g2⟩ := hprev h2
                dsimp only at g2
                simp_arith [g1, dPair]
                refine w_dec (fun h3 => ?_) (fun h3 => ?_)
                · exfalso
                  omega
                · simp_arith []
                  exact w_nxI ⟨_, _, .dt, .dt, hd', rfl⟩
              · simp_arith []
                exact w_nxI ⟨_, _, .dt, .dt, hd', rfl⟩
          · simp_arith []
            refine w_dec (fun h2 => ?_) (fun h2 => ?_)
            · obtain ⟨⟨q1, q2⟩, g1, g2⟩ := hprev h2
              dsimp only at g2
              simp_arith [g1, dPair]
              refine w_dec (fun h3 => ?_) (fun h3 => ?_)
              · exfalso
                omega
              · simp_arith []
                exact w_nxI ⟨_, _, .dt, .dt, hd', rfl⟩
            · simp_arith []
              exact w_nxI ⟨_, _, .dt, .dt, hd', rfl⟩
      · rintro ρ ⟨s7, s8, f7, f8, -, rfl⟩
        have lu : (us.map dPair).length < 1000000 := by rw [List.length_map]; omega
        simp_arith [I1, U4, gNe_same, U3, U2, gEq_same, cut_m1]
        rfl
      · obtain ⟨j, p, h1, h2⟩ := enum_get us 0 d hd
        exact ⟨j, p, h1, by rw [h2, Nat.zero_add]⟩
  · simp_arith []
    refine w_bool (fun hx => ?_) (fun hx => ?_)
    · simp_arith [U1]
      exact ⟨_, rfl, rfl⟩
    · simp_arith [U1]
      exact ⟨_, rfl, rfl⟩)
end K3

open PySem L2 DL P
local macro_rules | `(tactic| walk_at "zz_r3") => `(tactic| repeat' (first | (refine take_w (by assumption) (by omega) (by omega) (by omega) fun _ _ _ _ _ => ?_; simp_arith [noLs_bg]) | (refine edge_w (by assumption) (by omega) fun _ _ _ _ _ => ?_; simp_arith [noLs_bg]) | (refine stretch_w (by assumption) (by omega) fun _ _ _ _ => ?_; simp_arith [noLs_bg]) | (refine w_dec (fun _ => ?_) (fun _ => ?_) <;> first | (exfalso; omega) | simp_arith [noLs_bg])))
namespace K3
open P
theorem mem_snoc {R : PP → Prop} {qs : List PP} {p : PP} (h : ∀ q ∈ qs, R q) (hp : R p) : ∀ q ∈ qs ++ [p], R q := fun q hq => by
  rcases List.mem_append.mp hq with hq | hq
  · exact h q hq
  · rw [List.mem_singleton.mp hq]
    exact hp
theorem ins_map {qs : List PP} {k : Nat} {a b : Int} : (qs.map dPair).take k ++ D.tup [.int a, .int b] :: (qs.map dPair).drop k = (qs.take k ++ (a, b) :: qs.drop k).map dPair := by
  simp [List.map_take, List.map_drop, dPair]
theorem ins_mem {R : PP → Prop} {qs : List PP} {k : Nat} {p : PP} (h : ∀ q ∈ qs, R q) (hp : R p) : ∀ q ∈ qs.take k ++ p :: qs.drop k, R q := fun q hq => by
  rcases List.mem_append.mp hq with hq | hq
  · exact h q (List.mem_of_mem_take hq)
  · rcases List.mem_cons.mp hq with rfl | hq
    · exact hp
    · exact h q (List.mem_of_mem_drop hq)
theorem strs_w {x : Bg} {n many : Int} {Q : FO → Prop} (h : x.Ok n) (hn : n < 20000) (m0 : 0 ≤ many) (m1 : many ≤ 60) (k : ∀ (qs : List PP) (y : Bg), (∀ p ∈ qs, okS p = true) → (qs.length : Int) = many → y.Ok (n + 1000) → WP (FO.ok (.fr (qs.map dPair)) y.d) Q) : WP (f__law_stretches [.lst x.d, .int many]) Q := by
  unfold f__law_stretches S__law_stretches
  simp_arith [noLs_bg]
  walk_at "zz_r3"
  · refine w_rng1 (by omega) (by omega) ?_
    rename_i x1 _ _ h1 _
    simp_arith []
    refine w_lc0 rfl ?_
    refine w_comp (fun rest acc ρ => ∃ (y : Bg) (qs : List PP), acc = qs.map dPair ∧ ρ = [.ow 1 y.d, .dt (.int many), .un, .un, .un, .un, .un, .un, .un, .un] ∧ (∀ p ∈ qs, okS p = true) ∧ y.Ok (n + 1 + 8 * qs.length) ∧ qs.length + rest.length = many.toNat) ?_ ?_ _ _ _ ⟨x1, [], rfl, rfl, fun p hp => (nomatch hp), h1.up (by simp), by simp [rangeD]⟩
    · rintro d rest acc ρ ⟨y, qs, rfl, rfl, h2, h3, h4⟩
      rw [List.length_cons] at h4
      simp_arith []
      refine w_ctI (by rw [List.length_map]; omega) ?_
      simp_arith []
      refine stretch_w h3 (by omega) fun p z hp hz => ?_
      simp_arith [noLs_bg]
      exact w_ceI rfl ⟨z, qs ++ [p], by simp, rfl, mem_snoc h2 hp, hz.up (by simp; omega), by simp; omega⟩
    · rintro acc ρ ⟨y, qs, rfl, rfl, h2, h3, h4⟩
      simp_arith []
      rw [List.length_nil] at h4
      exact k qs y h2 (by omega) (h3.up (by omega))
  · refine w_pickI (fun u => 1 ≤ u ∧ u ≤ 100000000000000000000) (by omega) (by simp; omega) (by simp; omega) fun fa hfa => ?_
    simp_arith []
    walk_at "zz_r3"
    refine w_mulS (A := 20) (B := 100000000000000000000) (by omega) (by omega) (by omega) (by omega) (by omega) (by omega) fun now _ n0 n1 => ?_
    simp_arith []
    refine w_rng1 (by omega) (by omega) ?_
    rename_i kd _ _ _ _ v x1 _ _ h1 _
    simp_arith []
    refine w_loop (fun rest ρ => ∃ (y : Bg) (qs : List PP) (now : Int) (s6 s7 s8 s9 : Sl), Sf s6 ∧ Sf s7 ∧ Sf s8 ∧ Sf s9 ∧ ρ = [.ow 1 y.d, .dt (.int many), .dt (.int fa), .dt (.int kd), .dt (.int now), .ow 0 (qs.map dPair), s6, s7, s8, s9] ∧ (∀ p ∈ qs, okS p = true) ∧ y.Ok (n + 10 + 3 * qs.length) ∧ qs.length + rest.length = many.toNat ∧ (∀ d ∈ rest, ∃ i : Int, d = .int i) ∧
      -(2000000000000000000000 + 600000000000000000000 * (qs.length : Int)) ≤ now ∧ now ≤ (2000000000000000000000 + 600000000000000000000 * (qs.length : Int))) ?_ ?_ _ _ ⟨x1, [], now, _, _, _, _, .un, .un, .un, .un, rfl, fun p hp => (nomatch hp), h1.up (by simp; omega), by simp [rangeD], ?_, by simp; omega, by simp; omega⟩
    · rintro d rest ρ ⟨y, qs, now, s6, s7, s8, s9, f6, f7, f8, f9, rfl, h2, h3, h4, h5, h6, h7⟩
      rw [List.length_cons] at h4
      obtain ⟨i, rfl⟩ := h5 d (.head _)
      simp_arith [p_sf f6]
      refine take_w (by assumption) (by omega) (by omega) (by omega) fun v1 y1 _ _ k1 => ?_
      simp_arith [noLs_bg]
      refine w_mulP (A := 3) (B := 100000000000000000000) (by omega) (by omega) (by omega) (by omega) (by omega) (by omega) fun u1 _ _ _ => ?_
      simp_arith [p_sf f7]
      refine take_w (by assumption) (by omega) (by omega) (by omega) fun v2 y2 _ _ k2 => ?_
      simp_arith [noLs_bg]
      refine w_mulP (A := 3) (B := 100000000000000000000) (by omega) (by omega) (by omega) (by omega) (by omega) (by omega) fun u2 _ _ _ => ?_
      simp_arith [p_sf f8, p_sf f9]
      repeat' (first | (refine take_w (by assumption) (by omega) (by omega) (by omega) fun _ _ _ _ _ => ?_; simp_arith [noLs_bg, p_sf f8, p_sf f9]) | (refine w_dec (fun _ => ?_) (fun _ => ?_) <;> first | (exfalso; omega) | simp_arith [noLs_bg, p_sf f8, p_sf f9]))
      all_goals
        rw [ins_map]
        refine w_nxI ⟨_, _, _, _, _, _, _, .dt, .dt, .dt, .dt, rfl, ins_mem h2 (okS_mk (by omega) (by omega) (by omega)), Bg.Ok.up (by assumption) ?_, ?_, fun d hd => h5 d (.tail _ hd), ?_, ?_⟩
        all_goals simp only [List.length_append, List.length_cons, List.length_take, List.length_drop]; omega
    · rintro ρ ⟨y, qs, now, s6, s7, s8, s9, f6, f7, f8, f9, rfl, h2, h3, h4, h5, h6, h7⟩
      simp_arith []
      rw [List.length_nil] at h4
      exact k qs y h2 (by omega) (h3.up (by omega))
    · intro d hd
      obtain ⟨i, _, rfl⟩ := List.mem_map.mp hd
      exact ⟨_, rfl⟩
end K3

open PySem L2 DL P
namespace K3
theorem w_cut {α : Type} {o : Out α} {G : α → Fm → SO} {T : Fm → SO} {Q : SO → Prop} (R : Fm → Prop) (h1 : ∀ ρ, R ρ → WP (T ρ) Q) (h2 : WP o (kS G (fun o => ∃ ρ, o = .nx ρ ∧ R ρ))) : WP o (kS G (kT T Q)) := by
  obtain ⟨ρ, e, hr⟩ := h2
  show Q ((o.sbind G).bind T)
  rw [e]
  exact h1 ρ hr
theorem law_math (ns : List Int) (hn : ns.length ≤ 63) : ∃ ρ, S_law (entry none 6 [.fz ns]) = .rt (.dt (.bl true)) ρ := by
  have key : WP (S_law (entry none 6 [.fz ns])) (fun o => ∃ ρ, o = .rt (.dt (.bl true)) ρ) := by
    unfold S_law
    simp_arith []
    refine w_rng1 (by omega) (by omega) ?_
    simp_arith []
    refine w_loop (fun rest ρ => ∃ (s1 s2 s3 s4 s5 : Sl), Sf s1 ∧ Sf s2 ∧ Sf s3 ∧ Sf s4 ∧ Sf s5 ∧ ρ = [.dt (.fz ns), s1, s2, s3, s4, s5] ∧ ∀ d ∈ rest, ∃ k : Int, d = .int k ∧ 0 ≤ k ∧ k < 64) ?_ ?_ _ _ ⟨_, _, _, _, _, .un, .un, .un, .un, .un, rfl, ?_⟩
    · rintro d rest ρ ⟨s1, s2, s3, s4, s5, f1, f2, f3, f4, f5, rfl, h⟩
      obtain ⟨i, rfl, i0, i1⟩ := h d (.head _)
      have h' : ∀ d ∈ rest, ∃ k : Int, d = .int k ∧ 0 ≤ k ∧ k < 64 := fun d hd => h d (.tail _ hd)
      simp_arith [p_sf f1]
      refine bag_w i0 i1 fun x hx => ?_
      simp_arith [noLs_bg, p_sf f2]
      refine take_w hx (by omega) (by decide) (by decide) fun mn y v0 v1 k1 => ?_
      simp_arith [noLs_bg, p_sf f3]
      refine w_cut (fun ρ => ∃ (z : Bg) (many : Int), z.Ok 10 ∧ 0 ≤ many ∧ many ≤ 60 ∧ ρ = [.dt (.fz ns), .dt (.int i), .ow 0 z.d, .dt (.int many), s4, s5]) ?_ ?_
      · rintro _ ⟨z, many, k2, m0, m1, rfl⟩
        simp_arith [noLs_bg]
        refine strs_w k2 (by omega) m0 m1 fun qs y hq hl k3 => ?_
        have hql : qs.length ≤ 60 := by omega
        have R1 : ∀ b, f__law_right [.lst (qs.map dPair), .str "half", .bl b] = .ok (.dt (.bl true)) [] := fun b => right_e .half b hq hql
        have R2 : ∀ b, f__law_right [.lst (qs.map dPair), .str "shut", .bl b] = .ok (.dt (.bl true)) [] := fun b => right_e .shut b hq hql
        have U : f_union [.lst (qs.map dPair), .str "half"] = .ok (.fr ((uni .half qs).map dPair)) [] := uni_ok .half (sq_L qs) hq (by omega)
        have D1 : f__law_due [.lst (qs.map dPair), .str "half"] = .ok (.fr ((uni .half qs).map dPair)) [] := due_e .half hq (by omega)
        simp_arith [noLs_bg, p_sf f4, p_sf f5, lp_c', lp_n]
        refine take_w k3 (by omega) (by decide) (by decide) fun v z v0 v1 k4 => ?_
        simp_arith [noLs_bg, R1, R2, lp_c', lp_n]
        refine take_w k4 (by omega) (by decide) (by decide) fun v z v0 v1 k5 => ?_
        simp_arith [noLs_bg, noLs_pairs, R1, R2, U, D1, gNe_same, lp_c', lp_n]
        exact w_nxI ⟨_, _, _, _, _, .dt, .ow, .dt, .ow, .dt, rfl, h'⟩
      · refine w_dec (fun _ => ?_) (fun _ => ?_)
        · simp_arith [noLs_bg]
          refine take_w k1 (by omega) (by decide) (by decide) fun v z v0 v1 k2 => ?_
          simp_arith [noLs_bg]
          refine w_dec (fun _ => ?_) (fun _ => ?_)
          · simp_arith [noLs_bg]
            refine take_w k2 (by omega) (by decide) (by decide) fun v z v0 v1 k3 => ?_
            simp_arith [noLs_bg]
            exact ⟨_, rfl, z, _, k3.up (by omega), by omega, by omega, rfl⟩
          · simp_arith [noLs_bg]
            exact ⟨_, rfl, z, mn, k2.up (by omega), by omega, by omega, rfl⟩
        · simp_arith [noLs_bg]
          exact ⟨_, rfl, y, mn, k1.up (by omega), by omega, by omega, rfl⟩
    · rintro ρ ⟨s1, s2, s3, s4, s5, f1, f2, f3, f4, f5, rfl, h⟩
      simp_arith []
      exact ⟨_, rfl⟩
    · intro d hd
      obtain ⟨i, hi, rfl⟩ := List.mem_map.mp hd
      have := List.mem_range.mp hi
      exact ⟨_, rfl, by omega, by omega⟩
  exact key
end K3

-- END
open PySem PySem.W PyProof.Rows
set_option maxHeartbeats 0 in
theorem PySem.Challenge.cw_spanloops_k03_whole_unions_holds : PySem.Challenge.rw_spanloops_k03_whole_unions.Holds := by
  w_on; o_law; k_head; (case hw => w_witness2)
  k_fill
  refine DL.walk_G (l := PySem.Challenge.rw_spanloops_k03_whole_unions) (n := 63) (k := 8) (m := 6) (x := "script") (S := K3.S_law) rfl (by decide) rfl ⟨rfl, by decide, by decide⟩ (fun w h Y => PySem.W.kIn_of Y) ?F K3.law_math
  case F =>
    intro w mg fa h KX G hmg
    refine' K3.all_mk KX G hmg ?a_is_integer ?l_is_integer ?c_is_integer ?k_is_integer ?a_is_near ?l_is_near ?c_is_near ?k_is_near ?a_is_edge ?l_is_edge ?c_is_edge ?k_is_edge ?a_is_pair ?l_is_pair ?c_is_pair ?k_is_pair ?a_is_stretch ?l_is_stretch ?c_is_stretch ?k_is_stretch ?a_is_ends ?l_is_ends ?c_is_ends ?k_is_ends ?a_check_ends ?l_check_ends ?c_check_ends ?k_check_ends ?a_check_spans ?l_check_spans ?c_check_spans ?k_check_spans ?a_is_empty ?l_is_empty ?c_is_empty ?k_is_empty ?T_is_empty_ ?a_union ?l_union ?c_union ?k_union ?T_union_ ?a_in_one_form ?l_in_one_form ?c_in_one_form ?k_in_one_form ?T_in_one_form_ ?a__law_bag ?l__law_bag ?c__law_bag ?k__law_bag ?a__law_take ?l__law_take ?c__law_take ?k__law_take ?a__law_edge ?l__law_edge ?c__law_edge ?k__law_edge ?a__law_stretch ?l__law_stretch ?c__law_stretch ?k__law_stretch ?a__law_stretches ?l__law_stretches ?c__law_stretches ?k__law_stretches ?a__law_moments ?l__law_moments ?c__law_moments ?k__law_moments ?a__law_holds ?l__law_holds ?c__law_holds ?k__law_holds ?a__law_pairs_right ?l__law_pairs_right ?c__law_pairs_right ?k__law_pairs_right ?a__law_due ?l__law_due ?c__law_due ?k__law_due ?a__law_right ?l__law_right ?c__law_right ?k__law_right ?a_law ?l_law ?c_law ?k_law ?z_len ?z_int ?z_abs ?z_max ?z_min ?z_range ?z_isinstance ?z_bool ?z_tuple ?z_enumerate ?z_ValueError ?z_str ?z_sorted ?z_set ?z_list ?z_zip ?z_reversed ?y_MOST ?y_LAST ?y_FIRST ?a_Ends ?b_Ends ?e_Ends ?a_BadItem ?xi_BadItem ?xo_BadItem ?xs_BadItem ?xt_BadItem ?xk_BadItem ?tt_BadItem ?ii_BadItem ?it_BadItem ?il_BadItem ?ic_BadItem ?ik_BadItem ?xd_BadItem ?xb_BadItem ?a_BadEnds ?xi_BadEnds ?xo_BadEnds ?xs_BadEnds ?xt_BadEnds ?xk_BadEnds ?tt_BadEnds ?ii_BadEnds ?it_BadEnds ?il_BadEnds ?ic_BadEnds ?ik_BadEnds ?xd_BadEnds ?xb_BadEnds ?vB_ValueError ?v_Ends_SHUT ?v_Ends_HALF
    (case a_is_integer => first | k_is | k_exc | (first | rfl | decide +kernel))
    (case l_is_integer => first | k_is | k_exc | (first | rfl | decide +kernel))
    (case c_is_integer => first | k_is | k_exc | (first | rfl | decide +kernel))
    (case k_is_integer => first | k_is | k_exc | (first | rfl | decide +kernel))
    (case a_is_near => first | k_is | k_exc | (first | rfl | decide +kernel))
    (case l_is_near => first | k_is | k_exc | (first | rfl | decide +kernel))
    (case c_is_near => first | k_is | k_exc | (first | rfl | decide +kernel))
    (case k_is_near => first | k_is | k_exc | (first | rfl | decide +kernel))
    (case a_is_edge => first | k_is | k_exc | (first | rfl | decide +kernel))
    (case l_is_edge => first | k_is | k_exc | (first | rfl | decide +kernel))
    (case c_is_edge => first | k_is | k_exc | (first | rfl | decide +kernel))
    (case k_is_edge => first | k_is | k_exc | (first | rfl | decide +kernel))
    (case a_is_pair => first | k_is | k_exc | (first | rfl | decide +kernel))
    (case l_is_pair => first | k_is | k_exc | (first | rfl | decide +kernel))
    (case c_is_pair => first | k_is | k_exc | (first | rfl | decide +kernel))
    (case k_is_pair => first | k_is | k_exc | (first | rfl | decide +kernel))
    (case a_is_stretch => first | k_is | k_exc | (first | rfl | decide +kernel))
    (case l_is_stretch => first | k_is | k_exc | (first | rfl | decide +kernel))
    (case c_is_stretch => first | k_is | k_exc | (first | rfl | decide +kernel))
    (case k_is_stretch => first | k_is | k_exc | (first | rfl | decide +kernel))
    (case a_is_ends => first | k_is | k_exc | (first | rfl | decide +kernel))
    (case l_is_ends => first | k_is | k_exc | (first | rfl | decide +kernel))
    (case c_is_ends => first | k_is | k_exc | (first | rfl | decide +kernel))
    (case k_is_ends => first | k_is | k_exc | (first | rfl | decide +kernel))
    (case a_check_ends => first | k_is | k_exc | (first | rfl | decide +kernel))
    (case l_check_ends => first | k_is | k_exc | (first | rfl | decide +kernel))
    (case c_check_ends => first | k_is | k_exc | (first | rfl | decide +kernel))
    (case k_check_ends => first | k_is | k_exc | (first | rfl | decide +kernel))
    (case a_check_spans => first | k_is | k_exc | (first | rfl | decide +kernel))
    (case l_check_spans => first | k_is | k_exc | (first | rfl | decide +kernel))
    (case c_check_spans => first | k_is | k_exc | (first | rfl | decide +kernel))
    (case k_check_spans => first | k_is | k_exc | (first | rfl | decide +kernel))
    (case a_is_empty => first | k_is | k_exc | (first | rfl | decide +kernel))
    (case l_is_empty => first | k_is | k_exc | (first | rfl | decide +kernel))
    (case c_is_empty => first | k_is | k_exc | (first | rfl | decide +kernel))
    (case k_is_empty => first | k_is | k_exc | (first | rfl | decide +kernel))
    (case T_is_empty_ => first | k_is | k_exc | (first | rfl | decide +kernel))
    (case a_union => first | k_is | k_exc | (first | rfl | decide +kernel))
    (case l_union => first | k_is | k_exc | (first | rfl | decide +kernel))
    (case c_union => first | k_is | k_exc | (first | rfl | decide +kernel))
    (case k_union => first | k_is | k_exc | (first | rfl | decide +kernel))
    (case T_union_ => first | k_is | k_exc | (first | rfl | decide +kernel))
    (case a_in_one_form => first | k_is | k_exc | (first | rfl | decide +kernel))
    (case l_in_one_form => first | k_is | k_exc | (first | rfl | decide +kernel))
    (case c_in_one_form => first | k_is | k_exc | (first | rfl | decide +kernel))
    (case k_in_one_form => first | k_is | k_exc | (first | rfl | decide +kernel))
    (case T_in_one_form_ => first | k_is | k_exc | (first | rfl | decide +kernel))
    (case a__law_bag => first | k_is | k_exc | (first | rfl | decide +kernel))
    (case l__law_bag => first | k_is | k_exc | (first | rfl | decide +kernel))
    (case c__law_bag => first | k_is | k_exc | (first | rfl | decide +kernel))
    (case k__law_bag => first | k_is | k_exc | (first | rfl | decide +kernel))
    (case a__law_take => first | k_is | k_exc | (first | rfl | decide +kernel))
    (case l__law_take => first | k_is | k_exc | (first | rfl | decide +kernel))
    (case c__law_take => first | k_is | k_exc | (first | rfl | decide +kernel))
    (case k__law_take => first | k_is | k_exc | (first | rfl | decide +kernel))
    (case a__law_edge => first | k_is | k_exc | (first | rfl | decide +kernel))
    (case l__law_edge => first | k_is | k_exc | (first | rfl | decide +kernel))
    (case c__law_edge => first | k_is | k_exc | (first | rfl | decide +kernel))
    (case k__law_edge => first | k_is | k_exc | (first | rfl | decide +kernel))
    (case a__law_stretch => first | k_is | k_exc | (first | rfl | decide +kernel))
    (case l__law_stretch => first | k_is | k_exc | (first | rfl | decide +kernel))
    (case c__law_stretch => first | k_is | k_exc | (first | rfl | decide +kernel))
    (case k__law_stretch => first | k_is | k_exc | (first | rfl | decide +kernel))
    (case a__law_stretches => first | k_is | k_exc | (first | rfl | decide +kernel))
    (case l__law_stretches => first | k_is | k_exc | (first | rfl | decide +kernel))
    (case c__law_stretches => first | k_is | k_exc | (first | rfl | decide +kernel))
    (case k__law_stretches => first | k_is | k_exc | (first | rfl | decide +kernel))
    (case a__law_moments => first | k_is | k_exc | (first | rfl | decide +kernel))
    (case l__law_moments => first | k_is | k_exc | (first | rfl | decide +kernel))
    (case c__law_moments => first | k_is | k_exc | (first | rfl | decide +kernel))
    (case k__law_moments => first | k_is | k_exc | (first | rfl | decide +kernel))
    (case a__law_holds => first | k_is | k_exc | (first | rfl | decide +kernel))
    (case l__law_holds => first | k_is | k_exc | (first | rfl | decide +kernel))
    (case c__law_holds => first | k_is | k_exc | (first | rfl | decide +kernel))
    (case k__law_holds => first | k_is | k_exc | (first | rfl | decide +kernel))
    (case a__law_pairs_right => first | k_is | k_exc | (first | rfl | decide +kernel))
    (case l__law_pairs_right => first | k_is | k_exc | (first | rfl | decide +kernel))
    (case c__law_pairs_right => first | k_is | k_exc | (first | rfl | decide +kernel))
    (case k__law_pairs_right => first | k_is | k_exc | (first | rfl | decide +kernel))
    (case a__law_due => first | k_is | k_exc | (first | rfl | decide +kernel))
    (case l__law_due => first | k_is | k_exc | (first | rfl | decide +kernel))
    (case c__law_due => first | k_is | k_exc | (first | rfl | decide +kernel))
    (case k__law_due => first | k_is | k_exc | (first | rfl | decide +kernel))
    (case a__law_right => first | k_is | k_exc | (first | rfl | decide +kernel))
    (case l__law_right => first | k_is | k_exc | (first | rfl | decide +kernel))
    (case c__law_right => first | k_is | k_exc | (first | rfl | decide +kernel))
    (case k__law_right => first | k_is | k_exc | (first | rfl | decide +kernel))
    (case a_law => first | k_is | k_exc | (first | rfl | decide +kernel))
    (case l_law => first | k_is | k_exc | (first | rfl | decide +kernel))
    (case c_law => first | k_is | k_exc | (first | rfl | decide +kernel))
    (case k_law => first | k_is | k_exc | (first | rfl | decide +kernel))
    (case z_len => first | k_is | k_exc | (first | rfl | decide +kernel))
    (case z_int => first | k_is | k_exc | (first | rfl | decide +kernel))
    (case z_abs => first | k_is | k_exc | (first | rfl | decide +kernel))
    (case z_max => first | k_is | k_exc | (first | rfl | decide +kernel))
    (case z_min => first | k_is | k_exc | (first | rfl | decide +kernel))
    (case z_range => first | k_is | k_exc | (first | rfl | decide +kernel))
    (case z_isinstance => first | k_is | k_exc | (first | rfl | decide +kernel))
    (case z_bool => first | k_is | k_exc | (first | rfl | decide +kernel))
    (case z_tuple => first | k_is | k_exc | (first | rfl | decide +kernel))
    (case z_enumerate => first | k_is | k_exc | (first | rfl | decide +kernel))
    (case z_ValueError => first | k_is | k_exc | (first | rfl | decide +kernel))
    (case z_str => first | k_is | k_exc | (first | rfl | decide +kernel))
    (case z_sorted => first | k_is | k_exc | (first | rfl | decide +kernel))
    (case z_set => first | k_is | k_exc | (first | rfl | decide +kernel))
    (case z_list => first | k_is | k_exc | (first | rfl | decide +kernel))
    (case z_zip => first | k_is | k_exc | (first | rfl | decide +kernel))
    (case z_reversed => first | k_is | k_exc | (first | rfl | decide +kernel))
    (case y_MOST => first | k_is | k_exc | (first | rfl | decide +kernel))
    (case y_LAST => first | k_is | k_exc | (first | rfl | decide +kernel))
    (case y_FIRST => first | k_is | k_exc | (first | rfl | decide +kernel))
    (case a_Ends => first | k_is | k_exc | (first | rfl | decide +kernel))
    (case b_Ends => first | k_is | k_exc | (first | rfl | decide +kernel))
    (case e_Ends => first | k_is | k_exc | (first | rfl | decide +kernel))
    (case a_BadItem => first | k_is | k_exc | (first | rfl | decide +kernel))
    (case xi_BadItem => first | k_is | k_exc | (first | rfl | decide +kernel))
    (case xo_BadItem => first | k_is | k_exc | (first | rfl | decide +kernel))
    (case xs_BadItem => first | k_is | k_exc | (first | rfl | decide +kernel))
    (case xt_BadItem => first | k_is | k_exc | (first | rfl | decide +kernel))
    (case xk_BadItem => first | k_is | k_exc | (first | rfl | decide +kernel))
    (case tt_BadItem => first | k_is | k_exc | (first | rfl | decide +kernel))
    (case ii_BadItem => first | k_is | k_exc | (first | rfl | decide +kernel))
    (case it_BadItem => first | k_is | k_exc | (first | rfl | decide +kernel))
    (case il_BadItem => first | k_is | k_exc | (first | rfl | decide +kernel))
    (case ic_BadItem => first | k_is | k_exc | (first | rfl | decide +kernel))
    (case ik_BadItem => first | k_is | k_exc | (first | rfl | decide +kernel))
    (case xd_BadItem => first | k_is | k_exc | (first | rfl | decide +kernel))
    (case xb_BadItem => first | k_is | k_exc | (first | rfl | decide +kernel))
    (case a_BadEnds => first | k_is | k_exc | (first | rfl | decide +kernel))
    (case xi_BadEnds => first | k_is | k_exc | (first | rfl | decide +kernel))
    (case xo_BadEnds => first | k_is | k_exc | (first | rfl | decide +kernel))
    (case xs_BadEnds => first | k_is | k_exc | (first | rfl | decide +kernel))
    (case xt_BadEnds => first | k_is | k_exc | (first | rfl | decide +kernel))
    (case xk_BadEnds => first | k_is | k_exc | (first | rfl | decide +kernel))
    (case tt_BadEnds => first | k_is | k_exc | (first | rfl | decide +kernel))
    (case ii_BadEnds => first | k_is | k_exc | (first | rfl | decide +kernel))
    (case it_BadEnds => first | k_is | k_exc | (first | rfl | decide +kernel))
    (case il_BadEnds => first | k_is | k_exc | (first | rfl | decide +kernel))
    (case ic_BadEnds => first | k_is | k_exc | (first | rfl | decide +kernel))
    (case ik_BadEnds => first | k_is | k_exc | (first | rfl | decide +kernel))
    (case xd_BadEnds => first | k_is | k_exc | (first | rfl | decide +kernel))
    (case xb_BadEnds => first | k_is | k_exc | (first | rfl | decide +kernel))
    (case vB_ValueError => first | k_is | k_exc | (first | rfl | decide +kernel))
    (case v_Ends_SHUT => first | k_is | k_exc | (first | rfl | decide +kernel))
    (case v_Ends_HALF => first | k_is | k_exc | (first | rfl | decide +kernel))

